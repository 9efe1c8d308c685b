import PyProof.Rows.All
import Wide.All
import OpenK.AllK
import Wide.FinOn
import HandS.ForMost
import HandS.Evl
import HandS.Conv
import HandS.Zip
import HandS.DictComp
import HandS.TupSets
import HandS.Strs
import HandS.SetFor
import HandS.IsInst
import HandS.Style
import HandS.SortInts
import HandS.Replace
import HandS.Walk
import PySem.Challenge.RW_thirdletters_k54_whole_rounds
set_option Elab.async false
set_option linter.all false
set_option maxRecDepth 100000
set_option maxHeartbeats 2000000
namespace K54
open PySem PySem.Spec PyProof.Rows L2 Evl
/-! the text by places, a def as it stands, its contract -/
def topS (i : Nat) : Stmt := PySem.Challenge.pw_thirdletters_k54_whole_rounds.main.body.getD i (.Pass ⟨0, 0, 0, 0⟩)
/-- a def that may be called by its name within k levels -/
structure Cal (P : Program) (w : World) (K : PySem.W.Frag) (mg : Str → Option Value) (base : Heap) (k : Nat) (x : Str) (sp : Sp) : Prop where
  ex : ∃ (f : Addr) (fd : FuncData) (ps : List Str), FnOk P w K mg base CX0 k f fd ps sp ∧ mg x = some (.ref f) ∧ PySem.W.keepIn K (.ref f) = true ∧ Binds K fd ps []
structure Df (K : PySem.W.Frag) (mg : Str → Option Value) (x : Str) (st : Stmt) : Prop where
  ex : ∃ (f : Addr) (fd : FuncData), L2.Fun K x x st f fd ∧ mg x = some (.ref f)
section
variable {P : Program} {w : World} {K : PySem.W.Frag} {mg : Str → Option Value} {base : Heap}
theorem Df.cal {x : Str} {st : Stmt} {N ps : List Str} {k : Nat} {sp : Sp} (D : Df K mg x st) (S : FnScope N ps (defScope st))
    (bnd : ∀ (kV doc pm : Value) (an : Option Addr) (cdv ct : Value) (us : List Value), us.length = ps.length → bindArgs (PySem.W.fnOf x x (defArgs st) (defBody st) (defScope st) .none kV doc pm an cdv ct) ⟨us, []⟩ = pure (ps.zip us))
    (len : ∀ vs H Q E, sp vs H Q E → vs.length = ps.length)
    (body : ∀ (f : Addr) (cdv : Value) (A : Around) (outer : List Env) (s : Shared) (H : Hp) (vs : List V) (Q : VK) (E : XK), Room k (A.deeper (envOfC x (defScope st) s.heap.objs.size f cdv)) → sp vs H Q E →
      ∃ t, PSs (cxOf CX0 P w K mg base N x (defScope st) f cdv A outer s H E).nox (defBody st) t ∧ t { nx := fun _ H' => Q .non H', rt := Q } (start N vs) H) : Cal P w K mg base (k + 1) x sp := by
  obtain ⟨f, fd, F, hm⟩ := D.ex
  exact ⟨f, fd, ps, F.ok S len (body f), hm, F.kp, F.binds bnd⟩
end
section
variable {X : Cx} {k j : Nat} {x : Str} {sp : Sp} {p pos : Pos} {e : Expr} {es : List Expr} {t : TA}
theorem pe_c (c : Cal X.prog X.w X.K X.mg X.base k x sp) (hr : Room j X.A) (hk : k ≤ j) (hg : Gl X x) (ha : PA X (e :: es) t)
    (hdb : (x == ("__debug__" : Str)) = false := by decide) (he : starEach (e :: es) X.env = (false, eval e X.env) :: starEach es X.env := by rfl) (hpl : (backTo pos (starEach es X.env)).any (·.1) = false := by rfl) :
    PE X (.Call (.Name x p) (e :: es) [] pos) (tCall sp [] E0 t) := by
  obtain ⟨f, fd, ps, F, hm, kp, b⟩ := c.ex
  exact pe_call F (hr.mono hk) hg hm kp b .nil pass0 ha hdb he hpl
end
/-! the names that the text leaves to Python, its constants -/
structure Bt (mg : Str → Option Value) : Prop where
  len : mg "len" = none
  range : mg "range" = none
  max : mg "max" = none
  min : mg "min" = none
  isinstance : mg "isinstance" = none
  int : mg "int" = none
  str : mg "str" = none
  bool : mg "bool" = none
  list : mg "list" = none
  tuple : mg "tuple" = none
  set : mg "set" = none
  sorted : mg "sorted" = none
  all : mg "all" = none
  any : mg "any" = none
  zip : mg "zip" = none
  enumerate : mg "enumerate" = none
  c1 : ∃ t, mg "LETTERS" = some (.str "abc" t)
  c2 : ∃ t, mg "MOST_LETTERS_words" = some (.int 200 t)
  c3 : ∃ t, mg "MOST_LETTERS_trees" = some (.int 60 t)
theorem bt_len : bootBuiltins "len" = some (.builtin "len") := by decide +kernel
theorem bt_max : bootBuiltins "max" = some (.builtin "max") := by decide +kernel
theorem bt_min : bootBuiltins "min" = some (.builtin "min") := by decide +kernel
theorem bt_isinstance : bootBuiltins "isinstance" = some (.builtin "isinstance") := by decide +kernel
theorem bt_int : bootBuiltins "int" = some (.type "int") := by decide +kernel
theorem bt_str : bootBuiltins "str" = some (.type "str") := by decide +kernel
theorem bt_bool : bootBuiltins "bool" = some (.type "bool") := by decide +kernel
theorem bt_list : bootBuiltins "list" = some (.type "list") := by decide +kernel
theorem bt_tuple : bootBuiltins "tuple" = some (.type "tuple") := by decide +kernel
theorem bt_set : bootBuiltins "set" = some (.type "set") := by decide +kernel
theorem bt_sorted : bootBuiltins "sorted" = some (.builtin "sorted") := by decide +kernel
theorem bt_all : bootBuiltins "all" = some (.builtin "all") := by decide +kernel
theorem bt_any : bootBuiltins "any" = some (.builtin "any") := by decide +kernel
section
variable {X : Cx}
theorem pe_gc {x : Str} {v : V} {pos : Pos} (h : ∃ u, X.mg x = some u ∧ RelV v u) (hg : Gl X x) (hd : (x == ("__debug__" : Str)) = false := by decide) : PE X (.Name x pos) (tC v) := by
  obtain ⟨u, h1, h2⟩ := h
  exact pe_glob hg h1 h2 hd
end
theorem Bt.LETTERS {mg : Str → Option Value} (B : Bt mg) : ∃ u, mg "LETTERS" = some u ∧ RelV (.str "abc") u := let ⟨t, h⟩ := B.c1; ⟨_, h, t, rfl⟩
theorem Bt.MOST_LETTERS_words {mg : Str → Option Value} (B : Bt mg) : ∃ u, mg "MOST_LETTERS_words" = some u ∧ RelV (.int 200) u := let ⟨t, h⟩ := B.c2; ⟨_, h, t, rfl⟩
theorem Bt.MOST_LETTERS_trees {mg : Str → Option Value} (B : Bt mg) : ∃ u, mg "MOST_LETTERS_trees" = some u ∧ RelV (.int 60) u := let ⟨t, h⟩ := B.c3; ⟨_, h, t, rfl⟩

/-! ### the same rules where a block stands around: the written part by its name -/
section
variable {X : Cx} {K : PySem.W.Frag} {a e : Expr} {es : List Expr} {ta to : TE} {t : TA} {pos apos cpos p : Pos}
theorem pe_tupleOf_K (hK : X.K = K) (hg : Gl X "tuple") (hm : X.mg "tuple" = none) (ha : PE X a ta) (na : starEach [a] X.env = (false, eval a X.env) :: starEach [] X.env := by rfl) :
    PE X (.Call (.Name "tuple" p) [a] [] pos) (tThen ta (kTup K)) := by
  subst hK
  exact pe_tupleOf hg hm ha na
theorem cr_sortedI_K (hK : X.K = K) : CallR X (.builtin "sorted") (rSortedI K) := by
  subst hK
  exact cr_sortedI
theorem pg_tup_K {es : List Expr} {k : Nat} {t : TGs} {n : Nat} (hK : X.K = K) (hc : X.calm = true) (h : PGs X es t)
    (hn : (assignEach es X.env).length = n := by rfl) (hst : (assignEach es X.env).findIdx? (·.1) = none := by rfl) : PG X (.Tuple es k pos) (gTup K n t) := by
  subst hK
  exact pg_tup hc h hn hst
theorem op_in_seq_K (hK : X.K = K) : OpR X (compareOp .In) (rIn K false) := by
  subst hK
  exact op_in_seq
theorem op_notIn_seq_K (hK : X.K = K) : OpR X (compareOp .NotIn) (rIn K true) := by
  subst hK
  exact op_notIn_seq
theorem ix_list_K (hK : X.K = K) : IxR X (rIxL K) := by
  subst hK
  exact ix_list
theorem ix_tup_K (hK : X.K = K) : IxR X (rIxT K) := by
  subst hK
  exact ix_tup
theorem op_eqD_K (hK : X.K = K) (hu : X.A.units + 64 < cLine) : OpR X (compareOp .Eq) (rEqD K) := by
  subst hK
  exact op_eqD hu
theorem mt_index_K (hK : X.K = K) : MtR X "list.index" (rIndex K) := by
  subst hK
  exact mt_index
def rLenK (K : PySem.W.Frag) : List V → Hp → VK → Prop := fun xs H Q => ∃ p ys, xs = [.ref p] ∧ (SqL K H p ys ∨ SqT K H p ys) ∧ Q (.int ys.length) H
def rListK (K : PySem.W.Frag) : List V → Hp → VK → Prop := fun xs H Q => ∃ p ys, xs = [.ref p] ∧ (SqL K H p ys ∨ SqT K H p ys) ∧ ∀ l, H l = none → Q (.ref l) (upd H l (.lst ys))
theorem call_len_seq_K (hK : X.K = K) : CallR X (.builtin "len") (rLenK K) := by
  subst hK
  exact call_len_seq
theorem call_list_of_K (hK : X.K = K) : CallR X (.type "list") (rListK K) := by
  subst hK
  exact call_list_of
theorem pe_bm_K {name : Str} {T id : String} {o : Expr} {r : V → List V → Hp → VK → Prop} (hK : X.K = K) (pa : PlainAttrs T) (slot : Slot T name id) (hty : typeOf (.builtin id) = pure (.type "method_descriptor")) (hm : MtR X id r) (ho : PE X o to) (ha : PA X (e :: es) t)
    (hbase : attributeBase o name X.env (eval o X.env) = eval o X.env := by rfl)
    (hfew : ((backTo cpos (starEach (e :: es) X.env)).all (fun x => !x.1) && (backToKw cpos (keywordEach [] X.env)).all (fun x => x.1.isSome) && decide ((e :: es).length + ([] : List Keyword).length + (if ([] : List Keyword).isEmpty then 0 else 1) < 30)) = true := by rfl)
    (hline : (apos.endLine == cpos.line) = true := by rfl) (hs : starEach (e :: es) X.env = (false, eval e X.env) :: starEach es X.env := by rfl) (hpl : (backTo cpos (starEach es X.env)).any (·.1) = false := by rfl) :
    PE X (.Call (.Attribute o name apos) (e :: es) [] cpos) (tBM K T r to t) := by
  subst hK
  exact pe_bm pa slot hty hm ho ha hbase hfew hline hs hpl
end
/-! ### three comparisons in a chain -/
section
variable {X : Cx} {a b c d : Expr} {ta tb tc td : TE} {pos : Pos}
def tChain3 (r1 r2 r3 : R2) (ta tb tc td : TE) : TE := fun σ H Q => ta σ H fun x H1 => tb σ H1 fun y H2 => r1 x y H2 fun z H3 => ∃ k, z = .bl k ∧
  (if k = true then tc σ H3 fun u H4 => r2 y u H4 fun z2 H5 => ∃ k2, z2 = .bl k2 ∧ (if k2 = true then td σ H5 fun v H6 => r3 u v H6 Q else Q (.bl false) H5) else Q (.bl false) H3)
theorem pe_chain3 {o1 o2 o3 : CmpOp} {r1 r2 r3 : R2} (h1 : OpR X (compareOp o1) r1) (h2 : OpR X (compareOp o2) r2) (h3 : OpR X (compareOp o3) r3) (ha : PE X a ta) (hb : PE X b tb) (hc : PE X c tc) (hd : PE X d td)
    (hm : lastMarks [o1, o2, o3] [b, c, d] = false := by with_unfolding_all rfl) : PE X (.Compare a [o1, o2, o3] [b, c, d] pos) (tChain3 r1 r2 r3 ta tb tc td) := by
  refine ⟨fun pins s σ H Q I hw => Compare_chain (thn (ha.run pins s σ H _ I hw) fun v s1 ⟨x, H1, I1, e1, q1⟩ => ?_) hm⟩
  show wpAny _ _ (compareChain pos v (o1 :: o2 :: [o3]) (eval b X.env :: eval c X.env :: [eval d X.env])) _ _ _
  refine chain_link (thn (hb.run pins s1 σ H1 _ I1 q1) fun u s2 ⟨y, H2, I2, e2, q2⟩ => thn (h1 pins s2 σ H2 x y v u _ I2 e1 e2 q2) fun g s3 ⟨z, H3, I3, e3, k, ez, q3⟩ => ?_)
  cases ez
  cases e3
  refine wpAny_truthy_bool ?_
  cases k with
  | false => exact ite_ff ⟨.bl false, H3, I3, rfl, q3⟩
  | true =>
    refine ite_tt (chain_link (thn (hc.run pins s3 σ H3 _ I3 q3) fun u2 s4 ⟨y2, H4, I4, e4, q4⟩ => thn (h2 pins s4 σ H4 y y2 u u2 _ I4 e2 e4 q4) fun g2 s5 ⟨z2, H5, I5, e5, k2, ez2, q5⟩ => ?_))
    cases ez2
    cases e5
    refine wpAny_truthy_bool ?_
    cases k2 with
    | false => exact ite_ff ⟨.bl false, H5, I5, rfl, q5⟩
    | true => exact ite_tt (chain_last (thn (hd.run pins s5 σ H5 _ I5 q5) fun u3 s6 ⟨y3, H6, I6, e6, q6⟩ => h3 pins s6 σ H6 y2 y3 u2 u3 Q I6 e4 e6 q6))
end
/-! ### set(t), t a tuple of ints -/
section
variable {X : Cx}
def rSetI (K : PySem.W.Frag) (w : World) : List V → Hp → VK → Prop := fun xs H Q => ∃ (p : Addr) (ns : List Int), xs = [.ref p] ∧ SqT K H p (ns.map V.int) ∧ ns.length ≤ 1000 ∧
  ∀ (q : Addr) (c : Nat), c ≤ ns.length → H q = none → Q (.ref q) (upd H q (SetO w q (fun j => decide (j ∈ ns)) c))
theorem cr_setI (hc : X.calm = true) : CallR X (.type "set") (rSetI X.K X.w) := by
  intro pins s σ H xs us Q I r h
  obtain ⟨p, ns, rfl, hq, hl, q⟩ := h
  obtain ⟨u, rfl, ru⟩ := vals1 r
  cases ru
  obtain ⟨its, rv, pt, hz⟩ := I.tuple hq
  have hi : IntsAre its.toArray.toList ns := ints_of_vals rv
  refine call_set_tupI ns (I.ok.hd hc) (show s.heap.IsTuple p its.toArray from pt) hi (by unfold scanBound; omega) fun h' tk c R1 hcn k => ?_
  exact ⟨.ref _, _, I.laid (t' := tk) k (Nat.le_refl _) (setO_new R1), rfl, q _ c hcn (I.hok.fresh (Nat.le_refl _))⟩
end
/-! ### for i, c in enumerate(text) -/
def Ites (x : Str) : It := ⟨fun i _ => i < x.cps.size, fun i H v H' => ∃ T c, v = .ref T ∧ H T = none ∧ H' = upd H T (.tup [.int (i : Nat), .str ⟨#[c]⟩]) ∧ x.cps[i]? = some c, fun i _ => i = x.cps.size⟩
theorem draws_str {prog : Program} {w : World} {A : Around} (hh : A.handled = none) (it : Addr) (x : Str) (t : Tok) :
    Draws prog w A it [it] x.cps.size (fun i v => ∃ c u, x.cps[i]? = some c ∧ v = .str ⟨#[c]⟩ u) (fun i h => h.IsStrIter it (strIterType x) x t i) := by
  cases ha : x.cps.all (· < 128)
  · have e : strIterType x = "str_iterator" := by simp [strIterType, ha]
    rw [e]
    exact Draws.strWide hh it x t
  · have e : strIterType x = "str_ascii_iterator" := by simp [strIterType, ha]
    rw [e]
    exact Draws.strAscii hh it x t
theorem turn_enumS {P : Program} {w : World} {K : PySem.W.Frag} {elts : List Expr} {kk : Nat} {tpos : Pos} (x : Str) (t : Tok) (e it : Addr) :
    Turn P w K (.Tuple elts kk tpos) (Ites x) [e, it] e (fun i h => (∃ old, IsEnum h e it ((i : Nat) : Int) old) ∧ h.IsStrIter it (strIterType x) x t i ∧ e ≠ it) where
  mem := List.mem_cons_self
  obj := fun i h st b hb => by
    obtain ⟨⟨old, he⟩, ⟨o, ho, _, hd⟩, _⟩ := st
    rcases List.mem_cons.mp hb with z | z
    · subst z; exact ⟨_, he, fun v q => nomatch q⟩
    · obtain rfl := List.mem_singleton.mp z
      exact ⟨o, ho, fun v q => by rw [hd] at q; cases q⟩
  keep := fun i h h' st kp => by
    obtain ⟨⟨old, he⟩, ⟨o, ho, r⟩, hne⟩ := st
    exact ⟨⟨old, kp e List.mem_cons_self _ he⟩, ⟨o, kp it (List.mem_cons_of_mem _ List.mem_cons_self) o ho, r⟩, hne⟩
  item := by
    intro X hP hw hK hc i pins s σ H E I hf st hg
    subst hP hw hK
    obtain ⟨⟨old, he⟩, hit, hne⟩ := st
    have hel : e < s.heap.objs.size := Heap.lt_size he
    have hil : it < s.heap.objs.size := by obtain ⟨_, q, _⟩ := hit; exact Heap.lt_size q
    have nef : e ∉ [it] := fun z => hne (List.mem_singleton.mp z)
    refine wpAny_pyNext_enum_itemD (draws_str (show X.A.in1.handled = none from I.ok.hd hc) it x t) he hit hg hne nef fun v h' tk hv ho hit' hT hsz hk => ?_
    obtain ⟨c, u, hcx, rfl⟩ := hv
    refine ⟨_, rfl, wpAny_letOwnedTupleGo_enum (s := { s with heap := h', toks := tk + 1 }) ho fun h'' he' sb => ?_⟩
    have hT2 : h''.get? s.heap.objs.size = some { cls := .type "tuple", data := .seq #[.int i tk, .str ⟨#[c]⟩ u] } := (sb.2 _ (Nat.ne_of_gt hel)).trans hT
    have new : ObjOk X.prog X.w (upd H s.heap.objs.size (.tup [.int (i : Nat), .str ⟨#[c]⟩])) h'' s.heap.objs.size (.tup [.int (i : Nat), .str ⟨#[c]⟩]) :=
      ⟨(by show 2 ≤ sizeLine; decide), [.int i tk, .str ⟨#[c]⟩ u], .cons ⟨_, rfl⟩ (.cons ⟨_, rfl⟩ .nil), ⟨_, hT2, rfl, _, rfl⟩⟩
    have I1 : Inv X pins σ (upd H s.heap.objs.size (.tup [.int (i : Nat), .str ⟨#[c]⟩])) { s with heap := h'', toks := tk + 1 } :=
      I.turnedNew (ch := [e, it]) (fun b ob hb q => by
        have n1 : b ≠ e := fun z => hb (z ▸ List.mem_cons_self)
        have n2 : b ≠ it := fun z => hb (z ▸ List.mem_cons_of_mem _ List.mem_cons_self)
        exact (sb.2 b n1).trans (hk b ob n1 n2 q)) hf (Nat.le_refl _) new
    refine ⟨.ref s.heap.objs.size, _, I1, rfl, ⟨_, c, rfl, I.hok.fresh (Nat.le_refl _), rfl, hcx⟩, ⟨⟨.str ⟨#[c]⟩ u, ?_⟩, ?_, hne⟩, fun b hb => ?_⟩
    · rw [show ((i + 1 : Nat) : Int) = (i : Int) + 1 by omega]
      exact he'
    · obtain ⟨o2, ho2, r2⟩ := hit'
      exact ⟨o2, (sb.2 it (Ne.symm hne)).trans ho2, r2⟩
    · have hb' : b < s.heap.objs.size := by
        rcases List.mem_cons.mp hb with z | z
        · rw [z]; exact hel
        · rw [List.mem_singleton.mp z]; exact hil
      rw [upd_ne (Nat.ne_of_lt hb')]
      exact (hf b hb).1
  done := by
    intro X hP hw hK hc i pins s σ H E I hf st hg
    subst hP hw hK
    obtain ⟨⟨old, he⟩, hit, hne⟩ := st
    have hg : i = x.cps.size := hg
    subst hg
    obtain ⟨f0, f1, f2, f3, f4, f5⟩ := hf it (List.mem_cons_of_mem _ List.mem_cons_self)
    exact wpAny_pyNext_enum_endD (draws_str (show X.A.in1.handled = none from I.ok.hd hc) it x t) he hit fun h' eb => ⟨rfl, I.turned (t' := s.toks) (fun b o hb q => eb b o hb q) f0 f1 f3 f4 f5⟩
  self := fun A i s Q E st h => by
    obtain ⟨⟨_, he⟩, _⟩ := st
    exact wpAny_pyIter_enum he h
def iEnumS (ta : TA) : TI := fun σ H R => ta σ H fun vs H1 => ∃ x, vs = [.str x] ∧ R (Ites x) H1
theorem pi_enumS {X : Cx} {e : Expr} {ta : TA} {p pos tpos : Pos} {elts : List Expr} {kk : Nat} (hg : Gl X "enumerate") (hm : X.mg "enumerate" = none) (ha : PA X [e] ta) (hs : starEach [e] X.env = [(false, eval e X.env)] := by rfl) :
    PI X (.Tuple elts kk tpos) (.Call (.Name "enumerate" p) [e] [] pos) (iEnumS ta) := by
  refine ⟨fun pins s σ H R I h => Call_ (ld_blt I hg hm boot_enumerate (PyProof.Rows.callWith_type1 (thn (ha.run pos pins s σ H _ I h) fun us s1 ⟨vs, H1, I1, r1, x, ex, q⟩ => ?_) hs rfl))⟩
  subst ex
  obtain ⟨u, rfl, t, rfl⟩ := vals1 r1
  refine call_enumerate_str fun h' he hit hsz hk => wpAny_pyIter_enum he ?_
  refine ⟨s1.heap.objs.size + 1, [s1.heap.objs.size + 1, s1.heap.objs.size], _, _, H1, rfl, I1.kept (t' := s1.toks) hk, turn_enumS x t (s1.heap.objs.size + 1) s1.heap.objs.size, ⟨⟨.none, he⟩, hit, Nat.succ_ne_self _⟩, fun b hb => ?_, q⟩
  have hle : s1.heap.objs.size ≤ b := by
    rcases List.mem_cons.mp hb with z | z
    · rw [z]; exact Nat.le_add_right _ _
    · rw [List.mem_singleton.mp z]; exact Nat.le_refl _
  exact I1.fpOk hle (I1.hok.fresh hle)
end K54

set_option Elab.async false
set_option linter.all false
set_option maxRecDepth 100000
set_option maxHeartbeats 2000000
namespace K54
open PySem PySem.Spec PyProof.Rows L2 Evl
/-! ### {(a, b): v for ..}: a new dict whose keys are tuples -/
theorem dT_put {X : Cx} {pins : List (Addr × Obj)} {σ : L2.St} {H : Hp} {s : Shared} {E : Value → Shared → Prop} {D b : Addr} {kvs : List (List Key × V)} {k : List Key} {v : V} {u r : Value} {Q : Unit → Shared → Prop} (hu : X.A.units < cLine) (I : Inv X pins σ H s)
    (hD : H D = some (.dT kvs)) (hb : H b = some (.tup (k.map kV))) (hz : kvs.length < sizeLine) (ry : RelV (.ref b) u) (rv : RelV v r) (h : ∀ s', Inv X pins σ (upd H D (.dT (putK kvs k v))) s' → Q () s') :
    wpAny (model X.prog X.w) X.A (dictSet D u r) Q E s := by
  cases ry
  obtain ⟨z, hd, xs, rel, dd⟩ := dt_of I.hok hD
  have hxs : xs.length ≤ sizeLine := (Paired.length rel) ▸ z
  have hl : (putK kvs k v).length ≤ sizeLine := Nat.le_trans (length_putK kvs k v) hz
  refine wpAny_dictSet_heap (hsz := hxs) hu (key_of I.hok hb) dd fun h' dd' hs => h _ ?_
  obtain ⟨q, es, ep, hq, h2, h3, h4, _, h5⟩ := dd'
  have new : ObjOk X.prog X.w (upd H D (.dT (putK kvs k v))) h' D (.dT (putK kvs k v)) :=
    ⟨hl, hd, _, KT.keeps (rel.put k hb rv) fun c ys ec => (upd_ne (ne_of ec hD fun z => nomatch z)).trans ec, q, es, ep, hq, h2, h3, h4, h5⟩
  exact d_write I (show Mut (H D) from hD ▸ True.intro) hs ⟨q, hq⟩ new
section
variable {X : Cx}
def tDcT (wi : L2.TI) (g : TG) (tt : TT) (tk tv : TE) (vs : List Nat) : TE := fun σ H Q => wi σ H fun J H1 => ∀ D, H1 D = none → ∃ W : Nat → Nat → Hp → Prop, (∃ m, W 0 m (upd H1 D (.dT []))) ∧ ∀ i m H, W i m H →
  (J.stop i H ∧ Q (.ref D) H) ∨ (J.go i H ∧ ∃ Nx : Hp → Prop, (∀ H', Nx H' → ∃ m', m' < m ∧ W (i + 1) m' H') ∧ ∀ x H', J.yld i H x H' → g x (wipe σ vs) H' fun σ2 H2 => wipe σ2 vs = wipe σ vs ∧ tt σ2 H2 fun b H3 =>
    if b = true then tk σ2 H3 fun y H4 => tv σ2 H4 fun z H5 => ∃ kvs k p, y = .ref p ∧ H5 p = some (.tup (List.map kV k)) ∧ H5 D = some (.dT kvs) ∧ kvs.length < sizeLine ∧ Nx (upd H5 D (.dT (putK kvs k z))) else Nx H3)
theorem dcT_core {pins : List (Addr × Obj)} {s : Shared} {σ : L2.St} {H : Hp} {Q : VK} {kx vx tg iter : Expr} {ifs : List Expr} {scope : Scope} {own : List (Str × Nat)} {pos pos' : Pos} {wi : L2.TI} {g : TG} {tt : TT} {tk tv : TE} {use : Option (Value → Sem Unit)} {Qf : Value → Shared → Prop}
    (hu : X.A.units < cLine) (hc : X.calm = true) (hN : X.N.Nodup) (I : Inv X pins σ H s) (hi : PI X tg iter wi) (ok : BlkOk X.N X.env.scope scope own)
    (hg : ∀ s H C cl fp, PG (X.blk s H scope (compEnvC scope cl C X.env) fp) tg g) (ht : ∀ s H C cl fp, PTs (X.blk s H scope (compEnvC scope cl C X.env) fp) ifs tt)
    (hk : ∀ s H C cl fp, PE (X.blk s H scope (compEnvC scope cl C X.env) fp) kx tk) (he : ∀ s H C cl fp, PE (X.blk s H scope (compEnvC scope cl C X.env) fp) vx tv) (hs : ∀ x, foldedSetIterable iter X.env x = pure x)
    (h : tDcT wi g tt tk tv (own.map (·.2)) σ H Q)
    (fin : ∀ D C s' m H', Inv X pins σ H' s' → Q (.ref D) H' → s'.heap.Ns C m → FpOk X pins H' C → compPost (model X.prog X.w) X.A X.xe use Qf (.ref D) C (.ok .next) s') :
    wpAny (model X.prog X.w) X.A (comprehension (.DictComp kx vx [⟨tg, iter, ifs, 0⟩] scope pos) scope X.env pos' newDict false (eval iter X.env) use) Qf X.xe s := by
  have cells : ∀ y ∈ scope.names, y.2 = .free → ∃ c, X.env.cells.lookup y.1 = some c := fun y hy e => (ok.free y hy e).elim (fun z => I.ok.has _ (.inl z)) (fun z => I.ok.has _ (.inr z))
  refine wpAny_comprehension_free (use := use) rfl hs (closure_ok cells) ok.kind (fun y hy e => (ok.uniq y hy).trans (congrArg some e)) (thn (hi.run pins s σ H _ I h) fun xv s1 hx => thn hx fun itv s2 h2 => ?_)
  obtain ⟨it, fp, tn, J, H2, rfl, I2, T, st2, f2, q⟩ := h2
  refine wpAny_newObj_type (newEnv_comp ?_)
  generalize hD : s2.heap.objs.size = D
  have hDn : H2 D = none := I2.hok.fresh (Nat.le_of_eq hD)
  obtain ⟨W, ⟨m0, w0⟩, turn⟩ := q D hDn
  generalize hs3 : ({ s2 with heap := s2.heap.push { cls := .type "dict", data := .dict #[] } } : Shared) = s3
  have h3 : s3.heap = s2.heap.push { cls := .type "dict", data := .dict #[] } := hs3 ▸ rfl
  have I3 : Inv X pins σ (upd H2 D (.dT [])) s3 := by
    have e0 := dt_empty (P := X.prog) (w := X.w) (H := upd H2 D (.dT [])) s2.heap I2.big
    rw [hD] at e0
    rw [← hs3]
    exact I2.laid (t' := s2.toks) (fun b o e => Heap.get?_push_of_some _ e) (Nat.le_of_eq hD) e0
  have sz : ∀ b ∈ fp, b < s2.heap.objs.size := fun b hb => let ⟨o, e, _⟩ := T.obj _ _ st2 b hb; Heap.lt_size e
  have f3 : ∀ b ∈ fp, FpOk X pins (upd H2 D (.dT [])) b ∧ b < s3.heap.objs.size := fun b hb => by
    have hlt := sz b hb
    have hne : b ≠ D := hD ▸ Nat.ne_of_lt hlt
    refine ⟨⟨(upd_ne hne).trans (f2 b hb).1, (f2 b hb).2⟩, ?_⟩
    rw [h3, Heap.size_push]
    exact Nat.lt_succ_of_lt hlt
  have st3 : tn 0 s3.heap := T.keep _ _ _ st2 fun b _ o e => h3 ▸ Heap.get?_push_of_some _ e
  have I4 := block_start I3 ok hN f3
  generalize hcl : cellsFrom (s3.heap.objs.size + 1) scope.names (cloFrom X.env.cells scope.names []) = cl at I4
  have pg := hg s3 (upd H2 D (.dT [])) s3.heap.objs.size cl fp
  have pt := ht s3 (upd H2 D (.dT [])) s3.heap.objs.size cl fp
  have pk := hk s3 (upd H2 D (.dT [])) s3.heap.objs.size cl fp
  have pe := he s3 (upd H2 D (.dT [])) s3.heap.objs.size cl fp
  have goal : codeAny (model X.prog X.w) X.A (.compStart (.DictComp kx vx [⟨tg, iter, ifs, 0⟩] scope pos) 0 (.ref it) (.ref D) (compEnvC scope cl s3.heap.objs.size X.env)) (compPost (model X.prog X.w) X.A X.xe use Qf (.ref D) s3.heap.objs.size) { s3 with heap := pushCells (s3.heap.push { cls := .type "dict", data := .dict #[] }) scope.names } := by
    have nfp : ∀ b ∈ fp, (upd H2 D (.dT [])) b = none := fun b hb => (f3 b hb).1.1
    generalize hce : compEnvC scope cl s3.heap.objs.size X.env = ce at I4 pg pt pk pe ⊢
    have cL : ce.locals = s3.heap.objs.size := hce ▸ rfl
    generalize hH3 : upd H2 D (.dT []) = H3 at I3 I4 pg pt pk pe w0 nfp f3
    generalize hs4 : ({ s3 with heap := pushCells (s3.heap.push { cls := .type "dict", data := .dict #[] }) scope.names } : Shared) = s4 at I4 ⊢
    have st4 : tn 0 s4.heap := T.keep _ _ _ st3 fun b _ o e => hs4 ▸ pushCells_keeps _ _ _ _ (Heap.get?_push_of_some _ e)
    have stat : ∀ {σ' : L2.St} {H' : Hp} {s' : Shared}, Inv (X.blk s3 H3 scope ce fp) [] σ' H' s' → (∀ b ∈ fp, H' b = none) → ∀ b ∈ fp, FpOk (X.blk s3 H3 scope ce fp) [] H' b := fun I' hn b hb =>
      ⟨hn b hb, (I'.ok.exf b hb).1, I'.ok.exfs b hb, .inl hb, (fun x c e => (I'.ok.exf b hb).2 x c e), fun p hp => absurd (show p ∈ ([] : List (Addr × Obj)) ++ [] from hp) (List.not_mem_nil)⟩
    have loop : codeAny (model X.prog X.w) X.A (.compLoop (.DictComp kx vx [⟨tg, iter, ifs, 0⟩] scope pos) 0 (.ref it) (.ref D) ce) (compPost (model X.prog X.w) X.A X.xe use Qf (.ref D) s3.heap.objs.size) s4 := by
      refine compLoop_anyD (fun n s' => ∃ i H', Inv (X.blk s3 H3 scope ce fp) [] (wipe σ (own.map (·.2))) H' s' ∧ tn i s'.heap ∧ (∀ b ∈ fp, H' b = none) ∧ W i n H') ?_ m0 ⟨0, H3, I4, st4, nfp, w0⟩
      rintro n s5 ⟨i, H5, I5, st5, n5, w5⟩
      rcases turn i n H5 w5 with ⟨stop, qq⟩ | ⟨go, Nx, hNx, step⟩
      · refine thnF (T.done (X.blk s3 H3 scope ce fp) rfl rfl rfl hc i [] s5 _ H5 (fun _ _ => False) I5 (stat I5 n5) st5 stop) fun r s6 ⟨hr, I6⟩ => ?_
        subst hr
        have I7 : Inv X pins σ H5 s6 := I3.call' (ch := fp) I6.os I6.base I6.hok I6.bare fun b hb => ⟨(f3 b hb).1.2.2.2.1, (f3 b hb).1.2.1, (f3 b hb).1.2.2.2.2.1, (f3 b hb).1.2.2.2.2.2⟩
        have nC : H5 s3.heap.objs.size = none := cL ▸ (show H5 ce.locals = none from I6.free)
        obtain ⟨m, hn, _⟩ := I6.loc
        have hn : s6.heap.Ns s3.heap.objs.size m := cL ▸ (show s6.heap.Ns ce.locals m from hn)
        exact fin D s3.heap.objs.size s6 m H5 I7 qq hn (I3.fpOk (Nat.le_refl _) nC)
      · refine thnF (T.item (X.blk s3 H3 scope ce fp) rfl rfl rfl hc i [] s5 _ H5 (fun _ _ => False) I5 (stat I5 n5) st5 go) fun r s6 ⟨u, hr, h6⟩ => ?_
        subst hr
        refine thnF h6 fun _ s7 ⟨x, H7, I7, r7, y7, st7, n7⟩ => ?_
        refine thnF (pg.run _ s7 _ H7 x u _ (I7.pinned (stat I7 n7) (T.obj _ _ st7)) r7 (step x H7 y7)) fun _ s8 ⟨σ8, H8, I8, hw8, q8⟩ => thnF (pt.run _ s8 σ8 H8 _ I8 q8) fun b s9 ⟨H9, I9, q9⟩ => ?_
        have turned : ∀ {s' : Shared} {H' : Hp}, Inv (X.blk s3 H3 scope ce fp) ([] ++ pinsAt fp s7.heap) σ8 H' s' → Nx H' → ∃ m, m < n ∧ ∃ i H', Inv (X.blk s3 H3 scope ce fp) [] (wipe σ (own.map (·.2))) H' s' ∧ tn i s'.heap ∧ (∀ b ∈ fp, H' b = none) ∧ W i m H' := fun {s' H'} I' nx => by
          obtain ⟨m', hm, w'⟩ := hNx H' nx
          have pin' : ∀ b ∈ fp, ∀ o, s7.heap.get? b = some o → s'.heap.get? b = some o ∧ H' b = none := fun b hb o e =>
            let z := I'.pin (b, o) (List.mem_append_right _ (List.mem_append_right _ (mem_pinsAt hb e)))
            ⟨z.1, z.2.1⟩
          refine ⟨m', hm, i + 1, H', (I'.unpinned (pins := [])).weak (by rw [← hw8, wipe_length]) (fun j v e => ?_), T.keep _ _ _ st7 fun b hb o e => (pin' b hb o e).1, fun b hb => ?_, w'⟩
          · rw [← hw8] at e
            exact (wipe_some e).1
          · obtain ⟨o, e, _⟩ := T.obj _ _ st7 b hb
            exact (pin' b hb o e).2
        cases b with
        | false => exact turned I9 q9
        | true =>
          refine thnF (pk.run _ s9 σ8 H9 _ I9 q9) fun z s10 ⟨yk, H10, I10, r10, q10⟩ => thnF (pe.run _ s10 σ8 H10 _ I10 q10) fun z2 s11 ⟨yv, H11, I11, r11, kvs, k, p, ek, hp11, hD11, hz11, nx⟩ => ?_
          subst ek
          exact dT_put (X := X.blk s3 H3 scope ce fp) hu I11 hD11 hp11 hz11 r10 r11 fun s12 I12 => turned I12 nx
    exact codeAny_compStart_dict loop (T.self X.A 0 _ _ _ st4 loop)
  subst hcl
  exact goal
theorem sw_trueD {kx vx : Expr} {gs : List Comprehension} {scope : Scope} {pos py : Pos} {y : Str} {l : Nat} {env : Env} (hk : env.scope.kind = .function) (hy : env.scope.names.lookup y = some .local) (hl : (py.line == pos.line) = true)
    (ha : (scope.names.any fun (n, k) => n == y && (k == .local || k == .cell)) = false) : swapsWith (.DictComp kx vx gs scope pos) (some (.Name y py)) l env = pure true := by
  have hb : env.blockKind = .function := by unfold Env.blockKind; rw [hk]; rfl
  have ky : env.kindOf y = some .local := hy
  unfold swapsWith
  simp only [hb, ky, ha, Expr.pos, hl]
  rfl
theorem ps_setDcT {i : Nat} {y : Str} {py : Pos} {kx vx tg iter : Expr} {ifs : List Expr} {scope : Scope} {own : List (Str × Nat)} {pos spos : Pos} {wi : L2.TI} {g : TG} {tt : TT} {tk tv : TE} (hu : X.A.units < cLine) (hc : X.calm = true) (hN : X.N.Nodup) (hy : X.N[i]? = some y) (hyl : X.env.scope.names.lookup y = some .local)
    (hsw : swapsWith (.DictComp kx vx [⟨tg, iter, ifs, 0⟩] scope pos) (some (.Name y py)) spos.line X.env = pure true) (hi : PI X tg iter wi) (ok : BlkOk X.N X.env.scope scope own)
    (hg : ∀ s H C cl fp, PG (X.blk s H scope (compEnvC scope cl C X.env) fp) tg g) (ht : ∀ s H C cl fp, PTs (X.blk s H scope (compEnvC scope cl C X.env) fp) ifs tt)
    (hk : ∀ s H C cl fp, PE (X.blk s H scope (compEnvC scope cl C X.env) fp) kx tk) (he : ∀ s H C cl fp, PE (X.blk s H scope (compEnvC scope cl C X.env) fp) vx tv) (hs : ∀ x, foldedSetIterable iter X.env x = pure x := by intro _; rfl) :
    PS X (.Assign [.Name y py] (.DictComp kx vx [⟨tg, iter, ifs, 0⟩] scope pos) spos) (tAsg (tDcT wi g tt tk tv (own.map (·.2))) (gName i)) := by
  refine ⟨fun pins s σ H D I h => ?_⟩
  rw [exec_Assign_Name_used _ _ _ _ hsw]
  have h : tDcT wi g tt tk tv (own.map (·.2)) σ H (fun x H1 => gName i x σ H1 D.nx) := h
  have go : wpAny (model X.prog X.w) X.A (comprehension (.DictComp kx vx [⟨tg, iter, ifs, 0⟩] scope pos) scope X.env (firstIterPos [⟨tg, iter, ifs, 0⟩] pos) newDict false (eval iter X.env) (some (assign (.Name y py) X.env))) (fun _ s' => SP X pins D .next s') X.xe s := by
    refine dcT_core (Qf := fun _ s' => SP X pins D .next s') hu hc hN I hi ok hg ht hk he hs h fun L C s' m H' I' q hn f => ?_
    show wpAny _ _ (assign (.Name y py) X.env (.ref L)) _ _ _
    refine wpAny_assign_Name (store_ok2 (v := V.ref L) I' hN hy (.inl hyl) rfl (fun s2 I2 ⟨a, sb, ha⟩ => ?_) (.inr hyl))
    obtain ⟨f0, f1, f2, f3, f4, f5⟩ := f
    have hCa : C ≠ a := ha.elim (fun z => z ▸ f1) (fun z e => f4 y a z e.symm)
    exact ⟨m, hn.sameBut sb hCa, fun h3 sb3 => ⟨_, H', I2.turned (t' := s2.toks) (fun b o hb e => (sb3.2 b hb).trans e) f0 f1 f3 f4 f5, q⟩⟩
  exact wpAny_bind (wpAny_standAt (wpAny_bind (wpAny_bind (thn go fun _ s' hq => wpAny_pure (wpAny_pure hq)))))
/-- over a range -/
theorem dcT_range {lo : Int} {n : Nat} {g : TG} {tt : TT} {tk tv : TE} {vs : List Nat} {σ : L2.St} {H1 : Hp} {D : Addr} {Qd : Hp → Prop} (Pv : Nat → Hp → Prop) (h0 : Pv 0 (upd H1 D (.dT [])))
    (hs : ∀ (i : Nat) H, i < n → Pv i H → g (.int (lo + i)) (wipe σ vs) H fun σ2 H2 => wipe σ2 vs = wipe σ vs ∧ tt σ2 H2 fun b H3 =>
      if b = true then tk σ2 H3 fun y H4 => tv σ2 H4 fun z H5 => ∃ kvs k p, y = .ref p ∧ H5 p = some (.tup (List.map kV k)) ∧ H5 D = some (.dT kvs) ∧ kvs.length < sizeLine ∧ Pv (i + 1) (upd H5 D (.dT (putK kvs k z))) else Pv (i + 1) H3) (hd : ∀ H, Pv n H → Qd H) :
    ∃ W : Nat → Nat → Hp → Prop, (∃ m, W 0 m (upd H1 D (.dT []))) ∧ ∀ i m H, W i m H →
      ((Itr lo n).stop i H ∧ Qd H) ∨ ((Itr lo n).go i H ∧ ∃ Nx : Hp → Prop, (∀ H', Nx H' → ∃ m', m' < m ∧ W (i + 1) m' H') ∧ ∀ x H', (Itr lo n).yld i H x H' → g x (wipe σ vs) H' fun σ2 H2 => wipe σ2 vs = wipe σ vs ∧ tt σ2 H2 fun b H3 =>
        if b = true then tk σ2 H3 fun y H4 => tv σ2 H4 fun z H5 => ∃ kvs k p, y = .ref p ∧ H5 p = some (.tup (List.map kV k)) ∧ H5 D = some (.dT kvs) ∧ kvs.length < sizeLine ∧ Nx (upd H5 D (.dT (putK kvs k z))) else Nx H3) := by
  refine ⟨fun i m H => m = n - i ∧ i ≤ n ∧ Pv i H, ⟨n, rfl, Nat.zero_le _, h0⟩, ?_⟩
  rintro i m H ⟨rfl, hi, p⟩
  by_cases hlt : i < n
  · refine .inr ⟨hlt, Pv (i + 1), fun H' p' => ⟨n - (i + 1), by omega, rfl, hlt, p'⟩, fun x H' y => ?_⟩
    obtain ⟨rfl, rfl⟩ := y
    exact hs i _ hlt p
  · obtain rfl : i = n := by omega
    exact .inl ⟨Nat.le_refl _, hd H p⟩
end
end K54

set_option linter.all false
namespace K54
abbrev Wd := List Nat
def lt (cs : Wd) (i : Nat) : Nat := cs.getD i 0
def fitsB (cs : Wd) (l m h : Nat) : Bool := decide (lt cs l ≠ lt cs m) && decide (lt cs m ≠ lt cs h) && decide (lt cs h ≠ lt cs l)
def comb : Option Nat → Option Nat → Option Nat
  | some a, some b => some (1 + max a b)
  | _, _ => none
def cand (cs : Wd) (t : Nat → Nat → Option Nat) (l h m : Nat) : Option Nat := if fitsB cs l m h = true then comb (t l m) (t m h) else none
def hg (cs : Wd) : Nat → Nat → Nat → Option Nat
  | 0, _, _ => some 0
  | f + 1, l, h => if h ≤ l + 1 then some 0 else ((List.range (h - l - 1)).filterMap fun k => cand cs (hg cs f) l h (l + 1 + k)).min?
def T (cs : Wd) (l h : Nat) : Option Nat := hg cs (h - l) l h
/-- the candidates from the first k middles -/
def cds (cs : Wd) (l h k : Nat) : List Nat := (List.range k).filterMap fun j => cand cs (T cs) l h (l + 1 + j)

theorem filterMap_congr' {α β : Type} {f g : α → Option β} : ∀ {l : List α}, (∀ x ∈ l, f x = g x) → l.filterMap f = l.filterMap g
  | [], _ => rfl
  | a :: r, h => by
    rw [List.filterMap_cons, List.filterMap_cons, h a List.mem_cons_self, filterMap_congr' fun x hx => h x (List.mem_cons_of_mem _ hx)]
theorem hg_fuel (cs : Wd) : ∀ f g l h, h - l ≤ f → h - l ≤ g → hg cs f l h = hg cs g l h
  | 0, 0, _, _, _, _ => rfl
  | 0, g + 1, l, h, h1, _ => by
    show some 0 = if h ≤ l + 1 then some 0 else _
    rw [if_pos (by omega)]
  | f + 1, 0, l, h, _, h2 => by
    show (if h ≤ l + 1 then some 0 else _) = some 0
    rw [if_pos (by omega)]
  | f + 1, g + 1, l, h, h1, h2 => by
    unfold hg
    by_cases c : h ≤ l + 1
    · rw [if_pos c, if_pos c]
    · rw [if_neg c, if_neg c]
      refine congrArg _ (filterMap_congr' fun k hk => ?_)
      have hk' := List.mem_range.mp hk
      unfold cand
      rw [hg_fuel cs f g l (l + 1 + k) (by omega) (by omega), hg_fuel cs f g (l + 1 + k) h (by omega) (by omega)]
theorem T_one {cs : Wd} {l h : Nat} (c : h ≤ l + 1) : T cs l h = some 0 := by
  unfold T
  cases e : h - l with
  | zero => rfl
  | succ f =>
    unfold hg
    rw [if_pos c]
theorem T_eq {cs : Wd} {l h : Nat} (c : l + 1 < h) : T cs l h = (cds cs l h (h - l - 1)).min? := by
  unfold T
  obtain ⟨f, e⟩ : ∃ f, h - l = f + 1 := ⟨h - l - 1, by omega⟩
  rw [e]
  unfold hg
  rw [if_neg (by omega)]
  unfold cds
  rw [show f + 1 - 1 = h - l - 1 by omega]
  refine congrArg _ (filterMap_congr' fun k hk => ?_)
  have hk' := List.mem_range.mp hk
  unfold cand T
  rw [hg_fuel cs f (l + 1 + k - l) l (l + 1 + k) (by omega) (by omega), hg_fuel cs f (h - (l + 1 + k)) (l + 1 + k) h (by omega) (by omega)]
theorem cds_succ (cs : Wd) (l h k : Nat) : cds cs l h (k + 1) = cds cs l h k ++ (cand cs (T cs) l h (l + 1 + k)).toList := by
  unfold cds
  rw [List.range_succ, List.filterMap_append]
  refine congrArg _ ?_
  cases e : cand cs (T cs) l h (l + 1 + k) with
  | none => simp [e]
  | some v => simp [e]
theorem cds_len (cs : Wd) (l h k : Nat) : (cds cs l h k).length ≤ k := by
  have q := List.length_filterMap_le (fun j => cand cs (T cs) l h (l + 1 + j)) (List.range k)
  rw [List.length_range] at q
  exact q
theorem T_min {cs : Wd} {l h m : Nat} (c : l + 1 < h) (h1 : m ∈ cds cs l h (h - l - 1)) (h2 : ∀ y ∈ cds cs l h (h - l - 1), m ≤ y) : T cs l h = some m := by
  rw [T_eq c]
  exact List.min?_eq_some_iff.mpr ⟨h1, h2⟩
theorem T_nil {cs : Wd} {l h : Nat} (c : l + 1 < h) (h1 : cds cs l h (h - l - 1) = []) : T cs l h = none := by
  rw [T_eq c, h1]
  rfl
theorem comb_some {a b : Option Nat} {v : Nat} : comb a b = some v ↔ ∃ x y, a = some x ∧ b = some y ∧ v = 1 + max x y := by
  cases a <;> cases b <;> simp [comb, eq_comm]
theorem cand_some {cs : Wd} {t : Nat → Nat → Option Nat} {l h m v : Nat} : cand cs t l h m = some v ↔ fitsB cs l m h = true ∧ ∃ x y, t l m = some x ∧ t m h = some y ∧ v = 1 + max x y := by
  unfold cand
  by_cases c : fitsB cs l m h = true
  · rw [if_pos c, comb_some]
    exact ⟨fun z => ⟨c, z⟩, fun z => z.2⟩
  · rw [if_neg c]
    exact ⟨fun z => (nomatch z), fun z => absurd z.1 c⟩
theorem mem_cds {cs : Wd} {l h k v : Nat} : v ∈ cds cs l h k ↔ ∃ m, l < m ∧ m < l + 1 + k ∧ cand cs (T cs) l h m = some v := by
  unfold cds
  rw [List.mem_filterMap]
  constructor
  · rintro ⟨j, hj, e⟩
    have := List.mem_range.mp hj
    exact ⟨l + 1 + j, by omega, by omega, e⟩
  · rintro ⟨m, h1, h2, e⟩
    exact ⟨m - l - 1, List.mem_range.mpr (by omega), by rw [show l + 1 + (m - l - 1) = m by omega]; exact e⟩
/-- a best middle: told by its value -/
theorem T_best {cs : Wd} {l h v : Nat} (c : l + 1 < h) (e : T cs l h = some v) : ∃ m, l < m ∧ m < h ∧ cand cs (T cs) l h m = some v := by
  rw [T_eq c] at e
  obtain ⟨m, h1, h2, h3⟩ := mem_cds.mp (List.min?_eq_some_iff.mp e).1
  exact ⟨m, h1, by omega, h3⟩
abbrev HT (cs : Wd) (l h : Nat) : Prop := (T cs l h).isSome = true
theorem HT_iff {cs : Wd} {l h : Nat} (c : l + 1 < h) : HT cs l h ↔ ∃ m, l < m ∧ m < h ∧ fitsB cs l m h = true ∧ HT cs l m ∧ HT cs m h := by
  constructor
  · intro q
    obtain ⟨v, e⟩ := Option.isSome_iff_exists.mp q
    obtain ⟨m, h1, h2, h3⟩ := T_best c e
    obtain ⟨f, x, y, e1, e2, _⟩ := cand_some.mp h3
    exact ⟨m, h1, h2, f, by rw [HT, e1]; rfl, by rw [HT, e2]; rfl⟩
  · rintro ⟨m, h1, h2, f, q1, q2⟩
    obtain ⟨x, e1⟩ := Option.isSome_iff_exists.mp q1
    obtain ⟨y, e2⟩ := Option.isSome_iff_exists.mp q2
    have hm : 1 + max x y ∈ cds cs l h (h - l - 1) := mem_cds.mpr ⟨m, h1, by omega, cand_some.mpr ⟨f, x, y, e1, e2, rfl⟩⟩
    rw [HT, T_eq c]
    cases z : (cds cs l h (h - l - 1)).min? with
    | none =>
      rw [List.min?_eq_none_iff.mp z] at hm
      cases hm
    | some _ => rfl
theorem HT_one {cs : Wd} {l h : Nat} (c : h ≤ l + 1) : HT cs l h := by rw [HT, T_one c]; rfl

/-! words -/
structure IsW (cs : Wd) : Prop where
  two : 2 ≤ cs.length
  abc : ∀ c ∈ cs, c = 97 ∨ c = 98 ∨ c = 99
  adj : ∀ i, i + 1 < cs.length → lt cs i ≠ lt cs (i + 1)
theorem lt_of {cs : Wd} {i c : Nat} (h : cs[i]? = some c) : lt cs i = c := by
  unfold lt
  rw [List.getD_eq_getElem?_getD, h]
  rfl
theorem get_lt {cs : Wd} {i : Nat} (h : i < cs.length) : cs[i]? = some (lt cs i) := by
  unfold lt
  rw [List.getD_eq_getElem?_getD, List.getElem?_eq_getElem h]
  rfl
theorem IsW.lt_abc {cs : Wd} (w : IsW cs) {i : Nat} (h : i < cs.length) : lt cs i = 97 ∨ lt cs i = 98 ∨ lt cs i = 99 := w.abc _ (List.mem_of_getElem? (get_lt h))
def third (a b : Nat) : Nat := if a ≠ 97 ∧ b ≠ 97 then 97 else if a ≠ 98 ∧ b ≠ 98 then 98 else 99
theorem third_ne {a b : Nat} : third a b ≠ a ∧ third a b ≠ b := by
  unfold third
  by_cases c1 : a ≠ 97 ∧ b ≠ 97
  · rw [if_pos c1]; omega
  · rw [if_neg c1]
    by_cases c2 : a ≠ 98 ∧ b ≠ 98
    · rw [if_pos c2]; omega
    · rw [if_neg c2]; omega
def put (cs : Wd) (p : Nat) : Wd := cs.take (p + 1) ++ third (lt cs p) (lt cs (p + 1)) :: cs.drop (p + 1)
theorem put_len {cs : Wd} {p : Nat} (h : p + 1 < cs.length) : (put cs p).length = cs.length + 1 := by
  unfold put
  rw [List.length_append, List.length_take, List.length_cons, List.length_drop]
  omega
theorem put_lo {cs : Wd} {p i : Nat} (h : p + 1 < cs.length) (hi : i ≤ p) : lt (put cs p) i = lt cs i := by
  unfold lt put
  rw [List.getD_eq_getElem?_getD, List.getD_eq_getElem?_getD, List.getElem?_append_left (by rw [List.length_take]; omega), List.getElem?_take_of_lt (by omega)]
theorem put_at {cs : Wd} {p : Nat} (h : p + 1 < cs.length) : lt (put cs p) (p + 1) = third (lt cs p) (lt cs (p + 1)) := by
  refine lt_of ?_
  unfold put
  rw [List.getElem?_append_right (by rw [List.length_take]; omega), List.length_take, show p + 1 - min (p + 1) cs.length = 0 by omega]
  rfl
theorem put_hi {cs : Wd} {p i : Nat} (h : p + 1 < cs.length) (hi : p < i) : lt (put cs p) (i + 1) = lt cs i := by
  unfold lt put
  rw [List.getD_eq_getElem?_getD, List.getD_eq_getElem?_getD, List.getElem?_append_right (by rw [List.length_take]; omega), List.length_take, show i + 1 - min (p + 1) cs.length = (i - (p + 1)) + 1 by omega, List.getElem?_cons_succ, List.getElem?_drop, show p + 1 + (i - (p + 1)) = i by omega]
theorem third_abc (a b : Nat) : third a b = 97 ∨ third a b = 98 ∨ third a b = 99 := by
  unfold third
  by_cases c1 : a ≠ 97 ∧ b ≠ 97
  · rw [if_pos c1]; omega
  · rw [if_neg c1]
    by_cases c2 : a ≠ 98 ∧ b ≠ 98
    · rw [if_pos c2]; omega
    · rw [if_neg c2]; omega
theorem IsW.put {cs : Wd} (w : IsW cs) {p : Nat} (h : p + 1 < cs.length) : IsW (put cs p) := by
  refine ⟨by rw [put_len h]; have := w.two; omega, fun c hc => ?_, fun i hi => ?_⟩
  · unfold K54.put at hc
    rcases List.mem_append.mp hc with q | q
    · exact w.abc c (List.mem_of_mem_take q)
    · rcases List.mem_cons.mp q with q | q
      · rw [q]; exact third_abc _ _
      · exact w.abc c (List.mem_of_mem_drop q)
  · rw [put_len h] at hi
    by_cases c1 : i < p
    · rw [put_lo h (by omega), put_lo h (by omega)]
      exact w.adj i (by omega)
    · by_cases c2 : i = p
      · subst c2
        rw [put_lo h (Nat.le_refl _), put_at h]
        exact (third_ne.1).symm
      · by_cases c3 : i = p + 1
        · subst c3
          rw [put_at h, put_hi h (by omega)]
          exact third_ne.2
        · obtain ⟨j, rfl⟩ : ∃ j, i = j + 1 := ⟨i - 1, by omega⟩
          rw [put_hi h (by omega), put_hi h (by omega)]
          exact w.adj j (by omega)
def sg (p i : Nat) : Nat := if i ≤ p then i else i + 1
theorem lt_sg {cs : Wd} {p i : Nat} (h : p + 1 < cs.length) : lt (put cs p) (sg p i) = lt cs i := by
  unfold sg
  by_cases c : i ≤ p
  · rw [if_pos c, put_lo h c]
  · rw [if_neg c, put_hi h (by omega)]
theorem fits_iff {cs : Wd} {l m h : Nat} : fitsB cs l m h = true ↔ lt cs l ≠ lt cs m ∧ lt cs m ≠ lt cs h ∧ lt cs h ≠ lt cs l := by
  unfold fitsB
  simp [and_assoc]
theorem fits_sg {cs : Wd} {p l m h : Nat} (hp : p + 1 < cs.length) (f : fitsB cs l m h = true) : fitsB (put cs p) (sg p l) (sg p m) (sg p h) = true := by
  rw [fits_iff] at f ⊢
  rw [lt_sg hp, lt_sg hp, lt_sg hp]
  exact f
theorem HT_put {cs : Wd} (w : IsW cs) {p : Nat} (hp : p + 1 < cs.length) : ∀ (k l h : Nat), h - l ≤ k → l < h → HT cs l h → HT (put cs p) (sg p l) (sg p h)
  | 0, l, h, hk, hl, _ => by omega
  | k + 1, l, h, hk, hl, q => by
    by_cases c : l + 1 < h
    · obtain ⟨m, h1, h2, f, q1, q2⟩ := (HT_iff c).mp q
      have e1 := HT_put w hp k l m (by omega) h1 q1
      have e2 := HT_put w hp k m h (by omega) h2 q2
      have o1 : sg p l < sg p m := by unfold sg; split <;> split <;> omega
      have o2 : sg p m < sg p h := by unfold sg; split <;> split <;> omega
      exact (HT_iff (by omega)).mpr ⟨sg p m, o1, o2, fits_sg hp f, e1, e2⟩
    · obtain rfl : h = l + 1 := by omega
      by_cases c2 : l = p
      · subst c2
        have e1 : sg l l = l := by unfold sg; rw [if_pos (Nat.le_refl _)]
        have e2 : sg l (l + 1) = l + 2 := by unfold sg; rw [if_neg (by omega)]
        rw [e1, e2]
        refine (HT_iff (by omega)).mpr ⟨l + 1, by omega, by omega, fits_iff.mpr ?_, HT_one (by omega), HT_one (by omega)⟩
        rw [put_lo hp (Nat.le_refl _), put_at hp, put_hi hp (by omega)]
        exact ⟨third_ne.1.symm, third_ne.2, (w.adj l hp).symm⟩
      · refine HT_one ?_
        unfold sg
        split <;> split <;> omega
/-- a word has a tree -/
abbrev HTw (cs : Wd) : Prop := HT cs 0 (cs.length - 1)
theorem HTw.put {cs : Wd} (w : IsW cs) {p : Nat} (hp : p + 1 < cs.length) (q : HTw cs) : HTw (put cs p) := by
  have z := HT_put w hp cs.length 0 (cs.length - 1) (by omega) (by omega) q
  have e1 : sg p 0 = 0 := by unfold sg; rw [if_pos (Nat.zero_le _)]
  have e2 : sg p (cs.length - 1) = (K54.put cs p).length - 1 := by unfold sg; rw [put_len hp, if_neg (by omega)]; omega
  rw [e1, e2] at z
  exact z

/-! a letter can be taken out, and the rest goes on -/
def opensB (cs : Wd) (i : Nat) : Bool := decide (lt cs (i - 1) ≠ lt cs (i + 1))
def opens (cs : Wd) : List Nat := (List.range (cs.length - 2)).filterMap fun k => if opensB cs (1 + k) = true then some (1 + k) else none
theorem mem_opens {cs : Wd} {i : Nat} : i ∈ opens cs ↔ 1 ≤ i ∧ i + 1 < cs.length ∧ lt cs (i - 1) ≠ lt cs (i + 1) := by
  unfold opens
  rw [List.mem_filterMap]
  constructor
  · rintro ⟨k, hk, e⟩
    have hk' := List.mem_range.mp hk
    by_cases c : opensB cs (1 + k) = true
    · rw [if_pos c] at e
      obtain rfl : 1 + k = i := Option.some.inj e
      exact ⟨by omega, by omega, of_decide_eq_true c⟩
    · rw [if_neg c] at e
      cases e
  · rintro ⟨h1, h2, h3⟩
    refine ⟨i - 1, List.mem_range.mpr (by omega), ?_⟩
    rw [show 1 + (i - 1) = i by omega, if_pos (show opensB cs i = true from decide_eq_true h3)]
structure Good (cs : Wd) : Prop where
  w : IsW cs
  ends : lt cs 0 ≠ lt cs (cs.length - 1)
  op : cs.length = 2 ∨ opens cs ≠ []
theorem HT_open {cs : Wd} : ∀ (k l h : Nat), h - l ≤ k → l + 1 < h → HT cs l h → ∃ i, l < i ∧ i < h ∧ lt cs (i - 1) ≠ lt cs (i + 1)
  | 0, l, h, hk, hl, _ => by omega
  | k + 1, l, h, hk, hl, q => by
    obtain ⟨m, h1, h2, f, q1, q2⟩ := (HT_iff hl).mp q
    by_cases c1 : l + 1 < m
    · obtain ⟨i, a, b, d⟩ := HT_open k l m (by omega) c1 q1
      exact ⟨i, a, by omega, d⟩
    · by_cases c2 : m + 1 < h
      · obtain ⟨i, a, b, d⟩ := HT_open k m h (by omega) c2 q2
        exact ⟨i, by omega, b, d⟩
      · obtain rfl : m = l + 1 := by omega
        obtain rfl : h = l + 1 + 1 := by omega
        exact ⟨l + 1, by omega, by omega, (fits_iff.mp f).2.2.symm⟩
theorem HTw.good {cs : Wd} (w : IsW cs) (q : HTw cs) : Good cs := by
  have h2 := w.two
  by_cases c : cs.length = 2
  · refine ⟨w, ?_, .inl c⟩
    rw [c]
    exact w.adj 0 (by omega)
  · obtain ⟨m, h1, h2, f, _⟩ := (HT_iff (by omega)).mp q
    refine ⟨w, (fits_iff.mp f).2.2.symm, .inr fun e => ?_⟩
    obtain ⟨i, a, b, d⟩ := HT_open cs.length 0 (cs.length - 1) (by omega) (by omega) q
    have : i ∈ opens cs := mem_opens.mpr ⟨by omega, by omega, d⟩
    rw [e] at this
    cases this
theorem lt_erase {cs : Wd} {i j : Nat} : lt (cs.eraseIdx i) j = if j < i then lt cs j else lt cs (j + 1) := by
  unfold lt
  rw [List.getD_eq_getElem?_getD, List.getElem?_eraseIdx]
  split
  · rw [List.getD_eq_getElem?_getD]
  · rw [List.getD_eq_getElem?_getD]
/-- a place that may be taken: the rest goes on -/
structure Takes (cs : Wd) (i : Nat) : Prop where
  lo : 1 ≤ i
  hi : i + 1 < cs.length
  ne : lt cs (i - 1) ≠ lt cs (i + 1)
  op : (cs.eraseIdx i).length = 2 ∨ opens (cs.eraseIdx i) ≠ []
theorem Good.take {cs : Wd} (g : Good cs) {i : Nat} (t : Takes cs i) : Good (cs.eraseIdx i) := by
  have hl : (cs.eraseIdx i).length = cs.length - 1 := List.length_eraseIdx_of_lt (by have := t.hi; omega)
  have h1 := t.lo
  have h2 := t.hi
  refine ⟨⟨by omega, fun c hc => g.w.abc c (List.mem_of_mem_eraseIdx hc), fun j hj => ?_⟩, ?_, t.op⟩
  · rw [lt_erase, lt_erase]
    by_cases c1 : j + 1 < i
    · rw [if_pos (by omega), if_pos c1]
      exact g.w.adj j (by omega)
    · rw [if_neg c1]
      by_cases c2 : j < i
      · rw [if_pos c2]
        obtain rfl : j = i - 1 := by omega
        rw [show i - 1 + 1 + 1 = i + 1 by omega]
        exact t.ne
      · rw [if_neg c2]
        exact g.w.adj (j + 1) (by omega)
  · rw [lt_erase, lt_erase, if_pos (by omega), if_neg (by omega), hl, show cs.length - 1 - 1 + 1 = cs.length - 1 by omega]
    exact g.ends
theorem opens_ne {cs : Wd} {i : Nat} (h1 : 1 ≤ i) (h2 : i + 1 < cs.length) (h3 : lt cs (i - 1) ≠ lt cs (i + 1)) : opens cs ≠ [] := fun e => by
  have : i ∈ opens cs := mem_opens.mpr ⟨h1, h2, h3⟩
  rw [e] at this
  cases this
theorem Good.some_take {cs : Wd} (g : Good cs) (h3 : 2 < cs.length) : ∃ i, Takes cs i := by
  have ho : opens cs ≠ [] := g.op.resolve_left (by omega)
  obtain ⟨i, hi⟩ := List.exists_mem_of_ne_nil _ ho
  obtain ⟨i1, i2, ne⟩ := mem_opens.mp hi
  have len : ∀ j, j < cs.length → (cs.eraseIdx j).length = cs.length - 1 := fun j hj => List.length_eraseIdx_of_lt hj
  by_cases c : (cs.eraseIdx i).length = 2 ∨ opens (cs.eraseIdx i) ≠ []
  · exact ⟨i, i1, i2, ne, c⟩
  · have c1 : (cs.eraseIdx i).length ≠ 2 := fun z => c (.inl z)
    have c2 : opens (cs.eraseIdx i) = [] := Classical.byContradiction fun z => c (.inr z)
    rw [len i (by omega)] at c1
    have h4 : 4 ≤ cs.length := by omega
    have same : ∀ j, j + 2 < cs.length - 1 → lt (cs.eraseIdx i) j = lt (cs.eraseIdx i) (j + 2) := fun j hj => Classical.byContradiction fun z => by
      have : j + 1 ∈ opens (cs.eraseIdx i) := mem_opens.mpr ⟨by omega, by rw [len i (by omega)]; omega, z⟩
      rw [c2] at this
      cases this
    have ag : lt cs (i - 1) ≠ lt cs i := by
      have := g.w.adj (i - 1) (by omega)
      rw [show i - 1 + 1 = i by omega] at this
      exact this
    have gb : lt cs i ≠ lt cs (i + 1) := g.w.adj i i2
    have f2 : i ≥ 2 → lt cs (i - 2) = lt cs (i + 1) := fun h => by
      have := same (i - 2) (by omega)
      rw [lt_erase, lt_erase, if_pos (by omega), if_neg (by omega), show i - 2 + 2 + 1 = i + 1 by omega] at this
      exact this
    have f3 : i + 2 < cs.length → lt cs (i + 2) = lt cs (i - 1) := fun h => by
      have := same (i - 1) (by omega)
      rw [lt_erase, lt_erase, if_pos (by omega), if_neg (by omega), show i - 1 + 2 + 1 = i + 2 by omega] at this
      exact this.symm
    have f4 : i ≥ 3 → lt cs (i - 3) = lt cs (i - 1) := fun h => by
      have := same (i - 3) (by omega)
      rw [lt_erase, lt_erase, if_pos (by omega), if_pos (by omega), show i - 3 + 2 = i - 1 by omega] at this
      exact this
    have f5 : i + 3 < cs.length → lt cs (i + 3) = lt cs (i + 1) := fun h => by
      have := same i (by omega)
      rw [lt_erase, lt_erase, if_neg (by omega), if_neg (by omega), show i + 2 + 1 = i + 3 by omega] at this
      exact this.symm
    by_cases d : i ≥ 2
    · have b2 := f2 d
      have tk : lt cs (i - 1 - 1) ≠ lt cs (i - 1 + 1) := by
        rw [show i - 1 - 1 = i - 2 by omega, show i - 1 + 1 = i by omega, b2]
        exact gb.symm
      by_cases d3 : i ≥ 3
      · refine ⟨i - 1, by omega, by omega, tk, .inr (opens_ne (i := i - 2) (by omega) (by rw [len _ (by omega)]; omega) ?_)⟩
        rw [lt_erase, lt_erase, if_pos (by omega), if_neg (by omega), show i - 2 - 1 = i - 3 by omega, show i - 2 + 1 + 1 = i by omega, f4 d3]
        exact ag
      · by_cases d4 : i + 2 < cs.length
        · refine ⟨i - 1, by omega, by omega, tk, .inr (opens_ne (i := i) (by omega) (by rw [len _ (by omega)]; omega) ?_)⟩
          rw [lt_erase, lt_erase, if_neg (by omega), if_neg (by omega), show i - 1 + 1 = i by omega, show i + 1 + 1 = i + 2 by omega, f3 d4]
          exact ag.symm
        · refine absurd ?_ g.ends
          have e0 : i - 2 = 0 := by omega
          rw [e0] at b2
          rw [b2, show cs.length - 1 = i + 1 by omega]
    · obtain rfl : i = 1 := by omega
      have d4 : 1 + 2 < cs.length := by omega
      have tk : lt cs (2 - 1) ≠ lt cs (2 + 1) := by
        have q := f3 d4
        rw [show 2 + 1 = 1 + 2 by omega, q]
        exact ag.symm
      by_cases d5 : 1 + 3 < cs.length
      · refine ⟨2, by omega, by omega, tk, .inr (opens_ne (i := 2) (by omega) (by rw [len _ (by omega)]; omega) ?_)⟩
        rw [lt_erase, lt_erase, if_pos (by omega), if_neg (by omega)]
        rw [show 2 + 1 + 1 = 1 + 3 by omega, f5 d5]
        exact gb
      · refine absurd ?_ g.ends
        rw [show cs.length - 1 = 1 + 2 by omega, f3 d4]
end K54

set_option linter.all false
namespace K54
/-! the rounds of a tree of least height -/
abbrev E4 := Nat × Nat × Nat × Nat
abbrev E4.w (e : E4) : Nat := e.1
abbrev E4.l (e : E4) : Nat := e.2.1
abbrev E4.m (e : E4) : Nat := e.2.2.1
abbrev E4.h (e : E4) : Nat := e.2.2.2
def isBm (cs : Wd) (l h m : Nat) : Bool := decide (cand cs (T cs) l h m = T cs l h)
def bm (cs : Wd) (l h : Nat) : Nat := (((List.range (h - l - 1)).map fun k => l + 1 + k).find? (isBm cs l h)).getD 0
theorem find_range {p : Nat → Bool} {m : Nat} : ∀ (k l : Nat), l < m → m < l + 1 + k → p m = true → (∀ j, l < j → j < m → p j = false) → ((List.range k).map fun j => l + 1 + j).find? p = some m
  | 0, l, h1, h2, _, _ => by omega
  | k + 1, l, h1, h2, hp, hn => by
    rw [List.range_succ_eq_map, List.map_cons, List.find?_cons, List.map_map]
    by_cases c : m = l + 1
    · subst c
      rw [show l + 1 + 0 = l + 1 from rfl, hp]
    · rw [show l + 1 + 0 = l + 1 from rfl, hn (l + 1) (by omega) (by omega)]
      have ih := find_range k (l + 1) (by omega) (by omega) hp fun j a b => hn j (by omega) b
      have e : ((fun j => l + 1 + j) ∘ Nat.succ) = fun j => l + 1 + 1 + j := by
        funext j
        show l + 1 + (j + 1) = l + 1 + 1 + j
        omega
      rw [e]
      exact ih
theorem bm_is {cs : Wd} {l h m : Nat} (h1 : l < m) (h2 : m < h) (hp : cand cs (T cs) l h m = T cs l h) (hn : ∀ j, l < j → j < m → cand cs (T cs) l h j ≠ T cs l h) : bm cs l h = m := by
  unfold bm
  rw [find_range (p := isBm cs l h) (m := m) (h - l - 1) l h1 (by omega) (decide_eq_true hp) fun j a b => decide_eq_false (hn j a b)]
  rfl
theorem bm_ok {cs : Wd} {l h v : Nat} (c : l + 1 < h) (e : T cs l h = some v) : l < bm cs l h ∧ bm cs l h < h ∧ cand cs (T cs) l h (bm cs l h) = some v := by
  obtain ⟨m, h1, h2, h3⟩ := T_best c e
  have key : ∃ x, ((List.range (h - l - 1)).map fun k => l + 1 + k).find? (isBm cs l h) = some x := by
    cases z : ((List.range (h - l - 1)).map fun k => l + 1 + k).find? (isBm cs l h) with
    | some x => exact ⟨x, rfl⟩
    | none =>
      have q := List.find?_eq_none.mp z m (List.mem_map.mpr ⟨m - l - 1, List.mem_range.mpr (by omega), by omega⟩)
      exact absurd (show isBm cs l h m = true from decide_eq_true (by rw [h3, e])) q
  obtain ⟨x, hx⟩ := key
  have e1 : bm cs l h = x := by
    unfold bm
    rw [hx]
    rfl
  have q1 := List.find?_some hx
  obtain ⟨k, hk, rfl⟩ := List.mem_map.mp (List.mem_of_find?_eq_some hx)
  have hk' := List.mem_range.mp hk
  rw [e1]
  exact ⟨by omega, by omega, (of_decide_eq_true q1).trans e⟩
def mq (cs : Wd) : Nat → Nat → Nat → Nat → List E4
  | 0, _, _, _ => []
  | f + 1, l, h, w => if h ≤ l + 1 then [] else (w, l, bm cs l h, h) :: (mq cs f l (bm cs l h) (w - 1) ++ mq cs f (bm cs l h) h (w - 1))
theorem mq_fuel (cs : Wd) : ∀ f g l h w, h - l ≤ f → h - l ≤ g → HT cs l h → mq cs f l h w = mq cs g l h w
  | 0, 0, _, _, _, _, _, _ => rfl
  | 0, g + 1, l, h, w, h1, _, _ => by
    show [] = if h ≤ l + 1 then [] else _
    rw [if_pos (by omega)]
  | f + 1, 0, l, h, w, _, h2, _ => by
    show (if h ≤ l + 1 then [] else _) = []
    rw [if_pos (by omega)]
  | f + 1, g + 1, l, h, w, h1, h2, q => by
    unfold mq
    by_cases c : h ≤ l + 1
    · rw [if_pos c, if_pos c]
    · rw [if_neg c, if_neg c]
      obtain ⟨v, e⟩ := Option.isSome_iff_exists.mp q
      obtain ⟨b1, b2, b3⟩ := bm_ok (by omega) e
      obtain ⟨_, x, y, ex, ey, _⟩ := cand_some.mp b3
      rw [mq_fuel cs f g l (bm cs l h) (w - 1) (by omega) (by omega) (by rw [HT, ex]; rfl), mq_fuel cs f g (bm cs l h) h (w - 1) (by omega) (by omega) (by rw [HT, ey]; rfl)]
def Mq (cs : Wd) (l h w : Nat) : List E4 := mq cs (h - l) l h w
theorem Mq_one {cs : Wd} {l h w : Nat} (c : h ≤ l + 1) : Mq cs l h w = [] := by
  unfold Mq
  cases e : h - l with
  | zero => rfl
  | succ f =>
    unfold mq
    rw [if_pos c]
theorem Mq_eq {cs : Wd} {l h w v : Nat} (c : l + 1 < h) (e : T cs l h = some v) : Mq cs l h w = (w, l, bm cs l h, h) :: (Mq cs l (bm cs l h) (w - 1) ++ Mq cs (bm cs l h) h (w - 1)) := by
  obtain ⟨b1, b2, b3⟩ := bm_ok c e
  obtain ⟨_, x, y, ex, ey, _⟩ := cand_some.mp b3
  unfold Mq
  obtain ⟨f, ef⟩ : ∃ f, h - l = f + 1 := ⟨h - l - 1, by omega⟩
  rw [ef]
  show (if h ≤ l + 1 then [] else (w, l, bm cs l h, h) :: (mq cs f l (bm cs l h) (w - 1) ++ mq cs f (bm cs l h) h (w - 1))) = _
  rw [if_neg (by omega), mq_fuel cs f (bm cs l h - l) l (bm cs l h) (w - 1) (by omega) (by omega) (by rw [HT, ex]; rfl), mq_fuel cs f (h - bm cs l h) (bm cs l h) h (w - 1) (by omega) (by omega) (by rw [HT, ey]; rfl)]
structure MQ (cs : Wd) (l h w : Nat) (L : List E4) : Prop where
  rng : ∀ e ∈ L, l ≤ e.l ∧ e.l < e.m ∧ e.m < e.h ∧ e.h ≤ h ∧ 1 ≤ e.w ∧ e.w ≤ w ∧ lt cs e.l ≠ lt cs e.h
  cov : ∀ p, l < p → p < h → ∃ e ∈ L, e.m = p
  uni : (L.map E4.m).Nodup
  ins : ∀ e ∈ L, ∀ e' ∈ L, e.l < e'.m → e'.m < e.h → e'.m ≠ e.m → e'.w < e.w
  lft : ∀ e ∈ L, e.l = l ∨ ∃ e' ∈ L, e'.m = e.l ∧ e.w < e'.w
  rgt : ∀ e ∈ L, e.h = h ∨ ∃ e' ∈ L, e'.m = e.h ∧ e.w < e'.w
  all : T cs l h = some w → ∀ j, 1 ≤ j → j ≤ w → ∃ e ∈ L, e.w = j
theorem MQ.nil {cs : Wd} {l h w : Nat} (c : h ≤ l + 1) : MQ cs l h w [] := by
  refine ⟨(fun e he => nomatch he), (fun p h1 h2 => by omega), List.nodup_nil, (fun e he => nomatch he), (fun e he => nomatch he), (fun e he => nomatch he), fun e j h1 h2 => ?_⟩
  rw [T_one c] at e
  have := Option.some.inj e
  omega
theorem MQ.node {cs : Wd} {l b h w x y : Nat} {A B : List E4} (hl : l < b) (hh : b < h) (hw : 1 ≤ w) (hf : lt cs l ≠ lt cs h) (a : MQ cs l b (w - 1) A) (c : MQ cs b h (w - 1) B)
    (ht : T cs l h = some w → T cs l b = some (w - 1) ∨ T cs b h = some (w - 1)) : MQ cs l h w ((w, l, b, h) :: (A ++ B)) := by
  have mem : ∀ {e : E4}, e ∈ (w, l, b, h) :: (A ++ B) → e = (w, l, b, h) ∨ e ∈ A ∨ e ∈ B := fun {e} he => by
    rcases List.mem_cons.mp he with q | q
    · exact .inl q
    · exact .inr (List.mem_append.mp q)
  have inA : ∀ {e : E4}, e ∈ A → e ∈ (w, l, b, h) :: (A ++ B) := fun q => List.mem_cons_of_mem _ (List.mem_append_left _ q)
  have inB : ∀ {e : E4}, e ∈ B → e ∈ (w, l, b, h) :: (A ++ B) := fun q => List.mem_cons_of_mem _ (List.mem_append_right _ q)
  refine ⟨fun e he => ?_, fun p h1 h2 => ?_, ?_, fun e he e' he' h1 h2 h3 => ?_, fun e he => ?_, fun e he => ?_, fun e j h1 h2 => ?_⟩
  · rcases mem he with rfl | q | q
    · exact ⟨Nat.le_refl _, hl, hh, Nat.le_refl _, hw, Nat.le_refl _, hf⟩
    · obtain ⟨z1, z2, z3, z4, z5, z6, z7⟩ := a.rng e q
      exact ⟨z1, z2, z3, by omega, z5, by omega, z7⟩
    · obtain ⟨z1, z2, z3, z4, z5, z6, z7⟩ := c.rng e q
      exact ⟨by omega, z2, z3, z4, z5, by omega, z7⟩
  · by_cases c1 : p < b
    · obtain ⟨e, he, q⟩ := a.cov p h1 c1
      exact ⟨e, inA he, q⟩
    · by_cases c2 : p = b
      · exact ⟨_, List.mem_cons_self, c2.symm⟩
      · obtain ⟨e, he, q⟩ := c.cov p (by omega) h2
        exact ⟨e, inB he, q⟩
  · rw [List.map_cons, List.map_append]
    refine List.nodup_cons.mpr ⟨fun hm => ?_, List.nodup_append.mpr ⟨a.uni, c.uni, fun p hp q hq => ?_⟩⟩
    · rcases List.mem_append.mp hm with hm | hm
      · obtain ⟨e, he, q⟩ := List.mem_map.mp hm
        have := a.rng e he
        have q : e.m = b := q
        omega
      · obtain ⟨e, he, q⟩ := List.mem_map.mp hm
        have := c.rng e he
        have q : e.m = b := q
        omega
    · obtain ⟨e, he, z⟩ := List.mem_map.mp hp
      obtain ⟨e', he', z'⟩ := List.mem_map.mp hq
      have := a.rng e he
      have := c.rng e' he'
      have z : e.m = p := z
      have z' : e'.m = q := z'
      omega
  · rcases mem he with rfl | q | q
    · rcases mem he' with rfl | q' | q'
      · exact absurd rfl h3
      · have := a.rng e' q'
        show e'.w < w
        omega
      · have := c.rng e' q'
        show e'.w < w
        omega
    · have r := a.rng e q
      rcases mem he' with rfl | q' | q'
      · have h2 : b < e.h := h2
        omega
      · exact a.ins e q e' q' h1 h2 h3
      · have r' := c.rng e' q'
        omega
    · have r := c.rng e q
      rcases mem he' with rfl | q' | q'
      · have h1 : e.l < b := h1
        omega
      · have r' := a.rng e' q'
        omega
      · exact c.ins e q e' q' h1 h2 h3
  · rcases mem he with rfl | q | q
    · exact .inl rfl
    · rcases a.lft e q with z | ⟨e', he', z⟩
      · exact .inl z
      · exact .inr ⟨e', inA he', z⟩
    · rcases c.lft e q with z | ⟨e', he', z⟩
      · have := c.rng e q
        exact .inr ⟨_, List.mem_cons_self, z.symm, by show e.w < w; omega⟩
      · exact .inr ⟨e', inB he', z⟩
  · rcases mem he with rfl | q | q
    · exact .inl rfl
    · rcases a.rgt e q with z | ⟨e', he', z⟩
      · have := a.rng e q
        exact .inr ⟨_, List.mem_cons_self, z.symm, by show e.w < w; omega⟩
      · exact .inr ⟨e', inA he', z⟩
    · rcases c.rgt e q with z | ⟨e', he', z⟩
      · exact .inl z
      · exact .inr ⟨e', inB he', z⟩
  · by_cases cj : j = w
    · exact ⟨_, List.mem_cons_self, cj.symm⟩
    · rcases ht e with z | z
      · obtain ⟨e', he', q⟩ := a.all z j h1 (by omega)
        exact ⟨e', inA he', q⟩
      · obtain ⟨e', he', q⟩ := c.all z j h1 (by omega)
        exact ⟨e', inB he', q⟩
theorem mq_ok (cs : Wd) : ∀ f l h w v, h - l ≤ f → T cs l h = some v → v ≤ w → MQ cs l h w (mq cs f l h w)
  | 0, l, h, w, v, hf, _, _ => MQ.nil (by omega)
  | f + 1, l, h, w, v, hf, e, hv => by
    unfold mq
    by_cases c : h ≤ l + 1
    · rw [if_pos c]
      exact MQ.nil c
    · rw [if_neg c]
      obtain ⟨b1, b2, b3⟩ := bm_ok (by omega) e
      obtain ⟨ft, x, y, ex, ey, ev⟩ := cand_some.mp b3
      have q1 := mq_ok cs f l (bm cs l h) (w - 1) x (by omega) ex (by omega)
      have q2 := mq_ok cs f (bm cs l h) h (w - 1) y (by omega) ey (by omega)
      refine MQ.node (x := x) (y := y) b1 b2 (by omega) (fits_iff.mp ft).2.2.symm q1 q2 fun z => ?_
      rw [e] at z
      obtain rfl := Option.some.inj z
      by_cases k : x ≤ y
      · refine .inr ?_
        rw [ey]
        exact congrArg some (by omega)
      · refine .inl ?_
        rw [ex]
        exact congrArg some (by omega)
theorem Mq_ok {cs : Wd} {l h w v : Nat} (e : T cs l h = some v) (hv : v ≤ w) : MQ cs l h w (Mq cs l h w) := mq_ok cs (h - l) l h w v (Nat.le_refl _) e hv

/-! lists that go up -/
def zipAll (r : Nat → Nat → Bool) (xs : List Nat) : Bool := (xs.zip xs.tail).all fun p => r p.1 p.2
theorem zipAll_cons2 (r : Nat → Nat → Bool) (a b : Nat) (s : List Nat) : zipAll r (a :: b :: s) = (r a b && zipAll r (b :: s)) := rfl
theorem zipAll_pw {r : Nat → Nat → Bool} (tr : ∀ a b c, r a b = true → r b c = true → r a c = true) : ∀ xs : List Nat, zipAll r xs = true ↔ xs.Pairwise (fun a b => r a b = true)
  | [] => ⟨fun _ => .nil, fun _ => rfl⟩
  | [a] => ⟨fun _ => List.pairwise_singleton _ _, fun _ => rfl⟩
  | a :: b :: s => by
    rw [zipAll_cons2, Bool.and_eq_true, zipAll_pw tr (b :: s)]
    constructor
    · rintro ⟨h1, h2⟩
      refine List.pairwise_cons.mpr ⟨fun c hc => ?_, h2⟩
      rcases List.mem_cons.mp hc with rfl | hc
      · exact h1
      · exact tr a b c h1 ((List.pairwise_cons.mp h2).1 c hc)
    · intro h
      exact ⟨(List.pairwise_cons.mp h).1 b List.mem_cons_self, (List.pairwise_cons.mp h).2⟩
def ascB (xs : List Nat) : Bool := zipAll (fun a b => decide (a < b)) xs
def farB (xs : List Nat) : Bool := zipAll (fun a b => decide (a + 2 ≤ b)) xs
theorem ascB_iff {xs : List Nat} : ascB xs = true ↔ xs.Pairwise (· < ·) := by
  unfold ascB
  rw [zipAll_pw (r := fun a b => decide (a < b)) fun a b c h1 h2 => decide_eq_true (Nat.lt_trans (of_decide_eq_true h1) (of_decide_eq_true h2))]
  simp
theorem farB_iff {xs : List Nat} : farB xs = true ↔ xs.Pairwise (fun a b => a + 2 ≤ b) := by
  unfold farB
  rw [zipAll_pw (r := fun a b => decide (a + 2 ≤ b)) fun a b c h1 h2 => decide_eq_true (by have := of_decide_eq_true h1; have := of_decide_eq_true h2; omega)]
  simp
theorem asc_ext : ∀ {a b : List Nat}, a.Pairwise (· < ·) → b.Pairwise (· < ·) → (∀ x, x ∈ a ↔ x ∈ b) → a = b
  | [], [], _, _, _ => rfl
  | [], y :: s, _, _, h => nomatch (h y).mpr List.mem_cons_self
  | x :: r, [], _, _, h => nomatch (h x).mp List.mem_cons_self
  | x :: r, y :: s, h1, h2, h => by
    obtain ⟨a1, a2⟩ := List.pairwise_cons.mp h1
    obtain ⟨b1, b2⟩ := List.pairwise_cons.mp h2
    have e : x = y := by
      rcases List.mem_cons.mp ((h x).mp List.mem_cons_self) with q | q
      · exact q
      · rcases List.mem_cons.mp ((h y).mpr List.mem_cons_self) with p | p
        · exact p.symm
        · have := a1 y p
          have := b1 x q
          omega
    subst e
    refine congrArg _ (asc_ext a2 b2 fun z => ⟨fun hz => ?_, fun hz => ?_⟩)
    · rcases List.mem_cons.mp ((h z).mp (List.mem_cons_of_mem _ hz)) with q | q
      · have := a1 z hz
        omega
      · exact q
    · rcases List.mem_cons.mp ((h z).mpr (List.mem_cons_of_mem _ hz)) with q | q
      · have := b1 z hz
        omega
      · exact q
/-! places in a list that goes up -/
theorem asc_lt {xs : List Nat} (h : xs.Pairwise (· < ·)) {i j : Nat} (hij : i < j) (hj : j < xs.length) : lt xs i < lt xs j := by
  have e1 := get_lt (cs := xs) (i := i) (by omega)
  have e2 := get_lt (cs := xs) (i := j) hj
  rw [List.getElem?_eq_getElem (by omega)] at e1 e2
  have := List.pairwise_iff_getElem.mp h i j (by omega) hj hij
  rw [Option.some.inj e1, Option.some.inj e2] at this
  exact this
theorem asc_lt_iff {xs : List Nat} (h : xs.Pairwise (· < ·)) {i j : Nat} (hi : i < xs.length) (hj : j < xs.length) : lt xs i < lt xs j ↔ i < j := by
  refine ⟨fun q => ?_, fun q => asc_lt h q hj⟩
  by_cases c : i < j
  · exact c
  · by_cases c2 : i = j
    · subst c2; omega
    · have := asc_lt h (show j < i by omega) hi
      omega
theorem asc_inj {xs : List Nat} (h : xs.Pairwise (· < ·)) {i j : Nat} (hi : i < xs.length) (hj : j < xs.length) (e : lt xs i = lt xs j) : i = j := by
  have a := asc_lt_iff h hi hj
  have b := asc_lt_iff h hj hi
  omega
theorem idx_lt {xs : List Nat} {p : Nat} (h : p ∈ xs) : xs.idxOf p < xs.length := List.idxOf_lt_length_iff.mpr h
theorem lt_idx {xs : List Nat} {p : Nat} (h : p ∈ xs) : lt xs (xs.idxOf p) = p := lt_of (by rw [List.getElem?_eq_getElem (idx_lt h), List.getElem_idxOf])
theorem lt_mem {xs : List Nat} {i : Nat} (h : i < xs.length) : lt xs i ∈ xs := List.mem_of_getElem? (get_lt h)
theorem idx_of {xs : List Nat} (h : xs.Pairwise (· < ·)) {i p : Nat} (hi : i < xs.length) (e : lt xs i = p) : xs.idxOf p = i := by
  have hm : p ∈ xs := e ▸ lt_mem hi
  exact asc_inj h (idx_lt hm) hi ((lt_idx hm).trans e.symm)

/-! the two judges -/
def okB (cs : Wd) (left sm : List Nat) (p : Nat) : Bool :=
  decide (0 < left.idxOf p) && decide (left.idxOf p + 1 < left.length) && !decide (lt cs (lt left (left.idxOf p - 1)) = lt cs (lt left (left.idxOf p + 1))) && !decide (lt left (left.idxOf p - 1) ∈ sm) && !decide (lt left (left.idxOf p + 1) ∈ sm)
def keep (left sm : List Nat) : List Nat := left.filter fun p => !decide (p ∈ sm)
def inB (left sm : List Nat) : Bool := sm.all fun p => decide (p ∈ left)
def lrStep (cs : Wd) (left sm : List Nat) : Bool := ascB sm && !decide (sm = []) && inB left sm && sm.all (okB cs left sm)
def lr (cs : Wd) : List (List Nat) → List Nat → Bool
  | [], left => decide (left.length = 2)
  | sm :: r, left => lrStep cs left sm && lr cs r (keep left sm)
def rngB (cs : Wd) (sm : List Nat) : Bool := sm.all fun p => decide (1 ≤ p ∧ p + 2 ≤ cs.length)
def unB (cs : Wd) (left sm : List Nat) : Bool := sm.all fun p => !decide (lt cs (lt left (left.idxOf p - 1)) = lt cs (lt left (left.idxOf p + 1)))
def srStep (cs : Wd) (left sm : List Nat) : Bool := rngB cs sm && !decide (sm = []) && ascB sm && inB left sm && farB (sm.map left.idxOf) && unB cs left sm
def sr (cs : Wd) : List (List Nat) → List Nat → Bool
  | [], left => decide (left.length = 2)
  | sm :: r, left => srStep cs left sm && sr cs r (keep left sm)
structure LInv (n : Nat) (left : List Nat) : Prop where
  two : 2 ≤ n
  asc : left.Pairwise (· < ·)
  lo : 0 ∈ left
  hi : n - 1 ∈ left
  le : ∀ x ∈ left, x ≤ n - 1
theorem LInv.first {n : Nat} {left : List Nat} (L : LInv n left) {p : Nat} (h : p ∈ left) : 0 < left.idxOf p ↔ 1 ≤ p := by
  have a := asc_lt_iff L.asc (idx_lt L.lo) (idx_lt h)
  rw [lt_idx L.lo, lt_idx h] at a
  have z : left.idxOf 0 = 0 := by
    by_cases c : left.idxOf 0 = 0
    · exact c
    · have := asc_lt L.asc (show 0 < left.idxOf 0 by omega) (idx_lt L.lo)
      rw [lt_idx L.lo] at this
      omega
  rw [z] at a
  omega
theorem LInv.last {n : Nat} {left : List Nat} (L : LInv n left) {p : Nat} (h : p ∈ left) : left.idxOf p + 1 < left.length ↔ p + 2 ≤ n := by
  have a := asc_lt_iff L.asc (idx_lt h) (idx_lt L.hi)
  rw [lt_idx L.hi, lt_idx h] at a
  have z : left.idxOf (n - 1) + 1 = left.length := by
    have hl := idx_lt L.hi
    by_cases c : left.idxOf (n - 1) + 1 = left.length
    · exact c
    · have := asc_lt L.asc (show left.idxOf (n - 1) < left.length - 1 by omega) (by omega)
      rw [lt_idx L.hi] at this
      have := L.le _ (lt_mem (show left.length - 1 < left.length by omega))
      omega
  have := L.two
  have := L.le p h
  omega
theorem step_eq {cs : Wd} {left sm : List Nat} (L : LInv cs.length left) : srStep cs left sm = lrStep cs left sm := by
  rw [Bool.eq_iff_iff]
  unfold srStep lrStep
  simp only [Bool.and_eq_true, ascB_iff, farB_iff, inB, rngB, unB, List.all_eq_true, decide_eq_true_eq, okB, Bool.not_eq_true', decide_eq_false_iff_not]
  constructor
  · rintro ⟨⟨⟨⟨⟨h1, h2⟩, h3⟩, h4⟩, h5⟩, h6⟩
    refine ⟨⟨⟨h3, h2⟩, h4⟩, fun p hp => ?_⟩
    have hl := h4 p hp
    have far : ∀ q ∈ sm, p < q → left.idxOf p + 2 ≤ left.idxOf q := fun q hq hpq => by
      obtain ⟨i, hi, ei⟩ := List.getElem_of_mem hp
      obtain ⟨j, hj, ej⟩ := List.getElem_of_mem hq
      have hij : i < j := by
        by_cases c : i < j
        · exact c
        · by_cases c2 : i = j
          · subst c2; omega
          · have := List.pairwise_iff_getElem.mp h3 j i hj hi (by omega)
            omega
      have := List.pairwise_iff_getElem.mp h5 i j (by rw [List.length_map]; exact hi) (by rw [List.length_map]; exact hj) hij
      rw [List.getElem_map, List.getElem_map, ei, ej] at this
      exact this
    have far' : ∀ q ∈ sm, q < p → left.idxOf q + 2 ≤ left.idxOf p := fun q hq hpq => by
      obtain ⟨i, hi, ei⟩ := List.getElem_of_mem hq
      obtain ⟨j, hj, ej⟩ := List.getElem_of_mem hp
      have hij : i < j := by
        by_cases c : i < j
        · exact c
        · by_cases c2 : i = j
          · subst c2; omega
          · have := List.pairwise_iff_getElem.mp h3 j i hj hi (by omega)
            omega
      have := List.pairwise_iff_getElem.mp h5 i j (by rw [List.length_map]; exact hi) (by rw [List.length_map]; exact hj) hij
      rw [List.getElem_map, List.getElem_map, ei, ej] at this
      exact this
    have a1 := (L.first hl).mpr (h1 p hp).1
    have a2 := (L.last hl).mpr (h1 p hp).2
    refine ⟨⟨⟨⟨a1, a2⟩, h6 p hp⟩, fun z => ?_⟩, fun z => ?_⟩
    · have lt1 := asc_lt L.asc (show left.idxOf p - 1 < left.idxOf p by omega) (idx_lt hl)
      rw [lt_idx hl] at lt1
      have := far' _ z lt1
      rw [idx_of L.asc (i := left.idxOf p - 1) (by omega) rfl] at this
      omega
    · have lt1 := asc_lt L.asc (show left.idxOf p < left.idxOf p + 1 by omega) a2
      rw [lt_idx hl] at lt1
      have := far _ z lt1
      rw [idx_of L.asc (i := left.idxOf p + 1) a2 rfl] at this
      omega
  · rintro ⟨⟨⟨h3, h2⟩, h4⟩, h5⟩
    refine ⟨⟨⟨⟨⟨fun p hp => ?_, h2⟩, h3⟩, h4⟩, ?_⟩, fun p hp => (h5 p hp).1.1.2⟩
    · have q := h5 p hp
      exact ⟨(L.first (h4 p hp)).mp q.1.1.1.1, (L.last (h4 p hp)).mp q.1.1.1.2⟩
    · refine List.pairwise_map.mpr (List.Pairwise.imp_of_mem (fun {p q} hp hq hpq => ?_) h3)
      have a := (asc_lt_iff L.asc (idx_lt (h4 p hp)) (idx_lt (h4 q hq))).mp (by rw [lt_idx (h4 p hp), lt_idx (h4 q hq)]; exact hpq)
      by_cases c : left.idxOf q = left.idxOf p + 1
      · refine absurd ?_ (h5 p hp).2
        rw [← c, lt_idx (h4 q hq)]
        exact hq
      · omega
theorem LInv.keep {cs : Wd} {left sm : List Nat} (L : LInv cs.length left) (h : srStep cs left sm = true) : LInv cs.length (keep left sm) := by
  unfold srStep at h
  simp only [Bool.and_eq_true, rngB, List.all_eq_true, decide_eq_true_eq] at h
  have hr := h.1.1.1.1.1
  have t := L.two
  refine ⟨t, L.asc.filter _, List.mem_filter.mpr ⟨L.lo, ?_⟩, List.mem_filter.mpr ⟨L.hi, ?_⟩, fun x hx => L.le x (List.mem_filter.mp hx).1⟩
  · rw [decide_eq_false (fun z => by have := hr _ z; omega)]
    rfl
  · rw [decide_eq_false (fun z => by have := hr _ z; omega)]
    rfl
theorem sr_eq {cs : Wd} : ∀ (vs : List (List Nat)) {left : List Nat}, LInv cs.length left → sr cs vs left = lr cs vs left
  | [], _, _ => rfl
  | sm :: r, left, L => by
    show (srStep cs left sm && sr cs r (keep left sm)) = (lrStep cs left sm && lr cs r (keep left sm))
    rw [← step_eq L]
    cases h : srStep cs left sm with
    | false => rfl
    | true => rw [sr_eq r (L.keep h)]
theorem LInv.range {n : Nat} (h : 2 ≤ n) : LInv n (List.range n) :=
  ⟨h, List.pairwise_lt_range, List.mem_range.mpr (by omega), List.mem_range.mpr (by omega), fun x hx => by have := List.mem_range.mp hx; omega⟩

/-! the rounds are judged good -/
def sel (j : Nat) (L : List E4) : List Nat := L.filterMap fun e => if e.w = j then some e.m else none
theorem mem_sel {j p : Nat} {L : List E4} : p ∈ sel j L ↔ ∃ e ∈ L, e.w = j ∧ e.m = p := by
  unfold sel
  rw [List.mem_filterMap]
  constructor
  · rintro ⟨e, he, q⟩
    by_cases c : e.w = j
    · rw [if_pos c] at q
      exact ⟨e, he, c, Option.some.inj q⟩
    · rw [if_neg c] at q
      cases q
  · rintro ⟨e, he, c, q⟩
    exact ⟨e, he, by rw [if_pos c, q]⟩
theorem sel_nodup {j : Nat} : ∀ {L : List E4}, (L.map E4.m).Nodup → (sel j L).Nodup
  | [], _ => List.nodup_nil
  | e :: r, h => by
    rw [List.map_cons] at h
    obtain ⟨h1, h2⟩ := List.nodup_cons.mp h
    have ih := sel_nodup (j := j) h2
    by_cases c : e.w = j
    · have q : sel j (e :: r) = e.m :: sel j r := by
        unfold sel
        rw [List.filterMap_cons, if_pos c]
      rw [q]
      refine List.nodup_cons.mpr ⟨fun z => ?_, ih⟩
      obtain ⟨e', he', _, z⟩ := mem_sel.mp z
      exact h1 (List.mem_map.mpr ⟨e', he', z⟩)
    · have q : sel j (e :: r) = sel j r := by
        unfold sel
        rw [List.filterMap_cons, if_neg c]
      rw [q]
      exact ih
theorem map_inj_of {L : List E4} (h : (L.map E4.m).Nodup) {a b : E4} (ha : a ∈ L) (hb : b ∈ L) (e : a.m = b.m) : a = b := by
  obtain ⟨i, hi, ei⟩ := List.getElem_of_mem ha
  obtain ⟨j, hj, ej⟩ := List.getElem_of_mem hb
  have : i = j := (List.getElem_inj (h₀ := by rw [List.length_map]; exact hi) (h₁ := by rw [List.length_map]; exact hj) h).mp (by rw [List.getElem_map, List.getElem_map, ei, ej]; exact e)
  subst this
  rw [← ei, ← ej]
/-- survives j rounds -/
def sv (n : Nat) (L : List E4) (j p : Nat) : Bool := decide (p = 0) || decide (p = n - 1) || L.any fun e => decide (e.m = p) && decide (j < e.w)
def lf (n : Nat) (L : List E4) (j : Nat) : List Nat := (List.range n).filter (sv n L j)
theorem mem_lf {n j p : Nat} {L : List E4} : p ∈ lf n L j ↔ p < n ∧ (p = 0 ∨ p = n - 1 ∨ ∃ e ∈ L, e.m = p ∧ j < e.w) := by
  unfold lf sv
  rw [List.mem_filter, List.mem_range]
  simp only [Bool.or_eq_true, decide_eq_true_eq, List.any_eq_true, Bool.and_eq_true, or_assoc]
theorem lf_asc {n j : Nat} {L : List E4} : (lf n L j).Pairwise (· < ·) := List.pairwise_lt_range.filter _
theorem neigh {left : List Nat} (h : left.Pairwise (· < ·)) {a b : Nat} (ha : a ∈ left) (hb : b ∈ left) (hab : a < b) (hn : ∀ x ∈ left, a < x → ¬ x < b) : left.idxOf b = left.idxOf a + 1 := by
  have q := (asc_lt_iff h (idx_lt ha) (idx_lt hb)).mp (by rw [lt_idx ha, lt_idx hb]; exact hab)
  by_cases c : left.idxOf b = left.idxOf a + 1
  · exact c
  · have hb' := idx_lt hb
    have h1 := asc_lt h (show left.idxOf a < left.idxOf a + 1 by omega) (by omega)
    have h2 := asc_lt h (show left.idxOf a + 1 < left.idxOf b by omega) hb'
    rw [lt_idx ha] at h1
    rw [lt_idx hb] at h2
    exact absurd h2 (hn _ (lt_mem (by omega)) h1)
theorem lr_rounds {cs : Wd} {n M : Nat} {L : List E4} (hn : cs.length = n) (h2 : 2 ≤ n) (hT : T cs 0 (n - 1) = some M) (q : MQ cs 0 (n - 1) M L) :
    ∀ (vs : List (List Nat)) (j : Nat), j + vs.length = M → (∀ (k : Nat) (sm : List Nat), vs[k]? = some sm → sm.Pairwise (· ≤ ·) ∧ sm.Perm (sel (j + k + 1) L)) → lr cs vs (lf n L j) = true
  | [], j, hj, _ => by
    have e : lf n L j = [0, n - 1] := asc_ext lf_asc (by simp; omega) fun x => by
      rw [mem_lf]
      constructor
      · rintro ⟨_, h⟩
        rcases h with h | h | ⟨e, he, _, h⟩
        · simp [h]
        · simp [h]
        · have := q.rng e he
          have hj : j = M := hj
          omega
      · intro h
        simp at h
        omega
    rw [e]
    rfl
  | sm :: r, j, hj, hv => by
    obtain ⟨h1, h3⟩ := hv 0 sm rfl
    have hjl : j + (r.length + 1) = M := hj
    have mem : ∀ p, p ∈ sm ↔ ∃ e ∈ L, e.w = j + 1 ∧ e.m = p := fun p => by
      rw [h3.mem_iff]
      exact mem_sel
    have asc : sm.Pairwise (· < ·) := by
      have nd : sm.Nodup := h3.nodup_iff.mpr (sel_nodup q.uni)
      exact (h1.and nd).imp fun {a b} z => Nat.lt_of_le_of_ne z.1 z.2
    have ne : sm ≠ [] := fun z => by
      obtain ⟨e, he, ew⟩ := q.all hT (j + 1) (by omega) (by omega)
      have : e.m ∈ sm := (mem _).mpr ⟨e, he, ew, rfl⟩
      rw [z] at this
      cases this
    have inl : ∀ p ∈ sm, p ∈ lf n L j := fun p hp => by
      obtain ⟨e, he, ew, em⟩ := (mem p).mp hp
      have := q.rng e he
      exact mem_lf.mpr ⟨by omega, .inr (.inr ⟨e, he, em, by omega⟩)⟩
    have step : lrStep cs (lf n L j) sm = true := by
      unfold lrStep
      simp only [Bool.and_eq_true, ascB_iff, inB, List.all_eq_true, decide_eq_true_eq, okB, Bool.not_eq_true', decide_eq_false_iff_not]
      refine ⟨⟨⟨asc, ne⟩, inl⟩, fun p hp => ?_⟩
      obtain ⟨e, he, ew, rfl⟩ := (mem p).mp hp
      have r := q.rng e he
      have uq : ∀ e' ∈ L, e'.m = e.m → e' = e := fun e' he' z => map_inj_of q.uni he' he z
      have il : e.l ∈ lf n L j := by
        rcases q.lft e he with z | ⟨e', he', z1, z2⟩
        · exact mem_lf.mpr ⟨by omega, .inl z⟩
        · exact mem_lf.mpr ⟨by omega, .inr (.inr ⟨e', he', z1, by omega⟩)⟩
      have ih : e.h ∈ lf n L j := by
        rcases q.rgt e he with z | ⟨e', he', z1, z2⟩
        · exact mem_lf.mpr ⟨by omega, .inr (.inl z)⟩
        · exact mem_lf.mpr ⟨by omega, .inr (.inr ⟨e', he', z1, by omega⟩)⟩
      have ip := inl _ hp
      have btw : ∀ x ∈ lf n L j, e.l < x → x < e.h → x = e.m := fun x hx a b => by
        obtain ⟨_, h⟩ := mem_lf.mp hx
        rcases h with h | h | ⟨e', he', z1, z2⟩
        · omega
        · omega
        · by_cases c : x = e.m
          · exact c
          · have := q.ins e he e' he' (by rw [z1]; exact a) (by rw [z1]; exact b) (by rw [z1]; exact c)
            omega
      have n1 := neigh lf_asc il ip r.2.1 fun x hx a b => by
        have := btw x hx a (by omega)
        omega
      have n2 := neigh lf_asc ip ih r.2.2.1 fun x hx a b => by
        have := btw x hx (by omega) b
        omega
      have w1 : lt (lf n L j) ((lf n L j).idxOf e.m - 1) = e.l := by
        rw [n1, Nat.add_sub_cancel]
        exact lt_idx il
      have w2 : lt (lf n L j) ((lf n L j).idxOf e.m + 1) = e.h := by
        rw [← n2]
        exact lt_idx ih
      have hlast := idx_lt ih
      refine ⟨⟨⟨⟨by omega, by omega⟩, ?_⟩, fun z => ?_⟩, fun z => ?_⟩
      · rw [w1, w2]
        exact r.2.2.2.2.2.2
      · rw [w1] at z
        obtain ⟨e', he', ew', em'⟩ := (mem _).mp z
        rcases q.lft e he with y | ⟨e2, he2, y1, y2⟩
        · have := q.rng e' he'
          omega
        · have := map_inj_of q.uni he' he2 (em'.trans y1.symm)
          subst this
          omega
      · rw [w2] at z
        obtain ⟨e', he', ew', em'⟩ := (mem _).mp z
        rcases q.rgt e he with y | ⟨e2, he2, y1, y2⟩
        · have := q.rng e' he'
          omega
        · have := map_inj_of q.uni he' he2 (em'.trans y1.symm)
          subst this
          omega
    have kp : keep (lf n L j) sm = lf n L (j + 1) := asc_ext (lf_asc.filter _) lf_asc fun x => by
      unfold keep
      rw [List.mem_filter, mem_lf, mem_lf]
      simp only [Bool.not_eq_true', decide_eq_false_iff_not, mem]
      constructor
      · rintro ⟨⟨a, h⟩, b⟩
        refine ⟨a, ?_⟩
        rcases h with h | h | ⟨e, he, z1, z2⟩
        · exact .inl h
        · exact .inr (.inl h)
        · refine .inr (.inr ⟨e, he, z1, ?_⟩)
          by_cases c : e.w = j + 1
          · exact absurd ⟨e, he, c, z1⟩ b
          · omega
      · rintro ⟨a, h⟩
        refine ⟨⟨a, ?_⟩, ?_⟩
        · rcases h with h | h | ⟨e, he, z1, z2⟩
          · exact .inl h
          · exact .inr (.inl h)
          · exact .inr (.inr ⟨e, he, z1, by omega⟩)
        · rintro ⟨e', he', z1, z2⟩
          have r := q.rng e' he'
          rcases h with h | h | ⟨e, he, y1, y2⟩
          · omega
          · omega
          · have := map_inj_of q.uni he' he (z2.trans y1.symm)
            subst this
            omega
    show (lrStep cs (lf n L j) sm && lr cs r (keep (lf n L j) sm)) = true
    rw [step, kp, Bool.true_and]
    refine lr_rounds hn h2 hT q r (j + 1) (by omega) fun k s hk => ?_
    have := hv (k + 1) s (by simpa using hk)
    rw [show j + 1 + k + 1 = j + (k + 1) + 1 by omega]
    exact this
theorem lf_zero {cs : Wd} {n M : Nat} {L : List E4} (h2 : 2 ≤ n) (q : MQ cs 0 (n - 1) M L) : lf n L 0 = List.range n := asc_ext lf_asc List.pairwise_lt_range fun x => by
  rw [mem_lf, List.mem_range]
  refine ⟨fun z => z.1, fun z => ⟨z, ?_⟩⟩
  by_cases c1 : x = 0
  · exact .inl c1
  · by_cases c2 : x = n - 1
    · exact .inr (.inl c2)
    · obtain ⟨e, he, em⟩ := q.cov x (by omega) (by omega)
      have := q.rng e he
      exact .inr (.inr ⟨e, he, em, by omega⟩)
/-- what rounds gives is judged good -/
theorem rounds_good {cs : Wd} {M : Nat} (h2 : 2 ≤ cs.length) (hT : T cs 0 (cs.length - 1) = some M) {vs : List (List Nat)} (hl : vs.length = M)
    (hv : ∀ (k : Nat) (sm : List Nat), vs[k]? = some sm → sm.Pairwise (· ≤ ·) ∧ sm.Perm (sel (k + 1) (Mq cs 0 (cs.length - 1) M))) : lr cs vs (List.range cs.length) = true := by
  have q := Mq_ok hT (Nat.le_refl M)
  rw [← lf_zero h2 q]
  refine lr_rounds rfl h2 hT q vs 0 (by omega) fun k sm h => ?_
  rw [Nat.zero_add]
  exact hv k sm h
end K54

set_option linter.all false
namespace K54
/-! a tree that is taken down letter by letter -/
abbrev C3 := Nat × Nat × Nat
def Cov (F : List C3) (a b : Nat) : Prop := b = a + 1 ∨ ∃ x, (a, x, b) ∈ F
theorem Cov.mono {F G : List C3} {a b : Nat} (h : ∀ c ∈ F, c ∈ G) (c : Cov F a b) : Cov G a b := c.imp id fun ⟨x, hx⟩ => ⟨x, h _ hx⟩
structure TI (n : Nat) (left : List Nat) (F : List C3) : Prop where
  inv : LInv n left
  cor : ∀ c ∈ F, c.1 < c.2.1 ∧ c.2.1 < c.2.2 ∧ c.2.2 ≤ n - 1 ∧ Cov F c.1 c.2.1 ∧ Cov F c.2.1 c.2.2 ∧ ∀ x ∈ left, c.1 < x → ¬ x < c.2.2
  uni : F.Pairwise fun c d => ¬ (c.1 = d.1 ∧ c.2.2 = d.2.2)
  adj : ∀ i, i + 1 < left.length → Cov F (lt left i) (lt left (i + 1))
theorem lt_range {n i : Nat} (h : i < n) : lt (List.range n) i = i := lt_of (by rw [List.getElem?_range h])
theorem TI.start {n : Nat} (h : 2 ≤ n) : TI n (List.range n) [] := by
  refine ⟨LInv.range h, (fun c hc => nomatch hc), .nil, fun i hi => .inl ?_⟩
  rw [List.length_range] at hi
  rw [lt_range hi, lt_range (by omega)]
theorem LInv.ends {n : Nat} {left : List Nat} (L : LInv n left) : lt left 0 = 0 ∧ lt left (left.length - 1) = n - 1 ∧ 2 ≤ left.length := by
  have t := L.two
  have a := idx_lt L.lo
  have b := idx_lt L.hi
  have z1 : left.idxOf 0 = 0 := by
    have := L.first L.lo
    omega
  have z2 : left.idxOf (n - 1) + 1 = left.length := by
    have := L.last L.hi
    omega
  have e1 := lt_idx L.lo
  have e2 := lt_idx L.hi
  rw [z1] at e1
  refine ⟨e1, by rw [← e2]; exact congrArg _ (by omega), ?_⟩
  by_cases c : left.idxOf (n - 1) = 0
  · rw [c, e1] at e2
    omega
  · omega
theorem TI.step {n : Nat} {left : List Nat} {F : List C3} (I : TI n left F) {i : Nat} (h1 : 1 ≤ i) (h2 : i + 1 < left.length) :
    TI n (left.eraseIdx i) (F ++ [(lt left (i - 1), lt left i, lt left (i + 1))]) := by
  have L := I.inv
  have nd : left.Nodup := L.asc.imp fun {a b} q => Nat.ne_of_lt q
  have sub : ∀ x ∈ left.eraseIdx i, x ∈ left := fun x hx => List.mem_of_mem_eraseIdx hx
  have len : (left.eraseIdx i).length = left.length - 1 := List.length_eraseIdx_of_lt (by omega)
  have gone : lt left i ∉ left.eraseIdx i := fun hm => by
    obtain ⟨j, hj, ej⟩ := List.getElem_of_mem hm
    have e : lt (left.eraseIdx i) j = lt left i := lt_of (by rw [List.getElem?_eq_getElem hj, ej])
    rw [len] at hj
    rw [lt_erase] at e
    by_cases c : j < i
    · rw [if_pos c] at e
      have := asc_inj L.asc (by omega) (by omega) e
      omega
    · rw [if_neg c] at e
      have := asc_inj L.asc (by omega) (by omega) e
      omega
  have a1 : lt left (i - 1) < lt left i := asc_lt L.asc (by omega) (by omega)
  have a2 : lt left i < lt left (i + 1) := asc_lt L.asc (by omega) h2
  have inF : ∀ c ∈ F, c ∈ F ++ [(lt left (i - 1), lt left i, lt left (i + 1))] := fun c hc => List.mem_append_left _ hc
  have last := L.ends
  have keepm : ∀ {x j : Nat}, lt left j = x → j < left.length → j ≠ i → x ∈ left.eraseIdx i := fun {x j} e hj hne => by
    have q : lt (left.eraseIdx i) (if j < i then j else j - 1) = x := by
      rw [lt_erase]
      by_cases c : j < i
      · rw [if_pos c, if_pos c]; exact e
      · rw [if_neg c, if_neg (by omega), show j - 1 + 1 = j by omega]; exact e
    rw [← q]
    refine lt_mem ?_
    rw [len]
    by_cases c : j < i
    · rw [if_pos c]; omega
    · rw [if_neg c]; omega
  refine ⟨⟨L.two, List.Pairwise.sublist (List.eraseIdx_sublist ..) L.asc, keepm last.1 (by omega) (by omega), keepm last.2.1 (by omega) (by omega), fun x hx => L.le x (sub x hx)⟩, fun c hc => ?_, ?_, fun j hj => ?_⟩
  · rcases List.mem_append.mp hc with q | q
    · obtain ⟨z1, z2, z3, z4, z5, z6⟩ := I.cor c q
      exact ⟨z1, z2, z3, z4.mono inF, z5.mono inF, fun x hx => z6 x (sub x hx)⟩
    · obtain rfl := List.mem_singleton.mp q
      refine ⟨a1, a2, L.le _ (lt_mem h2), ?_, ?_, fun x hx b1 b2 => ?_⟩
      · have := I.adj (i - 1) (by omega)
        rw [show i - 1 + 1 = i by omega] at this
        exact this.mono inF
      · exact (I.adj i h2).mono inF
      · obtain ⟨j, hj, ej⟩ := List.getElem_of_mem (sub x hx)
        have e : lt left j = x := lt_of (by rw [List.getElem?_eq_getElem hj, ej])
        have b1 : lt left (i - 1) < x := b1
        have b2 : x < lt left (i + 1) := b2
        rw [← e] at b1 b2
        have c1 := (asc_lt_iff L.asc (by omega) hj).mp b1
        have c2 := (asc_lt_iff L.asc hj h2).mp b2
        have : j = i := by omega
        subst this
        exact gone (by rw [e]; exact hx)
  · refine List.pairwise_append.mpr ⟨I.uni, List.pairwise_singleton _ _, fun c hc d hd => ?_⟩
    obtain rfl := List.mem_singleton.mp hd
    rintro ⟨e1, e2⟩
    have := (I.cor c hc).2.2.2.2.2 (lt left i) (lt_mem (by omega)) (by rw [e1]; exact a1)
    rw [e2] at this
    exact this a2
  · rw [len] at hj
    rw [lt_erase, lt_erase]
    by_cases c1 : j + 1 < i
    · rw [if_pos (by omega), if_pos c1]
      exact (I.adj j (by omega)).mono inF
    · rw [if_neg c1]
      by_cases c2 : j < i
      · rw [if_pos c2]
        obtain rfl : j = i - 1 := by omega
        refine .inr ⟨lt left i, List.mem_append_right _ ?_⟩
        rw [show i - 1 + 1 + 1 = i + 1 by omega]
        exact List.mem_singleton.mpr rfl
      · rw [if_neg c2]
        exact (I.adj (j + 1) (by omega)).mono inF
structure Tr (n : Nat) (F : List C3) : Prop where
  cor : ∀ c ∈ F, c.1 < c.2.1 ∧ c.2.1 < c.2.2 ∧ c.2.2 ≤ n - 1 ∧ Cov F c.1 c.2.1 ∧ Cov F c.2.1 c.2.2
  uni : F.Pairwise fun c d => ¬ (c.1 = d.1 ∧ c.2.2 = d.2.2)
  top : Cov F 0 (n - 1)
theorem TI.tree {n : Nat} {left : List Nat} {F : List C3} (I : TI n left F) (h : left.length ≤ 2) : Tr n F := by
  have e := I.inv.ends
  refine ⟨fun c hc => ?_, I.uni, ?_⟩
  · obtain ⟨z1, z2, z3, z4, z5, _⟩ := I.cor c hc
    exact ⟨z1, z2, z3, z4, z5⟩
  · have := I.adj 0 (by omega)
    rw [e.1, show 0 + 1 = left.length - 1 by omega, e.2.1] at this
    exact this
theorem Tr.perm {n : Nat} {F G : List C3} (t : Tr n F) (p : G.Perm F) : Tr n G := by
  have m : ∀ c ∈ F, c ∈ G := fun c hc => p.mem_iff.mpr hc
  refine ⟨fun c hc => ?_, (p.pairwise_iff fun {x y} h z => h ⟨z.1.symm, z.2.symm⟩).mpr t.uni, t.top.mono m⟩
  obtain ⟨z1, z2, z3, z4, z5⟩ := t.cor c (p.mem_iff.mp hc)
  exact ⟨z1, z2, z3, z4.mono m, z5.mono m⟩
def hit (l h : Nat) (c : C3) : Bool := decide (c.1 = l ∧ c.2.2 = h)
def mids (F : List C3) (l h : Nat) : List Nat := (F.filter (hit l h)).map fun c => c.2.1
def mid (F : List C3) (l h : Nat) : Nat := (mids F l h).headD 0
theorem mid_ok {n : Nat} {F : List C3} (t : Tr n F) {l h : Nat} (c : l + 1 < h) (q : Cov F l h) : mids F l h = mid F l h :: (mids F l h).tail ∧ (l, mid F l h, h) ∈ F ∧ l < mid F l h ∧ mid F l h < h ∧ Cov F l (mid F l h) ∧ Cov F (mid F l h) h ∧ h ≤ n - 1 := by
  have q : ∃ x, (l, x, h) ∈ F := q.resolve_left (by omega)
  obtain ⟨x, hx⟩ := q
  have hm : x ∈ mids F l h := List.mem_map.mpr ⟨(l, x, h), List.mem_filter.mpr ⟨hx, decide_eq_true ⟨rfl, rfl⟩⟩, rfl⟩
  have key : ∃ y r, mids F l h = y :: r := by
    cases e : mids F l h with
    | nil => rw [e] at hm; cases hm
    | cons y r => exact ⟨y, r, rfl⟩
  obtain ⟨y, r, e⟩ := key
  have ey : mid F l h = y := by unfold mid; rw [e]; rfl
  have hy : y ∈ mids F l h := by rw [e]; exact List.mem_cons_self
  obtain ⟨d, hd, ed⟩ := List.mem_map.mp hy
  obtain ⟨hd1, hd2⟩ := List.mem_filter.mp hd
  obtain ⟨d1, d2⟩ := of_decide_eq_true hd2
  have e3 : d = (l, y, h) := by
    obtain ⟨a, b, c⟩ := d
    have d1 : a = l := d1
    have d2 : c = h := d2
    have ed : b = y := ed
    rw [d1, d2, ed]
  rw [e3] at hd1
  obtain ⟨z1, z2, z3, z4, z5⟩ := t.cor _ hd1
  rw [ey]
  exact ⟨by rw [e]; rfl, hd1, z1, z2, z4, z5, z3⟩
/-- the height of what lies between two places -/
def ht (F : List C3) : Nat → Nat → Nat → Nat
  | 0, _, _ => 0
  | f + 1, l, h => if h ≤ l + 1 then 0 else 1 + max (ht F f l (mid F l h)) (ht F f (mid F l h) h)
theorem ht_fuel {n : Nat} {F : List C3} (t : Tr n F) : ∀ f g l h, h - l ≤ f → h - l ≤ g → Cov F l h → ht F f l h = ht F g l h
  | 0, 0, _, _, _, _, _ => rfl
  | 0, g + 1, l, h, h1, _, _ => by
    show 0 = if h ≤ l + 1 then 0 else _
    rw [if_pos (by omega)]
  | f + 1, 0, l, h, _, h2, _ => by
    show (if h ≤ l + 1 then 0 else _) = 0
    rw [if_pos (by omega)]
  | f + 1, g + 1, l, h, h1, h2, q => by
    unfold ht
    by_cases c : h ≤ l + 1
    · rw [if_pos c, if_pos c]
    · rw [if_neg c, if_neg c]
      obtain ⟨_, _, b1, b2, b3, b4, _⟩ := mid_ok t (by omega) q
      rw [ht_fuel t f g l (mid F l h) (by omega) (by omega) b3, ht_fuel t f g (mid F l h) h (by omega) (by omega) b4]
def Ht (F : List C3) (l h : Nat) : Nat := ht F (h - l) l h
theorem Ht_one {F : List C3} {l h : Nat} (c : h ≤ l + 1) : Ht F l h = 0 := by
  unfold Ht
  cases e : h - l with
  | zero => rfl
  | succ f =>
    unfold ht
    rw [if_pos c]
theorem Ht_eq {n : Nat} {F : List C3} (t : Tr n F) {l h : Nat} (c : l + 1 < h) (q : Cov F l h) : Ht F l h = 1 + max (Ht F l (mid F l h)) (Ht F (mid F l h) h) := by
  obtain ⟨_, _, b1, b2, b3, b4, _⟩ := mid_ok t c q
  unfold Ht
  obtain ⟨f, ef⟩ : ∃ f, h - l = f + 1 := ⟨h - l - 1, by omega⟩
  rw [ef]
  show (if h ≤ l + 1 then 0 else _) = _
  rw [if_neg (by omega), ht_fuel t f (mid F l h - l) l (mid F l h) (by omega) (by omega) b3, ht_fuel t f (h - mid F l h) (mid F l h) h (by omega) (by omega) b4]
theorem Ht_le {n : Nat} {F : List C3} (t : Tr n F) : ∀ k l h, h - l ≤ k → Cov F l h → Ht F l h ≤ h - l
  | 0, l, h, hk, q => by rw [Ht_one (by omega)]; omega
  | k + 1, l, h, hk, q => by
    by_cases c : l + 1 < h
    · obtain ⟨_, _, b1, b2, b3, b4, _⟩ := mid_ok t c q
      have := Ht_le t k l (mid F l h) (by omega) b3
      have := Ht_le t k (mid F l h) h (by omega) b4
      rw [Ht_eq t c q]
      omega
    · rw [Ht_one (by omega)]; omega
/-- what waits: its size falls -/
abbrev S3 := Nat × Nat × Nat
def ms (s : List S3) : Nat := (s.map fun x => 2 * (x.2.1 - x.1) - 1).sum
theorem ms_snoc (s : List S3) (x : S3) : ms (s ++ [x]) = ms s + (2 * (x.2.1 - x.1) - 1) := by
  unfold ms
  rw [List.map_append, List.sum_append]
  simp
theorem ms_two (s : List S3) (x y : S3) : ms (s ++ [x, y]) = ms s + (2 * (x.2.1 - x.1) - 1) + (2 * (y.2.1 - y.1) - 1) := by
  unfold ms
  rw [List.map_append, List.sum_append]
  simp
  omega
structure SOk (F : List C3) (n M : Nat) (x : S3) : Prop where
  lt : x.1 < x.2.1
  le : x.2.1 ≤ n - 1
  cov : Cov F x.1 x.2.1
  ht : Ht F x.1 x.2.1 ≤ x.2.2
  top : x.2.2 ≤ M
theorem SOk.kids {F : List C3} {n M l h w : Nat} (t : Tr n F) (o : SOk F n M (l, h, w)) {c : C3} (hc : c ∈ F) (hh : hit l h c = true) :
    1 ≤ w ∧ c.1 = l ∧ c.2.2 = h ∧ l < c.2.1 ∧ c.2.1 < h ∧ SOk F n M (l, c.2.1, w - 1) ∧ SOk F n M (c.2.1, h, w - 1) := by
  obtain ⟨a, b, d⟩ := c
  obtain ⟨e1, e2⟩ := of_decide_eq_true hh
  have e1 : a = l := e1
  have e2 : d = h := e2
  subst e1 e2
  obtain ⟨z1, z2, z3, z4, z5⟩ := t.cor _ hc
  have z1 : a < b := z1
  have z2 : b < d := z2
  have z3 : d ≤ n - 1 := z3
  have z4 : Cov F a b := z4
  have z5 : Cov F b d := z5
  have q : Cov F a d := o.cov
  obtain ⟨_, b0, b1, b2, b3, b4, _⟩ := mid_ok t (show a + 1 < d by omega) q
  have em : mid F a d = b := by
    obtain ⟨i, hi, ei⟩ := List.getElem_of_mem b0
    obtain ⟨j, hj, ej⟩ := List.getElem_of_mem hc
    have hij : i = j := by
      by_cases k : i < j
      · refine absurd ?_ (List.pairwise_iff_getElem.mp t.uni i j hi hj k)
        rw [ei, ej]
        exact ⟨rfl, rfl⟩
      · by_cases k2 : i = j
        · exact k2
        · refine absurd ?_ (List.pairwise_iff_getElem.mp t.uni j i hj hi (by omega))
          rw [ei, ej]
          exact ⟨rfl, rfl⟩
    subst hij
    rw [ei] at ej
    exact congrArg (fun z : C3 => z.2.1) ej
  have hq : Ht F a d ≤ w := o.ht
  have he := Ht_eq t (by omega) q
  rw [em] at he
  have htop : w ≤ M := o.top
  have k1 : Ht F a b ≤ w - 1 := by omega
  have k2 : Ht F b d ≤ w - 1 := by omega
  exact ⟨by omega, rfl, rfl, z1, z2, ⟨z1, by show b ≤ n - 1; omega, z4, k1, by show w - 1 ≤ M; omega⟩, ⟨z2, z3, z5, k2, by show w - 1 ≤ M; omega⟩⟩
end K54

set_option Elab.async false
set_option linter.all false
set_option maxRecDepth 100000
set_option maxHeartbeats 2000000
namespace K54
open PySem PySem.Spec PyProof.Rows L2 Evl
/-! ### more of what evaluates to what -/
section
variable {K : PySem.W.Frag} {w : World} {σ : L2.St} {H H' : Hp} {ta tb tc td te tx : TE} {t u : TT} {x y z v : V} {D : Ends} {tu tw tz : TS} {r r1 r2 r3 : R2}
theorem ev_int {i j : Int} (h : Ev te σ H (.int i)) (e : i = j) : Ev te σ H (.int j) := e ▸ h
theorem ev_chain {b1 b2 : Bool} (ha : Ev ta σ H x) (hb : Ev tb σ H y) (hc : Ev tc σ H z) (h1 : RV r1 x y H (.bl b1)) (h2 : RV r2 y z H (.bl b2)) : Ev (tChain r1 r2 ta tb tc) σ H (.bl (b1 && b2)) := fun H1 e Q q =>
  ha H1 e _ fun H2 e2 => hb H2 (e.trans e2) _ fun H3 e3 => h1 H3 ((e.trans e2).trans e3) _ fun H4 e4 => ⟨b1, rfl, by
    have a4 := ((e.trans e2).trans e3).trans e4
    have b4 := (e2.trans e3).trans e4
    cases b1 with
    | false => exact q H4 b4
    | true => exact hc H4 a4 _ fun H5 e5 => h2 H5 (a4.trans e5) Q fun H6 e6 => q H6 ((b4.trans e5).trans e6)⟩
theorem ev_chain3 {b1 b2 b3 : Bool} (ha : Ev ta σ H x) (hb : Ev tb σ H y) (hc : Ev tc σ H z) (hd : Ev td σ H v) (h1 : RV r1 x y H (.bl b1)) (h2 : RV r2 y z H (.bl b2)) (h3 : RV r3 z v H (.bl b3)) :
    Ev (tChain3 r1 r2 r3 ta tb tc td) σ H (.bl (b1 && b2 && b3)) := fun H1 e Q q =>
  ha H1 e _ fun H2 e2 => hb H2 (e.trans e2) _ fun H3 e3 => h1 H3 ((e.trans e2).trans e3) _ fun H4 e4 => ⟨b1, rfl, by
    have a4 := ((e.trans e2).trans e3).trans e4
    have b4 := (e2.trans e3).trans e4
    cases b1 with
    | false => exact q H4 b4
    | true => exact hc H4 a4 _ fun H5 e5 => h2 H5 (a4.trans e5) _ fun H6 e6 => ⟨b2, rfl, by
        have a6 := (a4.trans e5).trans e6
        have b6 := (b4.trans e5).trans e6
        cases b2 with
        | false => exact q H6 b6
        | true => exact hd H6 a6 _ fun H7 e7 => h3 H7 (a6.trans e7) Q fun H8 e8 => q H8 ((b6.trans e7).trans e8)⟩⟩
theorem ev_isi {T t : String} {b : Bool} (ha : Ev ta σ H x) (hb : Ev tb σ H (.ty T)) (ty : ∀ H1, Ex H H1 → TyX K H1 x (.type t)) (hk : kitB t T = some b) : Ev (tCB (rIsi K) (tCons ta (tCons tb tNil))) σ H (.bl b) := fun H1 e Q q =>
  ha H1 e _ fun H2 e2 => hb H2 (e.trans e2) _ fun H3 e3 => ⟨x, .ty T, .type t, .type T, b, rfl, .ty T, ty H3 ((e.trans e2).trans e3), kit_ty hk, q H3 (e2.trans e3)⟩
def rLenT : List V → Hp → VK → Prop := fun xs H Q => ∃ z : Str, xs = [.str z] ∧ z.length ≤ sizeLine ∧ Q (.int z.length) H
theorem ev_lenS {s : Str} (ha : Ev ta σ H (.str s)) (hz : s.length ≤ 100000) : Ev (tCB rLenT (tCons ta tNil)) σ H (.int (s.length : Int)) := fun H1 e Q q =>
  ha H1 e _ fun H2 e2 => ⟨s, rfl, sz_of hz, q H2 e2⟩
/-- a word as a value -/
abbrev Sw (cs : Wd) : Str := ⟨cs.toArray⟩
abbrev Wv (cs : Wd) : V := .str (Sw cs)
theorem Sw_len (cs : Wd) : (Sw cs).length = cs.length := by
  show cs.toArray.size = cs.length
  simp
theorem ev_lenW {cs : Wd} (ha : Ev ta σ H (Wv cs)) (hz : cs.length ≤ 1000) : Ev (tCB rLenT (tCons ta tNil)) σ H (.int (cs.length : Int)) := by
  have q := ev_lenS ha (by rw [Sw_len]; omega)
  rw [Sw_len] at q
  exact q
theorem rv_word {cs : Wd} {i : Nat} (h : cs.length ≤ 1000) (hi : i < cs.length) : RV rIxS (Wv cs) (.int (i : Int)) H (.str ⟨#[lt cs i]⟩) :=
  rv_ixS (by rw [Sw_len]; omega) (atI_nat (by simpa using get_lt hi))
theorem ev_word {cs : Wd} {i : Nat} (ha : Ev ta σ H (Wv cs)) (hb : Ev tb σ H (.int (i : Int))) (h : cs.length ≤ 1000) (hi : i < cs.length) : Ev (tOp rIxS ta tb) σ H (.str ⟨#[lt cs i]⟩) := ev_op ha hb (rv_word h hi)
theorem sign_eq {a b : Nat} : decide ((V.str ⟨#[a]⟩ : V) = V.str ⟨#[b]⟩) = decide (a = b) := by
  by_cases e : a = b
  · subst e; simp
  · have : ¬ (V.str ⟨#[a]⟩ : V) = V.str ⟨#[b]⟩ := fun z => e (by injection z with z; injection z with z; simpa using z)
    rw [decide_eq_false e, decide_eq_false this]
theorem rv_neS {a b : Nat} : RV rNe (.str ⟨#[a]⟩) (.str ⟨#[b]⟩) H (.bl (decide (a ≠ b))) := by
  have q : RV rNe (.str ⟨#[a]⟩) (.str ⟨#[b]⟩) H (.bl (!decide ((V.str ⟨#[a]⟩ : V) = V.str ⟨#[b]⟩))) := rv_ne rfl
  rw [sign_eq] at q
  have e : (!decide (a = b)) = decide (a ≠ b) := by simp
  rw [e] at q
  exact q
theorem rv_eqS {a b : Nat} : RV rEq (.str ⟨#[a]⟩) (.str ⟨#[b]⟩) H (.bl (decide (a = b))) := by
  have q : RV rEq (.str ⟨#[a]⟩) (.str ⟨#[b]⟩) H (.bl (decide ((V.str ⟨#[a]⟩ : V) = V.str ⟨#[b]⟩))) := rv_eq rfl
  rw [sign_eq] at q
  exact q
theorem int_eq {i j : Int} : decide (V.int i = V.int j) = decide (i = j) := by
  by_cases e : i = j
  · subst e; simp
  · rw [decide_eq_false e, decide_eq_false fun z => e (V.int.inj z)]
theorem rv_neI {i j : Int} : RV rNe (.int i) (.int j) H (.bl (!decide (i = j))) := by
  have q : RV rNe (.int i) (.int j) H (.bl (!decide (V.int i = V.int j))) := rv_ne rfl
  rw [int_eq] at q
  exact q
theorem rv_eqI {i j : Int} : RV rEq (.int i) (.int j) H (.bl (decide (i = j))) := by
  have q : RV rEq (.int i) (.int j) H (.bl (decide (V.int i = V.int j))) := rv_eq rfl
  rw [int_eq] at q
  exact q
def rNotInSgn : R2 := fun x y H Q => ∃ (c : Nat) (z : Str), x = .str ⟨#[c]⟩ ∧ y = .str z ∧ Q (.bl (!decide (c ∈ z.cps.toList))) H
theorem rv_niS {c : Nat} {s : Str} : RV rNotInSgn (.str ⟨#[c]⟩) (.str s) H (.bl (!decide (c ∈ s.cps.toList))) := fun H1 _ _ q => ⟨c, s, rfl, rfl, q H1 (Ex.refl H1)⟩
def rNotNn : R2 := fun x y H Q => y = .non ∧ Q (.bl (!decide (x = .non))) H
def rIsNn : R2 := fun x y H Q => y = .non ∧ Q (.bl (decide (x = .non))) H
theorem rv_notN : RV rNotNn x .non H (.bl (!decide (x = .non))) := fun H1 _ _ q => ⟨rfl, q H1 (Ex.refl H1)⟩
theorem rv_isN : RV rIsNn x .non H (.bl (decide (x = .non))) := fun H1 _ _ q => ⟨rfl, q H1 (Ex.refl H1)⟩
/-- a call whose promise is a value -/
theorem ev_c1 {sp : Sp} {ta : TA} {vs : List V} (h : EvA ta σ H vs) (hs : ∀ H1, Ex H H1 → ∀ Q : VK, RetV z H1 Q → ∀ E : XK, sp vs H1 Q E) : Ev (tCall sp [] E0 ta) σ H z := fun H1 e Q q =>
  h H1 e _ fun H2 e2 => by
    rw [List.append_nil]
    exact hs H2 (e.trans e2) Q (fun H3 e3 => q H3 (e2.trans e3)) E0
/-- .. whose first argument is a new tuple, a new list -/
theorem ev_cU {sp : Sp} {tr : TA} {xs vs : List V} (h : EvU ta σ H xs) (hr : ∀ H1, Ex H H1 → EvA tr σ H1 vs) (hs : ∀ p H1, Ex H H1 → H1 p = some (.tup xs) → ∀ Q : VK, RetV z H1 Q → ∀ E : XK, sp (.ref p :: vs) H1 Q E) : Ev (tCall sp [] E0 (tCons ta tr)) σ H z := fun H1 e Q q =>
  h H1 e _ fun p H2 _ e2 h2 => hr H2 (e.trans e2) H2 (Ex.refl H2) _ fun H3 e3 => by
    show sp (.ref p :: (vs ++ [])) H3 Q E0
    rw [List.append_nil]
    exact hs p H3 ((e.trans e2).trans e3) (e3 p _ h2) Q (fun H4 e4 => q H4 ((e2.trans e3).trans e4)) E0
/-- the two names of a pair -/
theorem g_two {i j : Nat} {T : Addr} {Q : L2.St → Hp → Prop} (h : SqT K H T [x, y]) (k : Q ((σ.set i (some x)).set j (some y)) H) : gTup K 2 (gCons (gName i) (gCons (gName j) gNil)) (.ref T) σ H Q :=
  ⟨T, [x, y], rfl, h, rfl, x, [y], rfl, y, [], rfl, rfl, k⟩
theorem g_three {i j l : Nat} {T : Addr} {Q : L2.St → Hp → Prop} (h : SqT K H T [x, y, z]) (k : Q (((σ.set i (some x)).set j (some y)).set l (some z)) H) : gTup K 3 (gCons (gName i) (gCons (gName j) (gCons (gName l) gNil))) (.ref T) σ H Q :=
  ⟨T, [x, y, z], rfl, h, rfl, x, [y, z], rfl, y, [z], rfl, z, [], rfl, rfl, k⟩
theorem walk_enumS {s : Str} : Walk (Ites s) s.cps.size (fun _ => True) (YPair (fun i => some (.int (i : Nat))) (fun i => (s.cps[i]?).map fun c => V.str ⟨#[c]⟩)) := by
  refine ⟨fun _ _ hi _ => hi, fun _ _ => rfl, fun i H v H' _ _ y => ?_⟩
  obtain ⟨T, c, h1, h2, h3, h4⟩ := y
  exact ⟨T, _, _, h1, h2, h3, rfl, (congrArg (Option.map fun c => V.str ⟨#[c]⟩) h4 : _)⟩
theorem et_yes : EvT tYes σ H true := fun H1 _ _ q => q H1 (Ex.refl H1)
/-- a comprehension over a tuple that stays -/
theorem el_lcT {a : Addr} {xs : List V} {tl : TE} {j : Nat} {vs : List Nat} (f : Nat → Bool) (v : Nat → V) (h : Ev tl σ H (.ref a)) (hx : SqT K H a xs) (hz : xs.length ≤ 40000) (hw : ∀ x, wipe ((wipe σ vs).set j (some x)) vs = wipe σ vs)
    (ht : ∀ (i : Nat) (x : V) H1, Ex H H1 → xs[i]? = some x → EvT t ((wipe σ vs).set j (some x)) H1 (f i)) (he : ∀ (i : Nat) (x : V) H1, Ex H H1 → xs[i]? = some x → f i = true → Ev te ((wipe σ vs).set j (some x)) H1 (v i)) :
    EvL (tLc (iTup K tl) (gName j) t te vs) σ H (given xs.length f v) := fun H0 e Q q => h H0 e _ fun H1 e1 => ⟨a, rfl, ⟨xs, ex_t (e.trans e1) hx⟩, fun Dl hD =>
  lc_tup (xs := xs) (Cw H1 f v Dl) ⟨hD, Ex.new hD, upd_same⟩ (fun i H' _ p => ex_t ((e.trans e1).trans p.2.1) hx)
    (fun i x H' hi p => ⟨hw x, cw_turn p (by have := (List.getElem?_eq_some_iff.mp hi).1; omega) (ht i x H1 (e.trans e1) hi) (fun hf => he i x H1 (e.trans e1) hi hf)⟩)
    (fun H' p => q Dl H' (fresh_back e1 p.1) (e1.trans p.2.1) p.2.2)⟩
theorem ev_maxL {ns : List Int} {z : Int} (h : EvL ta σ H (ns.map V.int)) (h0 : 0 < ns.length) (hm : ∀ m, m ∈ ns → (∀ y ∈ ns, y ≤ m) → m = z) : Ev (tCB (rMax K) (tCons ta tNil)) σ H (.int z) := fun H1 e Q q =>
  h H1 e _ fun p H2 _ e2 hp => ⟨p, ns, rfl, sq_of hp, h0, fun m a b => hm m a b ▸ q H2 e2⟩
theorem ev_minV {p : Addr} {ns : List Int} {z : Int} (h : Ev ta σ H (.ref p)) (hp : SqL K H p (ns.map V.int)) (h0 : 0 < ns.length) (hm : ∀ m, m ∈ ns → (∀ y ∈ ns, m ≤ y) → m = z) : Ev (tCB (rMin K) (tCons ta tNil)) σ H (.int z) := fun H1 e Q q =>
  h H1 e _ fun H2 e2 => ⟨p, ns, rfl, ex_l (e.trans e2) hp, h0, fun m a b => hm m a b ▸ q H2 e2⟩
/-- an if whose test is false -/
theorem s_skip (h : EvT t σ H false) (k : ∀ H1, Ex H H1 → D.nx σ H1) : tIfS t tu tNext D σ H := s_if h (fun z => nomatch z) fun _ H1 e => k H1 e
theorem q_skip (h : EvT t σ H false) (k : ∀ H1, Ex H H1 → tz D σ H1) : tSeq (tIfS t tu tNext) tz D σ H := s_skip (D := { D with nx := tz D }) h k
end
end K54

set_option Elab.async false
set_option linter.all false
set_option maxRecDepth 100000
set_option maxHeartbeats 2000000
namespace K54
open PySem PySem.Spec PyProof.Rows L2 Evl
abbrev s_is_int : Stmt := topS 7
abbrev s_is_int_N : List Str := ["value"]
theorem s_is_int_sc : FnScope s_is_int_N ["value"] (defScope s_is_int) := ⟨rfl, rfl, rfl, by decide +kernel, rfl, by decide +kernel, by decide +kernel⟩
abbrev s_is_in : Stmt := topS 8
abbrev s_is_in_N : List Str := ["value", "least", "most"]
theorem s_is_in_sc : FnScope s_is_in_N ["value", "least", "most"] (defScope s_is_in) := ⟨rfl, rfl, rfl, by decide +kernel, rfl, by decide +kernel, by decide +kernel⟩
abbrev s_fits : Stmt := topS 15
abbrev s_fits_N : List Str := ["word", "low", "middle", "high"]
theorem s_fits_sc : FnScope s_fits_N ["word", "low", "middle", "high"] (defScope s_fits) := ⟨rfl, rfl, rfl, by decide +kernel, rfl, by decide +kernel, by decide +kernel⟩
abbrev s_need_word : Stmt := topS 9
abbrev s_need_word_N : List Str := ["value", "place", "sign"]
theorem s_need_word_sc : FnScope s_need_word_N ["value"] (defScope s_need_word) := ⟨rfl, rfl, rfl, by decide +kernel, rfl, by decide +kernel, by decide +kernel⟩
abbrev s_need_short : Stmt := topS 10
abbrev s_need_short_N : List Str := ["words", "most", "word"]
theorem s_need_short_sc : FnScope s_need_short_N ["words", "most"] (defScope s_need_short) := ⟨rfl, rfl, rfl, by decide +kernel, rfl, by decide +kernel, by decide +kernel⟩
abbrev s_need_limited : Stmt := topS 11
abbrev s_need_limited_N : List Str := ["word", "most"]
theorem s_need_limited_sc : FnScope s_need_limited_N ["word", "most"] (defScope s_need_limited) := ⟨rfl, rfl, rfl, by decide +kernel, rfl, by decide +kernel, by decide +kernel⟩
abbrev s_need_tall : Stmt := topS 14
abbrev s_need_tall_N : List Str := ["word"]
theorem s_need_tall_sc : FnScope s_need_tall_N ["word"] (defScope s_need_tall) := ⟨rfl, rfl, rfl, by decide +kernel, rfl, by decide +kernel, by decide +kernel⟩
section
variable {P : Program} {w : World} {K : PySem.W.Frag} {mg : Str → Option Value} {base : Heap}
/-- a value that may stand where a place stands -/
inductive Pl : V → Bool → Prop where
  | int (i : Int) : Pl (.int i) true
  | non : Pl .non false
theorem Pl.ty {v : V} {b : Bool} (p : Pl v b) {H : Hp} : ∃ t, TyX K H v (.type t) ∧ kitB t "int" = some b ∧ kitB t "bool" = some false := by
  cases p with
  | int i => exact ⟨"int", .base (.int i), by decide +kernel, by decide +kernel⟩
  | non => exact ⟨"NoneType", .base .non, by decide +kernel, by decide +kernel⟩
def spIsInt : Sp := fun vs H Q _ => ∃ v b, vs = [v] ∧ Pl v b ∧ RetV (.bl b) H Q
theorem cal_is_int (D : Df K mg "is_int" s_is_int) (B : Bt mg) : Cal P w K mg base 1 "is_int" spIsInt := by
  refine D.cal s_is_int_sc (fun _ _ _ _ _ _ us hl => match us, hl with | [_], _ => rfl) (fun vs H Q E h => ?_) (fun f cdv A outer s H vs Q E hr h => ?_)
  · obtain ⟨v, b, rfl, _⟩ := h
    rfl
  · obtain ⟨v, b, rfl, pl, k⟩ := h
    refine ⟨_, (pss_one (ps_ret (pe_and (pe_callB call_isi (by rfl) B.isinstance bt_isinstance (pa_cons (pv 0) (pa_cons (pe_bltn (v := .ty "int") (by rfl) B.int bt_int rfl) pa_nil))) (pe_one (pe_not (pe_callB call_isi (by rfl) B.isinstance bt_isinstance (pa_cons (pv 0) (pa_cons (pe_bltn (v := .ty "bool") (by rfl) B.bool bt_bool rfl) pa_nil)))))))), ?_⟩
    cases pl with
    | int i => exact s_ret (ev_andV (a := true) (ev_isi (t := "int") (b := true) (ev_var rfl) ev_c (fun _ _ => .base (.int i)) (by decide +kernel)) fun _ => ev_notV (ev_isi (t := "int") (ev_var rfl) ev_c (fun _ _ => .base (.int i)) (b := false) (by decide +kernel))) fun H1 e => k H1 e
    | non => exact s_ret (ev_andV (a := false) (b := false) (ev_isi (t := "NoneType") (b := false) (ev_var rfl) ev_c (fun _ _ => .base .non) (by decide +kernel)) fun z => nomatch z) fun H1 e => k H1 e
/-- is_in -/
def spIsIn : Sp := fun vs H Q _ => ∃ v b lo hi, vs = [v, .int lo, .int hi] ∧ Pl v b ∧ ∀ c, (∀ i, v = .int i → c = decide (lo ≤ i ∧ i ≤ hi)) → (v = .non → c = false) → RetV (.bl c) H Q
theorem cal_is_in (D : Df K mg "is_in" s_is_in) (Cis_int : Cal P w K mg base 1 "is_int" spIsInt) : Cal P w K mg base 2 "is_in" spIsIn := by
  refine D.cal s_is_in_sc (fun _ _ _ _ _ _ us hl => match us, hl with | [_, _, _], _ => rfl) (fun vs H Q E h => ?_) (fun f cdv A outer s H vs Q E hr h => ?_)
  · obtain ⟨v, b, lo, hi, rfl, _⟩ := h
    rfl
  · obtain ⟨v, b, lo, hi, rfl, pl, k⟩ := h
    refine ⟨_, (pss_one (ps_ret (pe_and (pe_c Cis_int hr (by decide) (by rfl) (pa_cons (pv 0) pa_nil)) (pe_one (pe_chain op_le op_le (pv 1) (pv 0) (pv 2)))))), ?_⟩
    have call : Ev (tCall spIsInt [] E0 (tCons (tVar 0) tNil)) (start s_is_in_N [v, .int lo, .int hi]) H (.bl b) := ev_c1 (ea_cons (ev_var rfl) ea_nil) fun H1 e Q k E => ⟨v, b, rfl, pl, k⟩
    cases pl with
    | int i =>
      refine s_ret (ev_andV call fun _ => ev_chain (ev_var rfl) (ev_var rfl) (ev_var rfl) rv_I0 rv_I0) fun H1 e => ?_
      have q := k (decide (lo ≤ i) && decide (i ≤ hi)) (fun j z => by cases z; simp) (fun z => nomatch z)
      exact q H1 e
    | non => exact s_ret (ev_andV (b := false) call fun z => nomatch z) fun H1 e => k false (fun j z => nomatch z) (fun _ => rfl) H1 e
def spFits : Sp := fun vs H Q _ => ∃ (cs : Wd) (l m h : Nat), vs = [Wv cs, .int l, .int m, .int h] ∧ cs.length ≤ 1000 ∧ l < cs.length ∧ m < cs.length ∧ h < cs.length ∧ RetV (.bl (fitsB cs l m h)) H Q
theorem cal_fits (D : Df K mg "fits" s_fits) : Cal P w K mg base 1 "fits" spFits := by
  refine D.cal s_fits_sc (fun _ _ _ _ _ _ us hl => match us, hl with | [_, _, _, _], _ => rfl) (fun vs H Q E h => ?_) (fun f cdv A outer s H vs Q E hr h => ?_)
  · obtain ⟨cs, l, m, h, rfl, _⟩ := h
    rfl
  · obtain ⟨cs, l, m, h, rfl, hz, hl, hm, hh, k⟩ := h
    refine ⟨_, (pss_one (ps_ret (pe_chain3 op_ne op_ne op_ne (pe_ix ix_str (pv 0) (pv 1) (fun _ _ => rfl)) (pe_ix ix_str (pv 0) (pv 2) (fun _ _ => rfl)) (pe_ix ix_str (pv 0) (pv 3) (fun _ _ => rfl)) (pe_ix ix_str (pv 0) (pv 1) (fun _ _ => rfl))))), ?_⟩
    exact s_ret (ev_chain3 (ev_word (ev_var rfl) (ev_var rfl) hz hl) (ev_word (ev_var rfl) (ev_var rfl) hz hm) (ev_word (ev_var rfl) (ev_var rfl) hz hh) (ev_word (ev_var rfl) (ev_var rfl) hz hl) rv_neS rv_neS rv_neS) fun H1 e => k H1 e
def spNeedWord : Sp := fun vs H Q _ => ∃ cs : Wd, vs = [Wv cs] ∧ IsW cs ∧ cs.length ≤ 200 ∧ RetV .non H Q
theorem cal_need_word (D : Df K mg "need_word" s_need_word) (B : Bt mg) : Cal P w K mg base 1 "need_word" spNeedWord := by
  refine D.cal s_need_word_sc (fun _ _ _ _ _ _ us hl => match us, hl with | [_], _ => rfl) (fun vs H Q E h => ?_) (fun f cdv A outer s H vs Q E hr h => ?_)
  · obtain ⟨cs, rfl, _⟩ := h
    rfl
  · obtain ⟨cs, rfl, W, hz, k⟩ := h
    refine ⟨_, (pss_cons (ps_if (pw_or (pt_not (pt_val (pe_callB call_isi (by rfl) B.isinstance bt_isinstance (pa_cons (pv 0) (pa_cons (pe_bltn (v := .ty "str") (by rfl) B.str bt_str rfl) pa_nil))))) (pw_or1 (pt_not (pt_chain op_le op_le pe_int (pe_callB call_len_str (by rfl) B.len bt_len (pa_cons (pv 0) pa_nil)) (pe_gc B.MOST_LETTERS_words (by rfl)))))).pt
      (pss_one ps_never)
      pss_nil)
    (pss_one (ps_for PassesOwn.never rfl (pi_enumS (by rfl) B.enumerate (pa_cons (pv 0) pa_nil)) (pg_tup rfl (pgs_cons (pg_name (i := 1) s_need_word_sc.nd rfl (.inl rfl)) (pgs_cons (pg_name (i := 2) s_need_word_sc.nd rfl (.inl rfl)) pgs_nil)))
      (pss_one (ps_if (pw_or (pt_cmpR op_notIn_sign (pv 2) (pe_gc B.LETTERS (by rfl)) (by rfl)) (pw_or1 (pw_and (pt_cmpR op_gt (pv 1) pe_int (nomark _)) (pw_and1 (pt_cmpR op_eq (pv 2) (pe_ix ix_str (pv 0) (pe_op op_sub (pv 1) pe_int) (fun _ _ => rfl)) (nomark _)))).pt)).pt
        (pss_one ps_never)
        pss_nil))))), ?_⟩
    have t1 : (decide ((2 : Int) ≤ (cs.length : Int)) && decide ((cs.length : Int) ≤ 200)) = true := by
      have := W.two
      simp
      omega
    refine q_skip (et_is (et_or (b := false) (et_not (et_B (ev_isi (t := "str") (ev_var rfl) ev_c (fun _ _ => .base (.str _)) (b := true) (by decide +kernel)))) fun _ => et_is (et_not (et_test (ev_chain ev_c (ev_lenW (ev_var rfl) (by omega)) ev_c rv_I0 rv_I0))) (by rw [t1]; rfl)) rfl) fun H1 e1 => ?_
    have hsz : (Sw cs).cps.size = cs.length := Sw_len cs
    refine ⟨_, rfl, Sw cs, rfl, for_it walk_enumS (fun i σ' H' => Ex H H' ∧ ∃ a b, σ' = [some (Wv cs), a, b]) ⟨e1, none, none, rfl⟩ (fun _ _ _ _ _ => trivial) (fun i x σ' H' H'' hi pv hy => ?_) fun σ' H' pv => k H' pv.1⟩
    obtain ⟨ee, a, b, rfl⟩ := pv
    obtain ⟨T, p1, p2, rfl, hT, rfl, e1', e2'⟩ := hy
    rw [hsz] at hi
    have ge : (Sw cs).cps[i]? = some (lt cs i) := by simpa using get_lt hi
    obtain rfl : V.int (i : Nat) = p1 := Option.some.inj e1'
    have e2' : Option.map (fun c => V.str ⟨#[c]⟩) ((Sw cs).cps[i]?) = some p2 := e2'
    rw [ge] at e2'
    obtain rfl : V.str ⟨#[lt cs i]⟩ = p2 := Option.some.inj e2'
    have e3 : Ex H (upd H' T (.tup [.int (i : Nat), .str ⟨#[lt cs i]⟩])) := ee.trans (Ex.new hT)
    refine g_two (SqT.of upd_same) ?_
    have abc : decide (lt cs i ∈ ("abc" : Str).cps.toList) = true := by
      rcases W.lt_abc hi with z | z | z <;> rw [z] <;> decide +kernel
    refine s_skip (et_is (et_or (b := false) (et_is (b := false) (et_test (ev_op (ev_var rfl) ev_c rv_niS)) (by rw [abc]; rfl)) fun _ => ?_) rfl) fun H3 e4 => ⟨e3.trans e4, _, _, rfl⟩
    by_cases c0 : i = 0
    · subst c0
      exact et_is (et_and (b := false) (et_test (ev_op (ev_var rfl) ev_c rv_I0)) fun z => by simp at z) rfl
    · refine et_is (et_and (a := true) (b := false) (et_is (et_test (ev_op (ev_var rfl) ev_c rv_I0)) (decide_eq_true (by omega))) fun _ => ?_) rfl
      have ev1 := ev_word (σ := [some (Wv cs), some (.int (i : Nat)), some (.str ⟨#[lt cs i]⟩)]) (H := upd H' T (.tup [.int (i : Nat), .str ⟨#[lt cs i]⟩])) (ta := tVar 0) (tb := tOp (rI0 fun i j => V.int (i - j)) (tVar 1) (tC (.int 1))) (i := i - 1) (ev_var rfl) (ev_int (ev_op (ev_var rfl) ev_c rv_I0) (by omega)) (by omega) (by omega)
      refine et_is (et_test (ev_op (ev_var rfl) ev1 rv_eqS)) (decide_eq_false fun z => W.adj (i - 1) (by omega) ?_)
      rw [show i - 1 + 1 = i by omega]
      exact z.symm
def spNeedShort (K : PySem.W.Frag) : Sp := fun vs H Q _ => ∃ (t : Addr) (cs : Wd) (m : Int), vs = [.ref t, .int m] ∧ SqT K H t [Wv cs] ∧ (cs.length : Int) ≤ m ∧ cs.length ≤ 1000 ∧ RetV .non H Q
theorem cal_need_short (D : Df K mg "need_short" s_need_short) (B : Bt mg) : Cal P w K mg base 1 "need_short" (spNeedShort K) := by
  refine D.cal s_need_short_sc (fun _ _ _ _ _ _ us hl => match us, hl with | [_, _], _ => rfl) (fun vs H Q E h => ?_) (fun f cdv A outer s H vs Q E hr h => ?_)
  · obtain ⟨t, cs, m, rfl, _⟩ := h
    rfl
  · obtain ⟨t, cs, m, rfl, hS, hm, hz, k⟩ := h
    refine ⟨_, (pss_one (ps_if (pt_cmpR op_gt (pe_callB (cr_max rfl) (by rfl) B.max bt_max (pa_cons (pe_lc (own := [("word", 2)]) (g := gName 2) rfl (by exact s_need_short_sc.nd) (pi_tup (pv 0)) (blkOk_by (own := [("word", 2)]) (N := s_need_short_N) (sc := defScope s_need_short) (by decide +kernel)) (fun _ _ _ _ _ => pg_name (i := 2) s_need_short_sc.nd rfl (.inl rfl)) (fun _ _ _ _ _ => pts_nil) (fun _ _ _ _ _ => (pe_callB call_len_str (by rfl) B.len bt_len (pa_cons (pv 2) pa_nil)))) pa_nil)) (pv 1) (nomark _))
      (pss_one ps_never)
      pss_nil)), ?_⟩
    have lc := el_lcT (K := K) (σ := start s_need_short_N [.ref t, .int m]) (H := H) (xs := [Wv cs]) (tl := tVar 0) (j := 2) (vs := [2]) (t := tYes) (te := tCB rLenT (tCons (tVar 2) tNil)) (fun _ => true) (fun _ => .int (cs.length : Int)) (ev_var rfl) hS (by show 1 ≤ 40000; decide) (fun _ => rfl) (fun _ _ _ _ _ => et_yes) (fun i x H1 e h _ => by
      match i, h with
      | 0, h =>
        obtain rfl : Wv cs = x := Option.some.inj h
        exact ev_lenW (ev_var rfl) hz)
    have mx : Ev (tCB (rMax K) (tCons (tLc (iTup K (tVar 0)) (gName 2) tYes (tCB rLenT (tCons (tVar 2) tNil)) [2]) tNil)) (start s_need_short_N [.ref t, .int m]) H (.int (cs.length : Int)) :=
      ev_maxL (ns := [(cs.length : Int)]) lc (by show 0 < 1; decide) fun m hm _ => List.mem_singleton.mp hm
    exact s_skip (et_is (et_test (ev_op mx (ev_var rfl) rv_I0)) (decide_eq_false (by omega))) fun H1 e => k H1 e
def spNeedLimited : Sp := fun vs H Q _ => ∃ (cs : Wd) (m : Int), vs = [Wv cs, .int m] ∧ IsW cs ∧ cs.length ≤ 200 ∧ (cs.length : Int) ≤ m ∧ RetV .non H Q
theorem cal_need_limited (D : Df K mg "need_limited" s_need_limited) (Cneed_word : Cal P w K mg base 1 "need_word" spNeedWord) (Cneed_short : Cal P w K mg base 1 "need_short" (spNeedShort K)) : Cal P w K mg base 2 "need_limited" spNeedLimited := by
  refine D.cal s_need_limited_sc (fun _ _ _ _ _ _ us hl => match us, hl with | [_, _], _ => rfl) (fun vs H Q E h => ?_) (fun f cdv A outer s H vs Q E hr h => ?_)
  · obtain ⟨cs, m, rfl, _⟩ := h
    rfl
  · obtain ⟨cs, m, rfl, W, hz, hm, k⟩ := h
    refine ⟨_, (pss_cons (ps_expr (pe_c Cneed_word hr (by decide) (by rfl) (pa_cons (pv 0) pa_nil)))
    (pss_one (ps_expr (pe_c Cneed_short hr (by decide) (by rfl) (pa_cons (pe_tup (pa_cons (pv 0) pa_nil)) (pa_cons (pv 1) pa_nil)))))), ?_⟩
    refine q_drop (v := .non) (ev_c1 (ea_cons (ev_var rfl) ea_nil) fun H1 e Q k E => ⟨cs, rfl, W, hz, k⟩) fun H1 e1 => ?_
    exact s_drop (v := .non) (ev_cU (vs := [.int m]) (eu_tup (ea_cons (ev_var rfl) ea_nil) (by show 1 ≤ 100000; decide)) (fun _ _ => ea_cons (ev_var rfl) ea_nil) fun p H2 e2 h2 Q k E => ⟨p, cs, m, rfl, SqT.of h2, hm, by omega, k⟩) fun H3 e3 => k H3 (e1.trans e3)
def spNeedTall : Sp := fun vs H Q _ => ∃ cs : Wd, vs = [Wv cs] ∧ IsW cs ∧ cs.length ≤ 60 ∧ RetV .non H Q
theorem cal_need_tall (D : Df K mg "need_tall" s_need_tall) (B : Bt mg) (Cneed_limited : Cal P w K mg base 2 "need_limited" spNeedLimited) : Cal P w K mg base 3 "need_tall" spNeedTall := by
  refine D.cal s_need_tall_sc (fun _ _ _ _ _ _ us hl => match us, hl with | [_], _ => rfl) (fun vs H Q E h => ?_) (fun f cdv A outer s H vs Q E hr h => ?_)
  · obtain ⟨cs, rfl, _⟩ := h
    rfl
  · obtain ⟨cs, rfl, W, hz, k⟩ := h
    refine ⟨_, (pss_one (ps_expr (pe_c Cneed_limited hr (by decide) (by rfl) (pa_cons (pv 0) (pa_cons (pe_gc B.MOST_LETTERS_trees (by rfl)) pa_nil))))), ?_⟩
    exact s_drop (v := .non) (ev_c1 (ea_cons (ev_var rfl) (ea_cons ev_c ea_nil)) fun H1 e Q k E => ⟨cs, 60, rfl, W, by omega, by omega, k⟩) fun H1 e1 => k H1 e1
end
end K54

set_option Elab.async false
set_option linter.all false
set_option maxRecDepth 100000
set_option maxHeartbeats 2000000
namespace K54
open PySem PySem.Spec PyProof.Rows L2 Evl
/-! ### whole numbers that are not negative, in lists and tuples -/
abbrev nV (k : Nat) : V := .int (k : Int)
abbrev nD (k : Nat) : PyData := .int (k : Int)
abbrev nVs (ns : List Nat) : List V := ns.map nV
theorem nVs_int (ns : List Nat) : nVs ns = (ns.map Int.ofNat).map V.int := by
  rw [List.map_map]
  rfl
section
variable {K : PySem.W.Frag} {H H' : Hp}
theorem dp_N : ∀ ns : List Nat, DpAll K H (nVs ns) (ns.map nD)
  | [] => .nil
  | _ :: r => .cons (.int _) (dp_N r)
theorem eqv_N : ∀ ns ms : List Nat, PyData.eqvAll (ns.map nD) (ms.map nD) = decide (ns = ms)
  | [], [] => by simp [PyData.eqvAll]
  | [], _ :: _ => by simp [PyData.eqvAll]
  | _ :: _, [] => by simp [PyData.eqvAll]
  | a :: r, b :: t => by
    simp only [List.map_cons, PyData.eqvAll, PyData.eqv, eqv_N r t]
    by_cases h : a = b <;> by_cases h' : r = t <;> simp [h, h'] <;> omega
theorem lay_N : ∀ ns : List Nat, PyData.canLayAll0 (ns.map nD) = true
  | [] => rfl
  | _ :: r => by simp [PyData.canLayAll0, PyData.canLay0, lay_N r]
theorem dep_N : ∀ ns : List Nat, PyData.depthAll (ns.map nD) = 0
  | [] => rfl
  | _ :: r => by simp [PyData.depthAll, PyData.depth, dep_N r]
theorem sh_N (ns : List Nat) : SeqAt.shaped (.list (ns.map nD)) = true := by simp [SeqAt.shaped, PyData.canLay0, PyData.depth, lay_N, dep_N]
theorem sh_NT (ns : List Nat) : SeqAt.shaped (.tuple (ns.map nD)) = true := by simp [SeqAt.shaped, PyData.canLay0, PyData.depth, lay_N, dep_N]
abbrev tD (ns : List Nat) : PyData := .tuple (ns.map nD)
theorem lay_T : ∀ nss : List (List Nat), PyData.canLayAll0 (nss.map tD) = true
  | [] => rfl
  | ns :: r => by simp [PyData.canLayAll0, PyData.canLay0, lay_N ns, lay_T r]
theorem dep_T : ∀ nss : List (List Nat), PyData.depthAll (nss.map tD) ≤ 2
  | [] => by simp [PyData.depthAll]
  | ns :: r => by
    have := dep_T r
    simp only [List.map_cons, PyData.depthAll, PyData.depth, dep_N]
    omega
theorem sh_TL (nss : List (List Nat)) : SeqAt.shaped (.list (nss.map tD)) = true := by
  have h1 := dep_T nss
  have h2 : PyData.depth (.list (nss.map tD)) ≤ 64 := by simp only [PyData.depth]; omega
  unfold SeqAt.shaped
  rw [Bool.and_eq_true]
  exact ⟨by simp only [PyData.canLay0]; exact lay_T nss, decide_eq_true h2⟩
/-- the values are tuples of these numbers -/
abbrev LT (K : PySem.W.Frag) (H : Hp) : List V → List (List Nat) → Prop := Paired fun v ns => ∃ a, v = .ref a ∧ SqT K H a (nVs ns)
theorem LT.ex {vs : List V} {nss : List (List Nat)} (h : LT K H vs nss) (e : Ex H H') : LT K H' vs nss := Paired.mapP h fun _ _ ⟨a, ea, q⟩ => ⟨a, ea, ex_t e q⟩
theorem LT.len {vs : List V} {nss : List (List Nat)} (h : LT K H vs nss) : vs.length = nss.length := Paired.length h
theorem LT.at : ∀ {vs : List V} {nss : List (List Nat)} {i : Nat} {v : V}, LT K H vs nss → vs[i]? = some v → ∃ a ns, v = .ref a ∧ nss[i]? = some ns ∧ SqT K H a (nVs ns)
  | _, _, _, _, .nil, e => by simp at e
  | _, _, 0, _, .cons ⟨a, r, q⟩ _, e => by
    simp at e
    exact ⟨a, _, e.symm.trans r, rfl, q⟩
  | _, _, i + 1, _, .cons _ t, e => by
    obtain ⟨a, ns, h1, h2, h3⟩ := LT.at (i := i) t (by simpa using e)
    exact ⟨a, ns, h1, by simpa using h2, h3⟩
theorem LT.app : ∀ {vs us : List V} {nss mss : List (List Nat)}, LT K H vs nss → LT K H us mss → LT K H (vs ++ us) (nss ++ mss)
  | _, _, _, _, .nil, s => s
  | _, _, _, _, .cons r t, s => .cons r (LT.app t s)
theorem LT.one {a : Addr} {ns : List Nat} (h : SqT K H a (nVs ns)) : LT K H [.ref a] [ns] := .cons ⟨a, rfl, h⟩ .nil
theorem LT.dp : ∀ {vs : List V} {nss : List (List Nat)}, LT K H vs nss → DpAll K H vs (nss.map tD)
  | _, _, .nil => .nil
  | _, _, .cons (b := ns) ⟨a, e, q⟩ t => .cons (e ▸ .tup q (dp_N ns)) (LT.dp t)
end
section
variable {K : PySem.W.Frag} {w : World} {σ : L2.St} {H H' : Hp} {ta tb tc td te tx ty tv : TE} {t u : TT} {x y z v : V} {D : Ends} {tu tw tz : TS} {r r1 r2 r3 : R2}
theorem rv_neD {d e : PyData} (h1 : ∀ H1, Ex H H1 → Dp K H1 x d) (h2 : ∀ H1, Ex H H1 → Dp K H1 y e) (s1 : SeqAt.shaped d = true) (s2 : SeqAt.shaped e = true) : RV (rNeD K) x y H (.bl (!PyData.eqv d e)) := fun H1 e1 _ q => ⟨d, e, h1 H1 e1, h2 H1 e1, s1, s2, q H1 (Ex.refl H1)⟩
theorem rv_eqD {d e : PyData} (h1 : ∀ H1, Ex H H1 → Dp K H1 x d) (h2 : ∀ H1, Ex H H1 → Dp K H1 y e) (s1 : SeqAt.shaped d = true) (s2 : SeqAt.shaped e = true) : RV (rEqD K) x y H (.bl (PyData.eqv d e)) := fun H1 e1 _ q => ⟨d, e, h1 H1 e1, h2 H1 e1, s1, s2, q H1 (Ex.refl H1)⟩
theorem eqv_nil (ds : List PyData) : PyData.eqv (.list ds) (.list []) = ds.isEmpty := by
  cases ds <;> simp [PyData.eqv, PyData.eqvAll]
theorem eqv_nilT (ds : List PyData) : PyData.eqv (.tuple ds) (.tuple []) = ds.isEmpty := by
  cases ds <;> simp [PyData.eqv, PyData.eqvAll]
/-- xs != [] -/
theorem ev_neNil {p : Addr} {ds : List PyData} (hx : Ev tx σ H (.ref p)) (dp : ∀ H1, Ex H H1 → Dp K H1 (.ref p) (.list ds)) (sh : SeqAt.shaped (.list ds) = true) : Ev (tOp (rNeD K) tx (tLst tNil)) σ H (.bl (!ds.isEmpty)) :=
  ev_opL hx (el_lst ea_nil (Nat.zero_le _)) fun q H1 hq e1 => by
    have z := rv_neD (K := K) (x := .ref p) (y := .ref q) (H := H1) (d := .list ds) (e := .list []) (fun H2 e2 => dp H2 (e1.trans e2)) (fun H2 e2 => .lst (sq_of (e2 q _ hq)) .nil) sh (by decide +kernel)
    rw [eqv_nil] at z
    exact z
abbrev ky (l h : Nat) : List Key := [.inl (l : Int), .inl (h : Int)]
theorem ky_inj {l h l' h' : Nat} (e : ky l h = ky l' h') : l = l' ∧ h = h' := by
  injection e with e1 e2
  injection e2 with e2 _
  injection e1 with e1
  injection e2 with e2
  omega
/-- d[a, b] -/
theorem ev_get {d : Addr} {kvs : List (List Key × V)} {l h : Nat} (hd : Ev td σ H (.ref d)) (hk : H d = some (.dT kvs)) (ha : Ev ta σ H (nV l)) (hb : Ev tb σ H (nV h)) (hv : valV kvs (ky l h) = some v) : Ev (tDGet td (tTup (tCons ta (tCons tb tNil)))) σ H v := fun H1 e Q q =>
  hd H1 e _ fun H2 e2 => (eu_tup (ea_cons ha (ea_cons hb ea_nil)) (by show 2 ≤ 100000; decide)) H2 (e.trans e2) _ fun p H3 _ e3 h3 => by
    have g := DGet.t (b := p) (k := ky l h) (((e.trans e2).trans e3) d _ hk) h3
    rw [hv] at g
    exact ⟨d, v, rfl, g, q H3 (e2.trans e3)⟩
/-- d[a, b] = v -/
theorem s_dput {d : Addr} {kvs : List (List Key × V)} {l h : Nat} (hv : Ev tv σ H v) (hd : Ev td σ H (.ref d)) (hk : H d = some (.dT kvs)) (ha : Ev ta σ H (nV l)) (hb : Ev tb σ H (nV h)) (hz : kvs.length < 100000) (k : ∀ H1, Ex H H1 → D.nx σ (upd H1 d (.dT (putK kvs (ky l h) v)))) :
    sDPut td (tTup (tCons ta (tCons tb tNil))) tv D σ H := hv H (Ex.refl H) _ fun H1 e1 => hd H1 e1 _ fun H2 e2 => (eu_tup (ea_cons ha (ea_cons hb ea_nil)) (by show 2 ≤ 100000; decide)) H2 (e1.trans e2) _ fun p H3 _ e3 h3 =>
      ⟨d, _, rfl, DPut.t (k := ky l h) (((e1.trans e2).trans e3) d _ hk) h3 (sz_lt hz), k H3 ((e1.trans e2).trans e3)⟩
theorem s_par {i j : Nat} {ta : TA} (h : EvA ta σ H [x, y]) (k : ∀ H1, Ex H H1 → D.nx ((σ.set i (some x)).set j (some y)) H1) : tPar i j ta D σ H := h H (Ex.refl H) _ fun H1 e => ⟨x, y, rfl, k H1 e⟩
theorem q_par {i j : Nat} {ta : TA} (h : EvA ta σ H [x, y]) (k : ∀ H1, Ex H H1 → tz D ((σ.set i (some x)).set j (some y)) H1) : tSeq (tPar i j ta) tz D σ H := s_par (D := { D with nx := tz D }) h k
/-- a, b = e, [..] -/
theorem q_parL {i j : Nat} {ys : List V} (h : Ev ta σ H x) (hb : EvL tb σ H ys) (k : ∀ p H1, H p = none → Ex H H1 → H1 p = some (.lst ys) → tz D ((σ.set i (some x)).set j (some (.ref p))) H1) : tSeq (tPar i j (tCons ta (tCons tb tNil))) tz D σ H :=
  h H (Ex.refl H) _ fun H1 e1 => hb H1 e1 _ fun p H2 hp e2 h2 => ⟨x, .ref p, rfl, k p H2 (fresh_back e1 hp) (e1.trans e2) h2⟩
theorem q_parLL {i j : Nat} {xs ys : List V} (h : EvL ta σ H xs) (hb : EvL tb σ H ys) (k : ∀ p q H1, H p = none → H q = none → p ≠ q → Ex H H1 → H1 p = some (.lst xs) → H1 q = some (.lst ys) → tz D ((σ.set i (some (.ref p))).set j (some (.ref q))) H1) : tSeq (tPar i j (tCons ta (tCons tb tNil))) tz D σ H :=
  h H (Ex.refl H) _ fun p H1 hp e1 h1 => hb H1 e1 _ fun q H2 hq e2 h2 => ⟨.ref p, .ref q, rfl, k p q H2 hp (fresh_back e1 hq) (ne_of_none h1 hq) (e1.trans e2) (e2 p _ h1) h2⟩
end
end K54

set_option Elab.async false
set_option linter.all false
set_option maxRecDepth 100000
set_option maxHeartbeats 4000000
namespace K54
open PySem PySem.Spec PyProof.Rows L2 Evl
abbrev s_heights_of : Stmt := topS 17
abbrev s_heights_of_N : List Str := ["word", "is_most", "found", "at", "size", "low", "high", "sizes", "middle", "left", "right"]
theorem s_heights_of_sc : FnScope s_heights_of_N ["word", "is_most"] (defScope s_heights_of) := ⟨rfl, rfl, rfl, by decide +kernel, rfl, by decide +kernel, by decide +kernel⟩
abbrev s_least_height : Stmt := topS 18
abbrev s_least_height_N : List Str := ["word"]
theorem s_least_height_sc : FnScope s_least_height_N ["word"] (defScope s_least_height) := ⟨rfl, rfl, rfl, by decide +kernel, rfl, by decide +kernel, by decide +kernel⟩
abbrev s_best_middle : Stmt := topS 20
abbrev s_best_middle_N : List Str := ["word", "table", "low", "high", "middle", "left", "right"]
theorem s_best_middle_sc : FnScope s_best_middle_N ["word", "table", "low", "high"] (defScope s_best_middle) := ⟨rfl, rfl, rfl, by decide +kernel, rfl, by decide +kernel, by decide +kernel⟩
def oV : Option Nat → V
  | none => .non
  | some k => nV k
/-- the table's first entries -/
def tab0 : Nat → List (List Key × V)
  | 0 => []
  | m + 1 => putK (tab0 m) (ky m (m + 1)) (.int 0)
theorem tab0_len : ∀ m, (tab0 m).length ≤ m
  | 0 => Nat.le_refl _
  | m + 1 => Nat.le_trans (length_putK (tab0 m) (ky m (m + 1)) (.int 0)) (Nat.succ_le_succ (tab0_len m))
theorem tab0_val : ∀ m a, a < m → valV (tab0 m) (ky a (a + 1)) = some (.int 0)
  | 0, a, h => absurd h (Nat.not_lt_zero a)
  | m + 1, a, h => by
    show valV (putK (tab0 m) (ky m (m + 1)) (.int 0)) (ky a (a + 1)) = _
    rw [valV_put]
    by_cases c : a = m
    · subst c
      rw [if_pos rfl]
    · rw [if_neg fun z => c (ky_inj z).1]
      exact tab0_val m a (by omega)
section
variable {P : Program} {w : World} {K : PySem.W.Frag} {mg : Str → Option Value} {base : Heap}
theorem q_dc0 {σ : L2.St} {H : Hp} {D : Ends} {tz : TS} {ta : TA} {tk tv : TE} {i j : Nat} {vs : List Nat} {n : Int} (h : EvA ta σ H [.int n]) (hn : 0 ≤ n ∧ n ≤ 1000) (hw : ∀ x, wipe ((wipe σ vs).set j (some x)) vs = wipe σ vs)
    (h1 : ∀ (m : Nat) H1, Ex H H1 → EvU tk ((wipe σ vs).set j (some (nV m))) H1 [nV m, nV (m + 1)]) (h2 : ∀ (m : Nat) H1, Ev tv ((wipe σ vs).set j (some (nV m))) H1 (.int 0))
    (k : ∀ d H1, H d = none → Ex H H1 → H1 d = some (.dT (tab0 n.toNat)) → tz D (σ.set i (some (.ref d))) H1) : tSeq (tAsg (tDcT (iRng1 ta) (gName j) tYes tk tv vs) (gName i)) tz D σ H :=
  h H (Ex.refl H) _ fun H1 e1 => ⟨n, rfl, by omega, by omega, fun Dl hD => dcT_range (lo := 0) (n := n.toNat) (fun m H' => Ex H1 H' ∧ H' Dl = some (.dT (tab0 m))) ⟨Ex.new hD, upd_same⟩ (fun m H' hm p => by
      have e0 : (0 : Int) + (m : Int) = (m : Int) := Int.zero_add _
      show wipe ((wipe σ vs).set j (some (.int ((0 : Int) + (m : Int))))) vs = wipe σ vs ∧ _
      rw [e0]
      refine ⟨hw _, ?_⟩
      obtain ⟨p1, p2⟩ := p
      show tk ((wipe σ vs).set j (some (nV m))) H' (fun y H4 => tv ((wipe σ vs).set j (some (nV m))) H4 fun z H5 => ∃ kvs k p, y = .ref p ∧ H5 p = some (.tup (List.map kV k)) ∧ H5 Dl = some (.dT kvs) ∧ kvs.length < sizeLine ∧ (Ex H1 (upd H5 Dl (.dT (putK kvs k z))) ∧ upd H5 Dl (.dT (putK kvs k z)) Dl = some (.dT (tab0 (m + 1)))))
      refine h1 m H' (e1.trans p1) H' (Ex.refl H') _ fun q H3 hq e3 h3 => h2 m H3 H3 (Ex.refl H3) _ fun H4 e4 => ⟨tab0 m, ky m (m + 1), q, rfl, e4 q _ h3, e4 Dl _ (e3 Dl _ p2), sz_lt (by have := tab0_len m; omega), ?_, upd_same⟩
      exact Ex.mut ((p1.trans e3).trans e4) hD) (fun H' p => k Dl H' (fresh_back e1 hD) (e1.trans p.1) p.2)⟩
theorem ev_maxN {σ : L2.St} {H : Hp} {ta tb : TE} {a b : Nat} (ha : Ev ta σ H (nV a)) (hb : Ev tb σ H (nV b)) : Ev (tCB rMax2 (tCons ta (tCons tb tNil))) σ H (nV (max a b)) := by
  have q := ev_max2 ha hb
  have e : (if (b : Int) > (a : Int) then (b : Int) else (a : Int)) = ((max a b : Nat) : Int) := by
    by_cases c : (b : Int) > (a : Int)
    · rw [if_pos c]; omega
    · rw [if_neg c]; omega
  rw [e] at q
  exact q
/-- fits(..) and left is not None and right is not None -/
theorem et_cand {σ : L2.St} {H : Hp} {cs : Wd} {l m h : Nat} {i0 i1 i2 i3 i4 i5 : Nat} {a b : Option Nat} (hz : cs.length ≤ 1000) (hl : l < cs.length) (hm : m < cs.length) (hh : h < cs.length) (v0 : σ[i0]? = some (some (Wv cs))) (v1 : σ[i1]? = some (some (nV l))) (v2 : σ[i2]? = some (some (nV m))) (v3 : σ[i3]? = some (some (nV h))) (v4 : σ[i4]? = some (some (oV a))) (v5 : σ[i5]? = some (some (oV b))) :
    EvT (tAnd (tB (tCall spFits [] E0 (tCons (tVar i0) (tCons (tVar i1) (tCons (tVar i2) (tCons (tVar i3) tNil)))))) (tAnd (tTest (tOp rNotNn (tVar i4) (tC .non))) (tTest (tOp rNotNn (tVar i5) (tC .non))))) σ H (fitsB cs l m h && (a.isSome && b.isSome)) := by
  refine et_and (et_B (ev_c1 (ea_cons (ev_var v0) (ea_cons (ev_var v1) (ea_cons (ev_var v2) (ea_cons (ev_var v3) ea_nil)))) fun H1 e Q k E => ⟨cs, l, m, h, rfl, hz, hl, hm, hh, k⟩)) fun _ => ?_
  refine et_and (et_is (et_test (ev_op (ev_var v4) ev_c rv_notN)) ?_) fun _ => et_is (et_test (ev_op (ev_var v5) ev_c rv_notN)) ?_
  · cases a <;> rfl
  · cases b <;> rfl
/-- the word's table -/
def Tab (cs : Wd) (H : Hp) (d : Addr) : Prop := ∃ kvs, H d = some (.dT kvs) ∧ ∀ l h, l < h → h < cs.length → valV kvs (ky l h) = some (oV (T cs l h))
def spHeights : Sp := fun vs H Q _ => ∃ cs : Wd, vs = [Wv cs, .bl false] ∧ IsW cs ∧ cs.length ≤ 60 ∧ ∀ d H', H d = none → Ex H H' → Tab cs H' d → Q (.ref d) H'
theorem cal_heights_of (D : Df K mg "heights_of" s_heights_of) (B : Bt mg) (Cfits : Cal P w K mg base 1 "fits" spFits) : Cal P w K mg base 2 "heights_of" spHeights := by
  refine D.cal s_heights_of_sc (fun _ _ _ _ _ _ us hl => match us, hl with | [_, _], _ => rfl) (fun vs H Q E h => ?_) (fun f cdv A outer s H vs Q E hr h => ?_)
  · obtain ⟨cs, rfl, _⟩ := h
    rfl
  · obtain ⟨cs, rfl, W, hz, k⟩ := h
    have h2 := W.two
    refine ⟨_, (pss_cons (ps_setDcT (i := 2) (own := [("at", 3)]) (g := gName 3) hr.units0 rfl s_heights_of_sc.nd rfl rfl (sw_trueD rfl rfl rfl (by decide +kernel)) (pi_range1 (by rfl) B.range (pa_cons (pe_op op_sub (pe_callB call_len_str (by rfl) B.len bt_len (pa_cons (pv 0) pa_nil)) pe_int) pa_nil)) (blkOk_by (own := [("at", 3)]) (N := s_heights_of_N) (sc := defScope s_heights_of) (by decide +kernel)) (fun _ _ _ _ _ => pg_name (i := 3) s_heights_of_sc.nd rfl (.inl rfl)) (fun _ _ _ _ _ => pts_nil) (fun _ _ _ _ _ => (pe_tup (pa_cons (pv 3) (pa_cons (pe_op op_add (pv 3) pe_int) pa_nil)))) (fun _ _ _ _ _ => pe_int))
    (pss_cons (ps_for PassesOwn.never rfl (pi_range2 (by rfl) B.range (pa_cons pe_int (pa_cons (pe_callB call_len_str (by rfl) B.len bt_len (pa_cons (pv 0) pa_nil)) pa_nil))) (pg_name (i := 4) s_heights_of_sc.nd rfl (.inl rfl))
      (pss_one (ps_for PassesOwn.never rfl (pi_range1 (by rfl) B.range (pa_cons (pe_op op_sub (pe_callB call_len_str (by rfl) B.len bt_len (pa_cons (pv 0) pa_nil)) (pv 4)) pa_nil)) (pg_name (i := 5) s_heights_of_sc.nd rfl (.inl rfl))
        (pss_cons (ps_par (i := 6) (j := 7) rfl s_heights_of_sc.nd rfl rfl (by decide) rfl rfl (pa_cons (pe_op op_add (pv 5) (pv 4)) (pa_cons (pe_lst pa_nil) pa_nil)) (by rfl))
        (pss_cons (ps_for PassesOwn.never rfl (pi_range2 (by rfl) B.range (pa_cons (pe_op op_add (pv 5) pe_int) (pa_cons (pv 6) pa_nil))) (pg_name (i := 8) s_heights_of_sc.nd rfl (.inl rfl))
          (pss_cons (ps_par (i := 9) (j := 10) rfl s_heights_of_sc.nd rfl rfl (by decide) rfl rfl (pa_cons (pe_dget (hu_of hr) (pv 2) (pe_tup (pa_cons (pv 5) (pa_cons (pv 8) pa_nil))) (fun _ _ => rfl)) (pa_cons (pe_dget (hu_of hr) (pv 2) (pe_tup (pa_cons (pv 8) (pa_cons (pv 6) pa_nil))) (fun _ _ => rfl)) pa_nil)) (by rfl))
          (pss_one (ps_if (pw_and (pt_val (pe_c Cfits hr (by decide) (by rfl) (pa_cons (pv 0) (pa_cons (pv 5) (pa_cons (pv 8) (pa_cons (pv 6) pa_nil)))))) (pw_and (pt_cmpR op_notN (pv 9) pe_non (nomark _)) (pw_and1 (pt_cmpR op_notN (pv 10) pe_non (nomark _))))).pt
            (pss_one (ps_expr (pe_bm PySem.F.plainAttrs_list PySem.F.slot_list_append PySem.F.type_list_append mt_append (pv 7) (pa_cons (pe_op op_add pe_int (pe_callB (call_max2 rfl) (by rfl) B.max bt_max (pa_cons (pv 9) (pa_cons (pv 10) pa_nil)))) pa_nil))))
            pss_nil))))
        (pss_one (ps_dput (hu_of hr) (pv 2) (pe_tup (pa_cons (pv 5) (pa_cons (pv 6) pa_nil))) (pe_ifExp (pt_cmpR (op_neD hr.units) (pv 7) (pe_lst pa_nil) (nomark _)) (pe_ifExp (pt_val (pv 1)) (pe_callB (cr_max rfl) (by rfl) B.max bt_max (pa_cons (pv 7) pa_nil)) (pe_callB (cr_min rfl) (by rfl) B.min bt_min (pa_cons (pv 7) pa_nil))) pe_non) (by rfl))))))))
    (pss_one (ps_ret (pv 2))))), ?_⟩
    -- found = {..}
    refine q_dc0 (n := (cs.length : Int) - 1) (ea_cons (ev_op (ev_lenW (ev_var rfl) (by omega)) ev_c rv_I0) ea_nil) (by omega) (fun _ => rfl) (fun m H1 e1 => eu_tup (ea_cons (ev_var rfl) (ea_cons (ev_int (ev_op (ev_var rfl) ev_c rv_I0) (by omega)) ea_nil)) (by show 2 ≤ 100000; decide)) (fun m H1 => ev_c) fun d H1 hd e1 h1 => ?_
    rw [show ((cs.length : Int) - 1).toNat = cs.length - 1 by omega] at h1
    -- for size in range(2, len(word))
    refine q_forR2 (lo := 2) (n := (cs.length : Int)) (ea_cons ev_c (ea_cons (ev_lenW (ev_var rfl) (by omega)) ea_nil)) (by omega)
      (fun i σ' H' => Ex H H' ∧ (∃ kvs, H' d = some (.dT kvs) ∧ kvs.length ≤ 60 + 60 * i ∧ ∀ l h, l < h → h < cs.length → h ≤ l + 1 + i → valV kvs (ky l h) = some (oV (T cs l h))) ∧
        ∃ a3 a4 a5 a6 a7 a8 a9 a10, σ' = [some (Wv cs), some (.bl false), some (.ref d), a3, a4, a5, a6, a7, a8, a9, a10])
      (fun H2 e2 => ⟨e1.trans e2, ⟨_, e2 d _ h1, by have := tab0_len (cs.length - 1); omega, fun l h c1 c2 c3 => ?_⟩, _, _, _, _, _, _, _, _, rfl⟩) (fun i σ' H' hi pv => ?_) (fun σ' H' pv => ?_)
    · obtain rfl : h = l + 1 := by omega
      rw [T_one (by omega), tab0_val _ l (by omega)]
      rfl
    · obtain ⟨ee, ⟨kvs, hk, hkl, hkv⟩, a3, a4, a5, a6, a7, a8, a9, a10, rfl⟩ := pv
      have hi' : 2 + i < cs.length := by omega
      -- for low in range(len(word) - size)
      refine s_forR1 (n := (cs.length : Int) - (2 + i)) (ea_cons (ev_op (ev_lenW (ev_var rfl) (by omega)) (ev_var rfl) rv_I0) ea_nil) (by omega)
        (fun j σ' H' => Ex H H' ∧ (∃ kvs, H' d = some (.dT kvs) ∧ kvs.length ≤ 60 + 60 * i + j ∧ (∀ l h, l < h → h < cs.length → h ≤ l + 1 + i → valV kvs (ky l h) = some (oV (T cs l h))) ∧ ∀ l, l < j → valV kvs (ky l (l + 2 + i)) = some (oV (T cs l (l + 2 + i)))) ∧
          ∃ a5 a6 a7 a8 a9 a10, σ' = [some (Wv cs), some (.bl false), some (.ref d), a3, some (.int (2 + i)), a5, a6, a7, a8, a9, a10])
        (fun H2 e2 => ⟨ee.trans e2, ⟨_, e2 d _ hk, by omega, hkv, fun l c => absurd c (Nat.not_lt_zero l)⟩, _, _, _, _, _, _, rfl⟩) (fun j σ' H' hj pv => ?_) (fun σ' H' pv => ?_)
      · obtain ⟨ee, ⟨kvs, hk, hkl, hkv, hkj⟩, a5, a6, a7, a8, a9, a10, rfl⟩ := pv
        have hj' : j + 2 + i < cs.length := by omega
        -- high, sizes = low + size, []
        refine q_parL (x := nV (j + 2 + i)) (ev_int (ev_op (ev_var rfl) (ev_var rfl) rv_I0) (by omega)) (el_lst ea_nil (Nat.zero_le _)) fun p H2 hp e2 h2 => ?_
        have np : p ≠ d := (ne_of_none hk hp).symm
        have pH : H p = none := fresh_back ee hp
        -- for middle in range(low + 1, high)
        refine q_forR2 (lo := (j : Int) + 1) (n := ((j + 2 + i : Nat) : Int)) (ea_cons (ev_op (ev_var rfl) ev_c rv_I0) (ea_cons (ev_var rfl) ea_nil)) (by omega)
          (fun m σ' H3 => Ex H H3 ∧ H3 d = some (.dT kvs) ∧ H3 p = some (.lst (nVs (cds cs j (j + 2 + i) m))) ∧ ∃ a8 a9 a10, σ' = [some (Wv cs), some (.bl false), some (.ref d), a3, some (.int (2 + i)), some (nV j), some (nV (j + 2 + i)), some (.ref p), a8, a9, a10])
          (fun H3 e3 => ⟨(ee.trans e2).trans e3, e3 d _ (e2 d _ hk), e3 p _ h2, _, _, _, rfl⟩) (fun m σ' H3 hm pv => ?_) (fun σ' H3 pv => ?_)
        · obtain ⟨e3, hk3, hp3, a8, a9, a10, rfl⟩ := pv
          have hm' : j + 1 + m < j + 2 + i := by omega
          have em : (j : Int) + 1 + (m : Int) = ((j + 1 + m : Nat) : Int) := by omega
          rw [em]
          -- left, right = found[low, middle], found[middle, high]
          have g1 := hkv j (j + 1 + m) (by omega) (by omega) (by omega)
          have g2 := hkv (j + 1 + m) (j + 2 + i) (by omega) (by omega) (by omega)
          refine q_par (x := oV (T cs j (j + 1 + m))) (y := oV (T cs (j + 1 + m) (j + 2 + i))) (ea_cons (ev_get (ev_var rfl) hk3 (ev_var rfl) (ev_var rfl) g1) (ea_cons (ev_get (ev_var rfl) hk3 (ev_var rfl) (ev_var rfl) g2) ea_nil)) fun H4 e4 => ?_
          have et := et_cand (σ := [some (Wv cs), some (.bl false), some (.ref d), a3, some (.int (2 + i)), some (nV j), some (nV (j + 2 + i)), some (.ref p), some (nV (j + 1 + m)), some (oV (T cs j (j + 1 + m))), some (oV (T cs (j + 1 + m) (j + 2 + i)))]) (H := H4) (cs := cs) (l := j) (m := j + 1 + m) (h := j + 2 + i) (i0 := 0) (i1 := 5) (i2 := 8) (i3 := 6) (i4 := 9) (i5 := 10) (a := T cs j (j + 1 + m)) (b := T cs (j + 1 + m) (j + 2 + i)) (by omega) (by omega) (by omega) (by omega) rfl rfl rfl rfl rfl rfl
          have cs1 : cds cs j (j + 2 + i) (m + 1) = cds cs j (j + 2 + i) m ++ (cand cs (T cs) j (j + 2 + i) (j + 1 + m)).toList := cds_succ cs j (j + 2 + i) m
          refine s_if et (fun hb H5 e5 => ?_) (fun hb H5 e5 => ?_)
          · simp only [Bool.and_eq_true] at hb
            obtain ⟨hf, ha, hb⟩ := hb
            obtain ⟨a, ea⟩ := Option.isSome_iff_exists.mp ha
            obtain ⟨b, eb⟩ := Option.isSome_iff_exists.mp hb
            have ec : cand cs (T cs) j (j + 2 + i) (j + 1 + m) = some (1 + max a b) := cand_some.mpr ⟨hf, a, b, ea, eb, rfl⟩
            rw [ea, eb]
            have hp5 := e5 p _ (e4 p _ hp3)
            refine s_app (v := nV (1 + max a b)) hp5 (ev_var rfl) (ev_int (ev_op ev_c (ev_maxN (a := a) (b := b) (ev_var rfl) (ev_var rfl)) rv_I0) (by omega)) (by have := cds_len cs j (j + 2 + i) m; rw [List.length_map]; omega) fun H6 e6 => ?_
            refine ⟨Ex.mut (((e3.trans e4).trans e5).trans e6) pH, ?_, ?_, _, _, _, rfl⟩
            · rw [upd_ne np.symm]
              exact e6 d _ (e5 d _ (e4 d _ hk3))
            · rw [upd_same, cs1, ec]
              show _ = some (HO.lst (List.map nV (_ ++ [1 + max a b])))
              rw [List.map_append]
              rfl
          · have ec : cand cs (T cs) j (j + 2 + i) (j + 1 + m) = none := by
              cases z : cand cs (T cs) j (j + 2 + i) (j + 1 + m) with
              | none => rfl
              | some v =>
                obtain ⟨hf, a, b, ea, eb, _⟩ := cand_some.mp z
                rw [hf, ea, eb] at hb
                cases hb
            refine ⟨(e3.trans e4).trans e5, e5 d _ (e4 d _ hk3), ?_, _, _, _, rfl⟩
            rw [cs1, ec]
            show H5 p = some (HO.lst (nVs (_ ++ [])))
            rw [List.append_nil]
            exact e5 p _ (e4 p _ hp3)
        · obtain ⟨e3, hk3, hp3, a8, a9, a10, rfl⟩ := pv
          have em : (((j + 2 + i : Nat) : Int) - ((j : Int) + 1)).toNat = (j + 2 + i) - j - 1 := by omega
          rw [em] at hp3
          generalize hcd : cds cs j (j + 2 + i) (j + 2 + i - j - 1) = cd at hp3
          have tst : Ev (tOp (rNeD K) (tVar 7) (tLst tNil)) [some (Wv cs), some (.bl false), some (.ref d), a3, some (.int (2 + i)), some (nV j), some (nV (j + 2 + i)), some (.ref p), a8, a9, a10] H3 (.bl (!(cd.map nD).isEmpty)) :=
            ev_neNil (ev_var rfl) (fun H4 e4 => .lst (sq_of (e4 p _ hp3)) (dp_N cd)) (sh_N cd)
          have val : Ev (tIf (tTest (tOp (rNeD K) (tVar 7) (tLst tNil))) (tIf (tB (tVar 1)) (tCB (rMax K) (tCons (tVar 7) tNil)) (tCB (rMin K) (tCons (tVar 7) tNil))) (tC .non)) [some (Wv cs), some (.bl false), some (.ref d), a3, some (.int (2 + i)), some (nV j), some (nV (j + 2 + i)), some (.ref p), a8, a9, a10] H3 (oV (T cs j (j + 2 + i))) := by
            refine ev_if (et_test tst) (fun hb => ?_) (fun hb => ?_)
            · refine ev_if (b := false) (et_B (ev_var rfl)) (fun z => nomatch z) fun _ => ?_
              have hne : cd ≠ [] := fun z => by rw [z] at hb; cases hb
              obtain ⟨mn, e⟩ : ∃ mn, T cs j (j + 2 + i) = some mn := by
                cases z : T cs j (j + 2 + i) with
                | some mn => exact ⟨mn, rfl⟩
                | none =>
                  rw [T_eq (by omega), hcd] at z
                  exact absurd (List.min?_eq_none_iff.mp z) hne
              rw [e]
              rw [T_eq (by omega), hcd] at e
              obtain ⟨m1, m2⟩ := List.min?_eq_some_iff.mp e
              refine ev_minV (p := p) (ns := cd.map Int.ofNat) (ev_var rfl) (by rw [← nVs_int]; exact sq_of hp3) (by rw [List.length_map]; exact List.length_pos_iff.mpr hne) fun q hq hall => ?_
              obtain ⟨x, hx, rfl⟩ := List.mem_map.mp hq
              have a1 := hall (Int.ofNat mn) (List.mem_map.mpr ⟨mn, m1, rfl⟩)
              have a2 := m2 x hx
              show (x : Int) = (mn : Int)
              have a1 : (x : Int) ≤ (mn : Int) := a1
              omega
            · have he : cd = [] := by
                cases z : cd with
                | nil => rfl
                | cons x r => rw [z] at hb; cases hb
              rw [T_nil (by omega) (hcd.trans he)]
              exact ev_c
          refine s_dput (l := j) (h := j + 2 + i) val (ev_var rfl) hk3 (ev_var rfl) (ev_var rfl) (by omega) fun H4 e4 => ?_
          have new : ∀ l h, valV (putK kvs (ky j (j + 2 + i)) (oV (T cs j (j + 2 + i)))) (ky l h) = if ky l h = ky j (j + 2 + i) then some (oV (T cs j (j + 2 + i))) else valV kvs (ky l h) := fun l h => valV_put _ _ _ _
          refine ⟨Ex.mut (e3.trans e4) hd, ⟨_, upd_same, by have := length_putK kvs (ky j (j + 2 + i)) (oV (T cs j (j + 2 + i))); omega, fun l h c1 c2 c3 => ?_, fun l c => ?_⟩, _, _, _, _, _, _, rfl⟩
          · rw [new, if_neg (fun z => by have := ky_inj z; omega)]
            exact hkv l h c1 c2 c3
          · rw [new]
            by_cases c1 : l = j
            · subst c1
              rw [if_pos rfl]
            · rw [if_neg fun z => c1 (ky_inj z).1]
              exact hkj l (by omega)
      · obtain ⟨ee, ⟨kvs, hk, hkl, hkv, hkj⟩, a5, a6, a7, a8, a9, a10, rfl⟩ := pv
        refine ⟨ee, ⟨kvs, hk, by omega, fun l h c1 c2 c3 => ?_⟩, _, _, _, _, _, _, _, _, rfl⟩
        by_cases c4 : h ≤ l + 1 + i
        · exact hkv l h c1 c2 c4
        · obtain rfl : h = l + 2 + i := by omega
          exact hkj l (by omega)
    · obtain ⟨ee, ⟨kvs, hk, hkl, hkv⟩, a3, a4, a5, a6, a7, a8, a9, a10, rfl⟩ := pv
      refine s_ret (ev_var rfl) fun H2 e2 => k d H2 hd (ee.trans e2) ⟨kvs, e2 d _ hk, fun l h c1 c2 => hkv l h c1 c2 (by omega)⟩
end
end K54

set_option Elab.async false
set_option linter.all false
set_option maxRecDepth 100000
set_option maxHeartbeats 2000000
namespace K54
open PySem PySem.Spec PyProof.Rows L2 Evl
/-! ### what a change of a list leaves -/
/-- all that never changes stays -/
def ExT (H H' : Hp) : Prop := ∀ b o, H b = some o → ¬ Mut (some o) → H' b = some o
theorem ExT.refl (H : Hp) : ExT H H := fun _ _ h _ => h
theorem ExT.trans {H H1 H2 : Hp} (a : ExT H H1) (b : ExT H1 H2) : ExT H H2 := fun x o h m => b x o (a x o h m) m
theorem Ex.exT {H H' : Hp} (e : Ex H H') : ExT H H' := fun b o h _ => e b o h
theorem ExT.lst {H : Hp} {r : Addr} {xs : List V} {o : HO} (h : H r = some (.lst xs)) : ExT H (upd H r o) := fun b u hb m => by
  have : b ≠ r := fun z => by
    rw [z, h] at hb
    cases hb
    exact m True.intro
  rw [upd_ne this]
  exact hb
theorem ExT.sq {K : PySem.W.Frag} {H H' : Hp} {a : Addr} {xs : List V} (e : ExT H H') (h : SqT K H a xs) : SqT K H' a xs := by
  rcases h with (h | ⟨o, h⟩) | h
  · exact .inl (.inl (e a _ h fun z => z))
  · exact .inl (.inr ⟨o, e a _ h fun z => z⟩)
  · exact .inr h
theorem LT.exT {K : PySem.W.Frag} {H H' : Hp} {vs : List V} {nss : List (List Nat)} (h : LT K H vs nss) (e : ExT H H') : LT K H' vs nss := Paired.mapP h fun _ _ ⟨a, ea, q⟩ => ⟨a, ea, e.sq q⟩
theorem Tab.ex {cs : Wd} {H H' : Hp} {d : Addr} (t : Tab cs H d) (e : Ex H H') : Tab cs H' d := let ⟨kvs, h, q⟩ := t; ⟨kvs, e d _ h, q⟩
theorem Tab.lst {cs : Wd} {H : Hp} {d r : Addr} {xs : List V} {o : HO} (t : Tab cs H d) (h : H r = some (.lst xs)) : Tab cs (upd H r o) d := by
  obtain ⟨kvs, hk, q⟩ := t
  refine ⟨kvs, ?_, q⟩
  rw [upd_ne (ne_of hk h fun z => nomatch z)]
  exact hk
/-! ### a list of lists of whole numbers -/
structure LL (H : Hp) (f : Addr) (ps : List Addr) (rows : List (List Nat)) : Prop where
  hd : H f = some (.lst (ps.map V.ref))
  nd : ps.Nodup
  len : ps.length = rows.length
  row : ∀ (k : Nat) p ns, ps[k]? = some p → rows[k]? = some ns → H p = some (.lst (nVs ns))
theorem LL.ex {H H' : Hp} {f : Addr} {ps : List Addr} {rows : List (List Nat)} (L : LL H f ps rows) (e : Ex H H') : LL H' f ps rows := ⟨e f _ L.hd, L.nd, L.len, fun k p ns h1 h2 => e p _ (L.row k p ns h1 h2)⟩
theorem LL.both {H : Hp} {f : Addr} {ps : List Addr} {rows : List (List Nat)} (L : LL H f ps rows) {k : Nat} (h : k < rows.length) : ∃ p ns, ps[k]? = some p ∧ rows[k]? = some ns ∧ H p = some (.lst (nVs ns)) := by
  have h' : k < ps.length := by rw [L.len]; exact h
  exact ⟨_, _, List.getElem?_eq_getElem h', List.getElem?_eq_getElem h, L.row k _ _ (List.getElem?_eq_getElem h') (List.getElem?_eq_getElem h)⟩
theorem LL.mem {H : Hp} {f : Addr} {ps : List Addr} {rows : List (List Nat)} (L : LL H f ps rows) {p : Addr} (h : p ∈ ps) : ∃ ns, H p = some (.lst (nVs ns)) := by
  obtain ⟨k, hk, e⟩ := List.getElem_of_mem h
  obtain ⟨q, ns, h1, _, h3⟩ := L.both (k := k) (by rw [← L.len]; exact hk)
  rw [List.getElem?_eq_getElem hk, e] at h1
  cases h1
  exact ⟨ns, h3⟩
theorem LL.nf {H : Hp} {f : Addr} {ps : List Addr} {rows : List (List Nat)} (L : LL H f ps rows) : f ∉ ps := fun h => by
  obtain ⟨ns, e⟩ := L.mem h
  rw [L.hd] at e
  injection e with e
  injection e with e
  cases ps with
  | nil => cases h
  | cons p r =>
    cases ns with
    | nil => cases e
    | cons n s =>
      injection e with e _
      cases e
/-- another list is changed -/
theorem LL.other {H : Hp} {f r : Addr} {ps : List Addr} {rows : List (List Nat)} {o : HO} (L : LL H f ps rows) (h1 : r ≠ f) (h2 : r ∉ ps) : LL (upd H r o) f ps rows :=
  ⟨by rw [upd_ne h1.symm]; exact L.hd, L.nd, L.len, fun k p ns a b => by
    have hne : p ≠ r := fun z => h2 (z ▸ List.mem_of_getElem? a)
    rw [upd_ne hne]
    exact L.row k p ns a b⟩
/-- one of the lists is changed -/
theorem LL.put {H : Hp} {f p : Addr} {ps : List Addr} {rows : List (List Nat)} {k : Nat} {ms : List Nat} (L : LL H f ps rows) (h : ps[k]? = some p) : LL (upd H p (.lst (nVs ms))) f ps (rows.set k ms) := by
  have hm : p ∈ ps := List.mem_of_getElem? h
  have hne : f ≠ p := fun z => L.nf (z ▸ hm)
  refine ⟨by rw [upd_ne hne]; exact L.hd, L.nd, by rw [List.length_set]; exact L.len, fun j q ns a b => ?_⟩
  by_cases c : j = k
  · subst c
    rw [h] at a
    cases a
    have hj : j < rows.length := by rw [← L.len]; exact (List.getElem?_eq_some_iff.mp h).1
    rw [List.getElem?_set_self hj] at b
    cases b
    exact upd_same
  · rw [List.getElem?_set_ne (Ne.symm c)] at b
    have hne2 : q ≠ p := fun z => c (nd_ix L.nd (z ▸ a) h)
    rw [upd_ne hne2]
    exact L.row j q ns a b
section
variable {K : PySem.W.Frag} {w : World} {σ : L2.St} {H H' : Hp} {ta tb tc td te tx ty tv : TE} {t u : TT} {x y z v : V} {D : Ends} {tu tw tz : TS}
/-- y = [[] for x in range(n)] -/
theorem q_lcNew {tr : TA} {i j : Nat} {vs : List Nat} {n : Int} (h : EvA tr σ H [.int n]) (hn : 0 ≤ n ∧ n ≤ 1000) (hw : ∀ x, wipe ((wipe σ vs).set j (some x)) vs = wipe σ vs)
    (k : ∀ f ps H1, H f = none → (∀ p ∈ ps, H p = none) → Ex H H1 → LL H1 f ps (List.replicate n.toNat []) → tz D (σ.set i (some (.ref f))) H1) : tSeq (tAsg (tLc (iRng1 tr) (gName j) tYes (tLst tNil) vs) (gName i)) tz D σ H :=
  h H (Ex.refl H) _ fun H1 e1 => ⟨n, rfl, by omega, by omega, fun Dl hD => lc_range (lo := 0) (n := n.toNat)
    (fun m H' => ∃ ps : List Addr, ps.length = m ∧ Ex H1 H' ∧ H' Dl = some (.lst (ps.map V.ref)) ∧ ps.Nodup ∧ ∀ p ∈ ps, H1 p = none ∧ H' p = some (.lst []) ∧ p ≠ Dl)
    ⟨[], rfl, Ex.new hD, upd_same, List.nodup_nil, fun p hp => nomatch hp⟩
    (fun m H' hm ⟨ps, hl, e2, hd, nd, hp⟩ => ⟨hw _, Nat.zero_le _, fun p np => by
      have np1 : H1 p = none := fresh_back e2 np
      have nD : Dl ≠ p := ne_of_none hd np
      refine ⟨ps.map V.ref, by rw [upd_ne nD]; exact hd, sz_lt (by rw [List.length_map]; omega), ps ++ [p], by rw [List.length_append, hl]; rfl, Ex.mut (e2.trans (Ex.new np)) hD, by rw [upd_same, List.map_append]; rfl, ?_, fun q hq => ?_⟩
      · exact nd_snoc nd fun z => by rw [(hp p z).2.1] at np; cases np
      · rcases List.mem_append.mp hq with z | z
        · obtain ⟨a, b, c⟩ := hp q z
          refine ⟨a, ?_, c⟩
          rw [upd_ne c, upd_ne (ne_of_none b np)]
          exact b
        · obtain rfl := List.mem_singleton.mp z
          refine ⟨np1, ?_, nD.symm⟩
          rw [upd_ne nD.symm, upd_same]⟩)
    (fun H' ⟨ps, hl, e2, hd, nd, hp⟩ => k Dl ps H' (fresh_back e1 hD) (fun p z => fresh_back e1 (hp p z).1) (e1.trans e2) ⟨hd, nd, by rw [List.length_replicate]; exact hl, fun m p ns a b => by
      obtain ⟨b1, b2⟩ := List.getElem?_eq_some_iff.mp b
      rw [List.getElem_replicate] at b2
      rw [← b2]
      exact (hp p (List.mem_of_getElem? a)).2.1⟩)⟩
/-- a, b, c = xs.pop() -/
theorem s_pop3 {a b c : Nat} {r q : Addr} {us : List V} (hx : Ev tx σ H (.ref r)) (hr : H r = some (.lst (us ++ [.ref q]))) (hq : SqT K H q [x, y, z])
    (k : ∀ H1, Ex H H1 → D.nx (((σ.set a (some x)).set b (some y)).set c (some z)) (upd H1 r (.lst us))) : tAsg (tBM0 K "list" rPop tx) (gTup K 3 (gCons (gName a) (gCons (gName b) (gCons (gName c) gNil)))) D σ H :=
  hx H (Ex.refl H) _ fun H1 e1 => ⟨.inl ⟨rfl, _, sq_of (e1 r _ hr)⟩, r, us ++ [.ref q], .ref q, rfl, rfl, e1 r _ hr, by simp, by
    rw [List.dropLast_concat]
    exact g_three ((ExT.lst (e1 r _ hr)).sq (ex_t e1 hq)) (k H1 e1)⟩
theorem q_pop3 {a b c : Nat} {r q : Addr} {us : List V} (hx : Ev tx σ H (.ref r)) (hr : H r = some (.lst (us ++ [.ref q]))) (hq : SqT K H q [x, y, z])
    (k : ∀ H1, Ex H H1 → tz D (((σ.set a (some x)).set b (some y)).set c (some z)) (upd H1 r (.lst us))) : tSeq (tAsg (tBM0 K "list" rPop tx) (gTup K 3 (gCons (gName a) (gCons (gName b) (gCons (gName c) gNil))))) tz D σ H := s_pop3 (D := { D with nx := tz D }) hx hr hq k
/-- xs[i].append(m) -/
theorem q_appAt {f p : Addr} {ps : List Addr} {rows : List (List Nat)} {i m : Nat} {ns : List Nat} (L : LL H f ps rows) (hf : Ev ta σ H (.ref f)) (hi : Ev tb σ H (nV i)) (hp : ps[i]? = some p) (hns : rows[i]? = some ns) (he : Ev te σ H (nV m)) (hz : ns.length < 100000)
    (k : ∀ H1, Ex H H1 → tz D σ (upd H1 p (.lst (nVs (ns ++ [m]))))) : tSeq (tDrop (tBM K "list" rAppend (tOp (rIxL K) ta tb) (tCons te tNil))) tz D σ H := by
  have hr := L.row i p ns hp hns
  refine q_app (v := nV m) hr (ev_op hf hi (rv_ixL (sq_of L.hd) (atI_nat (by rw [List.getElem?_map, hp]; rfl)))) he (by rw [List.length_map]; exact hz) fun H1 e1 => ?_
  have := k H1 e1
  rw [show nVs (ns ++ [m]) = nVs ns ++ [nV m] from List.map_append] at this
  exact this
end
end K54

set_option Elab.async false
set_option linter.all false
set_option maxRecDepth 100000
set_option maxHeartbeats 4000000
namespace K54
open PySem PySem.Spec PyProof.Rows L2 Evl
abbrev s_rounds : Stmt := topS 19
abbrev s_rounds_N : List Str := ["word", "table", "found", "turn", "rim", "low", "high", "when", "middle", "some"]
theorem s_rounds_sc : FnScope s_rounds_N ["word"] (defScope s_rounds) := ⟨rfl, rfl, rfl, by decide +kernel, rfl, by decide +kernel, by decide +kernel⟩
section
variable {P : Program} {w : World} {K : PySem.W.Frag} {mg : Str → Option Value} {base : Heap}
/-- heights_of(word, False), called -/
theorem ev_heights {σ : L2.St} {H : Hp} {ta : TA} {cs : Wd} (h : EvA ta σ H [Wv cs, .bl false]) (W : IsW cs) (hz : cs.length ≤ 60) : ∀ H1, Ex H H1 → ∀ Q : VK, (∀ d H2, H1 d = none → Ex H1 H2 → Tab cs H2 d → Q (.ref d) H2) → tCall spHeights [] E0 ta σ H1 Q := fun H1 e Q q =>
  h H1 e _ fun H2 e2 => ⟨cs, rfl, W, hz, fun d H3 hd e3 t => q d H3 (fresh_back e2 hd) (e2.trans e3) t⟩
def spLeast : Sp := fun vs H Q _ => ∃ cs : Wd, vs = [Wv cs] ∧ IsW cs ∧ cs.length ≤ 60 ∧ RetV (oV (T cs 0 (cs.length - 1))) H Q
theorem cal_least_height (D : Df K mg "least_height" s_least_height) (B : Bt mg) (Cneed_tall : Cal P w K mg base 3 "need_tall" spNeedTall) (Cheights_of : Cal P w K mg base 2 "heights_of" spHeights) : Cal P w K mg base 4 "least_height" spLeast := by
  refine D.cal s_least_height_sc (fun _ _ _ _ _ _ us hl => match us, hl with | [_], _ => rfl) (fun vs H Q E h => ?_) (fun f cdv A outer s H vs Q E hr h => ?_)
  · obtain ⟨cs, rfl, _⟩ := h
    rfl
  · obtain ⟨cs, rfl, W, hz, k⟩ := h
    have h2 := W.two
    refine ⟨_, (pss_cons (ps_expr (pe_c Cneed_tall hr (by decide) (by rfl) (pa_cons (pv 0) pa_nil)))
    (pss_one (ps_ret (pe_dget (hu_of hr) (pe_c Cheights_of hr (by decide) (by rfl) (pa_cons (pv 0) (pa_cons pe_bl pa_nil))) (pe_tup (pa_cons pe_int (pa_cons (pe_op op_sub (pe_callB call_len_str (by rfl) B.len bt_len (pa_cons (pv 0) pa_nil)) pe_int) pa_nil))) (fun _ _ => rfl))))), ?_⟩
    refine q_drop (v := .non) (ev_c1 (ea_cons (ev_var rfl) ea_nil) fun H1 e Q k E => ⟨cs, rfl, W, hz, k⟩) fun H1 e1 => ?_
    refine ev_heights (ea_cons (ev_var rfl) (ea_cons ev_c ea_nil)) W hz H1 (Ex.refl H1) _ fun d H2 hd e2 tb => ?_
    obtain ⟨kvs, hk, hv⟩ := tb
    refine (eu_tup (ea_cons ev_c (ea_cons (ev_int (ev_op (ev_lenW (ev_var rfl) (by omega)) ev_c rv_I0) (show (cs.length : Int) - 1 = ((cs.length - 1 : Nat) : Int) by omega)) ea_nil)) (by show 2 ≤ 100000; decide)) H2 (Ex.refl H2) _ fun p H3 hp e3 h3 => ?_
    have g := DGet.t (b := p) (k := ky 0 (cs.length - 1)) (e3 d _ hk) h3
    rw [hv 0 (cs.length - 1) (by omega) (by omega)] at g
    exact ⟨d, _, rfl, g, k H3 ((e1.trans e2).trans e3)⟩
def spBest : Sp := fun vs H Q _ => ∃ (cs : Wd) (d : Addr) (l h v : Nat), vs = [Wv cs, .ref d, nV l, nV h] ∧ cs.length ≤ 60 ∧ Tab cs H d ∧ l + 1 < h ∧ h < cs.length ∧ T cs l h = some v ∧ RetV (nV (bm cs l h)) H Q
theorem cal_best_middle (D : Df K mg "best_middle" s_best_middle) (B : Bt mg) (Cfits : Cal P w K mg base 1 "fits" spFits) : Cal P w K mg base 2 "best_middle" spBest := by
  refine D.cal s_best_middle_sc (fun _ _ _ _ _ _ us hl => match us, hl with | [_, _, _, _], _ => rfl) (fun vs H Q E h => ?_) (fun f cdv A outer s H vs Q E hr h => ?_)
  · obtain ⟨cs, d, l, h, v, rfl, _⟩ := h
    rfl
  · obtain ⟨cs, d, l, h, v, rfl, hz, ⟨kvs, hk, hv⟩, c, hh, hT, k⟩ := h
    refine ⟨_, (pss_cons (ps_for PassesOwn.never rfl (pi_range2 (by rfl) B.range (pa_cons (pe_op op_add (pv 2) pe_int) (pa_cons (pv 3) pa_nil))) (pg_name (i := 4) s_best_middle_sc.nd rfl (.inl rfl))
      (pss_cons (ps_par (i := 5) (j := 6) rfl s_best_middle_sc.nd rfl rfl (by decide) rfl rfl (pa_cons (pe_dget (hu_of hr) (pv 1) (pe_tup (pa_cons (pv 2) (pa_cons (pv 4) pa_nil))) (fun _ _ => rfl)) (pa_cons (pe_dget (hu_of hr) (pv 1) (pe_tup (pa_cons (pv 4) (pa_cons (pv 3) pa_nil))) (fun _ _ => rfl)) pa_nil)) (by rfl))
      (pss_one (ps_if (pw_and (pt_val (pe_c Cfits hr (by decide) (by rfl) (pa_cons (pv 0) (pa_cons (pv 2) (pa_cons (pv 4) (pa_cons (pv 3) pa_nil)))))) (pw_and (pt_cmpR op_notN (pv 5) pe_non (nomark _)) (pw_and1 (pt_cmpR op_notN (pv 6) pe_non (nomark _))))).pt
        (pss_one (ps_if (pt_cmpR op_eq (pe_op op_add pe_int (pe_callB (call_max2 rfl) (by rfl) B.max bt_max (pa_cons (pv 5) (pa_cons (pv 6) pa_nil)))) (pe_dget (hu_of hr) (pv 1) (pe_tup (pa_cons (pv 2) (pa_cons (pv 3) pa_nil))) (fun _ _ => rfl)) (nomark _))
          (pss_one (ps_ret (pv 4)))
          pss_nil))
        pss_nil))))
    (pss_one (ps_ret pe_non))), ?_⟩
    refine q_forR2 (lo := (l : Int) + 1) (n := (h : Int)) (ea_cons (ev_op (ev_var rfl) ev_c rv_I0) (ea_cons (ev_var rfl) ea_nil)) (by omega)
      (fun i σ' H' => Ex H H' ∧ (∀ j, l < j → j < l + 1 + i → cand cs (T cs) l h j ≠ T cs l h) ∧ ∃ a4 a5 a6, σ' = [some (Wv cs), some (.ref d), some (nV l), some (nV h), a4, a5, a6])
      (fun H1 e1 => ⟨e1, fun j a b => by omega, _, _, _, rfl⟩) (fun i σ' H' hi pv => ?_) (fun σ' H' pv => ?_)
    · obtain ⟨ee, hn, a4, a5, a6, rfl⟩ := pv
      have em : (l : Int) + 1 + (i : Int) = ((l + 1 + i : Nat) : Int) := by omega
      rw [em]
      have hk' := ee d _ hk
      refine q_par (x := oV (T cs l (l + 1 + i))) (y := oV (T cs (l + 1 + i) h)) (ea_cons (ev_get (ev_var rfl) hk' (ev_var rfl) (ev_var rfl) (hv l (l + 1 + i) (by omega) (by omega))) (ea_cons (ev_get (ev_var rfl) hk' (ev_var rfl) (ev_var rfl) (hv (l + 1 + i) h (by omega) (by omega))) ea_nil)) fun H4 e4 => ?_
      have et := et_cand (σ := [some (Wv cs), some (.ref d), some (nV l), some (nV h), some (nV (l + 1 + i)), some (oV (T cs l (l + 1 + i))), some (oV (T cs (l + 1 + i) h))]) (H := H4) (cs := cs) (l := l) (m := l + 1 + i) (h := h) (i0 := 0) (i1 := 2) (i2 := 4) (i3 := 3) (i4 := 5) (i5 := 6) (a := T cs l (l + 1 + i)) (b := T cs (l + 1 + i) h) (by omega) (by omega) (by omega) (by omega) rfl rfl rfl rfl rfl rfl
      have next : cand cs (T cs) l h (l + 1 + i) ≠ T cs l h → ∀ j, l < j → j < l + 1 + (i + 1) → cand cs (T cs) l h j ≠ T cs l h := fun z j a b => by
        by_cases cj : j = l + 1 + i
        · rw [cj]; exact z
        · exact hn j a (by omega)
      refine s_if et (fun hb H5 e5 => ?_) (fun hb H5 e5 => ?_)
      · simp only [Bool.and_eq_true] at hb
        obtain ⟨hf, ha, hb⟩ := hb
        obtain ⟨a, ea⟩ := Option.isSome_iff_exists.mp ha
        obtain ⟨b, eb⟩ := Option.isSome_iff_exists.mp hb
        have ec : cand cs (T cs) l h (l + 1 + i) = some (1 + max a b) := cand_some.mpr ⟨hf, a, b, ea, eb, rfl⟩
        rw [ea, eb]
        have hv' := hv l h (by omega) hh
        rw [hT] at hv'
        have ts : EvT (tTest (tOp rEq (tOp (rI0 fun i j => V.int (i + j)) (tC (.int 1)) (tCB rMax2 (tCons (tVar 5) (tCons (tVar 6) tNil)))) (tDGet (tVar 1) (tTup (tCons (tVar 2) (tCons (tVar 3) tNil)))))) [some (Wv cs), some (.ref d), some (nV l), some (nV h), some (nV (l + 1 + i)), some (oV (some a)), some (oV (some b))] H5 (decide (1 + max a b = v)) := by
          refine et_is (et_test (ev_op (x := nV (1 + max a b)) (y := nV v) (ev_int (ev_op ev_c (ev_maxN (a := a) (b := b) (ev_var rfl) (ev_var rfl)) rv_I0) (by omega)) (ev_get (ev_var rfl) ((e4.trans e5) d _ hk') (ev_var rfl) (ev_var rfl) hv') rv_eqI)) ?_
          by_cases z : 1 + max a b = v
          · rw [decide_eq_true z, decide_eq_true (by omega)]
          · rw [decide_eq_false z, decide_eq_false (by omega)]
        refine s_if ts (fun hb H6 e6 => ?_) (fun hb H6 e6 => ?_)
        · have z := of_decide_eq_true hb
          have eb : bm cs l h = l + 1 + i := bm_is (by omega) (by omega) (by rw [ec, hT, z]) fun j a b => hn j a b
          refine s_ret (ev_var rfl) fun H7 e7 => ?_
          rw [← eb]
          exact k H7 ((((ee.trans e4).trans e5).trans e6).trans e7)
        · have z := of_decide_eq_false hb
          exact ⟨((ee.trans e4).trans e5).trans e6, next (by rw [ec, hT]; exact fun q => z (Option.some.inj q)), _, _, _, rfl⟩
      · refine ⟨(ee.trans e4).trans e5, next fun z => ?_, _, _, _, rfl⟩
        rw [hT] at z
        obtain ⟨hf, a, b, ea, eb, _⟩ := cand_some.mp z
        rw [hf, ea, eb] at hb
        cases hb
    · obtain ⟨ee, hn, _⟩ := pv
      obtain ⟨m, h1, h2, h3⟩ := T_best c hT
      exact absurd (h3.trans hT.symm) (hn m h1 (by omega))
end
end K54

set_option Elab.async false
set_option linter.all false
set_option maxRecDepth 100000
set_option maxHeartbeats 2000000
namespace K54
open PySem PySem.Spec PyProof.Rows L2 Evl
/-! plain facts -/
theorem T_le {cs : Wd} : ∀ (k l h v : Nat), h - l ≤ k → l < h → T cs l h = some v → v + 1 ≤ h - l
  | 0, l, h, v, hk, hl, _ => by omega
  | k + 1, l, h, v, hk, hl, e => by
    by_cases c : l + 1 < h
    · obtain ⟨m, h1, h2, h3⟩ := T_best c e
      obtain ⟨_, x, y, ex, ey, ev⟩ := cand_some.mp h3
      have := T_le k l m x (by omega) h1 ex
      have := T_le k m h y (by omega) h2 ey
      omega
    · rw [T_one (by omega)] at e
      have := Option.some.inj e
      omega
theorem mq_len {cs : Wd} : ∀ (f l h w v : Nat), h - l ≤ f → T cs l h = some v → (mq cs f l h w).length ≤ h - l
  | 0, l, h, w, v, _, _ => Nat.zero_le _
  | f + 1, l, h, w, v, hf, e => by
    unfold mq
    by_cases c : h ≤ l + 1
    · rw [if_pos c]
      exact Nat.zero_le _
    · rw [if_neg c]
      obtain ⟨b1, b2, b3⟩ := bm_ok (by omega) e
      obtain ⟨_, x, y, ex, ey, _⟩ := cand_some.mp b3
      have q := Mq_ok e (Nat.le_refl v)
      have h1 := mq_len1 f l (bm cs l h) (w - 1) x (by omega) ex
      have h2 := mq_len1 f (bm cs l h) h (w - 1) y (by omega) ey
      rw [List.length_cons, List.length_append]
      omega
where mq_len1 {cs : Wd} : ∀ (f l h w v : Nat), h - l ≤ f → T cs l h = some v → (mq cs f l h w).length ≤ h - l - 1
  | 0, l, h, w, v, _, _ => Nat.zero_le _
  | f + 1, l, h, w, v, hf, e => by
    unfold mq
    by_cases c : h ≤ l + 1
    · rw [if_pos c]
      exact Nat.zero_le _
    · rw [if_neg c]
      obtain ⟨b1, b2, b3⟩ := bm_ok (by omega) e
      obtain ⟨_, x, y, ex, ey, _⟩ := cand_some.mp b3
      have h1 := mq_len1 f l (bm cs l h) (w - 1) x (by omega) ex
      have h2 := mq_len1 f (bm cs l h) h (w - 1) y (by omega) ey
      rw [List.length_cons, List.length_append]
      omega
theorem sel_len (j : Nat) (L : List E4) : (sel j L).length ≤ L.length := List.length_filterMap_le _ _
theorem sel_app (j : Nat) (L M : List E4) : sel j (L ++ M) = sel j L ++ sel j M := List.filterMap_append
theorem sel_cons (j : Nat) (e : E4) (L : List E4) : sel j (e :: L) = (if e.w = j then [e.m] else []) ++ sel j L := by
  unfold sel
  rw [List.filterMap_cons]
  by_cases c : e.w = j
  · rw [if_pos c, if_pos c]
    rfl
  · rw [if_neg c, if_neg c]
    rfl
def smq (cs : Wd) (s : List S3) : List E4 := s.flatMap fun x => Mq cs x.1 x.2.1 x.2.2
theorem smq_snoc (cs : Wd) (s : List S3) (x : S3) : smq cs (s ++ [x]) = smq cs s ++ Mq cs x.1 x.2.1 x.2.2 := by
  unfold smq
  rw [List.flatMap_append]
  simp
theorem smq_two (cs : Wd) (s : List S3) (x y : S3) : smq cs (s ++ [x, y]) = smq cs s ++ (Mq cs x.1 x.2.1 x.2.2 ++ Mq cs y.1 y.2.1 y.2.2) := by
  unfold smq
  rw [List.flatMap_append]
  simp
/-- sorted whole numbers that are not negative -/
theorem ofNat_back {ns : List Nat} {is : List Int} (h : is.Perm (ns.map Int.ofNat)) (hs : is.Pairwise (· ≤ ·)) : ∃ ms : List Nat, is = ms.map Int.ofNat ∧ ms.Perm ns ∧ ms.Pairwise (· ≤ ·) := by
  have e : is = (is.map Int.toNat).map Int.ofNat := by
    rw [List.map_map]
    have q : is.map id = is.map (Int.ofNat ∘ Int.toNat) := List.map_congr_left fun x hx => by
      obtain ⟨y, _, rfl⟩ := List.mem_map.mp (h.mem_iff.mp hx)
      rfl
    rw [← q, List.map_id]
  refine ⟨is.map Int.toNat, e, ?_, ?_⟩
  · have q := h.map Int.toNat
    rw [List.map_map] at q
    have e2 : ns.map (Int.toNat ∘ Int.ofNat) = ns := by
      have : (Int.toNat ∘ Int.ofNat) = id := by
        funext x
        rfl
      rw [this, List.map_id]
    rw [e2] at q
    exact q
  · rw [List.pairwise_map]
    exact hs.imp fun {a b} hab => Int.toNat_le_toNat hab
def Srt (rows nss : List (List Nat)) : Prop := nss.length = rows.length ∧ ∀ (k : Nat) sm, nss[k]? = some sm → ∃ rk, rows[k]? = some rk ∧ sm.Pairwise (· ≤ ·) ∧ sm.Perm rk
theorem LT.pop {K : PySem.W.Frag} {H : Hp} : ∀ {us : List V} {nss : List (List Nat)} {ns : List Nat}, LT K H us (nss ++ [ns]) → ∃ us' q, us = us' ++ [.ref q] ∧ LT K H us' nss ∧ SqT K H q (nVs ns)
  | _, [], ns, h => by
    cases h with
    | cons r t =>
      cases t
      obtain ⟨q, e, hq⟩ := r
      exact ⟨[], q, by rw [e]; rfl, .nil, hq⟩
  | _, n0 :: nss, ns, h => by
    cases h with
    | cons r t =>
      obtain ⟨us', q, e, h1, h2⟩ := LT.pop t
      exact ⟨_ :: us', q, by rw [e]; rfl, .cons r h1, h2⟩
section
variable {K : PySem.W.Frag} {w : World} {σ : L2.St} {H H' : Hp} {ta tb tc td te tx ty tv tl : TE} {t u : TT} {x y z v : V} {D : Ends} {tu tw tz : TS}
/-- x = [(..)] -/
theorem q_lst1 {i : Nat} {xs : List V} (h : EvU tx σ H xs) (k : ∀ r q H1, H r = none → Ex H H1 → H1 r = some (.lst [.ref q]) → H1 q = some (.tup xs) → tz D (σ.set i (some (.ref r))) H1) : tSeq (tAsg (tLst (tCons tx tNil)) (gName i)) tz D σ H :=
  h H (Ex.refl H) _ fun q H1 hq e1 h1 => ⟨sz_of (by show 1 ≤ 100000; decide), fun r hr => k r q _ (fresh_back e1 hr) (e1.trans (Ex.new hr)) upd_same (by rw [upd_ne (ne_of_none h1 hr)]; exact h1)⟩
/-- xs = xs + [(..), (..)] -/
theorem s_cat2 {i : Nat} {r : Addr} {us xs ys : List V} (hr : Ev ta σ H (.ref r)) (h : H r = some (.lst us)) (hx : EvU tx σ H xs) (hy : EvU ty σ H ys) (hz : us.length ≤ 90000)
    (k : ∀ r' p q H1, H r' = none → Ex H H1 → H1 r' = some (.lst (us ++ [.ref p, .ref q])) → H1 p = some (.tup xs) → H1 q = some (.tup ys) → D.nx (σ.set i (some (.ref r'))) H1) :
    tAsg (tOp rCat ta (tLst (tCons tx (tCons ty tNil)))) (gName i) D σ H :=
  hr H (Ex.refl H) _ fun H1 e1 => hx H1 e1 _ fun p H2 hp e2 h2 => hy H2 (e1.trans e2) _ fun q H3 hq e3 h3 => ⟨sz_of (by show 2 ≤ 100000; decide), fun l hl => by
    have a3 := (e1.trans e2).trans e3
    have nl : ∀ b o, H3 b = some o → b ≠ l := fun b o e => ne_of_none e hl
    refine ⟨r, l, us, [.ref p, .ref q], rfl, rfl, by rw [upd_ne (nl r _ (a3 r _ h))]; exact a3 r _ h, upd_same, sz_of (by show us.length + 2 ≤ 100000; omega), fun r' hr' => ?_⟩
    have hr3 : H3 r' = none := fresh_back (Ex.new hl) hr'
    have a4 : Ex H3 (upd (upd H3 l (.lst [.ref p, .ref q])) r' (.lst (us ++ [.ref p, .ref q]))) := (Ex.new hl).trans (Ex.new hr')
    exact k r' p q _ (fresh_back a3 hr3) (a3.trans a4) upd_same (a4 p _ (e3 p _ h2)) (a4 q _ h3)⟩
/-- [tuple(sorted(some)) for some in rows] -/
theorem ev_srtRows {f : Addr} {ps : List Addr} {rows : List (List Nat)} {j : Nat} {vs : List Nat} (hl : Ev tl σ H (.ref f)) (L : LL H f ps rows) (hz : rows.length ≤ 1000) (hw : ∀ x, wipe ((wipe σ vs).set j (some x)) vs = wipe σ vs) (hj : ∀ x, ((wipe σ vs).set j (some x))[j]? = some (some x)) :
    ∀ H1, Ex H H1 → ∀ Q : VK, (∀ p H2 us nss, H1 p = none → Ex H1 H2 → H2 p = some (.lst us) → LT K H2 us nss → Srt rows nss → Q (.ref p) H2) →
      tLc (iList K tl) (gName j) tYes (tThen (tCB (rSortedI K) (tCons (tVar j) tNil)) (kTup K)) vs σ H1 Q := fun H1 e Q q =>
  hl H1 e _ fun H2 e2 => ⟨f, rfl, ⟨_, sq_of ((e.trans e2) f _ L.hd)⟩, fun Dl hD => by
    have L2 := L.ex (e.trans e2)
    refine lc_list (xs := ps.map V.ref) (fun i H' => Ex H2 H' ∧ ∃ us nss, H' Dl = some (.lst us) ∧ LT K H' us nss ∧ nss.length = i ∧ ∀ (k : Nat) sm, nss[k]? = some sm → ∃ rk, rows[k]? = some rk ∧ sm.Pairwise (· ≤ ·) ∧ sm.Perm rk)
      ⟨Ex.new hD, [], [], upd_same, .nil, rfl, fun k sm h => by simp at h⟩ (fun i H' _ pv => sq_of (pv.1 f _ L2.hd)) (fun i x H' hx pv => ⟨hw x, ?_⟩) (fun H' pv => ?_)
    · obtain ⟨e3, us, nss, hus, hlt, hn, hrow⟩ := pv
      have hi : i < rows.length := by
        have := (List.getElem?_eq_some_iff.mp hx).1
        rw [List.length_map, L.len] at this
        exact this
      obtain ⟨p, ns, hp, hns, hpl⟩ := L2.both hi
      rw [List.getElem?_map, hp] at hx
      obtain rfl : V.ref p = x := Option.some.inj hx
      have hp' := e3 p _ hpl
      refine ⟨_, hj _, p, ns.map Int.ofNat, rfl, by rw [← nVs_int]; exact sq_of hp', fun is a hperm hsort ha => ?_⟩
      obtain ⟨sm, rfl, p1, p2⟩ := ofNat_back hperm hsort
      rw [← nVs_int]
      refine .inl ⟨a, _, rfl, sq_of upd_same, fun b hb => ?_⟩
      have e4 : Ex H' (upd (upd H' a (.lst (nVs sm))) b (.tup (nVs sm))) := (Ex.new ha).trans (Ex.new hb)
      have hD4 := e4 Dl _ hus
      refine ⟨us, hD4, sz_lt (by rw [hlt.len, hn]; omega), Ex.mut (e3.trans e4) hD, us ++ [.ref b], nss ++ [sm], upd_same, ?_, by rw [List.length_append, hn]; rfl, fun k s hk => ?_⟩
      · exact ((hlt.ex e4).app (LT.one (st_of upd_same))).exT (ExT.lst hD4)
      · by_cases c : k < nss.length
        · rw [List.getElem?_append_left c] at hk
          exact hrow k s hk
        · rw [List.getElem?_append_right (by omega)] at hk
          have c2 : k = i := by
            have := (List.getElem?_eq_some_iff.mp hk).1
            rw [List.length_singleton] at this
            omega
          subst c2
          rw [hn, Nat.sub_self] at hk
          obtain rfl : sm = s := Option.some.inj hk
          exact ⟨ns, hns, p2, p1⟩
    · obtain ⟨e3, us, nss, hus, hlt, hn, hrow⟩ := pv
      rw [List.length_map, L.len] at hn
      exact q Dl H' us nss (fresh_back e2 hD) (e2.trans e3) hus hlt ⟨hn, hrow⟩⟩
end
end K54

set_option Elab.async false
set_option linter.all false
set_option maxRecDepth 100000
set_option maxHeartbeats 4000000
namespace K54
open PySem PySem.Spec PyProof.Rows L2 Evl
abbrev t3 (x : S3) : List Nat := [x.1, x.2.1, x.2.2]
section
variable {P : Program} {w : World} {K : PySem.W.Frag} {mg : Str → Option Value} {base : Heap}
/-- what rounds hands back for a word with a tree of least height M -/
def RdOk (K : PySem.W.Frag) (cs : Wd) (M : Nat) (H : Hp) (p : Addr) (nss : List (List Nat)) : Prop := nss.length = M ∧ (∃ us, H p = some (.lst us) ∧ LT K H us nss) ∧ ∀ (k : Nat) sm, nss[k]? = some sm → sm.Pairwise (· ≤ ·) ∧ sm.Perm (sel (k + 1) (Mq cs 0 (cs.length - 1) M))
def spRounds (K : PySem.W.Frag) : Sp := fun vs H Q _ => ∃ cs : Wd, vs = [Wv cs] ∧ IsW cs ∧ cs.length ≤ 60 ∧ (T cs 0 (cs.length - 1) = none → RetV .non H Q) ∧
  ∀ M, T cs 0 (cs.length - 1) = some M → ∀ p H' nss, H p = none → Ex H H' → RdOk K cs M H' p nss → Q (.ref p) H'
theorem cal_rounds (D : Df K mg "rounds" s_rounds) (B : Bt mg) (Cneed_tall : Cal P w K mg base 3 "need_tall" spNeedTall) (Cheights_of : Cal P w K mg base 2 "heights_of" spHeights) (Cbest_middle : Cal P w K mg base 2 "best_middle" spBest) : Cal P w K mg base 4 "rounds" (spRounds K) := by
  refine D.cal s_rounds_sc (fun _ _ _ _ _ _ us hl => match us, hl with | [_], _ => rfl) (fun vs H Q E h => ?_) (fun f cdv A outer s H vs Q E hr h => ?_)
  · obtain ⟨cs, rfl, _⟩ := h
    rfl
  · obtain ⟨cs, rfl, W, hz, kN, kS⟩ := h
    have h2 := W.two
    refine ⟨_, (pss_cons (ps_expr (pe_c Cneed_tall hr (by decide) (by rfl) (pa_cons (pv 0) pa_nil)))
    (pss_cons (ps_set (i := 1) s_rounds_sc.nd rfl (.inl rfl) (pe_c Cheights_of hr (by decide) (by rfl) (pa_cons (pv 0) (pa_cons pe_bl pa_nil))))
    (pss_cons (ps_if (pt_cmpR op_isN (pe_dget (hu_of hr) (pv 1) (pe_tup (pa_cons pe_int (pa_cons (pe_op op_sub (pe_callB call_len_str (by rfl) B.len bt_len (pa_cons (pv 0) pa_nil)) pe_int) pa_nil))) (fun _ _ => rfl)) pe_non (nomark _))
      (pss_one (ps_ret pe_non))
      pss_nil)
    (pss_cons (ps_setLc (i := 2) (own := [("turn", 3)]) (g := gName 3) rfl s_rounds_sc.nd rfl rfl (sw_true rfl rfl rfl (by decide +kernel)) (pi_range1 (by rfl) B.range (pa_cons (pe_dget (hu_of hr) (pv 1) (pe_tup (pa_cons pe_int (pa_cons (pe_op op_sub (pe_callB call_len_str (by rfl) B.len bt_len (pa_cons (pv 0) pa_nil)) pe_int) pa_nil))) (fun _ _ => rfl)) pa_nil)) (blkOk_by (own := [("turn", 3)]) (N := s_rounds_N) (sc := defScope s_rounds) (by decide +kernel)) (fun _ _ _ _ _ => pg_name (i := 3) s_rounds_sc.nd rfl (.inl rfl)) (fun _ _ _ _ _ => pts_nil) (fun _ _ _ _ _ => (pe_lst pa_nil)))
    (pss_cons (ps_set (i := 4) s_rounds_sc.nd rfl (.inl rfl) (pe_lst (pa_cons (pe_tup (pa_cons pe_int (pa_cons (pe_op op_sub (pe_callB call_len_str (by rfl) B.len bt_len (pa_cons (pv 0) pa_nil)) pe_int) (pa_cons (pe_callB call_len_seq (by rfl) B.len bt_len (pa_cons (pv 2) pa_nil)) pa_nil)))) pa_nil)))
    (pss_cons (ps_while PassesOwn.never (pt_cmpR (op_neD hr.units) (pv 4) (pe_lst pa_nil) (nomark _))
      (pss_cons (ps_asg (pe_bm0 PySem.F.plainAttrs_list PySem.F.slot_list_pop PySem.F.type_list_pop mt_pop (pv 4)) (pg_tup rfl (pgs_cons (pg_name (i := 5) s_rounds_sc.nd rfl (.inl rfl)) (pgs_cons (pg_name (i := 6) s_rounds_sc.nd rfl (.inl rfl)) (pgs_cons (pg_name (i := 7) s_rounds_sc.nd rfl (.inl rfl)) pgs_nil)))))
      (pss_one (ps_if (pt_cmpR op_gt (pe_op op_sub (pv 6) (pv 5)) pe_int (nomark _))
        (pss_cons (ps_set (i := 8) s_rounds_sc.nd rfl (.inl rfl) (pe_c Cbest_middle hr (by decide) (by rfl) (pa_cons (pv 0) (pa_cons (pv 1) (pa_cons (pv 5) (pa_cons (pv 6) pa_nil))))))
        (pss_cons (ps_expr (pe_bm PySem.F.plainAttrs_list PySem.F.slot_list_append PySem.F.type_list_append mt_append (pe_ix ix_list (pv 2) (pe_op op_sub (pv 7) pe_int) (fun _ _ => rfl)) (pa_cons (pv 8) pa_nil)))
        (pss_one (ps_set (i := 4) s_rounds_sc.nd rfl (.inl rfl) (pe_op op_cat (pv 4) (pe_lst (pa_cons (pe_tup (pa_cons (pv 5) (pa_cons (pv 8) (pa_cons (pe_op op_sub (pv 7) pe_int) pa_nil)))) (pa_cons (pe_tup (pa_cons (pv 8) (pa_cons (pv 6) (pa_cons (pe_op op_sub (pv 7) pe_int) pa_nil)))) pa_nil))))))))
        pss_nil))))
    (pss_one (ps_ret (pe_lc (own := [("some", 9)]) (g := gName 9) rfl (by exact s_rounds_sc.nd) (pi_list (pv 2)) (blkOk_by (own := [("some", 9)]) (N := s_rounds_N) (sc := defScope s_rounds) (by decide +kernel)) (fun _ _ _ _ _ => pg_name (i := 9) s_rounds_sc.nd rfl (.inl rfl)) (fun _ _ _ _ _ => pts_nil) (fun _ _ _ _ _ => (pe_tupleOf_K (K := K) rfl (by rfl) B.tuple (pe_callB (cr_sortedI_K (K := K) rfl) (by rfl) B.sorted bt_sorted (pa_cons (pv 9) pa_nil))))))))))))), ?_⟩
    refine q_drop (v := .non) (ev_c1 (ea_cons (ev_var rfl) ea_nil) fun H1 e Q k E => ⟨cs, rfl, W, hz, k⟩) fun H1 e1 => ?_
    refine ev_heights (ea_cons (ev_var rfl) (ea_cons ev_c ea_nil)) W hz H1 (Ex.refl H1) _ fun d H2 hd e2 tb => ?_
    have d0 : H d = none := fresh_back e1 hd
    obtain ⟨kvs, hk, hv⟩ := id tb
    have hv0 := hv 0 (cs.length - 1) (by omega) (by omega)
    have top : ∀ {σ : L2.St} {H' : Hp}, Ex H2 H' → σ[0]? = some (some (Wv cs)) → σ[1]? = some (some (.ref d)) → Ev (tDGet (tVar 1) (tTup (tCons (tC (.int 0)) (tCons (tOp (rI0 fun i j => V.int (i - j)) (tCB rLenT (tCons (tVar 0) tNil)) (tC (.int 1))) tNil)))) σ H' (oV (T cs 0 (cs.length - 1))) := fun e v0 v1 =>
      ev_get (l := 0) (h := cs.length - 1) (ev_var v1) (e d _ hk) ev_c (ev_int (ev_op (ev_lenW (ev_var v0) (by omega)) ev_c rv_I0) (by omega)) hv0
    cases hT : T cs 0 (cs.length - 1) with
    | none =>
      refine q_when (b := true) (et_is (et_test (ev_op (top (Ex.refl H2) rfl rfl) ev_c rv_isN)) (by rw [hT]; rfl)) (fun _ H3 e3 => s_ret ev_c fun H4 e4 => kN hT H4 (((e1.trans e2).trans e3).trans e4)) (fun z => nomatch z)
    | some M =>
      have hM := T_le _ 0 (cs.length - 1) M (Nat.le_refl _) (by omega) hT
      refine q_when (b := false) (et_is (et_test (ev_op (top (Ex.refl H2) rfl rfl) ev_c rv_isN)) (by rw [hT]; rfl)) (fun z => nomatch z) fun _ H3 e3 => ?_
      -- found = [[] for turn in range(M)]
      have top3 := top (σ := [some (Wv cs), some (.ref d), none, none, none, none, none, none, none, none]) e3 rfl rfl
      rw [hT] at top3
      refine q_lcNew (n := (M : Int)) (ea_cons top3 ea_nil) (by omega) (fun _ => rfl) fun g ps H4 hg hps e4 L => ?_
      rw [show (M : Int).toNat = M from rfl] at L
      have e14 := ((e1.trans e2).trans e3).trans e4
      have lenps : ps.length = M := by have := L.len; rw [List.length_replicate] at this; exact this
      -- rim = [(0, len(word) - 1, len(found))]
      refine q_lst1 (xs := nVs [0, cs.length - 1, M]) (eu_tup (ea_cons ev_c (ea_cons (ev_int (ev_op (ev_lenW (ev_var rfl) (by omega)) ev_c rv_I0) (by omega)) (ea_cons (ev_int (ev_len (ev_var rfl) (sq_of L.hd)) (by rw [List.length_map, lenps])) ea_nil))) (by show 3 ≤ 100000; decide)) fun r q H5 hr' e5 h5 hq5 => ?_
      have r0 : H r = none := fresh_back e14 hr'
      have rg : r ≠ g := fun z => by rw [z, L.hd] at hr'; cases hr'
      have rps : r ∉ ps := fun z => by
        obtain ⟨ns, e⟩ := L.mem z
        rw [e] at hr'
        cases hr'
      have g0 : H g = none := fresh_back ((e1.trans e2).trans e3) hg
      have ps0 : ∀ p ∈ ps, H p = none := fun p hp => fresh_back ((e1.trans e2).trans e3) (hps p hp)
      -- while rim != []
      refine q_while (fun m σ' H' => ∃ (stack : List S3) (us : List V) (r : Addr) (rows : List (List Nat)), ms stack = m ∧ Ex H H' ∧ Tab cs H' d ∧ LL H' g ps rows ∧ H r = none ∧ r ≠ g ∧ r ∉ ps ∧ H' r = some (.lst us) ∧ LT K H' us (stack.map t3) ∧ stack.length ≤ 2 * cs.length - ms stack ∧
          (∀ x ∈ stack, x.1 < x.2.1 ∧ x.2.1 < cs.length ∧ ∃ v, T cs x.1 x.2.1 = some v ∧ v ≤ x.2.2 ∧ x.2.2 ≤ M) ∧
          (∀ (k : Nat) rk, rows[k]? = some rk → (rk ++ sel (k + 1) (smq cs stack)).Perm (sel (k + 1) (Mq cs 0 (cs.length - 1) M))) ∧
          ∃ a3 a5 a6 a7 a8 a9, σ' = [some (Wv cs), some (.ref d), some (.ref g), a3, some (.ref r), a5, a6, a7, a8, a9]) (ms [(0, cs.length - 1, M)])
        ⟨[(0, cs.length - 1, M)], [.ref q], r, List.replicate M [], rfl, e14.trans e5, (tb.ex (e3.trans e4)).ex e5, L.ex e5, r0, rg, rps, h5, LT.one (st_of hq5), ?_, fun x hx => ?_, fun k rk hrk => ?_, _, _, _, _, _, _, rfl⟩ (fun m σ' H' pv => ?_)
      · show 1 ≤ 2 * cs.length - (2 * (cs.length - 1 - 0) - 1 + 0)
        omega
      · obtain rfl := List.mem_singleton.mp hx
        exact ⟨by show 0 < cs.length - 1; omega, by show cs.length - 1 < cs.length; omega, M, hT, Nat.le_refl _, Nat.le_refl _⟩
      · obtain ⟨b1, b2⟩ := List.getElem?_eq_some_iff.mp hrk
        rw [List.getElem_replicate] at b2
        subst b2
        show List.Perm ([] ++ sel (k + 1) (smq cs ([] ++ [(0, cs.length - 1, M)]))) _
        rw [smq_snoc]
        exact List.Perm.refl _
      · obtain ⟨stack, us, r, rows, rfl, ee, tb', L', r0, rg, rps, hus, hlt, hsl, hst, hpm, a3, a5, a6, a7, a8, a9, rfl⟩ := pv
        have lenr : rows.length = M := by rw [← L'.len]; exact lenps
        refine ⟨!((stack.map t3).map tD).isEmpty, et_test (ev_neNil (ev_var rfl) (fun H6 e6 => .lst (sq_of (e6 r _ hus)) (hlt.ex e6).dp) (sh_TL _)), fun hb H6 e6 => ?_, fun hb H6 e6 => ?_⟩
        · -- a turn
          refine ⟨fun σ2 H2 => ∃ m', m' < ms stack ∧ ∃ (stack : List S3) (us : List V) (r : Addr) (rows : List (List Nat)), ms stack = m' ∧ Ex H H2 ∧ Tab cs H2 d ∧ LL H2 g ps rows ∧ H r = none ∧ r ≠ g ∧ r ∉ ps ∧ H2 r = some (.lst us) ∧ LT K H2 us (stack.map t3) ∧ stack.length ≤ 2 * cs.length - ms stack ∧
              (∀ x ∈ stack, x.1 < x.2.1 ∧ x.2.1 < cs.length ∧ ∃ v, T cs x.1 x.2.1 = some v ∧ v ≤ x.2.2 ∧ x.2.2 ≤ M) ∧
              (∀ (k : Nat) rk, rows[k]? = some rk → (rk ++ sel (k + 1) (smq cs stack)).Perm (sel (k + 1) (Mq cs 0 (cs.length - 1) M))) ∧
              ∃ a3 a5 a6 a7 a8 a9, σ2 = [some (Wv cs), some (.ref d), some (.ref g), a3, some (.ref r), a5, a6, a7, a8, a9], fun _ _ z => z, ?_⟩
          obtain ⟨st, x, rfl⟩ : ∃ st x, stack = st ++ [x] := by
            rcases List.eq_nil_or_concat stack with z | ⟨st, x, z⟩
            · rw [z] at hb; cases hb
            · exact ⟨st, x, by rw [z]; simp⟩
          obtain ⟨l, h, wn⟩ := x
          obtain ⟨c1, c2, v, hv', v1, v2⟩ := hst (l, h, wn) (by simp)
          have c1 : l < h := c1
          have c2 : h < cs.length := c2
          have hv' : T cs l h = some v := hv'
          have v1 : v ≤ wn := v1
          have v2 : wn ≤ M := v2
          have hst' : ∀ x ∈ st, x.1 < x.2.1 ∧ x.2.1 < cs.length ∧ ∃ v, T cs x.1 x.2.1 = some v ∧ v ≤ x.2.2 ∧ x.2.2 ≤ M := fun x hx => hst x (List.mem_append_left _ hx)
          rw [List.map_append] at hlt
          obtain ⟨us', q, rfl, hlt', hq⟩ := LT.pop (ns := [l, h, wn]) hlt
          rw [ms_snoc] at hsl ⊢
          have hsl : (st ++ [(l, h, wn)]).length ≤ 2 * cs.length - (ms st + (2 * (h - l) - 1)) := hsl
          rw [List.length_append] at hsl
          have hsl : st.length + 1 ≤ 2 * cs.length - (ms st + (2 * (h - l) - 1)) := hsl
          refine q_pop3 (K := K) (ev_var rfl) (e6 r _ hus) (ex_t e6 hq) fun H7 e7 => ?_
          have hr7 : H7 r = some (.lst (us' ++ [.ref q])) := e7 r _ (e6 r _ hus)
          have e67 := e6.trans e7
          have E8 : Ex H (upd H7 r (.lst us')) := Ex.mut (ee.trans e67) r0
          have T8 := (tb'.ex e67).lst (o := .lst us') hr7
          have L8 : LL (upd H7 r (.lst us')) g ps rows := (L'.ex e67).other rg rps
          have lt8 : LT K (upd H7 r (.lst us')) us' (st.map t3) := (hlt'.ex e67).exT (ExT.lst hr7)
          generalize hH8 : upd H7 r (.lst us') = H8 at E8 T8 L8 lt8 ⊢
          have hr8 : H8 r = some (.lst us') := by rw [← hH8]; exact upd_same
          have tst : EvT (tTest (tOp (rI0 fun i j => V.bl (decide (j < i))) (tOp (rI0 fun i j => V.int (i - j)) (tVar 6) (tVar 5)) (tC (.int 1)))) [some (Wv cs), some (.ref d), some (.ref g), a3, some (.ref r), some (nV l), some (nV h), some (nV wn), a8, a9] H8 (decide (l + 1 < h)) := by
            refine et_is (et_test (ev_op (ev_op (ev_var rfl) (ev_var rfl) rv_I0) ev_c rv_I0)) ?_
            by_cases z : l + 1 < h
            · rw [decide_eq_true z, decide_eq_true (by omega)]
            · rw [decide_eq_false z, decide_eq_false (by omega)]
          refine s_if tst (fun hb H9 e9 => ?_) (fun hb H9 e9 => ?_)
          · have c3 := of_decide_eq_true hb
            obtain ⟨b1, b2, b3⟩ := bm_ok c3 hv'
            obtain ⟨_, xx, yy, ex, ey, ev⟩ := cand_some.mp b3
            have meq := Mq_eq (w := wn) c3 hv'
            generalize bm cs l h = b at b1 b2 b3 ex ey meq
            have bme : bm cs l h = b := by
              have := congrArg (fun L : List E4 => (L.headD (0,0,0,0)).2.2.1) (meq.symm.trans (Mq_eq (w := wn) c3 hv'))
              exact this.symm
            refine q_asg (v := nV b) (ev_c1 (ea_cons (ev_var rfl) (ea_cons (ev_var rfl) (ea_cons (ev_var rfl) (ea_cons (ev_var rfl) ea_nil)))) fun H10 e10 Q k E => ⟨cs, d, l, h, v, rfl, hz, T8.ex (e9.trans e10), c3, c2, hv', by rw [bme]; exact k⟩) fun H10 e10 => ?_
            have e810 := e9.trans e10
            obtain ⟨p, rk, hp, hrk, hpl⟩ := L8.both (k := wn - 1) (by omega)
            have hpk := hpm (wn - 1) rk hrk
            have rkl : rk.length ≤ 60 := by
              have a1 := hpk.length_eq
              rw [List.length_append] at a1
              have a2 := sel_len (wn - 1 + 1) (Mq cs 0 (cs.length - 1) M)
              have a3 := mq_len (cs.length - 1 - 0) 0 (cs.length - 1) M M (Nat.le_refl _) hT
              have a3 : (Mq cs 0 (cs.length - 1) M).length ≤ cs.length - 1 - 0 := a3
              omega
            have w1 : 1 ≤ wn := by omega
            refine q_appAt (K := K) (i := wn - 1) (m := b) (ns := rk) (L8.ex e810) (ev_var rfl) (ev_int (ev_op (ev_var rfl) ev_c rv_I0) (by omega)) hp hrk (ev_var rfl) (by omega) fun H11 e11 => ?_
            have e811 := e810.trans e11
            have hp11 : H11 p = some (.lst (nVs rk)) := e811 p _ hpl
            have pm : p ∈ ps := List.mem_of_getElem? hp
            have E12 : Ex H (upd H11 p (.lst (nVs (rk ++ [b])))) := Ex.mut (E8.trans e811) (ps0 p pm)
            have T12 := (T8.ex e811).lst (o := .lst (nVs (rk ++ [b]))) hp11
            have L12 := (L8.ex e811).put (ms := rk ++ [b]) hp
            have lt12 : LT K (upd H11 p (.lst (nVs (rk ++ [b])))) us' (st.map t3) := (lt8.ex e811).exT (ExT.lst hp11)
            have hr12 : (upd H11 p (.lst (nVs (rk ++ [b])))) r = some (.lst us') := by
              have hne : r ≠ p := fun z => rps (by rw [z]; exact pm)
              rw [upd_ne hne]
              exact e811 r _ hr8
            generalize hH12 : upd H11 p (.lst (nVs (rk ++ [b]))) = H12 at E12 T12 L12 lt12 hr12 ⊢
            have lus : us'.length = st.length := by rw [lt12.len, List.length_map]
            refine s_cat2 (r := r) (us := us') (xs := nVs [l, b, wn - 1]) (ys := nVs [b, h, wn - 1]) (ev_var rfl) hr12 (eu_tup (ea_cons (ev_var rfl) (ea_cons (ev_var rfl) (ea_cons (ev_int (ev_op (ev_var rfl) ev_c rv_I0) (by omega)) ea_nil))) (by show 3 ≤ 100000; decide)) (eu_tup (ea_cons (ev_var rfl) (ea_cons (ev_var rfl) (ea_cons (ev_int (ev_op (ev_var rfl) ev_c rv_I0) (by omega)) ea_nil))) (by show 3 ≤ 100000; decide)) (by omega) fun r' p1 q1 H13 nr' e13 hr13 hp13 hq13 => ?_
            refine ⟨ms (st ++ [(l, b, wn - 1), (b, h, wn - 1)]), ?_, st ++ [(l, b, wn - 1), (b, h, wn - 1)], _, r', rows.set (wn - 1) (rk ++ [b]), rfl, E12.trans e13, T12.ex e13, L12.ex e13, fresh_back E12 nr', fun z => ?_, fun z => ?_, hr13, ?_, ?_, fun x hx => ?_, fun k rk' hk' => ?_, _, _, _, _, _, _, rfl⟩
            · rw [ms_two]
              show ms st + (2 * (b - l) - 1) + (2 * (h - b) - 1) < ms st + (2 * (h - l) - 1)
              omega
            · rw [z, L12.hd] at nr'
              cases nr'
            · obtain ⟨ns, e⟩ := L12.mem z
              rw [e] at nr'
              cases nr'
            · rw [List.map_append]
              refine (lt12.ex e13).app ?_
              exact .cons ⟨p1, rfl, st_of hp13⟩ (.cons ⟨q1, rfl, st_of hq13⟩ .nil)
            · rw [ms_two, List.length_append]
              show st.length + 2 ≤ 2 * cs.length - (ms st + (2 * (b - l) - 1) + (2 * (h - b) - 1))
              omega
            · rcases List.mem_append.mp hx with z | z
              · exact hst' x z
              · rcases List.mem_cons.mp z with z | z
                · subst z
                  exact ⟨b1, by show b < cs.length; omega, xx, ex, by show xx ≤ wn - 1; omega, by show wn - 1 ≤ M; omega⟩
                · obtain rfl := List.mem_singleton.mp z
                  exact ⟨b2, c2, yy, ey, by show yy ≤ wn - 1; omega, by show wn - 1 ≤ M; omega⟩
            · rw [smq_two, sel_app, sel_app]
              have old : (smq cs (st ++ [(l, h, wn)])) = smq cs st ++ Mq cs l h wn := smq_snoc cs st (l, h, wn)
              by_cases ck : k = wn - 1
              · subst ck
                have hk2 : wn - 1 < rows.length := by omega
                rw [List.getElem?_set_self hk2] at hk'
                obtain rfl : rk ++ [b] = rk' := Option.some.inj hk'
                rw [old, sel_app, meq, sel_cons, sel_app] at hpk
                have hw : (E4.w (wn, l, b, h)) = wn - 1 + 1 := by show wn = wn - 1 + 1; omega
                rw [if_pos hw] at hpk
                refine List.Perm.trans ?_ hpk
                rw [List.append_assoc]
                refine List.Perm.append_left rk ?_
                show List.Perm ([b] ++ (sel (wn - 1 + 1) (smq cs st) ++ (sel (wn - 1 + 1) (Mq cs l b (wn - 1)) ++ sel (wn - 1 + 1) (Mq cs b h (wn - 1))))) (sel (wn - 1 + 1) (smq cs st) ++ ([b] ++ (sel (wn - 1 + 1) (Mq cs l b (wn - 1)) ++ sel (wn - 1 + 1) (Mq cs b h (wn - 1)))))
                exact List.perm_append_comm_assoc ..
              · rw [List.getElem?_set_ne (Ne.symm ck)] at hk'
                have q2 := hpm k rk' hk'
                rw [old, sel_app, meq, sel_cons, sel_app] at q2
                have hw : ¬ (E4.w (wn, l, b, h)) = k + 1 := by show ¬ wn = k + 1; omega
                rw [if_neg hw] at q2
                exact q2
          · have c3 := of_decide_eq_false hb
            refine ⟨ms st, by omega, st, us', r, rows, rfl, E8.trans e9, T8.ex e9, L8.ex e9, r0, rg, rps, e9 r _ hr8, lt8.ex e9, by omega, hst', fun k rk hrk => ?_, _, _, _, _, _, _, rfl⟩
            have q2 := hpm k rk hrk
            have old : (smq cs (st ++ [(l, h, wn)])) = smq cs st ++ Mq cs l h wn := smq_snoc cs st (l, h, wn)
            rw [old, Mq_one (by omega), List.append_nil] at q2
            exact q2
        · -- behind the loop
          have hs0 : stack = [] := by
            cases stack with
            | nil => rfl
            | cons x s => cases hb
          subst hs0
          refine ev_srtRows (f := g) (ps := ps) (rows := rows) (H := H6) (ev_var rfl) (L'.ex e6) (by omega) (fun _ => rfl) (fun _ => rfl) H6 (Ex.refl H6) _ fun p H7 us nss hp e7 h7 hlt7 hsrt => ?_
          refine kS M hT p H7 nss (fresh_back (ee.trans e6) hp) ((ee.trans e6).trans e7) ⟨by rw [hsrt.1]; exact lenr, ⟨us, h7, hlt7⟩, fun k sm hk => ?_⟩
          obtain ⟨rk, hrk, s1, s2⟩ := hsrt.2 k sm hk
          have q2 := hpm k rk hrk
          refine ⟨s1, s2.trans ?_⟩
          have z : smq cs ([] : List S3) = [] := rfl
          rw [z, show sel (k + 1) [] = [] from rfl, List.append_nil] at q2
          exact q2
end
end K54

set_option Elab.async false
set_option linter.all false
set_option maxRecDepth 100000
set_option maxHeartbeats 2000000
namespace K54
open PySem PySem.Spec PyProof.Rows L2 Evl
/-! ### comprehensions over numbers -/
theorem self_map (sm : List Nat) : (List.range sm.length).map (fun i => sm.getD i 0) = sm := by
  refine List.ext_getElem? fun i => ?_
  rw [List.getElem?_map]
  by_cases h : i < sm.length
  · rw [List.getElem?_range h, List.getElem?_eq_getElem h]
    show some (sm.getD i 0) = _
    rw [List.getD_eq_getElem?_getD, List.getElem?_eq_getElem h]
    rfl
  · rw [List.getElem?_eq_none (by simpa using h), List.getElem?_eq_none (by simpa using h)]
    rfl
theorem given_filter (sm : List Nat) (f : Nat → Bool) (g : Nat → V) : given (nVs sm).length (fun i => f (sm.getD i 0)) (fun i => g (sm.getD i 0)) = (sm.filter f).map g := by
  unfold given
  rw [List.length_map]
  have e := self_map sm
  conv => rhs; rw [← e]
  rw [List.filter_map, List.map_map]
  rfl
theorem nV_at {sm : List Nat} {i : Nat} {x : V} (h : (nVs sm)[i]? = some x) : i < sm.length ∧ x = nV (sm.getD i 0) ∧ sm.getD i 0 ∈ sm := by
  rw [List.getElem?_map] at h
  obtain ⟨p, hp, e⟩ := Option.map_eq_some_iff.mp h
  have q : sm.getD i 0 = p := by rw [List.getD_eq_getElem?_getD, hp]; rfl
  refine ⟨(List.getElem?_eq_some_iff.mp hp).1, by rw [q]; exact e.symm, ?_⟩
  rw [q]
  exact List.mem_of_getElem? hp
theorem filter_all {α : Type} (l : List α) : l.filter (fun _ => true) = l := by simp
section
variable {K : PySem.W.Frag} {w : World} {σ : L2.St} {H H' : Hp} {ta tb tc td te tx ty tv tl : TE} {t u : TT} {x y z v : V} {D : Ends} {tu tw tz : TS}
theorem el_nT {a : Addr} {sm : List Nat} {j : Nat} {vs : List Nat} (f : Nat → Bool) (g : Nat → V) (h : Ev tl σ H (.ref a)) (hx : SqT K H a (nVs sm)) (hz : sm.length ≤ 1000) (hw : ∀ x, wipe ((wipe σ vs).set j (some x)) vs = wipe σ vs)
    (ht : ∀ p H1, Ex H H1 → p ∈ sm → EvT t ((wipe σ vs).set j (some (nV p))) H1 (f p)) (he : ∀ p H1, Ex H H1 → p ∈ sm → f p = true → Ev te ((wipe σ vs).set j (some (nV p))) H1 (g p)) :
    EvL (tLc (iTup K tl) (gName j) t te vs) σ H ((sm.filter f).map g) := by
  rw [← given_filter]
  refine el_lcT _ _ h hx (by rw [List.length_map]; omega) hw (fun i x H1 e hi => ?_) fun i x H1 e hi hf => ?_
  · obtain ⟨_, rfl, hm⟩ := nV_at hi
    exact ht _ H1 e hm
  · obtain ⟨_, rfl, hm⟩ := nV_at hi
    exact he _ H1 e hm hf
theorem el_nL {a : Addr} {sm : List Nat} {j : Nat} {vs : List Nat} (f : Nat → Bool) (g : Nat → V) (h : Ev tl σ H (.ref a)) (hx : SqL K H a (nVs sm)) (hz : sm.length ≤ 1000) (hw : ∀ x, wipe ((wipe σ vs).set j (some x)) vs = wipe σ vs)
    (ht : ∀ p H1, Ex H H1 → p ∈ sm → EvT t ((wipe σ vs).set j (some (nV p))) H1 (f p)) (he : ∀ p H1, Ex H H1 → p ∈ sm → f p = true → Ev te ((wipe σ vs).set j (some (nV p))) H1 (g p)) :
    EvL (tLc (iList K tl) (gName j) t te vs) σ H ((sm.filter f).map g) := by
  rw [← given_filter]
  refine el_lcL _ _ h hx (by rw [List.length_map]; omega) hw (fun i x H1 e hi => ?_) fun i x H1 e hi hf => ?_
  · obtain ⟨_, rfl, hm⟩ := nV_at hi
    exact ht _ H1 e hm
  · obtain ⟨_, rfl, hm⟩ := nV_at hi
    exact he _ H1 e hm hf
theorem el_mT {a : Addr} {sm : List Nat} {j : Nat} {vs : List Nat} (g : Nat → V) (h : Ev tl σ H (.ref a)) (hx : SqT K H a (nVs sm)) (hz : sm.length ≤ 1000) (hw : ∀ x, wipe ((wipe σ vs).set j (some x)) vs = wipe σ vs)
    (he : ∀ p H1, Ex H H1 → p ∈ sm → Ev te ((wipe σ vs).set j (some (nV p))) H1 (g p)) : EvL (tLc (iTup K tl) (gName j) tYes te vs) σ H (sm.map g) := by
  have q := el_nT (fun _ => true) g h hx hz hw (fun _ _ _ _ => et_yes) (fun p H1 e hp _ => he p H1 e hp)
  rw [filter_all] at q
  exact q
theorem el_mL {a : Addr} {sm : List Nat} {j : Nat} {vs : List Nat} (g : Nat → V) (h : Ev tl σ H (.ref a)) (hx : SqL K H a (nVs sm)) (hz : sm.length ≤ 1000) (hw : ∀ x, wipe ((wipe σ vs).set j (some x)) vs = wipe σ vs)
    (he : ∀ p H1, Ex H H1 → p ∈ sm → Ev te ((wipe σ vs).set j (some (nV p))) H1 (g p)) : EvL (tLc (iList K tl) (gName j) tYes te vs) σ H (sm.map g) := by
  have q := el_nL (fun _ => true) g h hx hz hw (fun _ _ _ _ => et_yes) (fun p H1 e hp _ => he p H1 e hp)
  rw [filter_all] at q
  exact q
/-- all(..), any(..) of a new list of bools told by numbers -/
theorem ev_all {sm : List Nat} {f : Nat → Bool} (h : EvL ta σ H (sm.map fun p => V.bl (f p))) : Ev (tCB (rAll K) (tCons ta tNil)) σ H (.bl (sm.all f)) := fun H1 e Q q =>
  h H1 e _ fun p H2 _ e2 hp => ⟨p, sm.map f, rfl, by rw [List.map_map]; exact sq_of hp, by
    have e3 : (sm.map f).all id = sm.all f := by rw [List.all_map]; rfl
    rw [e3]
    exact q H2 e2⟩
theorem ev_any {sm : List Nat} {f : Nat → Bool} (h : EvL ta σ H (sm.map fun p => V.bl (f p))) : Ev (tCB (rAny K) (tCons ta tNil)) σ H (.bl (sm.any f)) := fun H1 e Q q =>
  h H1 e _ fun p H2 _ e2 hp => ⟨p, sm.map f, rfl, by rw [List.map_map]; exact sq_of hp, by
    have e3 : (sm.map f).any id = sm.any f := by rw [List.any_map]; rfl
    rw [e3]
    exact q H2 e2⟩
theorem flat_N (sm : List Nat) : (nVs sm).all flatV = true := by simp [List.all_eq_true, flatV]
theorem in_N (p : Nat) (sm : List Nat) : inV (nV p) (nVs sm) = decide (p ∈ sm) := by
  unfold inV
  rw [Bool.eq_iff_iff, decide_eq_true_iff, List.any_eq_true]
  constructor
  · rintro ⟨y, hy, e⟩
    obtain ⟨q, hq, rfl⟩ := List.mem_map.mp hy
    have e : ((q : Int) == (p : Int)) = true := e
    have : q = p := by have := beq_iff_eq.mp e; omega
    exact this ▸ hq
  · intro h
    exact ⟨nV p, List.mem_map.mpr ⟨p, h, rfl⟩, by show ((p : Int) == (p : Int)) = true; simp⟩
theorem ev_inL {a : Addr} {sm : List Nat} {p : Nat} (hp : Ev ta σ H (nV p)) (hl : Ev tb σ H (.ref a)) (h : SqL K H a (nVs sm)) : Ev (tOp (rIn K false) ta tb) σ H (.bl (decide (p ∈ sm))) := by
  have q := ev_op hp hl (rv_isL (x := nV p) h rfl (flat_N sm))
  rw [in_N] at q
  exact q
theorem ev_niT {a : Addr} {sm : List Nat} {p : Nat} (hp : Ev ta σ H (nV p)) (hl : Ev tb σ H (.ref a)) (h : SqT K H a (nVs sm)) : Ev (tOp (rIn K true) ta tb) σ H (.bl (!decide (p ∈ sm))) := by
  have q := ev_op hp hl (rv_niT (x := nV p) h rfl (flat_N sm))
  rw [in_N] at q
  exact q
theorem ev_inT {a : Addr} {sm : List Nat} {p : Nat} (hp : Ev ta σ H (nV p)) (hl : Ev tb σ H (.ref a)) (h : SqT K H a (nVs sm)) : Ev (tOp (rIn K false) ta tb) σ H (.bl (decide (p ∈ sm))) := by
  have q := ev_op hp hl (rv_isT (x := nV p) h rfl (flat_N sm))
  rw [in_N] at q
  exact q
theorem idx_le : ∀ {sm : List Nat} {k m : Nat}, sm[m]? = some k → sm.idxOf k ≤ m
  | [], _, _, h => by simp at h
  | a :: r, k, 0, h => by
    have e : a = k := by simpa using h
    subst e
    simp
  | a :: r, k, m + 1, h => by
    have h' : r[m]? = some k := by simpa using h
    have := idx_le h'
    rw [List.idxOf_cons]
    by_cases c : a = k
    · subst c
      simp
    · have e : (a == k) = false := by simpa using c
      rw [e]
      simp
      omega
/-- xs.index(p) -/
theorem ev_index {a : Addr} {sm : List Nat} {p : Nat} (hl : Ev ta σ H (.ref a)) (hp : Ev tb σ H (nV p)) (h : SqL K H a (nVs sm)) (hm : p ∈ sm) : Ev (tBM K "list" (rIndex K) ta (tCons tb tNil)) σ H (nV (sm.idxOf p)) := fun H1 e Q q =>
  hl H1 e _ fun H2 e2 => ⟨.inl ⟨rfl, _, ex_l (e.trans e2) h⟩, hp H2 (e.trans e2) _ fun H3 e3 => by
    have hi := idx_lt hm
    refine ⟨a, nVs sm, nV p, sm.idxOf p, nV p, rfl, rfl, ex_l ((e.trans e2).trans e3) h, rfl, flat_N sm, ?_, ?_, fun m z' hmj hz' => ?_, q H3 (e2.trans e3)⟩
    · rw [List.getElem?_map, get_lt hi, lt_idx hm]
      rfl
    · show ((p : Int) == (p : Int)) = true
      simp
    · rw [List.getElem?_map] at hz'
      obtain ⟨k, hk, rfl⟩ := Option.map_eq_some_iff.mp hz'
      show ((k : Int) == (p : Int)) = false
      rw [beq_eq_false_iff_ne]
      intro z
      have : k = p := by omega
      subst this
      exact absurd hmj (Nat.not_lt.mpr (idx_le hk))⟩
theorem cut_one (xs : List V) : cutV xs (some 1) none = xs.tail := by
  unfold cutV
  rw [show HT.sIx xs.length 0 (some 1) = min 1 xs.length from HT.sIx_nat xs.length 0 1, HT.sIx_none]
  cases xs with
  | nil => rfl
  | cons x r =>
    have e : min 1 (x :: r).length = 1 := by rw [List.length_cons]; omega
    rw [e]
    show List.take ((x :: r).length - 1) r = r
    exact List.take_of_length_le (by rw [List.length_cons]; omega)
/-- two walked side by side: tuples -/
theorem walk_zipT {a b : Addr} {xs ys : List V} {n : Nat} (hn : n = min xs.length ys.length) : Walk (RZ.ItzT K a b) n (fun H => SqT K H a xs ∧ SqT K H b ys) (YPair (fun i => xs[i]?) (fun i => ys[i]?)) := by
  subst hn
  refine ⟨fun i _ hi q => ?_, fun _ q => ⟨xs, ys, q.1, q.2, by omega⟩, fun i H v H' _ q y => ?_⟩
  · have h1 : i < xs.length := by omega
    have h2 : i < ys.length := by omega
    exact ⟨xs, ys, xs[i], ys[i], q.1, q.2, List.getElem?_eq_getElem h1, List.getElem?_eq_getElem h2⟩
  · obtain ⟨T, x, z, h1, h2, h3, h4, h5⟩ := y
    exact ⟨T, x, z, h1, h2, h3, h4 xs q.1, h5 ys q.2⟩
theorem zip_given (sm : List Nat) (g : Nat → Nat → Bool) : given (min (nVs sm).length (nVs sm).tail.length) (fun _ => true) (fun i => V.bl (g (sm.getD i 0) (sm.tail.getD i 0))) = (sm.zip sm.tail).map fun p => V.bl (g p.1 p.2) := by
  unfold given
  rw [filter_all]
  refine List.ext_getElem? fun i => ?_
  rw [List.getElem?_map, List.getElem?_map, List.length_map, List.length_tail, List.length_map]
  by_cases h : i < sm.length - 1
  · have g1 : sm[i]? = some (sm.getD i 0) := get_lt (by omega)
    have g2 : sm.tail[i]? = some (sm.tail.getD i 0) := get_lt (by rw [List.length_tail]; exact h)
    have g3 : (sm.zip sm.tail)[i]? = some (sm.getD i 0, sm.tail.getD i 0) := List.getElem?_zip_eq_some.mpr ⟨g1, g2⟩
    rw [List.getElem?_range (by omega), g3]
    rfl
  · rw [List.getElem?_eq_none (by simp; omega), List.getElem?_eq_none (by simp; omega)]
    rfl
theorem pair_at {sm : List Nat} {i : Nat} {x y : V} (h1 : (nVs sm)[i]? = some x) (h2 : (nVs sm).tail[i]? = some y) : x = nV (sm.getD i 0) ∧ y = nV (sm.tail.getD i 0) := by
  refine ⟨(nV_at h1).2.1, ?_⟩
  rw [← List.map_tail] at h2
  exact (nV_at h2).2.1
/-- [g(a, b) for a, b in zip(t, t[1:])], t a tuple that is not empty -/
theorem el_zT {a : Addr} {sm : List Nat} {i j : Nat} {vs : List Nat} (g : Nat → Nat → Bool) (h : Ev ta σ H (.ref a)) (hx : SqT K H a (nVs sm)) (h0 : sm ≠ []) (hz : sm.length ≤ 1000) (hw : ∀ x y, wipe (((wipe σ vs).set i (some x)).set j (some y)) vs = wipe σ vs)
    (he : ∀ p q H1, Ex H H1 → Ev te (((wipe σ vs).set i (some (nV p))).set j (some (nV q))) H1 (.bl (g p q))) :
    EvL (tLc (RZ.iZipA K (tCons ta (tCons (tSl (rSlT K) ta (tPart (tC (.int 1))) tNoPart) tNil))) (gTup K 2 (gCons (gName i) (gCons (gName j) gNil))) tYes te vs) σ H ((sm.zip sm.tail).map fun p => V.bl (g p.1 p.2)) := by
  rw [← zip_given]
  intro H1 e Q q
  refine h H1 e _ fun H2 e2 => h H2 (e.trans e2) _ fun H3 e3 => ⟨1, rfl, a, nVs sm, rfl, ex_t ((e.trans e2).trans e3) hx, fun z => ?_, fun b hb => ?_⟩
  · have z1 := z.1
    rw [show HT.sIx (nVs sm).length 0 (some 1) = min 1 (nVs sm).length from HT.sIx_nat _ 0 1, List.length_map] at z1
    have : 0 < sm.length := List.length_pos_iff.mpr h0
    omega
  · rw [cut_one]
    have e4 : Ex H3 (upd H3 b (.tup (nVs sm).tail)) := Ex.new hb
    have eA := (e.trans e2).trans (e3.trans e4)
    generalize hH4 : upd H3 b (.tup (nVs sm).tail) = H4 at e4 eA ⊢
    have hb4 : H4 b = some (.tup (nVs sm).tail) := by rw [← hH4]; exact upd_same
    refine ⟨a, b, nVs sm, (nVs sm).tail, rfl, .inr ⟨ex_t eA hx, st_of hb4, fun Dl hD => ?_⟩⟩
    refine lc_it (walk_zipT rfl) (Cw H4 (fun _ => true) (fun i => V.bl (g (sm.getD i 0) (sm.tail.getD i 0))) Dl) ⟨hD, Ex.new hD, upd_same⟩ (fun m H' _ p => ⟨ex_t (eA.trans p.2.1) hx, st_of (p.2.1 b _ hb4)⟩) (fun m v H' H'' hm p hy => ?_) fun H' p => q Dl H' (fresh_back (((e2.trans e3).trans e4)) p.1) (((e2.trans e3).trans e4).trans p.2.1) p.2.2
    obtain ⟨T, x, y, rfl, hT, rfl, hx1, hy1⟩ := hy
    obtain ⟨rfl, rfl⟩ := pair_at hx1 hy1
    have p' : Cw H4 (fun _ => true) (fun i => V.bl (g (sm.getD i 0) (sm.tail.getD i 0))) Dl m (upd H' T (.tup [nV (sm.getD m 0), nV (sm.tail.getD m 0)])) := ⟨p.1, p.2.1.trans (Ex.new hT), by rw [upd_ne (ne_of_none p.2.2 hT)]; exact p.2.2⟩
    refine g_two (st_of upd_same) ⟨hw _ _, cw_turn p' (by rw [List.length_tail, List.length_map] at hm; omega) et_yes fun _ => he _ _ H4 eA⟩
/-- the same over a list -/
theorem el_zL {a : Addr} {sm : List Nat} {i j : Nat} {vs : List Nat} (g : Nat → Nat → Bool) (h : Ev ta σ H (.ref a)) (hx : SqL K H a (nVs sm)) (hz : sm.length ≤ 1000) (hw : ∀ x y, wipe (((wipe σ vs).set i (some x)).set j (some y)) vs = wipe σ vs)
    (he : ∀ p q H1, Ex H H1 → Ev te (((wipe σ vs).set i (some (nV p))).set j (some (nV q))) H1 (.bl (g p q))) :
    EvL (tLc (RZ.iZipA K (tCons ta (tCons (tSl (rSlL K) ta (tPart (tC (.int 1))) tNoPart) tNil))) (gTup K 2 (gCons (gName i) (gCons (gName j) gNil))) tYes te vs) σ H ((sm.zip sm.tail).map fun p => V.bl (g p.1 p.2)) := by
  rw [← zip_given]
  intro H1 e Q q
  refine h H1 e _ fun H2 e2 => h H2 (e.trans e2) _ fun H3 e3 => ⟨1, rfl, a, nVs sm, rfl, ex_l ((e.trans e2).trans e3) hx, fun b hb => ?_⟩
  rw [cut_one]
  have e4 : Ex H3 (upd H3 b (.lst (nVs sm).tail)) := Ex.new hb
  have eA := (e.trans e2).trans (e3.trans e4)
  generalize hH4 : upd H3 b (.lst (nVs sm).tail) = H4 at e4 eA ⊢
  have hb4 : H4 b = some (.lst (nVs sm).tail) := by rw [← hH4]; exact upd_same
  refine ⟨a, b, nVs sm, (nVs sm).tail, rfl, .inl ⟨ex_l eA hx, sq_of hb4, fun Dl hD => ?_⟩⟩
  refine lc_it (walk_zip rfl) (Cw H4 (fun _ => true) (fun i => V.bl (g (sm.getD i 0) (sm.tail.getD i 0))) Dl) ⟨hD, Ex.new hD, upd_same⟩ (fun m H' _ p => ⟨ex_l (eA.trans p.2.1) hx, sq_of (p.2.1 b _ hb4)⟩) (fun m v H' H'' hm p hy => ?_) fun H' p => q Dl H' (fresh_back (((e2.trans e3).trans e4)) p.1) (((e2.trans e3).trans e4).trans p.2.1) p.2.2
  obtain ⟨T, x, y, rfl, hT, rfl, hx1, hy1⟩ := hy
  obtain ⟨rfl, rfl⟩ := pair_at hx1 hy1
  have p' : Cw H4 (fun _ => true) (fun i => V.bl (g (sm.getD i 0) (sm.tail.getD i 0))) Dl m (upd H' T (.tup [nV (sm.getD m 0), nV (sm.tail.getD m 0)])) := ⟨p.1, p.2.1.trans (Ex.new hT), by rw [upd_ne (ne_of_none p.2.2 hT)]; exact p.2.2⟩
  refine g_two (st_of upd_same) ⟨hw _ _, cw_turn p' (by rw [List.length_tail, List.length_map] at hm; omega) et_yes fun _ => he _ _ H4 eA⟩
theorem ev_allP {sm : List (Nat × Nat)} {f : Nat × Nat → Bool} (h : EvL ta σ H (sm.map fun p => V.bl (f p))) : Ev (tCB (rAll K) (tCons ta tNil)) σ H (.bl (sm.all f)) := fun H1 e Q q =>
  h H1 e _ fun p H2 _ e2 hp => ⟨p, sm.map f, rfl, by rw [List.map_map]; exact sq_of hp, by
    have e3 : (sm.map f).all id = sm.all f := by rw [List.all_map]; rfl
    rw [e3]
    exact q H2 e2⟩
theorem ev_anyP {sm : List (Nat × Nat)} {f : Nat × Nat → Bool} (h : EvL ta σ H (sm.map fun p => V.bl (f p))) : Ev (tCB (rAny K) (tCons ta tNil)) σ H (.bl (sm.any f)) := fun H1 e Q q =>
  h H1 e _ fun p H2 _ e2 hp => ⟨p, sm.map f, rfl, by rw [List.map_map]; exact sq_of hp, by
    have e3 : (sm.map f).any id = sm.any f := by rw [List.any_map]; rfl
    rw [e3]
    exact q H2 e2⟩
theorem ty_L {p : Addr} {xs : List V} (h : SqL K H p xs) : TyX K H (.ref p) (.type "list") := by
  rcases h with (h | ⟨o, h⟩) | ⟨o, its, n, h1, h2, _⟩
  · exact .base (.lst h)
  · exact .base (.frz h)
  · exact .kList h1 h2
theorem ty_T {p : Addr} {xs : List V} (h : SqT K H p xs) : TyX K H (.ref p) (.type "tuple") := by
  rcases h with (h | ⟨o, h⟩) | ⟨o, its, n, h1, h2, _⟩
  · exact .base (.tup h)
  · exact .fTuple h
  · exact .kTuple h1 h2
/-- list(range(n)) -/
theorem el_range {n : Nat} (h : Ev ta σ H (nV n)) (hn : n ≤ 1000) : EvL (tLstRg (tRg1 ta)) σ H (nVs (List.range n)) := fun H1 e Q q =>
  h H1 e _ fun H2 e2 => ⟨(n : Int), rfl, ⟨by decide, by decide, by omega, by omega, by omega⟩, fun p hp => q p _ (fresh_back e2 hp) (e2.trans (Ex.new hp)) (by
    rw [upd_same]
    unfold rgV
    have e0 : ((n : Int) - 0).toNat = n := by omega
    rw [e0]
    refine congrArg some (congrArg HO.lst (List.map_congr_left fun i _ => ?_))
    show V.int (0 + (i : Int)) = V.int (i : Int)
    rw [Int.zero_add])⟩
end
end K54

set_option Elab.async false
set_option linter.all false
set_option maxRecDepth 100000
set_option maxHeartbeats 4000000
namespace K54
open PySem PySem.Spec PyProof.Rows L2 Evl
abbrev s_shows_rounds : Stmt := topS 21
abbrev s_shows_rounds_N : List Str := ["word", "value", "best", "left", "some", "place", "one", "other", "spots", "spot"]
theorem s_shows_rounds_sc : FnScope s_shows_rounds_N ["word", "value"] (defScope s_shows_rounds) := ⟨rfl, rfl, rfl, by decide +kernel, rfl, by decide +kernel, by decide +kernel⟩
/-- what may stand as the value, and the answer -/
inductive SA (K : PySem.W.Frag) (cs : Wd) (H : Hp) : V → Bool → Prop where
  | noTree (v : V) (hT : T cs 0 (cs.length - 1) = none) : SA K cs H v false
  | non : SA K cs H .non false
  | tup {p : Addr} {xs : List V} (h : SqT K H p xs) : SA K cs H (.ref p) false
  | len {p : Addr} {xs : List V} (h : SqL K H p xs) (hl : T cs 0 (cs.length - 1) ≠ some xs.length) : SA K cs H (.ref p) false
  | first {p q : Addr} {xs ys : List V} (h : SqL K H p (.ref q :: xs)) (hq : SqL K H q ys) : SA K cs H (.ref p) false
  | place {p q : Addr} {xs : List V} {y : V} (h : SqL K H p (.ref q :: xs)) (hq : SqT K H q [y]) (hy : y = .non ∨ ∃ i : Int, y = .int i ∧ ¬ (1 ≤ i ∧ i ≤ (cs.length : Int) - 2)) : SA K cs H (.ref p) false
  | ok {p : Addr} {us : List V} {nss : List (List Nat)} (h : SqL K H p us) (hT : T cs 0 (cs.length - 1) = some nss.length) (L : LT K H us nss) (hs : ∀ sm ∈ nss, sm.length ≤ 1000) : SA K cs H (.ref p) (sr cs nss (List.range cs.length))
theorem SA.ex {K : PySem.W.Frag} {cs : Wd} {H H' : Hp} {v : V} {b : Bool} (s : SA K cs H v b) (e : Ex H H') : SA K cs H' v b := by
  cases s with
  | noTree _ hT => exact .noTree _ hT
  | non => exact .non
  | tup h => exact .tup (ex_t e h)
  | len h hl => exact .len (ex_l e h) hl
  | first h hq => exact .first (ex_l e h) (ex_l e hq)
  | place h hq hy => exact .place (ex_l e h) (ex_t e hq) hy
  | ok h hT L hs => exact .ok (ex_l e h) hT (L.ex e) hs
inductive SB (K : PySem.W.Frag) (cs : Wd) (H : Hp) : List V → Bool → Prop where
  | first {q : Addr} {xs ys : List V} (hq : SqL K H q ys) : SB K cs H (.ref q :: xs) false
  | place {q : Addr} {xs : List V} {y : V} (hq : SqT K H q [y]) (hy : y = .non ∨ ∃ i : Int, y = .int i ∧ ¬ (1 ≤ i ∧ i ≤ (cs.length : Int) - 2)) : SB K cs H (.ref q :: xs) false
  | ok {us : List V} {nss : List (List Nat)} (L : LT K H us nss) (hs : ∀ sm ∈ nss, sm.length ≤ 1000) : SB K cs H us (sr cs nss (List.range cs.length))
theorem SA.list {K : PySem.W.Frag} {cs : Wd} {H : Hp} {v : V} {b : Bool} {M : Nat} (s : SA K cs H v b) (hT : T cs 0 (cs.length - 1) = some M) :
    (b = false ∧ ∃ t, (∀ H', Ex H H' → TyX K H' v (.type t)) ∧ kitB t "list" = some false) ∨ ∃ p us, v = .ref p ∧ SqL K H p us ∧ ((us.length ≠ M ∧ b = false) ∨ (us.length = M ∧ SB K cs H us b)) := by
  cases s with
  | noTree _ hT' => rw [hT] at hT'; cases hT'
  | non => exact .inl ⟨rfl, "NoneType", fun _ _ => .base .non, by decide +kernel⟩
  | tup h => exact .inl ⟨rfl, "tuple", fun _ e => ty_T (ex_t e h), by decide +kernel⟩
  | len h hl => exact .inr ⟨_, _, rfl, h, .inl ⟨fun z => hl (by rw [hT, z]), rfl⟩⟩
  | @first p q xs ys h hq =>
    by_cases c : (V.ref q :: xs).length = M
    · exact .inr ⟨_, _, rfl, h, .inr ⟨c, .first hq⟩⟩
    · exact .inr ⟨_, _, rfl, h, .inl ⟨c, rfl⟩⟩
  | @place p q xs y h hq hy =>
    by_cases c : (V.ref q :: xs).length = M
    · exact .inr ⟨_, _, rfl, h, .inr ⟨c, .place hq hy⟩⟩
    · exact .inr ⟨_, _, rfl, h, .inl ⟨c, rfl⟩⟩
  | ok h hT' L hs =>
    rw [hT] at hT'
    exact .inr ⟨_, _, rfl, h, .inr ⟨by rw [L.len]; exact (Option.some.inj hT').symm, .ok L hs⟩⟩
section
variable {σ : L2.St} {H : Hp} {t : TT} {D : Ends} {tz : TS}
/-- if t: return False -/
theorem s_retF {b : Bool} (h : EvT t σ H b) (k : b = true → ∀ H1, Ex H H1 → D.rt (.bl false) H1) (k2 : b = false → ∀ H1, Ex H H1 → D.nx σ H1) : tIfS t (tRet (tC (.bl false))) tNext D σ H := s_if h (fun hb H1 e1 => s_ret ev_c fun H2 e2 => k hb H2 (e1.trans e2)) fun hb H1 e1 => k2 hb H1 e1
theorem q_retF {b : Bool} (h : EvT t σ H b) (k : b = true → ∀ H1, Ex H H1 → D.rt (.bl false) H1) (k2 : b = false → ∀ H1, Ex H H1 → tz D σ H1) : tSeq (tIfS t (tRet (tC (.bl false))) tNext) tz D σ H := s_retF (D := { D with nx := tz D }) h k k2
end
section
variable {K : PySem.W.Frag} {σ : L2.St} {H : Hp} {ta : TE}
theorem ev_allB {bs : List Bool} (h : EvL ta σ H (bs.map V.bl)) : Ev (tCB (rAll K) (tCons ta tNil)) σ H (.bl (bs.all id)) := fun H1 e Q q =>
  h H1 e _ fun p H2 _ e2 hp => ⟨p, bs, rfl, sq_of hp, q H2 e2⟩
/-- t == () -/
theorem ev_eqNilT {a : Addr} {sm : List Nat} (h : Ev ta σ H (.ref a)) (hx : SqT K H a (nVs sm)) : Ev (tOp (rEqD K) ta (tTup tNil)) σ H (.bl (decide (sm = []))) := by
  have q := ev_opU (r := rEqD K) (z := .bl (decide (sm = []))) h (eu_tup ea_nil (Nat.zero_le _)) fun p H1 hp e => by
    have z := rv_eqD (K := K) (x := .ref a) (y := .ref p) (H := H1) (d := .tuple (sm.map nD)) (e := .tuple []) (fun H2 e2 => .tup (ex_t (e.trans e2) hx) (dp_N sm)) (fun H2 e2 => .tup (st_of (e2 p _ hp)) .nil) (sh_NT sm) (by decide +kernel)
    rw [eqv_nilT, show (sm.map nD).isEmpty = decide (sm = []) by cases sm <;> rfl] at z
    exact z
  exact q
end
theorem far_any (xs : List Nat) : ((xs.zip xs.tail).any fun p => decide (p.2 < p.1 + 2)) = !farB xs := by
  unfold farB zipAll
  rw [List.not_all_eq_any_not]
  refine congrArg (List.any _) (funext fun p => ?_)
  rw [Bool.eq_iff_iff]
  simp
theorem un_any (cs : Wd) (left sm : List Nat) : ((sm.map left.idxOf).any fun s => decide (lt cs (lt left (s - 1)) = lt cs (lt left (s + 1)))) = !unB cs left sm := by
  unfold unB
  rw [List.not_all_eq_any_not, List.any_map]
  refine congrArg (List.any _) (funext fun p => ?_)
  show _ = !!_
  rw [Bool.not_not]
  rfl
section
variable {P : Program} {w : World} {K : PySem.W.Frag} {mg : Str → Option Value} {base : Heap}
/-- heights_of(word, False)[0, len(word) - 1] -/
theorem ev_best {σ : L2.St} {H : Hp} {ta : TA} {cs : Wd} {i : Nat} (h : EvA ta σ H [Wv cs, .bl false]) (hv : σ[i]? = some (some (Wv cs))) (W : IsW cs) (hz : cs.length ≤ 60) :
    Ev (tDGet (tCall spHeights [] E0 ta) (tTup (tCons (tC (.int 0)) (tCons (tOp (rI0 fun i j => V.int (i - j)) (tCB rLenT (tCons (tVar i) tNil)) (tC (.int 1))) tNil)))) σ H (oV (T cs 0 (cs.length - 1))) := fun H1 e Q q => by
  have h2 := W.two
  refine ev_heights h W hz H1 e _ fun d H2 hd e2 tb => ?_
  obtain ⟨kvs, hk, hkv⟩ := tb
  refine (eu_tup (ea_cons ev_c (ea_cons (ev_int (ev_op (ev_lenW (ev_var hv) (by omega)) ev_c rv_I0) (show (cs.length : Int) - 1 = ((cs.length - 1 : Nat) : Int) by omega)) ea_nil)) (by show 2 ≤ 100000; decide)) H2 (Ex.refl H2) _ fun p H3 hp e3 h3 => ?_
  have g := DGet.t (b := p) (k := ky 0 (cs.length - 1)) (e3 d _ hk) h3
  rw [hkv 0 (cs.length - 1) (by omega) (by omega)] at g
  exact ⟨d, _, rfl, g, q H3 (e2.trans e3)⟩
def spShows (K : PySem.W.Frag) : Sp := fun vs H Q _ => ∃ (cs : Wd) (v : V) (b : Bool), vs = [Wv cs, v] ∧ IsW cs ∧ cs.length ≤ 60 ∧ SA K cs H v b ∧ RetV (.bl b) H Q
theorem oV_non (o : Option Nat) : decide (oV o = .non) = o.isNone := by
  cases o <;> rfl
theorem cal_shows_rounds (D : Df K mg "shows_rounds" s_shows_rounds) (B : Bt mg) (Cneed_tall : Cal P w K mg base 3 "need_tall" spNeedTall) (Cheights_of : Cal P w K mg base 2 "heights_of" spHeights) (Cis_in : Cal P w K mg base 2 "is_in" spIsIn) : Cal P w K mg base 4 "shows_rounds" (spShows K) := by
  refine D.cal s_shows_rounds_sc (fun _ _ _ _ _ _ us hl => match us, hl with | [_, _], _ => rfl) (fun vs H Q E h => ?_) (fun f cdv A outer s H vs Q E hr h => ?_)
  · obtain ⟨cs, v, b, rfl, _⟩ := h
    rfl
  · obtain ⟨cs, v, b, rfl, W, hz, sa, k⟩ := h
    have h2 := W.two
    refine ⟨_, (pss_cons (ps_expr (pe_c Cneed_tall hr (by decide) (by rfl) (pa_cons (pv 0) pa_nil)))
    (pss_cons (ps_set (i := 2) s_shows_rounds_sc.nd rfl (.inl rfl) (pe_dget (hu_of hr) (pe_c Cheights_of hr (by decide) (by rfl) (pa_cons (pv 0) (pa_cons pe_bl pa_nil))) (pe_tup (pa_cons pe_int (pa_cons (pe_op op_sub (pe_callB call_len_str (by rfl) B.len bt_len (pa_cons (pv 0) pa_nil)) pe_int) pa_nil))) (fun _ _ => rfl)))
    (pss_cons (ps_if (pw_or (pt_cmpR op_isN (pv 2) pe_non (nomark _)) (pw_or (pt_not (pt_val (pe_callB call_isi (by rfl) B.isinstance bt_isinstance (pa_cons (pv 1) (pa_cons (pe_bltn (v := .ty "list") (by rfl) B.list bt_list rfl) pa_nil))))) (pw_or1 (pt_cmpR op_ne (pe_callB call_len_seq (by rfl) B.len bt_len (pa_cons (pv 1) pa_nil)) (pv 2) (nomark _))))).pt
      (pss_one (ps_ret pe_bl))
      pss_nil)
    (pss_cons (ps_set (i := 3) s_shows_rounds_sc.nd rfl (.inr rfl) (pe_listRg rfl (by rfl) B.list (prg_1 (by rfl) B.range (pe_callB call_len_str (by rfl) B.len bt_len (pa_cons (pv 0) pa_nil)))))
    (pss_cons (ps_for PassesOwn.never rfl (pi_list (pv 1)) (pg_name (i := 4) s_shows_rounds_sc.nd rfl (.inr rfl))
      (pss_cons (ps_if (pw_or (pt_not (pt_val (pe_callB call_isi (by rfl) B.isinstance bt_isinstance (pa_cons (pv 4) (pa_cons (pe_bltn (v := .ty "tuple") (by rfl) B.tuple bt_tuple rfl) pa_nil))))) (pw_or1 (pt_not (pt_val (pe_callB (cr_all rfl) (by rfl) B.all bt_all (pa_cons (pe_lc (own := [("place", 5)]) (g := gName 5) rfl (by exact s_shows_rounds_sc.nd) (pi_tup (pv 4)) (blkOk_by (own := [("place", 5)]) (N := s_shows_rounds_N) (sc := defScope s_shows_rounds) (by decide +kernel)) (fun _ _ _ _ _ => pg_name (i := 5) s_shows_rounds_sc.nd rfl (.inl rfl)) (fun _ _ _ _ _ => pts_nil) (fun _ _ _ _ _ => (pe_c Cis_in hr (by decide) (by rfl) (pa_cons (pv 5) (pa_cons pe_int (pa_cons (pe_op op_sub (pe_callB call_len_str (by rfl) B.len bt_len (pa_cons (pv 0) pa_nil)) pe_int) pa_nil)))))) pa_nil)))))).pt
        (pss_one (ps_ret pe_bl))
        pss_nil)
      (pss_cons (ps_if (pw_or (pt_cmpR (op_eqD hr.units) (pv 4) (pe_tup pa_nil) (nomark _)) (pw_or1 (pt_not (pt_val (pe_callB (cr_all rfl) (by rfl) B.all bt_all (pa_cons (pe_lc (own := [("one", 6), ("other", 7)]) (g := gTup K 2 (gCons (gName 6) (gCons (gName 7) gNil))) rfl (by exact s_shows_rounds_sc.nd) (RZ.pi_zipA (by rfl) B.zip (pa_cons (pv 4) (pa_cons (pe_slice sl_tup (pv 4) (po_some pe_int) po_none) pa_nil))) (blkOk_by (own := [("one", 6), ("other", 7)]) (N := s_shows_rounds_N) (sc := defScope s_shows_rounds) (by decide +kernel)) (fun _ _ _ _ _ => pg_tup_K (K := K) rfl rfl (pgs_cons (pg_name (i := 6) s_shows_rounds_sc.nd rfl (.inl rfl)) (pgs_cons (pg_name (i := 7) s_shows_rounds_sc.nd rfl (.inl rfl)) pgs_nil))) (fun _ _ _ _ _ => pts_nil) (fun _ _ _ _ _ => (pe_cmpR op_lt (pv 6) (pv 7) (nomark _)))) pa_nil)))))).pt
        (pss_one (ps_ret pe_bl))
        pss_nil)
      (pss_cons (ps_if (pt_not (pt_val (pe_callB (cr_all rfl) (by rfl) B.all bt_all (pa_cons (pe_lc (own := [("place", 5)]) (g := gName 5) rfl (by exact s_shows_rounds_sc.nd) (pi_tup (pv 4)) (blkOk_by (own := [("place", 5)]) (N := s_shows_rounds_N) (sc := defScope s_shows_rounds) (by decide +kernel)) (fun _ _ _ _ _ => pg_name (i := 5) s_shows_rounds_sc.nd rfl (.inl rfl)) (fun _ _ _ _ _ => pts_nil) (fun _ _ _ _ _ => (pe_cmpR (op_in_seq_K (K := K) rfl) (pv 5) (pv 3) (by rfl)))) pa_nil))))
        (pss_one (ps_ret pe_bl))
        pss_nil)
      (pss_cons (ps_setLc (i := 8) (own := [("place", 5)]) (g := gName 5) rfl s_shows_rounds_sc.nd rfl rfl (sw_true rfl rfl rfl (by decide +kernel)) (pi_tup (pv 4)) (blkOk_by (own := [("place", 5)]) (N := s_shows_rounds_N) (sc := defScope s_shows_rounds) (by decide +kernel)) (fun _ _ _ _ _ => pg_name (i := 5) s_shows_rounds_sc.nd rfl (.inl rfl)) (fun _ _ _ _ _ => pts_nil) (fun _ _ _ _ _ => (pe_bm_K (K := K) rfl PySem.F.plainAttrs_list PySem.F.slot_list_index PySem.F.type_list_index (mt_index_K (K := K) rfl) (pv 3) (pa_cons (pv 5) pa_nil))))
      (pss_cons (ps_if (pt_val (pe_callB (cr_any rfl) (by rfl) B.any bt_any (pa_cons (pe_lc (own := [("one", 6), ("other", 7)]) (g := gTup K 2 (gCons (gName 6) (gCons (gName 7) gNil))) rfl (by exact s_shows_rounds_sc.nd) (RZ.pi_zipA (by rfl) B.zip (pa_cons (pv 8) (pa_cons (pe_slice sl_list (pv 8) (po_some pe_int) po_none) pa_nil))) (blkOk_by (own := [("one", 6), ("other", 7)]) (N := s_shows_rounds_N) (sc := defScope s_shows_rounds) (by decide +kernel)) (fun _ _ _ _ _ => pg_tup_K (K := K) rfl rfl (pgs_cons (pg_name (i := 6) s_shows_rounds_sc.nd rfl (.inl rfl)) (pgs_cons (pg_name (i := 7) s_shows_rounds_sc.nd rfl (.inl rfl)) pgs_nil))) (fun _ _ _ _ _ => pts_nil) (fun _ _ _ _ _ => (pe_cmpR op_lt (pe_op op_sub (pv 7) (pv 6)) pe_int (nomark _)))) pa_nil)))
        (pss_one (ps_ret pe_bl))
        pss_nil)
      (pss_cons (ps_if (pt_val (pe_callB (cr_any rfl) (by rfl) B.any bt_any (pa_cons (pe_lc (own := [("spot", 9)]) (g := gName 9) rfl (by exact s_shows_rounds_sc.nd) (pi_list (pv 8)) (blkOk_by (own := [("spot", 9)]) (N := s_shows_rounds_N) (sc := defScope s_shows_rounds) (by decide +kernel)) (fun _ _ _ _ _ => pg_name (i := 9) s_shows_rounds_sc.nd rfl (.inl rfl)) (fun _ _ _ _ _ => pts_nil) (fun _ _ _ _ _ => (pe_cmpR op_eq (pe_ix ix_str (pv 0) (pe_ix (ix_list_K (K := K) rfl) (pv 3) (pe_op op_sub (pv 9) pe_int) (fun _ _ => rfl)) (fun _ _ => rfl)) (pe_ix ix_str (pv 0) (pe_ix (ix_list_K (K := K) rfl) (pv 3) (pe_op op_add (pv 9) pe_int) (fun _ _ => rfl)) (fun _ _ => rfl)) (nomark _)))) pa_nil)))
        (pss_one (ps_ret pe_bl))
        pss_nil)
      (pss_one (ps_set (i := 3) s_shows_rounds_sc.nd rfl (.inr rfl) (pe_lc (own := [("place", 5)]) (g := gName 5) rfl (by exact s_shows_rounds_sc.nd) (pi_list (pv 3)) (blkOk_by (own := [("place", 5)]) (N := s_shows_rounds_N) (sc := defScope s_shows_rounds) (by decide +kernel)) (fun _ _ _ _ _ => pg_name (i := 5) s_shows_rounds_sc.nd rfl (.inl rfl)) (fun _ _ _ _ _ => pts_one (pt_cmpR (op_notIn_seq_K (K := K) rfl) (pv 5) (pv 4) (by rfl))) (fun _ _ _ _ _ => (pv 5))))))))))))
    (pss_one (ps_ret (pe_cmpR op_eq (pe_callB call_len_seq (by rfl) B.len bt_len (pa_cons (pv 3) pa_nil)) pe_int (nomark _))))))))), ?_⟩
    refine q_drop (v := .non) (ev_c1 (ea_cons (ev_var rfl) ea_nil) fun H1 e Q k E => ⟨cs, rfl, W, hz, k⟩) fun H1 e1 => ?_
    refine q_asg (ev_best (i := 0) (ea_cons (ev_var rfl) (ea_cons ev_c ea_nil)) rfl W hz) fun H2 e2 => ?_
    have e12 := e1.trans e2
    have sa2 := sa.ex e12
    -- the first test
    have isN : ∀ {H' : Hp}, EvT (tTest (tOp rIsNn (tVar 2) (tC .non))) [some (Wv cs), some v, some (oV (T cs 0 (cs.length - 1))), none, none, none, none, none, none, none] H' (T cs 0 (cs.length - 1)).isNone := fun {H'} =>
      et_is (et_test (ev_op (ev_var rfl) ev_c rv_isN)) (oV_non _)
    cases hT : T cs 0 (cs.length - 1) with
    | none =>
      have bf : b = false := by
        cases sa2 with
        | ok h hT' L hs => rw [hT] at hT'; cases hT'
        | _ => rfl
      subst bf
      have isN' := fun {H' : Hp} => isN (H' := H')
      rw [hT] at isN'
      exact q_when (b := true) (et_or (b := true) isN' fun z => nomatch z) (fun _ H3 e3 => s_ret ev_c fun H4 e4 => k H4 ((e12.trans e3).trans e4)) (fun z => nomatch z)
    | some M =>
      have isN' := fun {H' : Hp} => isN (H' := H')
      rw [hT] at isN'
      rcases sa2.list hT with ⟨hb, t, ty, hk⟩ | ⟨p, us, rfl, hp, hus⟩
      · subst hb
        exact q_retF (b := true) (et_or (b := true) isN' fun _ => et_or (a := true) (b := true) (et_not (et_B (ev_isi (K := K) (ev_var rfl) ev_c ty hk))) fun z => nomatch z) (fun _ H3 e3 => k H3 (e12.trans e3)) (fun z => nomatch z)
      · have isL : ∀ {c : Bool}, decide (us.length = M) = c → EvT _ [some (Wv cs), some (.ref p), some (oV (some M)), none, none, none, none, none, none, none] H2 (!c) := fun {c} hc =>
          et_or (a := false) (b := !c) isN' fun _ => et_or (a := false) (b := !c) (et_not (et_B (ev_isi (K := K) (ta := tVar 1) (tb := tC (.ty "list")) (t := "list") (b := true) (ev_var rfl) ev_c (fun _ e => ty_L (ex_l e hp)) (by decide +kernel)))) fun _ =>
            et_is (et_test (ev_op (ev_len (K := K) (ta := tVar 1) (ev_var rfl) hp) (tb := tVar 2) (ev_var rfl) rv_neI)) (by
              rw [← hc]
              by_cases c : us.length = M
              · rw [decide_eq_true c, decide_eq_true (by omega)]
              · rw [decide_eq_false c, decide_eq_false (by omega)])
        rcases hus with ⟨hl, rfl⟩ | ⟨hl, sb⟩
        · exact q_retF (isL (decide_eq_false hl)) (fun _ H3 e3 => k H3 (e12.trans e3)) (fun z => nomatch z)
        · refine q_retF (isL (decide_eq_true hl)) (fun z => nomatch z) fun _ H3 e3 => ?_
          -- left = list(range(len(word)))
          refine q_asgL (el_range (n := cs.length) (ev_lenW (ev_var rfl) (by omega)) (by omega)) fun lp H4 lp0 e4 hlp => ?_
          have e24 := e3.trans e4
          have e14 := e12.trans e24
          have hp4 := ex_l e24 hp
          have test1 : ∀ {q : Addr} {ys : List V} {f : Nat → Bool} {σ : L2.St} {H' : Hp} {a : V}, SqT K H' q ys → ys.length ≤ 1000 → True := fun _ _ => trivial
          cases sb with
          | @first q xs ys hq =>
            refine q_forLn (K := K) (ev_var rfl) hp4 (fun i σ' H' => i = 0 ∧ Ex H4 H' ∧ σ' = [some (Wv cs), some (.ref p), some (oV (some M)), some (.ref lp), none, none, none, none, none, none]) (fun H5 e5 => ⟨rfl, e5, rfl⟩) (fun i σ' H' _ pv => ex_l pv.2.1 hp4) (fun i x σ' H' hx pv => ?_) (fun σ' H' pv => nomatch pv.1)
            obtain ⟨rfl, e5, rfl⟩ := pv
            obtain rfl : V.ref q = x := Option.some.inj hx
            exact q_retF (b := true) (et_or (a := true) (b := true) (et_not (et_B (ev_isi (K := K) (t := "list") (b := false) (ev_var rfl) ev_c (fun _ e => ty_L (ex_l ((e24.trans e5).trans e) hq)) (by decide +kernel)))) fun z => nomatch z) (fun _ H6 e6 => k H6 ((e14.trans e5).trans e6)) (fun z => nomatch z)
          | @place q xs y hq hy =>
            refine q_forLn (K := K) (ev_var rfl) hp4 (fun i σ' H' => i = 0 ∧ Ex H4 H' ∧ σ' = [some (Wv cs), some (.ref p), some (oV (some M)), some (.ref lp), none, none, none, none, none, none]) (fun H5 e5 => ⟨rfl, e5, rfl⟩) (fun i σ' H' _ pv => ex_l pv.2.1 hp4) (fun i x σ' H' hx pv => ?_) (fun σ' H' pv => nomatch pv.1)
            obtain ⟨rfl, e5, rfl⟩ := pv
            obtain rfl : V.ref q = x := Option.some.inj hx
            have hq5 := ex_t (e24.trans e5) hq
            have lc := el_lcT (K := K) (σ := [some (Wv cs), some (.ref p), some (oV (some M)), some (.ref lp), some (.ref q), none, none, none, none, none]) (H := H') (xs := [y]) (tl := tVar 4) (j := 5) (vs := [5]) (t := tYes) (te := tCall spIsIn [] E0 (tCons (tVar 5) (tCons (tC (.int 1)) (tCons (tOp (rI0 fun i j => V.int (i - j)) (tCB rLenT (tCons (tVar 0) tNil)) (tC (.int 2))) tNil)))) (fun _ => true) (fun _ => .bl false) (ev_var rfl) hq5 (by show 1 ≤ 40000; decide) (fun _ => rfl) (fun _ _ _ _ _ => et_yes) (fun i x H6 e6 h _ => by
              match i, h with
              | 0, h =>
                obtain rfl : y = x := Option.some.inj h
                refine ev_c1 (ea_cons (ev_var rfl) (ea_cons ev_c (ea_cons (ev_op (ev_lenW (ev_var rfl) (by omega)) ev_c rv_I0) ea_nil))) fun H7 e7 Q k E => ?_
                rcases hy with rfl | ⟨i, rfl, hi⟩
                · exact ⟨_, _, _, _, rfl, .non, fun c _ hc => by rw [hc rfl]; exact k⟩
                · exact ⟨_, _, _, _, rfl, .int i, fun c hc _ => by rw [hc i rfl, decide_eq_false hi]; exact k⟩)
            refine q_retF (b := true) (et_or (a := false) (b := true) (et_not (et_B (ev_isi (K := K) (t := "tuple") (b := true) (ev_var rfl) ev_c (fun _ e => ty_T (ex_t e hq5)) (by decide +kernel)))) fun _ => et_not (a := false) (et_B (ev_allB (K := K) (bs := [false]) lc))) (fun _ H6 e6 => k H6 ((e14.trans e5).trans e6)) (fun z => nomatch z)
          | @ok _ nss L hs =>
            have L4 := L.ex e24
            refine q_forLn (K := K) (ev_var rfl) hp4 (fun i σ' H' => Ex H4 H' ∧ ∃ lp left a4 a5 a6 a7 a8 a9, σ' = [some (Wv cs), some (.ref p), some (oV (some M)), some (.ref lp), a4, a5, a6, a7, a8, a9] ∧ H' lp = some (.lst (nVs left)) ∧ LInv cs.length left ∧ left.length ≤ 60 ∧ sr cs (nss.drop i) left = sr cs nss (List.range cs.length))
              (fun H5 e5 => ⟨e5, lp, _, _, _, _, _, _, _, rfl, e5 lp _ hlp, LInv.range h2, by rw [List.length_range]; exact hz, rfl⟩) (fun i σ' H' _ pv => ex_l pv.1 hp4) (fun i x σ' H' hx pv => ?_) (fun σ' H' pv => ?_)
            · obtain ⟨e5, lp, left, a4, a5, a6, a7, a8, a9, rfl, hl5, LI, hll, hsr⟩ := pv
              obtain ⟨q, sm, rfl, hsm, hq4⟩ := L4.at hx
              have hq := ex_t e5 hq4
              have sml := hs sm (List.mem_of_getElem? hsm)
              have ed : nss.drop i = sm :: nss.drop (i + 1) := by
                obtain ⟨hi, e⟩ := List.getElem?_eq_some_iff.mp hsm
                rw [List.drop_eq_getElem_cons hi, e]
              rw [ed] at hsr
              have hsr : (srStep cs left sm && sr cs (nss.drop (i + 1)) (keep left sm)) = sr cs nss (List.range cs.length) := hsr
              have bad : srStep cs left sm = false → ∀ H6, Ex H4 H6 → Q (.bl false) H6 := fun z H6 e6 => by
                have q := k H6 (e14.trans e6)
                rw [← hsr, z] at q
                exact q
              -- the places lie within
              refine q_retF (et_or (a := false) (et_not (a := true) (et_B (ev_isi (K := K) (t := "tuple") (b := true) (ev_var rfl) ev_c (fun _ e => ty_T (ex_t e hq)) (by decide +kernel)))) fun _ => et_not (et_B (ev_all (sm := sm) (f := fun p => decide (1 ≤ p ∧ p + 2 ≤ cs.length)) (el_mT (K := K) _ (ev_var rfl) hq sml (fun _ => rfl) fun pl H6 e6 _ => ?_)))) (fun hb H6 e6 => bad ?_ H6 (e5.trans e6)) fun hb H6 e6 => ?_
              · refine ev_c1 (ea_cons (ev_var rfl) (ea_cons ev_c (ea_cons (ev_op (ev_lenW (ev_var rfl) (by omega)) ev_c rv_I0) ea_nil))) fun H7 e7 Q k E => ⟨_, _, _, _, rfl, .int _, fun c hc _ => ?_⟩
                have ec : c = decide (1 ≤ pl ∧ pl + 2 ≤ cs.length) := by
                  rw [hc _ rfl]
                  exact decide_eq_decide.mpr (by omega)
                rw [ec]
                exact k
              · have hb : (!rngB cs sm) = true := hb
                unfold srStep
                rw [Bool.not_eq_true'] at hb
                rw [hb]
                rfl
              have h1 : rngB cs sm = true := by
                have hb : (!rngB cs sm) = false := hb
                rw [Bool.not_eq_false'] at hb
                exact hb
              have e56 := e5.trans e6
              have hq6 := ex_t e6 hq
              -- they go up
              refine q_retF (et_or (a := decide (sm = [])) (b := !ascB sm) (et_test (ev_eqNilT (K := K) (ev_var rfl) hq6)) fun hne => et_not (et_B (ev_allP (el_zT (K := K) (fun a b => decide (a < b)) (ev_var rfl) hq6 (of_decide_eq_false hne) sml (fun _ _ => rfl) fun a b H7 e7 => ev_is (ev_op (ev_var rfl) (ev_var rfl) rv_I0) (congrArg V.bl (decide_eq_decide.mpr (by omega))))))) (fun hb H7 e7 => bad ?_ H7 (e56.trans e7)) fun hb H7 e7 => ?_
              · unfold srStep
                rcases Bool.or_eq_true_iff.mp hb with z | z
                · rw [z, h1]; rfl
                · rw [Bool.not_eq_true'] at z
                  rw [z, h1]
                  cases decide (sm = []) <;> rfl
              obtain ⟨hb1, hb2⟩ := Bool.or_eq_false_iff.mp hb
              have hne : sm ≠ [] := of_decide_eq_false hb1
              rw [Bool.not_eq_false'] at hb2
              have e57 := e56.trans e7
              have hq7 := ex_t e7 hq6
              have hl7 := (e6.trans e7) lp _ hl5
              -- they are left
              refine q_retF (et_not (et_B (ev_all (sm := sm) (f := fun p => decide (p ∈ left)) (el_mT (K := K) _ (ev_var rfl) hq7 sml (fun _ => rfl) fun pl H8 e8 _ => ev_inL (ev_var rfl) (ev_var rfl) (sq_of (e8 lp _ hl7)))))) (fun hb H8 e8 => bad ?_ H8 (e57.trans e8)) fun hb H8 e8 => ?_
              · have hb : (!inB left sm) = true := hb
                rw [Bool.not_eq_true'] at hb
                unfold srStep
                rw [h1, hb2, hb1, hb]
                rfl
              have h4 : inB left sm = true := by
                have hb : (!inB left sm) = false := hb
                rw [Bool.not_eq_false'] at hb
                exact hb
              have hin : ∀ p ∈ sm, p ∈ left := fun p hp => of_decide_eq_true (List.all_eq_true.mp h4 p hp)
              have e58 := e57.trans e8
              have hq8 := ex_t e8 hq7
              have hl8 := e8 lp _ hl7
              -- spots
              refine q_asgL (el_mT (K := K) (sm := sm) (fun p => nV (left.idxOf p)) (ev_var rfl) hq8 sml (fun _ => rfl) fun pl H9 e9 hpl => ev_index (K := K) (ev_var rfl) (ev_var rfl) (sq_of (e9 lp _ hl8)) (hin pl hpl)) fun sp H9 sp0 e9 hsp => ?_
              have hsp : H9 sp = some (.lst (nVs (sm.map left.idxOf))) := by
                have e : nVs (sm.map left.idxOf) = sm.map (fun p => nV (left.idxOf p)) := List.map_map
                rw [e]
                exact hsp
              have spl : (sm.map left.idxOf).length ≤ 1000 := by rw [List.length_map]; exact sml
              have e59 := e58.trans e9
              have hl9 := e9 lp _ hl8
              have hq9 := ex_t e9 hq8
              -- no two beside
              refine q_retF (et_is (et_B (ev_anyP (el_zL (K := K) (fun a b => decide (b < a + 2)) (ev_var rfl) (sq_of hsp) spl (fun _ _ => rfl) fun a b H10 e10 => ev_is (ev_op (ev_op (ev_var rfl) (ev_var rfl) rv_I0) ev_c rv_I0) (congrArg V.bl (decide_eq_decide.mpr (by omega)))))) (far_any _)) (fun hb H10 e10 => bad ?_ H10 (e59.trans e10)) fun hb H10 e10 => ?_
              · rw [Bool.not_eq_true'] at hb
                unfold srStep
                rw [h1, hb2, hb1, h4, hb]
                rfl
              rw [Bool.not_eq_false'] at hb
              have h5 := hb
              have e510 := e59.trans e10
              have hl10 := e10 lp _ hl9
              have hq10 := ex_t e10 hq9
              have hsp10 := e10 sp _ hsp
              -- the neighbours differ
              refine q_retF (et_is (et_B (ev_any (sm := sm.map left.idxOf) (f := fun s => decide (lt cs (lt left (s - 1)) = lt cs (lt left (s + 1)))) (el_mL (K := K) _ (ev_var rfl) (sq_of hsp10) spl (fun _ => rfl) fun st H11 e11 hst => ?_))) (un_any cs left sm)) (fun hb H11 e11 => bad ?_ H11 (e510.trans e11)) fun hb H11 e11 => ?_
              · obtain ⟨pl, hpl, rfl⟩ := List.mem_map.mp hst
                have hpr := of_decide_eq_true (List.all_eq_true.mp h1 pl hpl)
                have g1 := (LI.first (hin pl hpl)).mpr hpr.1
                have g2 := (LI.last (hin pl hpl)).mpr hpr.2
                generalize left.idxOf pl = st at g1 g2
                have w1 := LI.le _ (lt_mem (xs := left) (i := st - 1) (by omega))
                have w2 := LI.le _ (lt_mem (xs := left) (i := st + 1) (by omega))
                have at1 : atI (nVs left) ((st - 1 : Nat) : Int) = some (nV (lt left (st - 1))) := atI_nat (by rw [List.getElem?_map, get_lt (by omega)]; rfl)
                have at2 : atI (nVs left) ((st + 1 : Nat) : Int) = some (nV (lt left (st + 1))) := atI_nat (by rw [List.getElem?_map, get_lt (by omega)]; rfl)
                have hl11 : SqL K H11 lp (nVs left) := sq_of (e11 lp _ hl10)
                exact ev_op (ev_word (ev_var rfl) (ev_op (ev_var rfl) (ev_int (ev_op (ev_var rfl) ev_c rv_I0) (show (st : Int) - 1 = ((st - 1 : Nat) : Int) by omega)) (rv_ixL hl11 at1)) (by omega) (by omega)) (ev_word (ev_var rfl) (ev_op (ev_var rfl) (ev_int (ev_op (ev_var rfl) ev_c rv_I0) (show (st : Int) + 1 = ((st + 1 : Nat) : Int) by omega)) (rv_ixL hl11 at2)) (by omega) (by omega)) rv_eqS
              · rw [Bool.not_eq_true'] at hb
                unfold srStep
                rw [h1, hb2, hb1, h4, h5, hb]
                rfl
              rw [Bool.not_eq_false'] at hb
              have e511 := e510.trans e11
              have hl11 := e11 lp _ hl10
              have hq11 := ex_t e11 hq10
              have good : srStep cs left sm = true := by
                unfold srStep
                rw [h1, hb2, hb1, h4, h5, hb]
                rfl
              -- left = [place for place in left if place not in some]
              refine s_asgL (el_nL (K := K) (sm := left) (fun p => !decide (p ∈ sm)) nV (ev_var rfl) (sq_of hl11) (by omega) (fun _ => rfl) (fun pl H12 e12 _ => et_test (ev_niT (ev_var rfl) (ev_var rfl) (ex_t e12 hq11))) fun pl H12 e12 _ _ => ev_var rfl) fun lp' H12 lp0' e12' hlp' => ?_
              refine ⟨e511.trans e12', lp', keep left sm, _, _, _, _, _, _, rfl, hlp', LI.keep good, ?_, ?_⟩
              · exact Nat.le_trans (List.length_filter_le _ _) hll
              · rw [← hsr, good]
                rfl
            · obtain ⟨e5, lp, left, a4, a5, a6, a7, a8, a9, rfl, hl5, LI, hll, hsr⟩ := pv
              rw [L4.len, List.drop_length] at hsr
              refine s_ret (ev_op (ev_len (K := K) (ev_var rfl) (sq_of hl5)) ev_c rv_eqI) fun H6 e6 => ?_
              have q := k H6 ((e14.trans e5).trans e6)
              rw [← hsr] at q
              have ee : decide (((nVs left).length : Int) = 2) = decide (left.length = 2) := decide_eq_decide.mpr (by rw [List.length_map]; omega)
              rw [ee]
              exact q
end
end K54

set_option Elab.async false
set_option linter.all false
set_option maxRecDepth 100000
set_option maxHeartbeats 2000000
namespace K54
open PySem PySem.Spec PyProof.Rows L2 Evl
/-! ### the row that a turn changes -/
/-- all but p stays -/
def Xp (p : Addr) (H H' : Hp) : Prop := ∀ b o, b ≠ p → H b = some o → H' b = some o
theorem Xp.refl (p : Addr) (H : Hp) : Xp p H H := fun _ _ _ h => h
theorem Xp.of {p : Addr} {H H' : Hp} (e : Ex H H') : Xp p H H' := fun b o _ h => e b o h
theorem Xp.trans {p : Addr} {H H1 H2 : Hp} (a : Xp p H H1) (b : Xp p H1 H2) : Xp p H H2 := fun x o n h => b x o n (a x o n h)
theorem Xp.upd {p : Addr} {H : Hp} {o : HO} : Xp p H (L2.upd H p o) := fun b u n h => by
  rw [upd_ne n]
  exact h
/-- an object that H does not know may change -/
theorem Xp.mut {p q : Addr} {H H' : Hp} {o : HO} (e : Xp p H H') (h : H q = none) : Xp p H (L2.upd H' q o) := fun b u n hb => by
  rw [upd_ne (ne_of_none hb h)]
  exact e b u n hb
theorem Xp.back {p q : Addr} {H H' : Hp} (e : Xp p H H') (hn : q ≠ p) (h : H' q = none) : H q = none := by
  cases z : H q with
  | none => rfl
  | some o =>
    rw [e q o hn z] at h
    cases h
section
variable {K : PySem.W.Frag} {H H' : Hp} {p q : Addr} {xs : List V}
theorem Xp.sqt {zs : List V} (x : Xp p H H') (hp : H p = some (.lst zs)) (h : SqT K H q xs) : SqT K H' q xs := by
  rcases h with (h | ⟨o, h⟩) | h
  · exact .inl (.inl (x q _ (ne_of hp h fun z => nomatch z).symm h))
  · exact .inl (.inr ⟨o, x q _ (ne_of hp h fun z => nomatch z).symm h⟩)
  · exact .inr h
theorem Xp.sql (x : Xp p H H') (hn : q ≠ p) (h : SqL K H q xs) : SqL K H' q xs := by
  rcases h with (h | ⟨o, h⟩) | h
  · exact .inl (.inl (x q _ hn h))
  · exact .inl (.inr ⟨o, x q _ hn h⟩)
  · exact .inr h
/-- the row as it stands -/
def RowS (K : PySem.W.Frag) (H : Hp) (p a : Addr) (ns : List Int) (i s g : Int) : Prop := H p = some (.lst [.ref a, .int i, .int s, .int g]) ∧ SqL K H a (ns.map V.int) ∧ 0 ≤ i
def Row (K : PySem.W.Frag) (H : Hp) (p a : Addr) : Prop := ∃ ns i s g, RowS K H p a ns i s g
theorem RowS.ex {a : Addr} {ns : List Int} {i s g : Int} (R : RowS K H p a ns i s g) (e : Ex H H') : RowS K H' p a ns i s g := ⟨e p _ R.1, ex_l e R.2.1, R.2.2⟩
theorem Row.ex {a : Addr} (R : Row K H p a) (e : Ex H H') : Row K H' p a := let ⟨ns, i, s, g, R⟩ := R; ⟨ns, i, s, g, R.ex e⟩
theorem Row.lst {a : Addr} (R : Row K H p a) : ∃ zs, H p = some (.lst zs) := let ⟨_, _, _, _, R⟩ := R; ⟨_, R.1⟩
/-- an object that was not there changes -/
theorem Row.mut {a D : Addr} {o : HO} (R : Row K H p a) (hD : H D = none) (R2 : Row K H' p a) : Row K (upd H' D o) p a := by
  obtain ⟨ns, i, s, g, q1, q2, q3⟩ := R
  obtain ⟨ns', i', s', g', r1, r2, r3⟩ := R2
  have hp : p ≠ D := ne_of_none q1 hD
  have hr : upd H' D o p = some (.lst [.ref a, .int i', .int s', .int g']) := by
    rw [upd_ne hp]
    exact r1
  have other : a ≠ D → Row K (upd H' D o) p a := fun hne => ⟨ns', i', s', g', hr, by
    rcases r2 with (h | ⟨o, h⟩) | h
    · refine .inl (.inl ?_)
      rw [upd_ne hne]
      exact h
    · refine .inl (.inr ⟨o, ?_⟩)
      rw [upd_ne hne]
      exact h
    · exact .inr h, r3⟩
  rcases q2 with (h | ⟨o, h⟩) | h
  · exact other (ne_of_none h hD)
  · exact other (ne_of_none h hD)
  · exact ⟨ns, i', s', g', hr, .inr h, r3⟩
theorem RowS.set {a : Addr} {ns : List Int} {i s g i' s' g' : Int} (R : RowS K H p a ns i s g) (h0 : 0 ≤ i') : RowS K (upd H p (.lst [.ref a, .int i', .int s', .int g'])) p a ns i' s' g' := by
  refine ⟨upd_same, ?_, h0⟩
  rcases R.2.1 with (h | ⟨o, h⟩) | h
  · have hne : a ≠ p := fun z => by
      rw [z, R.1] at h
      injection h with h
      injection h with h
      cases ns with
      | nil => cases h
      | cons n r =>
        injection h with h _
        cases h
    refine .inl (.inl ?_)
    rw [upd_ne hne]
    exact h
  · have hne : a ≠ p := fun z => by
      rw [z, R.1] at h
      cases h
    refine .inl (.inr ⟨o, ?_⟩)
    rw [upd_ne hne]
    exact h
  · exact .inr h
theorem LT.xp {us : List V} {nss : List (List Nat)} {a : Addr} (h : LT K H us nss) (R : Row K H p a) (x : Xp p H H') : LT K H' us nss := Paired.mapP h fun _ _ ⟨a, ea, q⟩ => ⟨a, ea, x.sqt R.lst.choose_spec q⟩
end
section
variable {K : PySem.W.Frag} {w : World} {σ : L2.St} {H H' : Hp} {ta tb tc td te tx ty tv tl : TE} {t u : TT} {x y z v : V} {D : Ends} {tu tw tz : TS}
theorem ev_int1 {r : List V → Hp → VK → Prop} {i : Int} (hr : r = fun xs H Q => (∃ i, xs = [.int i] ∧ Q (.int i) H) ∨ ∃ k, xs = [.bl k] ∧ Q (.int (if k then 1 else 0)) H) (h : Ev ta σ H (.int i)) : Ev (tCB r (tCons ta tNil)) σ H (.int i) := by
  subst hr
  exact fun H1 e Q q => h H1 e _ fun H2 e2 => .inl ⟨i, rfl, q H2 e2⟩
theorem rv_mod {i j : Int} (h : 0 < j) : RV (rI (fun _ j => 0 < j) fun i j => V.int (i % j)) (.int i) (.int j) H (.int (i % j)) := rv_I h
theorem rv_div {i j : Int} (h : CDiv i j) : RV (rI CDiv fun i j => V.int (i / j)) (.int i) (.int j) H (.int (i / j)) := rv_I h
theorem rv_mul {i j : Int} (h : CMul i j) : RV (rI CMul fun i j => V.int (i * j)) (.int i) (.int j) H (.int (i * j)) := rv_I h
theorem rv_pow {i j : Int} (h : CPow i j) : RV (rI CPow fun i j => V.int (i ^ j.toNat)) (.int i) (.int j) H (.int (i ^ j.toNat)) := rv_I h
/-- row[i] -/
theorem ev_row {p : Addr} {xs : List V} {i : Nat} (ha : Ev ta σ H (.ref p)) (hb : Ev tb σ H (.int (i : Int))) (h : H p = some (.lst xs)) (hv : xs[i]? = some v) : Ev (tOp (rIxL K) ta tb) σ H v := ev_op ha hb (rv_ixL (sq_of h) (atI_nat hv))
end
end K54

set_option Elab.async false
set_option linter.all false
set_option maxRecDepth 100000
set_option maxHeartbeats 4000000
namespace K54
open PySem PySem.Spec PyProof.Rows L2 Evl
abbrev s_law_taken : Stmt := topS 23
abbrev s_law_taken_N : List Str := ["_law_row", "_law_many", "_law_found", "_law_cell"]
theorem s_law_taken_sc : FnScope s_law_taken_N ["_law_row", "_law_many"] (defScope s_law_taken) := ⟨rfl, rfl, rfl, by decide +kernel, rfl, by decide +kernel, by decide +kernel⟩
abbrev s_law_pick : Stmt := topS 24
abbrev s_law_pick_N : List Str := ["_law_row", "_law_things"]
theorem s_law_pick_sc : FnScope s_law_pick_N ["_law_row", "_law_things"] (defScope s_law_pick) := ⟨rfl, rfl, rfl, by decide +kernel, rfl, by decide +kernel, by decide +kernel⟩
section
variable {P : Program} {w : World} {K : PySem.W.Frag} {mg : Str → Option Value} {base : Heap}
def spTaken (K : PySem.W.Frag) : Sp := fun vs H Q _ => ∃ (p a : Addr) (m : Int), vs = [.ref p, .int m] ∧ Row K H p a ∧ 0 < m ∧ m ≤ 1000 ∧ ∀ (k : Nat) H', (k : Int) < m → Xp p H H' → Row K H' p a → Q (nV k) H'
theorem cal_taken (D : Df K mg "_law_taken" s_law_taken) (B : Bt mg) : Cal P w K mg base 1 "_law_taken" (spTaken K) := by
  refine D.cal s_law_taken_sc (fun _ _ _ _ _ _ us hl => match us, hl with | [_, _], _ => rfl) (fun vs H Q E h => ?_) (fun f cdv A outer s H vs Q E hr h => ?_)
  · obtain ⟨p, a, m, rfl, _⟩ := h
    rfl
  · obtain ⟨p, a, m, rfl, ⟨ns, i, s, g, R⟩, h0, h1, k⟩ := h
    refine ⟨_, (pss_cons (ps_if (pt_cmpR op_gt (pe_ix ix_list (pv 0) pe_int (fun _ _ => rfl)) pe_int (nomark _))
      (pss_cons (ps_set (i := 2) s_law_taken_sc.nd rfl (.inl rfl) (pe_op op_mod (pe_callTy call_int1 (by rfl) B.int bt_int (pa_cons (pe_ix ix_list (pv 0) pe_int (fun _ _ => rfl)) pa_nil)) (pv 1)))
      (pss_cons (ps_asg (pe_op op_fdiv (pe_ix ix_list (pv 0) pe_int (fun _ _ => rfl)) (pv 1)) (pg_sub (pv 0) pe_int set_list (fun _ => rfl)))
      (pss_one (ps_ret (pv 2)))))
      pss_nil)
    (pss_cons (ps_asg (pe_op op_add (pe_ix ix_list (pv 0) pe_int (fun _ _ => rfl)) pe_int) (pg_sub (pv 0) pe_int set_list (fun _ => rfl)))
    (pss_cons (ps_if (pt_cmpR op_gt (pe_ix ix_list (pv 0) pe_int (fun _ _ => rfl)) (pe_callB call_len_seq (by rfl) B.len bt_len (pa_cons (pe_ix ix_list (pv 0) pe_int (fun _ _ => rfl)) pa_nil)) (nomark _))
      (pss_cons (ps_asg (pe_op op_mod (pe_callTy call_int1 (by rfl) B.int bt_int (pa_cons (pe_op op_add (pe_op op_mul (pe_ix ix_list (pv 0) pe_int (fun _ _ => rfl)) pe_int) pe_int) pa_nil)) pe_int) (pg_sub (pv 0) pe_int set_list (fun _ => rfl)))
      (pss_one (ps_ret (pe_op op_mod (pe_callTy call_int1 (by rfl) B.int bt_int (pa_cons (pe_op op_fdiv (pe_ix ix_list (pv 0) pe_int (fun _ _ => rfl)) pe_int) pa_nil)) (pv 1)))))
      pss_nil)
    (pss_cons (ps_set (i := 3) s_law_taken_sc.nd rfl (.inl rfl) (pe_ix ix_list (pe_ix ix_list (pv 0) pe_int (fun _ _ => rfl)) (pe_op op_sub (pe_ix ix_list (pv 0) pe_int (fun _ _ => rfl)) pe_int) (fun _ _ => rfl)))
    (pss_cons (ps_asg (pe_op op_mod (pe_callTy call_int1 (by rfl) B.int bt_int (pa_cons (pe_op op_add (pe_op op_add (pe_op op_mul (pe_ix ix_list (pv 0) pe_int (fun _ _ => rfl)) pe_int) (pv 3)) pe_int) pa_nil)) pe_int) (pg_sub (pv 0) pe_int set_list (fun _ => rfl)))
    (pss_cons (ps_if (pt_cmpR op_ge (pv 3) (pe_op op_pow pe_int pe_int) (nomark _))
      (pss_one (ps_asg (pe_op op_fdiv (pv 3) (pv 1)) (pg_sub (pv 0) pe_int set_list (fun _ => rfl))))
      pss_nil)
    (pss_one (ps_ret (pe_op op_mod (pe_callTy call_int1 (by rfl) B.int bt_int (pa_cons (pv 3) pa_nil)) (pv 1)))))))))), ?_⟩
    have fin : ∀ (x : Int) H', Xp p H H' → Row K H' p a → Q (.int (x % m)) H' := fun x H' e r => by
      have a1 := Int.emod_nonneg x (b := m) (by omega)
      have a2 := Int.emod_lt_of_pos x h0
      have q := k (x % m).toNat H' (by omega) e r
      rw [show nV (x % m).toNat = V.int (x % m) from congrArg V.int (Int.toNat_of_nonneg a1)] at q
      exact q
    have hdiv : ∀ j : Int, CDiv j m := fun j => ⟨h0, by omega⟩
    refine q_when (et_test (ev_op (ev_row (K := K) (i := 3) (ev_var rfl) ev_c R.1 rfl) ev_c rv_I0)) (fun _ H1 e1 => ?_) fun _ H1 e1 => ?_
    · have R1 := R.ex e1
      refine q_asg (ev_op (ev_int1 rfl (ev_row (K := K) (i := 3) (ev_var rfl) ev_c R1.1 rfl)) (ev_var rfl) (rv_mod h0)) fun H2 e2 => ?_
      have R2 := R1.ex e2
      refine q_setL (j := 3) R2.1 (ev_op (ev_row (K := K) (i := 3) (ev_var rfl) ev_c R2.1 rfl) (ev_var rfl) (rv_div (hdiv g))) (ev_var rfl) ev_c (by show 3 < 4; decide) fun H3 e3 => ?_
      have R3 := R2.ex e3
      refine s_ret (ev_var rfl) fun H4 e4 => fin g H4 ((((Xp.of ((e1.trans e2).trans e3)).trans Xp.upd)).trans (Xp.of e4)) ⟨_, _, _, _, (R3.set R.2.2).ex e4⟩
    · have R1 := R.ex e1
      refine q_setL (j := 1) R1.1 (ev_op (ev_row (K := K) (i := 1) (ev_var rfl) ev_c R1.1 rfl) ev_c rv_I0) (ev_var rfl) ev_c (by show 1 < 4; decide) fun H2 e2 => ?_
      have i0 := R.2.2
      have R2 := (R1.ex e2).set (i' := i + 1) (s' := s) (g' := g) (by omega)
      have x2 : Xp p H _ := (Xp.of (e1.trans e2)).trans (Xp.upd (o := .lst [.ref a, .int (i + 1), .int s, .int g]))
      show tSeq _ _ _ _ (upd H2 p (.lst [.ref a, .int (i + 1), .int s, .int g]))
      generalize upd H2 p (.lst [.ref a, .int (i + 1), .int s, .int g]) = H3 at R2 x2 ⊢
      refine q_when (b := decide ((i + 1) > (ns.length : Int))) (et_is (et_test (ev_op (ev_row (K := K) (i := 1) (ev_var rfl) ev_c R2.1 rfl) (ev_len (K := K) (ev_row (K := K) (i := 0) (ev_var rfl) ev_c R2.1 rfl) R2.2.1) rv_I0)) (by rw [List.length_map])) (fun _ H4 e4 => ?_) fun hb H4 e4 => ?_
      · have R4 := R2.ex e4
        refine q_setL (j := 2) R4.1 (ev_op (ev_int1 rfl (ev_op (ev_op (ev_row (K := K) (i := 2) (ev_var rfl) ev_c R4.1 rfl) ev_c (rv_mul (.inr (by decide)))) ev_c rv_I0)) ev_c (rv_mod (by decide))) (ev_var rfl) ev_c (by show 2 < 4; decide) fun H5 e5 => ?_
        have R5 := (R4.ex e5).set (i' := i + 1) (s' := (s * 48271 + 11) % 2147483647) (g' := g) (by omega)
        exact s_ret (ev_op (ev_int1 rfl (ev_op (ev_row (K := K) (i := 2) (ev_var rfl) ev_c R5.1 rfl) ev_c (rv_div ⟨by decide, by decide⟩))) (ev_var rfl) (rv_mod h0)) fun H6 e6 => fin _ H6 (((x2.trans (Xp.of (e4.trans e5))).trans Xp.upd).trans (Xp.of e6)) ⟨_, _, _, _, R5.ex e6⟩
      · have hb := of_decide_eq_false hb
        have R4 := R2.ex e4
        have hlt : i.toNat < ns.length := by omega
        have hat : (ns.map V.int)[i.toNat]? = some (.int ns[i.toNat]) := by rw [List.getElem?_map, List.getElem?_eq_getElem hlt]; rfl
        generalize ns[i.toNat] = c at hat
        refine q_asg (v := .int c) (ev_op (ev_row (K := K) (i := 0) (ev_var rfl) ev_c R4.1 rfl) (ev_int (ev_op (ev_row (K := K) (i := 1) (ev_var rfl) ev_c R4.1 rfl) ev_c rv_I0) (show i + 1 - 1 = ((i.toNat : Nat) : Int) by omega)) (rv_ixL R4.2.1 (atI_nat hat))) fun H5 e5 => ?_
        have R5 := R4.ex e5
        refine q_setL (j := 2) R5.1 (ev_op (ev_int1 rfl (ev_op (ev_op (ev_op (ev_row (K := K) (i := 2) (ev_var rfl) ev_c R5.1 rfl) ev_c (rv_mul (.inr (by decide)))) (ev_var rfl) rv_I0) ev_c rv_I0)) ev_c (rv_mod (by decide))) (ev_var rfl) ev_c (by show 2 < 4; decide) fun H6 e6 => ?_
        have R6 := (R5.ex e6).set (i' := i + 1) (s' := (s * 48271 + c + 11) % 2147483647) (g' := g) (by omega)
        have x6 : Xp p H _ := (x2.trans (Xp.of ((e4.trans e5).trans e6))).trans (Xp.upd (o := .lst [.ref a, .int (i + 1), .int ((s * 48271 + c + 11) % 2147483647), .int g]))
        show tSeq _ _ _ _ (upd H6 p (.lst [.ref a, .int (i + 1), .int ((s * 48271 + c + 11) % 2147483647), .int g]))
        generalize upd H6 p (.lst [.ref a, .int (i + 1), .int ((s * 48271 + c + 11) % 2147483647), .int g]) = H7 at R6 x6 ⊢
        have last : ∀ H', Xp p H7 H' → Row K H' p a → tRet _ { nx := fun _ H' => Q .non H', rt := Q } [some (.ref p), some (.int m), none, some (.int c)] H' := fun H' x r =>
          s_ret (ev_op (ev_int1 (ta := tVar 3) (i := c) rfl (ev_var rfl)) (tb := tVar 1) (ev_var rfl) (rv_mod h0)) fun H8 e8 => fin c H8 ((x6.trans x).trans (Xp.of e8)) (r.ex e8)
        refine q_when (et_test (ev_op (ev_var rfl) (ev_op ev_c ev_c (rv_pow ⟨by decide, by decide, by decide⟩)) rv_I0)) (fun _ H8 e8 => ?_) fun _ H8 e8 => last H8 (Xp.of e8) ⟨_, _, _, _, R6.ex e8⟩
        have R8 := R6.ex e8
        refine s_setL (j := 3) R8.1 (ev_op (ev_var rfl) (ev_var rfl) (rv_div (hdiv c))) (ev_var rfl) ev_c (by show 3 < 4; decide) fun H9 e9 => ?_
        exact last _ ((Xp.of (e8.trans e9)).trans Xp.upd) ⟨_, _, _, _, (R8.ex e9).set (i' := i + 1) (s' := (s * 48271 + c + 11) % 2147483647) (g' := c / m) (by omega)⟩
/-- a call that takes from the row -/
theorem go_taken {σ : L2.St} {H : Hp} {ta : TA} {p a : Addr} {m : Int} {Q : VK} (h : EvA ta σ H [.ref p, .int m]) (R : Row K H p a) (h0 : 0 < m) (h1 : m ≤ 1000) (k : ∀ (k : Nat) H', (k : Int) < m → Xp p H H' → Row K H' p a → Q (nV k) H') : tCall (spTaken K) [] E0 ta σ H Q :=
  h H (Ex.refl H) _ fun H1 e1 => ⟨p, a, m, rfl, R.ex e1, h0, h1, fun j H' hj x r => k j H' hj ((Xp.of e1).trans x) r⟩
/-- what may be picked from -/
def Things (K : PySem.W.Frag) (H : Hp) (p : Addr) (o : V) (xs : List V) : Prop := (∃ cs : Wd, o = Wv cs ∧ xs = cs.map fun c => V.str ⟨#[c]⟩) ∨ ∃ q, o = .ref q ∧ q ≠ p ∧ SqL K H q xs
def spPick (K : PySem.W.Frag) : Sp := fun vs H Q _ => ∃ (p a : Addr) (o : V) (xs : List V), vs = [.ref p, o] ∧ Row K H p a ∧ Things K H p o xs ∧ 0 < xs.length ∧ xs.length ≤ 1000 ∧ ∀ x H', x ∈ xs → Xp p H H' → Row K H' p a → Q x H'
theorem cal_pick (D : Df K mg "_law_pick" s_law_pick) (B : Bt mg) (C_law_taken : Cal P w K mg base 1 "_law_taken" (spTaken K)) : Cal P w K mg base 2 "_law_pick" (spPick K) := by
  refine D.cal s_law_pick_sc (fun _ _ _ _ _ _ us hl => match us, hl with | [_, _], _ => rfl) (fun vs H Q E h => ?_) (fun f cdv A outer s H vs Q E hr h => ?_)
  · obtain ⟨p, a, o, xs, rfl, _⟩ := h
    rfl
  · obtain ⟨p, a, o, xs, rfl, R, T, h0, h1, k⟩ := h
    refine ⟨_, (pss_one (ps_ret (pe_ix ix_seq (pv 1) (pe_c C_law_taken hr (by decide) (by rfl) (pa_cons (pv 0) (pa_cons (pe_callB call_len (by rfl) B.len bt_len (pa_cons (pv 1) pa_nil)) pa_nil))) (fun _ _ => rfl)))), ?_⟩
    refine ⟨o, rfl, ⟨.ref p, rfl, ⟨o, rfl, o, xs.length, rfl, ?_, p, a, (xs.length : Int), rfl, R, by omega, by omega, fun j H' hj x r => ?_⟩⟩⟩
    · rcases T with ⟨cs, rfl, rfl⟩ | ⟨q, rfl, hq, hs⟩
      · rw [List.length_map] at h1 ⊢
        exact ⟨sz_of (by rw [Sw_len]; omega), (Sw_len cs).symm⟩
      · exact .inl ⟨xs, hs, rfl⟩
    · have hj : j < xs.length := by omega
      have hx : xs[j]? = some xs[j] := List.getElem?_eq_getElem hj
      have hm : xs[j] ∈ xs := List.getElem_mem hj
      generalize xs[j] = y at hx hm
      rcases T with ⟨cs, rfl, rfl⟩ | ⟨q, rfl, hq, hs⟩
      · rw [List.getElem?_map] at hx
        obtain ⟨c, hc, rfl⟩ := Option.map_eq_some_iff.mp hx
        rw [List.length_map] at h1
        exact .inr (.inr ⟨Sw cs, (j : Int), c, rfl, rfl, sz_of (by rw [Sw_len]; omega), atI_nat (by simpa using hc), k _ H' hm x r⟩)
      · exact .inl ⟨q, xs, (j : Int), y, rfl, rfl, x.sql hq hs, atI_nat hx, k _ H' hm x r⟩
end
end K54

set_option Elab.async false
set_option linter.all false
set_option maxRecDepth 100000
set_option maxHeartbeats 4000000
namespace K54
open PySem PySem.Spec PyProof.Rows L2 Evl
abbrev s_law_alike : Stmt := topS 25
abbrev s_law_alike_N : List Str := ["_law_found", "_law_due", "_law_k"]
theorem s_law_alike_sc : FnScope s_law_alike_N ["_law_found", "_law_due"] (defScope s_law_alike) := ⟨rfl, rfl, rfl, by decide +kernel, rfl, by decide +kernel, by decide +kernel⟩
abbrev s_law_word : Stmt := topS 26
abbrev s_law_word_N : List Str := ["_law_first", "_law_line", "_law_at", "_law_found", "_law_step"]
theorem s_law_word_sc : FnScope s_law_word_N ["_law_first", "_law_line"] (defScope s_law_word) := ⟨rfl, rfl, rfl, by decide +kernel, rfl, by decide +kernel, by decide +kernel⟩
abbrev s_law_any : Stmt := topS 27
abbrev s_law_any_N : List Str := ["_law_row", "_law_most", "_law_many", "_law_turn"]
theorem s_law_any_sc : FnScope s_law_any_N ["_law_row", "_law_most"] (defScope s_law_any) := ⟨rfl, rfl, rfl, by decide +kernel, rfl, by decide +kernel, by decide +kernel⟩
section
variable {K : PySem.W.Frag} {w : World} {σ : L2.St} {H H' : Hp} {ta tb tc td te tx ty tv tl : TE} {t u : TT} {x y z v : V} {D : Ends} {tu tw tz : TS} {Q : VK}
/-! ### readings opened, where the row changes -/
theorem x_asg {i : Nat} (h : te σ H fun v H1 => tz D (σ.set i (some v)) H1) : tSeq (tAsg te (gName i)) tz D σ H := h
theorem x_asg1 {i : Nat} (h : te σ H fun v H1 => D.nx (σ.set i (some v)) H1) : tAsg te (gName i) D σ H := h
theorem x_ret (h : te σ H D.rt) : tRet te D σ H := h
theorem x_opC {r : R2} (h : tb σ H fun y H2 => r x y H2 Q) : tOp r (tC x) tb σ H Q := h
theorem x_call2 {sp : Sp} (h : ta σ H fun x H1 => tb σ H1 fun y H2 => sp [x, y] H2 Q E0) : tCall sp [] E0 (tCons ta (tCons tb tNil)) σ H Q := h
theorem x_call3 {sp : Sp} (h : ta σ H fun x H1 => tb σ H1 fun y H2 => tc σ H2 fun z H3 => sp [x, y, z] H3 Q E0) : tCall sp [] E0 (tCons ta (tCons tb (tCons tc tNil))) σ H Q := h
theorem x_var {i : Nat} (h : σ[i]? = some (some v)) (k : Q v H) : tVar i σ H Q := ⟨v, h, k⟩
theorem go_pick {ta : TA} {p a : Addr} {o : V} {xs : List V} (h : EvA ta σ H [.ref p, o]) (R : Row K H p a) (T : ∀ H1, Ex H H1 → Things K H1 p o xs) (h0 : 0 < xs.length) (h1 : xs.length ≤ 1000) (k : ∀ x H', x ∈ xs → Xp p H H' → Row K H' p a → Q x H') : tCall (spPick K) [] E0 ta σ H Q :=
  h H (Ex.refl H) _ fun H1 e1 => ⟨p, a, o, xs, rfl, R.ex e1, T H1 e1, h0, h1, fun x H' hx e r => k x H' hx ((Xp.of e1).trans e) r⟩
theorem go_pickL {p a : Addr} {xs : List V} (h : Ev ta σ H (.ref p)) (hl : EvL tb σ H xs) (R : Row K H p a) (h0 : 0 < xs.length) (h1 : xs.length ≤ 1000) (k : ∀ x H', x ∈ xs → Xp p H H' → Row K H' p a → Q x H') : tCall (spPick K) [] E0 (tCons ta (tCons tb tNil)) σ H Q :=
  h H (Ex.refl H) _ fun H1 e1 => hl H1 e1 _ fun q H2 hq e2 h2 => by
    have R1 := R.ex e1
    obtain ⟨zs, hz⟩ := R1.lst
    exact ⟨p, a, .ref q, xs, rfl, R1.ex e2, .inr ⟨q, rfl, (ne_of_none hz hq).symm, sq_of h2⟩, h0, h1, fun x H' hx e r => k x H' hx ((Xp.of (e1.trans e2)).trans e) r⟩
/-- [draw for i in range(n)] -/
theorem go_draws {p a : Addr} {tr : TA} {n : Nat} {j : Nat} {vs : List Nat} {Pd : V → Prop} (h : EvA tr σ H [nV n]) (hn : n ≤ 1000) (R : Row K H p a) (hw : ∀ x, wipe ((wipe σ vs).set j (some x)) vs = wipe σ vs)
    (he : ∀ (i : Nat) H1 (Q : VK), i < n → Xp p H H1 → Row K H1 p a → (∀ v H2, Pd v → Xp p H1 H2 → Row K H2 p a → Q v H2) → te ((wipe σ vs).set j (some (nV i))) H1 Q)
    (k : ∀ f xs H1, H f = none → f ≠ p → H1 f = some (.lst xs) → xs.length = n → (∀ x ∈ xs, Pd x) → Xp p H H1 → Row K H1 p a → Q (.ref f) H1) : tLc (iRng1 tr) (gName j) tYes te vs σ H Q :=
  h H (Ex.refl H) _ fun H1 e1 => ⟨(n : Int), rfl, by omega, by omega, fun Dl hD => by
    have R1 := R.ex e1
    obtain ⟨zs, hzs⟩ := R1.lst
    have hne : Dl ≠ p := (ne_of_none hzs hD).symm
    refine lc_range (lo := 0) (n := n) (fun i H' => Xp p H H' ∧ Row K H' p a ∧ ∃ xs, H' Dl = some (.lst xs) ∧ xs.length = i ∧ ∀ x ∈ xs, Pd x) ⟨(Xp.of e1).trans (Xp.of (Ex.new hD)), R1.ex (Ex.new hD), [], upd_same, rfl, fun _ h => nomatch h⟩ (fun i H' hi pv => ?_) (fun H' pv => ?_)
    · obtain ⟨x', r', xs, hx, hl, hp⟩ := pv
      have e0 : (0 : Int) + (i : Int) = (i : Int) := Int.zero_add _
      show wipe ((wipe σ vs).set j (some (.int ((0 : Int) + (i : Int))))) vs = wipe σ vs ∧ te ((wipe σ vs).set j (some (.int ((0 : Int) + (i : Int))))) H' fun y H4 => ∃ acc, H4 Dl = some (.lst acc) ∧ acc.length < sizeLine ∧ _
      rw [e0]
      refine ⟨hw _, he i H' _ hi x' r' fun v H2 hv x2 r2 => ⟨xs, x2 Dl _ hne hx, sz_lt (by omega), (x'.trans x2).mut (fresh_back e1 hD), ?_, xs ++ [v], upd_same, by rw [List.length_append, hl]; rfl, fun y hy => ?_⟩⟩
      · exact R1.mut hD r2
      · rcases List.mem_append.mp hy with z | z
        · exact hp y z
        · exact List.mem_singleton.mp z ▸ hv
    · obtain ⟨x', r', xs, hx, hl, hp⟩ := pv
      exact k Dl xs H' (fresh_back e1 hD) hne hx hl hp x' r'⟩
theorem ev_isiT {T1 T2 t : String} (ha : Ev ta σ H x) (ty : ∀ H1, Ex H H1 → TyX K H1 x (.type t)) (h1 : kitB t T1 = some false) (h2 : kitB t T2 = some false) : Ev (tCB (rIsiT K) (tCons ta (tCons (tTup (tCons (tC (.ty T1)) (tCons (tC (.ty T2)) tNil))) tNil))) σ H (.bl false) := fun H1 e Q q =>
  ha H1 e _ fun H2 e2 => (eu_tup (ea_cons ev_c (ea_cons ev_c ea_nil)) (by show 2 ≤ 100000; decide)) H2 (e.trans e2) _ fun p H3 hp e3 h3 =>
    ⟨x, p, [.ty T1, .ty T2], .type t, [.type T1, .type T2], false, rfl, h3, .cons (.ty T1) (.cons (.ty T2) .nil), ty H3 ((e.trans e2).trans e3), kitAny_cons (b := false) (kit_ty h1) (fun _ => kitAny_cons (b := false) (kit_ty h2) (fun _ => rfl) (fun z => nomatch z)) (fun z => nomatch z), q H3 (e2.trans e3)⟩
end
section
variable {P : Program} {w : World} {K : PySem.W.Frag} {mg : Str → Option Value} {base : Heap}
def spAlike : Sp := fun vs H Q _ => ∃ a b : Bool, vs = [.bl a, .bl b] ∧ RetV (.bl (decide (a = b))) H Q
theorem cal_alike (D : Df K mg "_law_alike" s_law_alike) (B : Bt mg) : Cal P w K mg base 1 "_law_alike" spAlike := by
  refine D.cal s_law_alike_sc (fun _ _ _ _ _ _ us hl => match us, hl with | [_, _], _ => rfl) (fun vs H Q E h => ?_) (fun f cdv A outer s H vs Q E hr h => ?_)
  · obtain ⟨a, b, rfl, _⟩ := h
    rfl
  · obtain ⟨a, b, rfl, k⟩ := h
    refine ⟨_, (pss_cons (ps_if (pt_val (pe_callB call_isiT (by rfl) B.isinstance bt_isinstance (pa_cons (pv 1) (pa_cons (pe_tup (pa_cons (pe_bltn (v := .ty "tuple") (by rfl) B.tuple bt_tuple rfl) (pa_cons (pe_bltn (v := .ty "list") (by rfl) B.list bt_list rfl) pa_nil))) pa_nil))))
      pss_never
      pss_nil)
    (pss_cons (ps_if (pw_or (pt_cmpR op_isN (pv 1) pe_non (nomark _)) (pw_or1 (pt_val (pe_callB call_isi (by rfl) B.isinstance bt_isinstance (pa_cons (pv 1) (pa_cons (pe_bltn (v := .ty "str") (by rfl) B.str bt_str rfl) pa_nil)))))).pt
      (pss_one (ps_ret (pe_and (pe_cmpR op_eq (pv 0) (pv 1) (nomark _)) (pe_one (pe_cmpR op_eq (pe_callB call_isi (by rfl) B.isinstance bt_isinstance (pa_cons (pv 0) (pa_cons (pe_bltn (v := .ty "str") (by rfl) B.str bt_str rfl) pa_nil))) (pe_callB call_isi (by rfl) B.isinstance bt_isinstance (pa_cons (pv 1) (pa_cons (pe_bltn (v := .ty "str") (by rfl) B.str bt_str rfl) pa_nil))) (nomark _))))))
      pss_nil)
    (pss_one (ps_ret (pe_and (pe_callB call_isi (by rfl) B.isinstance bt_isinstance (pa_cons (pv 0) (pa_cons (pe_bltn (v := .ty "int") (by rfl) B.int bt_int rfl) pa_nil))) (pe_and (pe_cmpR op_eq (pe_callB call_isi (by rfl) B.isinstance bt_isinstance (pa_cons (pv 0) (pa_cons (pe_bltn (v := .ty "bool") (by rfl) B.bool bt_bool rfl) pa_nil))) (pe_callB call_isi (by rfl) B.isinstance bt_isinstance (pa_cons (pv 1) (pa_cons (pe_bltn (v := .ty "bool") (by rfl) B.bool bt_bool rfl) pa_nil))) (nomark _)) (pe_one (pe_cmpR op_eq (pv 0) (pv 1) (nomark _))))))))), ?_⟩
    have tb : ∀ {H1 : Hp} {c : Bool}, TyX K H1 (.bl c) (.type "bool") := fun {_ c} => .base (.bl c)
    have isB : ∀ {i : Nat} {c : Bool} {T : String} {r : Bool} {H' : Hp}, ([some (V.bl a), some (V.bl b), none] : L2.St)[i]? = some (some (V.bl c)) → kitB "bool" T = some r → Ev (tCB (rIsi K) (tCons (tVar i) (tCons (tC (.ty T)) tNil))) [some (V.bl a), some (V.bl b), none] H' (.bl r) := fun hi hk =>
      ev_isi (ev_var hi) ev_c (fun _ _ => tb) hk
    refine q_skip (et_B (ev_isiT (K := K) (t := "bool") (ev_var rfl) (fun _ _ => tb) (by decide +kernel) (by decide +kernel))) fun H1 e1 => ?_
    refine q_skip (et_or (a := false) (b := false) (et_test (ev_op (ev_var rfl) ev_c rv_isN)) fun _ => et_B (isB (c := b) rfl (by decide +kernel))) fun H2 e2 => ?_
    refine s_ret (ev_andV (a := true) (b := decide (a = b)) (isB (c := a) rfl (by decide +kernel)) fun _ => ev_andV (a := true) (b := decide (a = b)) (ev_op (x := .bl true) (y := .bl true) (isB (c := a) rfl (by decide +kernel)) (isB (c := b) rfl (by decide +kernel)) (rv_eq rfl)) fun _ => ev_is (ev_op (ev_var rfl) (ev_var rfl) (rv_eq rfl)) ?_) fun H3 e3 => ?_
    · refine congrArg V.bl (decide_eq_decide.mpr ⟨fun z => V.bl.inj z, fun z => by rw [z]⟩)
    · have q := k H3 ((e1.trans e2).trans e3)
      cases a <;> cases b <;> exact q
theorem Sw_app (cs : Wd) (c : Nat) : Sw cs ++ (⟨#[c]⟩ : Str) = Sw (cs ++ [c]) := by
  show Str.mk (cs.toArray ++ #[c]) = Str.mk (cs ++ [c]).toArray
  simp
theorem Sw_app2 (cs ds : Wd) : Sw cs ++ Sw ds = Sw (cs ++ ds) := by
  show Str.mk (cs.toArray ++ ds.toArray) = Str.mk (cs ++ ds).toArray
  simp
theorem ev_cat {K : PySem.W.Frag} {σ : L2.St} {H : Hp} {ta tb : TE} {r : R2} {cs ds : Wd} (hr : r = fun x y H Q => ∃ i j, x = .str i ∧ y = .str j ∧ i.length + j.length ≤ sizeLine ∧ Q (.str (i ++ j)) H) (ha : Ev ta σ H (Wv cs)) (hb : Ev tb σ H (Wv ds)) (hz : cs.length + ds.length ≤ 1000) : Ev (tOp r ta tb) σ H (Wv (cs ++ ds)) := by
  subst hr
  refine ev_op ha hb fun H1 _ Q q => ⟨_, _, rfl, rfl, sz_of (by rw [Sw_len, Sw_len]; omega), ?_⟩
  rw [Sw_app2]
  exact q H1 (Ex.refl H1)
/-- the letters that a line of steps gives -/
def spWord (K : PySem.W.Frag) : Sp := fun vs H Q _ => ∃ (c : Nat) (q : Addr) (ds : List V), vs = [Wv [c], .ref q] ∧ (c = 97 ∨ c = 98 ∨ c = 99) ∧ SqL K H q ds ∧ (∀ d ∈ ds, d = .int 1 ∨ d = .int (-1)) ∧ 1 ≤ ds.length ∧ ds.length ≤ 100 ∧
  ∀ cs H', IsW cs → cs.length = ds.length + 1 → Ex H H' → Q (Wv cs) H'
theorem cal_word (D : Df K mg "_law_word" s_law_word) (B : Bt mg) : Cal P w K mg base 1 "_law_word" (spWord K) := by
  refine D.cal s_law_word_sc (fun _ _ _ _ _ _ us hl => match us, hl with | [_, _], _ => rfl) (fun vs H Q E h => ?_) (fun f cdv A outer s H vs Q E hr h => ?_)
  · obtain ⟨c, q, ds, rfl, _⟩ := h
    rfl
  · obtain ⟨c, q, ds, rfl, hc, hq, hd, h1, h2, k⟩ := h
    refine ⟨_, (pss_cons (ps_par (i := 2) (j := 3) rfl s_law_word_sc.nd rfl rfl (by decide) rfl rfl (pa_cons (pe_bm PySem.F.plainAttrs_str PySem.F.slot_str_index PySem.F.type_str_index mt_sindex pe_str (pa_cons (pv 0) pa_nil)) (pa_cons (pv 0) pa_nil)) (by rfl))
    (pss_cons (ps_for PassesOwn.never rfl (pi_list (pv 1)) (pg_name (i := 4) s_law_word_sc.nd rfl (.inl rfl))
      (pss_cons (ps_set (i := 2) s_law_word_sc.nd rfl (.inl rfl) (pe_op op_mod (pe_op op_add (pv 2) (pv 4)) pe_int))
      (pss_one (ps_set (i := 3) s_law_word_sc.nd rfl (.inl rfl) (pe_op op_add_str (pv 3) (pe_ix ix_str pe_str (pv 2) (fun _ _ => rfl)))))))
    (pss_one (ps_ret (pv 3))))), ?_⟩
    obtain ⟨a0, ha0, hca⟩ : ∃ a0 : Nat, a0 < 3 ∧ c = 97 + a0 := by
      rcases hc with z | z | z
      · exact ⟨0, by decide, z⟩
      · exact ⟨1, by decide, z⟩
      · exact ⟨2, by decide, z⟩
    have occ : ∃ rest, Builtin.Str.occurrences "abc" (Sw [c]) 0 ("abc" : Str).length 1 = a0 :: rest := by
      subst hca
      match a0, ha0 with
      | 0, _ => exact ⟨[], by decide +kernel⟩
      | 1, _ => exact ⟨[], by decide +kernel⟩
      | 2, _ => exact ⟨[], by decide +kernel⟩
    obtain ⟨rest, occ⟩ := occ
    refine q_par (x := nV a0) (y := Wv [c]) (ea_cons (fun H1 _ Q q => ⟨rfl, Wv [c], rfl, ⟨"abc", Sw [c], a0, rest, rfl, rfl, occ, q H1 (Ex.refl H1)⟩⟩) (ea_cons (ev_var rfl) ea_nil)) fun H1 e1 => ?_
    refine q_forLn (K := K) (ev_var rfl) (ex_l e1 hq) (fun i σ' H' => Ex H H' ∧ ∃ (cs : Wd) (at' : Nat) (a4 : Option V), σ' = [some (Wv [c]), some (.ref q), some (nV at'), some (Wv cs), a4] ∧ cs.length = i + 1 ∧ at' < 3 ∧ lt cs i = 97 + at' ∧ (∀ c ∈ cs, c = 97 ∨ c = 98 ∨ c = 99) ∧ ∀ j, j + 1 < cs.length → lt cs j ≠ lt cs (j + 1))
      (fun H2 e2 => ⟨e1.trans e2, [c], a0, none, rfl, rfl, ha0, hca, fun x hx => List.mem_singleton.mp hx ▸ hc, fun j hj => absurd hj (by show ¬ j + 1 < 1; omega)⟩) (fun i σ' H' _ pv => ex_l pv.1 hq) (fun i x σ' H' hx pv => ?_) (fun σ' H' pv => ?_)
    · obtain ⟨ee, cs, at', a4, rfl, hl, h3, hla, habc, hadj⟩ := pv
      have hi : i < ds.length := (List.getElem?_eq_some_iff.mp hx).1
      have hdx := hd x (List.mem_of_getElem? hx)
      obtain ⟨b, hb3, hbne, hbv⟩ : ∃ b : Nat, b < 3 ∧ b ≠ at' ∧ ∃ d : Int, x = .int d ∧ ((at' : Int) + d) % 3 = (b : Int) := by
        rcases hdx with rfl | rfl
        · exact ⟨(at' + 1) % 3, by omega, by omega, 1, rfl, by omega⟩
        · exact ⟨(at' + 2) % 3, by omega, by omega, -1, rfl, by omega⟩
      obtain ⟨d, rfl, hbv⟩ := hbv
      refine q_asg (v := nV b) (ev_is (ev_op (ev_op (ev_var rfl) (ev_var rfl) rv_I0) ev_c (rv_mod (by decide))) (congrArg V.int hbv)) fun H2 e2 => ?_
      have sgn : atI ("abc" : Str).cps.toList ((b : Nat) : Int) = some (97 + b) := by
        match b, hb3 with
        | 0, _ => decide +kernel
        | 1, _ => decide +kernel
        | 2, _ => decide +kernel
      refine s_asg (v := Wv (cs ++ [97 + b])) (ev_cat (K := K) rfl (ev_var rfl) (ev_op ev_c (ev_var rfl) (rv_ixS (by decide) sgn)) (by rw [hl]; show i + 1 + 1 ≤ 1000; omega)) fun H3 e3 => ?_
      refine ⟨(ee.trans e2).trans e3, cs ++ [97 + b], b, _, rfl, by rw [List.length_append, hl]; rfl, hb3, ?_, fun y hy => ?_, fun j hj => ?_⟩
      · exact lt_of (by rw [List.getElem?_append_right (by omega), hl, Nat.sub_self]; rfl)
      · rcases List.mem_append.mp hy with z | z
        · exact habc y z
        · rw [List.mem_singleton.mp z]
          omega
      · rw [List.length_append, hl] at hj
        have hj : j + 1 < i + 1 + 1 := hj
        have lo : ∀ m, m < cs.length → lt (cs ++ [97 + b]) m = lt cs m := fun m hm => lt_of (by rw [List.getElem?_append_left hm]; exact get_lt hm)
        by_cases c1 : j + 1 < cs.length
        · rw [lo j (by omega), lo (j + 1) c1]
          exact hadj j c1
        · have c2 : j = i := by omega
          subst c2
          rw [lo j (by omega), hla, show lt (cs ++ [97 + b]) (j + 1) = 97 + b from lt_of (by rw [List.getElem?_append_right (by omega), hl, Nat.sub_self]; rfl)]
          omega
    · obtain ⟨ee, cs, at', a4, rfl, hl, h3, hla, habc, hadj⟩ := pv
      exact s_ret (ev_var rfl) fun H2 e2 => k cs H2 ⟨by omega, habc, hadj⟩ hl (ee.trans e2)
/-- any word -/
def spAny (K : PySem.W.Frag) : Sp := fun vs H Q _ => ∃ (p a : Addr) (m : Nat), vs = [.ref p, nV m] ∧ Row K H p a ∧ 2 ≤ m ∧ m ≤ 60 ∧ ∀ cs H', IsW cs → cs.length ≤ m → Xp p H H' → Row K H' p a → Q (Wv cs) H'
theorem cal_any (D : Df K mg "_law_any" s_law_any) (B : Bt mg) (C_law_taken : Cal P w K mg base 1 "_law_taken" (spTaken K)) (C_law_pick : Cal P w K mg base 2 "_law_pick" (spPick K)) (C_law_word : Cal P w K mg base 1 "_law_word" (spWord K)) : Cal P w K mg base 3 "_law_any" (spAny K) := by
  refine D.cal s_law_any_sc (fun _ _ _ _ _ _ us hl => match us, hl with | [_, _], _ => rfl) (fun vs H Q E h => ?_) (fun f cdv A outer s H vs Q E hr h => ?_)
  · obtain ⟨p, a, m, rfl, _⟩ := h
    rfl
  · obtain ⟨p, a, m, rfl, R, h0, h1, k⟩ := h
    refine ⟨_, (pss_cons (ps_set (i := 2) s_law_any_sc.nd rfl (.inl rfl) (pe_op op_add pe_int (pe_c C_law_taken hr (by decide) (by rfl) (pa_cons (pv 0) (pa_cons (pe_op op_sub (pv 1) pe_int) pa_nil)))))
    (pss_one (ps_ret (pe_c C_law_word hr (by decide) (by rfl) (pa_cons (pe_c C_law_pick hr (by decide) (by rfl) (pa_cons (pv 0) (pa_cons pe_str pa_nil))) (pa_cons (pe_lc (own := [("_law_turn", 3)]) (g := gName 3) rfl (by exact s_law_any_sc.nd) (pi_range1 (by rfl) B.range (pa_cons (pv 2) pa_nil)) (blkOk_by (own := [("_law_turn", 3)]) (N := s_law_any_N) (sc := defScope s_law_any) (by decide +kernel)) (fun _ _ _ _ _ => pg_name (i := 3) s_law_any_sc.nd rfl (.inl rfl)) (fun _ _ _ _ _ => pts_nil) (fun _ _ _ _ _ => (pe_c C_law_pick hr (by decide) (by rfl) (pa_cons (pv 0) (pa_cons (pe_lst (pa_cons pe_int (pa_cons (pe_un un_neg pe_int) pa_nil))) pa_nil))))) pa_nil)))))), ?_⟩
    refine x_asg (x_opC (go_taken (ea_cons (ev_var rfl) (ea_cons (ev_op (ev_var rfl) ev_c rv_I0) ea_nil)) R (by omega) (by omega) fun c H1 hc x1 R1 => ⟨1, (c : Int), rfl, rfl, ?_⟩))
    show tRet _ _ [some (.ref p), some (nV m), some (V.int (1 + (c : Int))), none] H1
    rw [show V.int (1 + (c : Int)) = nV (c + 1) from congrArg V.int (by omega)]
    refine x_ret (x_call2 (go_pick (ea_cons (ev_var rfl) (ea_cons ev_c ea_nil)) R1 (o := Wv [97, 98, 99]) (xs := [97, 98, 99].map fun c => V.str ⟨#[c]⟩) (fun _ _ => .inl ⟨_, rfl, rfl⟩) (by decide) (by decide) fun fst H2 hf x2 R2 => ?_))
    obtain ⟨l, hl, rfl⟩ := List.mem_map.mp hf
    have hl : l = 97 ∨ l = 98 ∨ l = 99 := by simpa using hl
    refine go_draws (K := K) (n := c + 1) (Pd := fun d => d = .int 1 ∨ d = .int (-1)) (ea_cons (ev_var rfl) ea_nil) (by omega) R2 (fun _ => rfl) (fun i H3 Q3 hi x3 R3 k3 => ?_) fun q ds H3 hq0 hq hds hdl hdp x3 R3 => ?_
    · refine go_pickL (ev_var rfl) (el_lst (ea_cons ev_c (ea_cons (ev_un ev_c ru_neg) ea_nil)) (by show 2 ≤ 100000; decide)) R3 (by show 0 < 2; decide) (by show 2 ≤ 1000; decide) fun x H4 hx x4 R4 => k3 x H4 ?_ x4 R4
      rcases List.mem_cons.mp hx with z | z
      · exact .inl z
      · exact .inr (List.mem_singleton.mp z)
    · exact ⟨l, q, ds, rfl, hl, sq_of hds, hdp, by omega, by omega, fun cs H4 W hcl e4 => k cs H4 W (by omega) (((x1.trans x2).trans x3).trans (Xp.of e4)) (R3.ex e4)⟩
end
end K54

set_option Elab.async false
set_option linter.all false
set_option maxRecDepth 100000
set_option maxHeartbeats 4000000
namespace K54
open PySem PySem.Spec PyProof.Rows L2 Evl
abbrev s_law_put : Stmt := topS 28
abbrev s_law_put_N : List Str := ["_law_word_here", "_law_place", "_law_third", "_law_sign"]
theorem s_law_put_sc : FnScope s_law_put_N ["_law_word_here", "_law_place"] (defScope s_law_put) := ⟨rfl, rfl, rfl, by decide +kernel, rfl, by decide +kernel, by decide +kernel⟩
abbrev s_law_grown : Stmt := topS 29
abbrev s_law_grown_N : List Str := ["_law_row", "_law_word_here", "_law_times", "_law_turn"]
theorem s_law_grown_sc : FnScope s_law_grown_N ["_law_row", "_law_word_here", "_law_times"] (defScope s_law_grown) := ⟨rfl, rfl, rfl, by decide +kernel, rfl, by decide +kernel, by decide +kernel⟩
abbrev s_law_coming : Stmt := topS 30
abbrev s_law_coming_N : List Str := ["_law_row", "_law_most"]
theorem s_law_coming_sc : FnScope s_law_coming_N ["_law_row", "_law_most"] (defScope s_law_coming) := ⟨rfl, rfl, rfl, by decide +kernel, rfl, by decide +kernel, by decide +kernel⟩
abbrev s_law_open : Stmt := topS 31
abbrev s_law_open_N : List Str := ["_law_word_here", "_law_at"]
theorem s_law_open_sc : FnScope s_law_open_N ["_law_word_here"] (defScope s_law_open) := ⟨rfl, rfl, rfl, by decide +kernel, rfl, by decide +kernel, by decide +kernel⟩
theorem cut_S {cs : Wd} {lo hi : Option Int} {i j : Nat} (h1 : HT.sIx cs.length 0 lo = i) (h2 : HT.sIx cs.length cs.length hi = j) : cutS (Sw cs) lo hi = Sw ((cs.drop i).take (j - i)) := by
  unfold cutS
  rw [Sw_len, h1, h2]
theorem third_one {a b : Nat} (ha : a = 97 ∨ a = 98 ∨ a = 99) (hb : b = 97 ∨ b = 98 ∨ b = 99) : (([97, 98, 99] : List Nat).filter fun c => !decide (c ∈ [a, b]))[0]? = some (third a b) := by
  rcases ha with rfl | rfl | rfl <;> rcases hb with rfl | rfl | rfl <;> decide
theorem filterMap_if {f : Nat → Bool} {g : Nat → Nat} : ∀ l : List Nat, (l.filterMap fun k => if f k = true then some (g k) else none) = (l.filter f).map g
  | [] => rfl
  | x :: r => by
    rw [List.filterMap_cons, List.filter_cons, filterMap_if r]
    cases h : f x <;> simp
theorem opens_given (cs : Wd) : nVs (opens cs) = given (cs.length - 2) (fun k => opensB cs (1 + k)) (fun k => nV (1 + k)) := by
  unfold opens given
  rw [filterMap_if]
  exact List.map_map
theorem isW2 {a b : Nat} (ha : a = 97 ∨ a = 98 ∨ a = 99) (hb : b = 97 ∨ b = 98 ∨ b = 99) (h : a ≠ b) : IsW [a, b] := by
  refine ⟨by simp, fun c hc => ?_, fun i hi => ?_⟩
  · rcases List.mem_cons.mp hc with z | z
    · exact z ▸ ha
    · exact List.mem_singleton.mp z ▸ hb
  · have hi : i + 1 < 2 := hi
    obtain rfl : i = 0 := by omega
    exact h
section
variable {K : PySem.W.Frag} {w : World} {σ : L2.St} {H H' : Hp} {ta tb tc td te tx ty tv tl : TE} {t u : TT} {x y z v : V} {D : Ends} {tu tw tz : TS} {Q : VK}
theorem ev_slS {tlo thi : TO} {cs : Wd} {lo hi : Option Int} {i j : Nat} (h : Ev ta σ H (Wv cs)) (hl : EvO tlo σ H lo) (hh : EvO thi σ H hi) (hz : cs.length ≤ 1000) (h1 : HT.sIx cs.length 0 lo = i) (h2 : HT.sIx cs.length cs.length hi = j) : Ev (tSl rSlS ta tlo thi) σ H (Wv ((cs.drop i).take (j - i))) := fun H1 e Q q =>
  h H1 e _ fun H2 e2 => hl H2 (e.trans e2) _ fun H3 e3 => hh H3 ((e.trans e2).trans e3) _ fun H4 e4 => ⟨Sw cs, rfl, sz_of (by rw [Sw_len]; omega), by
    rw [cut_S h1 h2]
    exact q H4 ((e2.trans e3).trans e4)⟩
/-- [c for c in text if ..] -/
theorem el_lcS {cs : Wd} {j : Nat} {vs : List Nat} (f : Nat → Bool) (h : Ev ta σ H (Wv cs)) (hz : cs.length ≤ 1000) (hw : ∀ x, wipe ((wipe σ vs).set j (some x)) vs = wipe σ vs)
    (ht : ∀ c H1, Ex H H1 → EvT t ((wipe σ vs).set j (some (.str ⟨#[c]⟩))) H1 (f c)) (hj : ∀ x, ((wipe σ vs).set j (some x))[j]? = some (some x)) :
    EvL (tLc (iStr ta) (gName j) t (tVar j) vs) σ H ((cs.filter f).map fun c => V.str ⟨#[c]⟩) := by
  have e0 : (cs.filter f).map (fun c => V.str ⟨#[c]⟩) = given (Sw cs).cps.size (fun i => f (cs.getD i 0)) (fun i => .str ⟨#[cs.getD i 0]⟩) := by
    have q := given_filter cs f (fun c => V.str ⟨#[c]⟩)
    rw [List.length_map] at q
    rw [show (Sw cs).cps.size = cs.length from Sw_len cs]
    exact q.symm
  rw [e0]
  refine fun H0 e Q q => h H0 e _ fun H1 e1 => ⟨Sw cs, rfl, fun Dl hD => ?_⟩
  refine lc_it walk_str (Cw H1 (fun i => f (cs.getD i 0)) (fun i => .str ⟨#[cs.getD i 0]⟩) Dl) ⟨hD, Ex.new hD, upd_same⟩ (fun _ _ _ _ => trivial) (fun m v H' H'' hm p hy => ?_) fun H' p => q Dl H' (fresh_back e1 p.1) (e1.trans p.2.1) p.2.2
  obtain ⟨rfl, c, hc, rfl⟩ := hy
  have hc' : cs[m]? = some c := by simpa using hc
  have ec : cs.getD m 0 = c := lt_of hc'
  have hml : m < cs.length := (List.getElem?_eq_some_iff.mp hc').1
  refine ⟨hw _, cw_turn p (by omega) ?_ fun _ => ?_⟩
  · show EvT t _ H1 (f (cs.getD m 0))
    rw [ec]
    exact ht c H1 (e.trans e1)
  · show Ev (tVar j) _ H1 (.str ⟨#[cs.getD m 0]⟩)
    rw [ec]
    exact ev_var (hj _)
/-- [.. for i in range(lo, n) if ..] -/
theorem el_lcR2 {ta : TA} {j : Nat} {vs : List Nat} {lo : Nat} {n : Int} (f : Nat → Bool) (v : Nat → V) (h : EvA ta σ H [.int (lo : Int), .int n]) (hn : lo ≤ 1000 ∧ -1000 ≤ n ∧ n ≤ 1000) (hw : ∀ x, wipe ((wipe σ vs).set j (some x)) vs = wipe σ vs)
    (ht : ∀ (i : Nat) H1, Ex H H1 → (lo : Int) + (i : Int) < n → EvT t ((wipe σ vs).set j (some (nV (lo + i)))) H1 (f i)) (he : ∀ (i : Nat) H1, Ex H H1 → (lo : Int) + (i : Int) < n → f i = true → Ev te ((wipe σ vs).set j (some (nV (lo + i)))) H1 (v i)) :
    EvL (tLc (iRng2 ta) (gName j) t te vs) σ H (given (n - lo).toNat f v) := fun H0 e Q q => h H0 e _ fun H1 e1 => ⟨(lo : Int), n, rfl, by omega, fun Dl hD =>
  lc_range (lo := (lo : Int)) (n := (n - lo).toNat) (Cw H1 f v Dl) ⟨hD, Ex.new hD, upd_same⟩ (fun i H' hi p => by
    have e0 : (lo : Int) + (i : Int) = ((lo + i : Nat) : Int) := by omega
    show wipe ((wipe σ vs).set j (some (.int ((lo : Int) + (i : Int))))) vs = wipe σ vs ∧ t ((wipe σ vs).set j (some (.int ((lo : Int) + (i : Int))))) H' fun b H3 => if b = true then te ((wipe σ vs).set j (some (.int ((lo : Int) + (i : Int))))) H3 fun y H4 => ∃ acc, H4 Dl = some (.lst acc) ∧ acc.length < sizeLine ∧ Cw H1 f v Dl (i + 1) (upd H4 Dl (.lst (acc ++ [y]))) else Cw H1 f v Dl (i + 1) H3
    rw [e0]
    exact ⟨hw _, cw_turn p (by omega) (ht i H1 (e.trans e1) (by omega)) (fun hf => he i H1 (e.trans e1) (by omega) hf)⟩) (fun H' p => q Dl H' (fresh_back e1 p.1) (e1.trans p.2.1) p.2.2)⟩
/-- xs[i], xs a new list -/
theorem ev_ixNew {xs : List V} {i : Nat} (h : EvL ta σ H xs) (hb : ∀ H1, Ex H H1 → Ev tb σ H1 (nV i)) (hv : xs[i]? = some v) : Ev (tOp (rIxL K) ta tb) σ H v := ev_opL1 h hb fun p H1 hp _ => rv_ixL (sq_of hp) (atI_nat hv)
end
section
variable {P : Program} {w : World} {K : PySem.W.Frag} {mg : Str → Option Value} {base : Heap}
def spPut : Sp := fun vs H Q _ => ∃ (cs : Wd) (p : Nat), vs = [Wv cs, nV p] ∧ IsW cs ∧ p + 1 < cs.length ∧ cs.length ≤ 60 ∧ RetV (Wv (put cs p)) H Q
theorem cal_put (D : Df K mg "_law_put" s_law_put) (B : Bt mg) : Cal P w K mg base 1 "_law_put" spPut := by
  refine D.cal s_law_put_sc (fun _ _ _ _ _ _ us hl => match us, hl with | [_, _], _ => rfl) (fun vs H Q E h => ?_) (fun f cdv A outer s H vs Q E hr h => ?_)
  · obtain ⟨cs, p, rfl, _⟩ := h
    rfl
  · obtain ⟨cs, p, rfl, W, hp, hz, k⟩ := h
    refine ⟨_, (pss_cons (ps_set (i := 2) s_law_put_sc.nd rfl (.inl rfl) (pe_ix ix_list (pe_lc (own := [("_law_sign", 3)]) (g := gName 3) rfl (by exact s_law_put_sc.nd) (pi_str pe_str) (blkOk_by (own := [("_law_sign", 3)]) (N := s_law_put_N) (sc := defScope s_law_put) (by decide +kernel)) (fun _ _ _ _ _ => pg_name (i := 3) s_law_put_sc.nd rfl (.inl rfl)) (fun _ _ _ _ _ => pts_one (pt_cmpR op_notIn_sign (pv 3) (pe_slice sl_str (pv 0) (po_some (pv 1)) (po_some (pe_op op_add (pv 1) pe_int))) (by rfl))) (fun _ _ _ _ _ => (pv 3))) pe_int (fun _ _ => rfl)))
    (pss_one (ps_ret (pe_op op_add_str (pe_op op_add_str (pe_slice sl_str (pv 0) po_none (po_some (pe_op op_add (pv 1) pe_int))) (pv 2)) (pe_slice sl_str (pv 0) (po_some (pe_op op_add (pv 1) pe_int)) po_none))))), ?_⟩
    have two : (cs.drop p).take (p + 2 - p) = [lt cs p, lt cs (p + 1)] := by
      refine List.ext_getElem? fun i => ?_
      rw [show p + 2 - p = 2 by omega, List.getElem?_take]
      match i with
      | 0 => rw [if_pos (by decide), List.getElem?_drop]; exact get_lt (by omega)
      | 1 => rw [if_pos (by decide), List.getElem?_drop]; exact get_lt (by omega)
      | i + 2 => rw [if_neg (by omega)]; rfl
    refine q_asg (v := .str ⟨#[third (lt cs p) (lt cs (p + 1))]⟩) (ev_ixNew (K := K) (i := 0) (el_lcS (cs := [97, 98, 99]) (fun c => !decide (c ∈ [lt cs p, lt cs (p + 1)])) ev_c (by decide) (fun _ => rfl) (fun c H1 e1 => et_test (ev_op (y := Wv [lt cs p, lt cs (p + 1)]) (ev_var rfl) ?_ (rv_niS (s := Sw [lt cs p, lt cs (p + 1)])))) (fun _ => rfl)) (fun _ _ => ev_c) ?_) fun H1 e1 => ?_
    · have q := ev_slS (σ := [some (Wv cs), some (nV p), none, some (.str ⟨#[c]⟩)]) (H := H1) (ta := tVar 0) (tlo := tPart (tVar 1)) (thi := tPart (tOp (rI0 fun i j => V.int (i + j)) (tVar 1) (tC (.int 2)))) (i := p) (j := p + 2) (ev_var rfl) (eo_some (ev_var rfl)) (eo_some (ev_int (ev_op (ev_var rfl) ev_c rv_I0) (show (p : Int) + 2 = ((p + 2 : Nat) : Int) by omega))) (by omega)
        (by rw [HT.sIx_nat]; omega) (by rw [HT.sIx_nat]; omega)
      rw [two] at q
      exact q
    · rw [List.getElem?_map, third_one (W.lt_abc (by omega)) (W.lt_abc hp)]
      rfl
    · refine s_ret (v := Wv (put cs p)) (ev_is (ev_cat (K := K) (cs := cs.take (p + 1) ++ [third (lt cs p) (lt cs (p + 1))]) (ds := cs.drop (p + 1)) rfl (ev_cat (K := K) (cs := cs.take (p + 1)) (ds := [third (lt cs p) (lt cs (p + 1))]) rfl ?_ (ev_var rfl) (by rw [List.length_take]; show _ + 1 ≤ 1000; omega)) ?_ (by rw [List.length_append, List.length_take, List.length_drop]; show _ + 1 + _ ≤ 1000; omega)) ?_) fun H2 e2 => k H2 (e1.trans e2)
      · refine ev_is (ev_slS (cs := cs) (i := 0) (j := p + 1) (ev_var rfl) eo_none (eo_some (ev_int (ev_op (ev_var rfl) ev_c rv_I0) (show (p : Int) + 1 = ((p + 1 : Nat) : Int) by omega))) (by omega) rfl (by rw [HT.sIx_nat]; omega)) ?_
        rw [List.drop_zero, Nat.sub_zero]
      · refine ev_is (ev_slS (cs := cs) (i := p + 1) (j := cs.length) (ev_var rfl) (eo_some (ev_int (ev_op (ev_var rfl) ev_c rv_I0) (show (p : Int) + 1 = ((p + 1 : Nat) : Int) by omega))) eo_none (by omega) (by rw [HT.sIx_nat]; omega) rfl) ?_
        rw [List.take_of_length_le (by rw [List.length_drop]; omega)]
      · show Wv (cs.take (p + 1) ++ [_] ++ cs.drop (p + 1)) = Wv (put cs p)
        rw [List.append_assoc]
        rfl
def spGrown (K : PySem.W.Frag) : Sp := fun vs H Q _ => ∃ (p a : Addr) (cs : Wd) (t : Nat), vs = [.ref p, Wv cs, nV t] ∧ Row K H p a ∧ IsW cs ∧ HTw cs ∧ cs.length + t ≤ 60 ∧ ∀ ds H', IsW ds → HTw ds → ds.length = cs.length + t → Xp p H H' → Row K H' p a → Q (Wv ds) H'
theorem cal_grown (D : Df K mg "_law_grown" s_law_grown) (B : Bt mg) (C_law_taken : Cal P w K mg base 1 "_law_taken" (spTaken K)) (C_law_put : Cal P w K mg base 1 "_law_put" spPut) : Cal P w K mg base 2 "_law_grown" (spGrown K) := by
  refine D.cal s_law_grown_sc (fun _ _ _ _ _ _ us hl => match us, hl with | [_, _, _], _ => rfl) (fun vs H Q E h => ?_) (fun f cdv A outer s H vs Q E hr h => ?_)
  · obtain ⟨p, a, cs, t, rfl, _⟩ := h
    rfl
  · obtain ⟨p, a, cs, t, rfl, R, W, hT, hz, k⟩ := h
    refine ⟨_, (pss_cons (ps_for PassesOwn.never rfl (pi_range1 (by rfl) B.range (pa_cons (pv 2) pa_nil)) (pg_name (i := 3) s_law_grown_sc.nd rfl (.inl rfl))
      (pss_one (ps_set (i := 1) s_law_grown_sc.nd rfl (.inl rfl) (pe_c C_law_put hr (by decide) (by rfl) (pa_cons (pv 1) (pa_cons (pe_c C_law_taken hr (by decide) (by rfl) (pa_cons (pv 0) (pa_cons (pe_op op_sub (pe_callB call_len_str (by rfl) B.len bt_len (pa_cons (pv 1) pa_nil)) pe_int) pa_nil))) pa_nil))))))
    (pss_one (ps_ret (pv 1)))), ?_⟩
    refine q_forR1 (n := (t : Int)) (ea_cons (ev_var rfl) ea_nil) (by omega) (fun i σ' H' => Xp p H H' ∧ Row K H' p a ∧ ∃ ds a3, σ' = [some (.ref p), some (Wv ds), some (nV t), a3] ∧ IsW ds ∧ HTw ds ∧ ds.length = cs.length + i)
      (fun H1 e1 => ⟨Xp.of e1, R.ex e1, cs, none, rfl, W, hT, rfl⟩) (fun i σ' H' hi pv => ?_) (fun σ' H' pv => ?_)
    · obtain ⟨x1, R1, ds, a3, rfl, W1, hT1, hl⟩ := pv
      have h2 := W1.two
      refine x_asg1 (x_call2 (x_var rfl (go_taken (ea_cons (ev_var rfl) (ea_cons (ev_op (ev_lenW (ev_var rfl) (by omega)) ev_c rv_I0) ea_nil)) R1 (by omega) (by omega) fun c H2 hc x2 R2 => ?_)))
      exact ⟨ds, c, rfl, W1, by omega, by omega, fun H3 e3 => ⟨(x1.trans x2).trans (Xp.of e3), R2.ex e3, put ds c, _, rfl, W1.put (by omega), hT1.put W1 (by omega), by rw [put_len (by omega)]; omega⟩⟩
    · obtain ⟨x1, R1, ds, a3, rfl, W1, hT1, hl⟩ := pv
      exact s_ret (ev_var rfl) fun H2 e2 => k ds H2 W1 hT1 (by rw [hl]; rfl) (x1.trans (Xp.of e2)) (R1.ex e2)
def spComing (K : PySem.W.Frag) : Sp := fun vs H Q _ => ∃ (p a : Addr) (m : Nat), vs = [.ref p, nV m] ∧ Row K H p a ∧ 2 ≤ m ∧ m ≤ 60 ∧ ∀ ds H', IsW ds → HTw ds → ds.length ≤ m → Xp p H H' → Row K H' p a → Q (Wv ds) H'
theorem cal_coming (D : Df K mg "_law_coming" s_law_coming) (B : Bt mg) (C_law_taken : Cal P w K mg base 1 "_law_taken" (spTaken K)) (C_law_pick : Cal P w K mg base 2 "_law_pick" (spPick K)) (C_law_grown : Cal P w K mg base 2 "_law_grown" (spGrown K)) : Cal P w K mg base 3 "_law_coming" (spComing K) := by
  refine D.cal s_law_coming_sc (fun _ _ _ _ _ _ us hl => match us, hl with | [_, _], _ => rfl) (fun vs H Q E h => ?_) (fun f cdv A outer s H vs Q E hr h => ?_)
  · obtain ⟨p, a, m, rfl, _⟩ := h
    rfl
  · obtain ⟨p, a, m, rfl, R, h2, hz, k⟩ := h
    refine ⟨_, (pss_one (ps_ret (pe_c C_law_grown hr (by decide) (by rfl) (pa_cons (pv 0) (pa_cons (pe_c C_law_pick hr (by decide) (by rfl) (pa_cons (pv 0) (pa_cons (pe_lst (pa_cons pe_str (pa_cons pe_str (pa_cons pe_str (pa_cons pe_str (pa_cons pe_str (pa_cons pe_str pa_nil))))))) pa_nil))) (pa_cons (pe_c C_law_taken hr (by decide) (by rfl) (pa_cons (pv 0) (pa_cons (pe_op op_sub (pv 1) pe_int) pa_nil))) pa_nil)))))), ?_⟩
    refine x_ret (x_call3 (x_var rfl (go_pickL (ev_var rfl) (el_lst (ea_cons ev_c (ea_cons ev_c (ea_cons ev_c (ea_cons ev_c (ea_cons ev_c (ea_cons ev_c ea_nil)))))) (by show 6 ≤ 100000; decide)) R (by show 0 < 6; decide) (by show 6 ≤ 1000; decide) fun x H1 hx x1 R1 => ?_)))
    have two : ∃ cs, x = Wv cs ∧ IsW cs ∧ cs.length = 2 := by
      have W : ∀ {a b : Nat}, (a = 97 ∨ a = 98 ∨ a = 99) → (b = 97 ∨ b = 98 ∨ b = 99) → a ≠ b → ∀ {s : Str}, s = Sw [a, b] → x = .str s → ∃ cs, x = Wv cs ∧ IsW cs ∧ cs.length = 2 := fun {a b} ha hb hab {s} hs hx => ⟨[a, b], by rw [hx, hs], isW2 ha hb hab, rfl⟩
      simp only [List.mem_cons, List.not_mem_nil, or_false] at hx
      rcases hx with z | z | z | z | z | z
      · exact W (a := 97) (b := 98) (by decide) (by decide) (by decide) (by decide +kernel) z
      · exact W (a := 98) (b := 97) (by decide) (by decide) (by decide) (by decide +kernel) z
      · exact W (a := 97) (b := 99) (by decide) (by decide) (by decide) (by decide +kernel) z
      · exact W (a := 99) (b := 97) (by decide) (by decide) (by decide) (by decide +kernel) z
      · exact W (a := 98) (b := 99) (by decide) (by decide) (by decide) (by decide +kernel) z
      · exact W (a := 99) (b := 98) (by decide) (by decide) (by decide) (by decide +kernel) z
    obtain ⟨cs, rfl, W, hl⟩ := two
    refine go_taken (ea_cons (ev_var rfl) (ea_cons (ev_op (ev_var rfl) ev_c rv_I0) ea_nil)) R1 (by omega) (by omega) fun c H2 hc x2 R2 => ?_
    exact ⟨p, a, cs, c, rfl, R2, W, HT_one (by omega), by omega, fun ds H3 W3 hT3 hl3 x3 R3 => k ds H3 W3 hT3 (by omega) ((x1.trans x2).trans x3) R3⟩
def spOpen : Sp := fun vs H Q _ => ∃ cs : Wd, vs = [Wv cs] ∧ 2 ≤ cs.length ∧ cs.length ≤ 60 ∧ RetL (nVs (opens cs)) H Q
theorem cal_open (D : Df K mg "_law_open" s_law_open) (B : Bt mg) : Cal P w K mg base 1 "_law_open" spOpen := by
  refine D.cal s_law_open_sc (fun _ _ _ _ _ _ us hl => match us, hl with | [_], _ => rfl) (fun vs H Q E h => ?_) (fun f cdv A outer s H vs Q E hr h => ?_)
  · obtain ⟨cs, rfl, _⟩ := h
    rfl
  · obtain ⟨cs, rfl, h2, hz, k⟩ := h
    refine ⟨_, (pss_one (ps_ret (pe_lc (own := [("_law_at", 1)]) (g := gName 1) rfl (by exact s_law_open_sc.nd) (pi_range2 (by rfl) B.range (pa_cons pe_int (pa_cons (pe_op op_sub (pe_callB call_len_str (by rfl) B.len bt_len (pa_cons (pv 0) pa_nil)) pe_int) pa_nil))) (blkOk_by (own := [("_law_at", 1)]) (N := s_law_open_N) (sc := defScope s_law_open) (by decide +kernel)) (fun _ _ _ _ _ => pg_name (i := 1) s_law_open_sc.nd rfl (.inl rfl)) (fun _ _ _ _ _ => pts_one (pt_cmpR op_ne (pe_ix ix_str (pv 0) (pe_op op_sub (pv 1) pe_int) (fun _ _ => rfl)) (pe_ix ix_str (pv 0) (pe_op op_add (pv 1) pe_int) (fun _ _ => rfl)) (nomark _))) (fun _ _ _ _ _ => (pv 1))))), ?_⟩
    rw [opens_given] at k
    have q := el_lcR2 (σ := start s_law_open_N [Wv cs]) (H := H) (lo := 1) (n := (cs.length : Int) - 1) (j := 1) (vs := [1]) (ta := tCons (tC (.int 1)) (tCons (tOp (rI0 fun i j => V.int (i - j)) (tCB rLenT (tCons (tVar 0) tNil)) (tC (.int 1))) tNil)) (t := tTest (tOp rNe (tOp rIxS (tVar 0) (tOp (rI0 fun i j => V.int (i - j)) (tVar 1) (tC (.int 1)))) (tOp rIxS (tVar 0) (tOp (rI0 fun i j => V.int (i + j)) (tVar 1) (tC (.int 1)))))) (te := tVar 1)
      (fun k => opensB cs (1 + k)) (fun k => nV (1 + k)) (ea_cons ev_c (ea_cons (ev_op (ev_lenW (ev_var rfl) (by omega)) ev_c rv_I0) ea_nil)) (by omega) (fun _ => rfl) (fun i H1 e1 hi => ?_) (fun i H1 e1 hi _ => ev_var rfl)
    · rw [show ((cs.length : Int) - 1 - ((1 : Nat) : Int)).toNat = cs.length - 2 by omega] at q
      exact s_retL q fun p H1 hp e1 h1 => k p H1 hp e1 h1
    · exact et_test (ev_op (ev_word (ev_var rfl) (ev_int (ev_op (ev_var rfl) ev_c rv_I0) (show ((1 + i : Nat) : Int) - 1 = ((1 + i - 1 : Nat) : Int) by omega)) (by omega) (by omega)) (ev_word (ev_var rfl) (ev_int (ev_op (ev_var rfl) ev_c rv_I0) (show ((1 + i : Nat) : Int) + 1 = ((1 + i + 1 : Nat) : Int) by omega)) (by omega) (by omega)) rv_neS)
end
end K54

set_option Elab.async false
set_option linter.all false
set_option maxRecDepth 100000
set_option maxHeartbeats 2000000
namespace K54
open PySem PySem.Spec PyProof.Rows L2 Evl
theorem paired_perm {α β : Type} {R : α → β → Prop} {ys us : List α} (p : ys.Perm us) : ∀ {F : List β}, Paired R us F → ∃ G, G.Perm F ∧ Paired R ys G := by
  induction p with
  | nil => exact fun {F} h => ⟨F, .refl _, h⟩
  | cons x _ ih =>
    intro F h
    cases h with
    | cons r t =>
      obtain ⟨G, g1, g2⟩ := ih t
      exact ⟨_ :: G, g1.cons _, .cons r g2⟩
  | swap x y l =>
    intro F h
    cases h with
    | cons r t =>
      cases t with
      | cons r2 t2 => exact ⟨_, .swap _ _ _, .cons r2 (.cons r t2)⟩
  | trans _ _ ih1 ih2 =>
    intro F h
    obtain ⟨G, g1, g2⟩ := ih2 h
    obtain ⟨G2, g3, g4⟩ := ih1 g2
    exact ⟨G2, g3.trans g1, g4⟩
abbrev c3l (c : C3) : List Nat := [c.1, c.2.1, c.2.2]
/-- the values are tuples of three whole numbers -/
abbrev LC (K : PySem.W.Frag) (H : Hp) : List V → List C3 → Prop := Paired fun v c => ∃ a, v = .ref a ∧ SqT K H a (nVs (c3l c))
section
variable {K : PySem.W.Frag} {H H' : Hp}
theorem LC.ex {vs : List V} {F : List C3} (h : LC K H vs F) (e : Ex H H') : LC K H' vs F := Paired.mapP h fun _ _ ⟨a, ea, q⟩ => ⟨a, ea, ex_t e q⟩
theorem LC.exT {vs : List V} {F : List C3} (h : LC K H vs F) (e : ExT H H') : LC K H' vs F := Paired.mapP h fun _ _ ⟨a, ea, q⟩ => ⟨a, ea, e.sq q⟩
theorem LC.xp {us : List V} {F : List C3} {p a : Addr} (h : LC K H us F) (R : Row K H p a) (x : Xp p H H') : LC K H' us F := Paired.mapP h fun _ _ ⟨a, ea, q⟩ => ⟨a, ea, x.sqt R.lst.choose_spec q⟩
theorem LC.len {vs : List V} {F : List C3} (h : LC K H vs F) : vs.length = F.length := Paired.length h
theorem LC.app : ∀ {vs us : List V} {F G : List C3}, LC K H vs F → LC K H us G → LC K H (vs ++ us) (F ++ G)
  | _, _, _, _, .nil, s => s
  | _, _, _, _, .cons r t, s => .cons r (LC.app t s)
theorem LC.at : ∀ {vs : List V} {F : List C3} {i : Nat} {v : V}, LC K H vs F → vs[i]? = some v → ∃ a c, v = .ref a ∧ F[i]? = some c ∧ SqT K H a (nVs (c3l c))
  | _, _, _, _, .nil, e => by simp at e
  | _, _, 0, _, .cons ⟨a, r, q⟩ _, e => by
    simp at e
    exact ⟨a, _, e.symm.trans r, rfl, q⟩
  | _, _, i + 1, _, .cons _ t, e => by
    obtain ⟨a, c, h1, h2, h3⟩ := LC.at (i := i) t (by simpa using e)
    exact ⟨a, c, h1, by simpa using h2, h3⟩
end
theorem lt_map {f : Nat → Nat} {xs : List Nat} {i : Nat} (h : i < xs.length) : lt (xs.map f) i = f (lt xs i) := lt_of (by rw [List.getElem?_map, get_lt h]; rfl)
theorem erase_cut (xs : List Nat) {i : Nat} (h : i < xs.length) : xs.take i ++ xs.drop (i + 1) = xs.eraseIdx i := (List.eraseIdx_eq_take_drop_succ xs i).symm
theorem cut_L {xs : List V} {lo hi : Option Int} {i j : Nat} (h1 : HT.sIx xs.length 0 lo = i) (h2 : HT.sIx xs.length xs.length hi = j) : cutV xs lo hi = (xs.drop i).take (j - i) := by
  unfold cutV
  rw [h1, h2]
section
variable {K : PySem.W.Frag} {w : World} {σ : L2.St} {H H' : Hp} {ta tb tc td te tx ty tv tl : TE} {t u : TT} {x y z v : V} {D : Ends} {tu tw tz : TS} {Q : VK}
/-- xs[:i] + xs[i + 1:] -/
theorem el_cut {ti : TE} {p : Addr} {xs : List Nat} {i : Nat} (h : Ev ta σ H (.ref p)) (hp : SqL K H p (nVs xs)) (hi : i < xs.length) (hv : Ev ti σ H (nV i)) (hz : xs.length ≤ 1000) :
    EvL (tOp rCat (tSl (rSlL K) ta tNoPart (tPart ti)) (tSl (rSlL K) ta (tPart (tOp (rI0 fun i j => V.int (i + j)) ti (tC (.int 1)))) tNoPart)) σ H (nVs (xs.eraseIdx i)) := fun H1 e Q q => by
  have e1 : cutV (nVs xs) none (some (i : Int)) = nVs (xs.take i) := by
    rw [cut_L (i := 0) (j := i) rfl (by rw [HT.sIx_nat, List.length_map]; omega), List.drop_zero, Nat.sub_zero]
    exact List.map_take.symm
  have e2 : cutV (nVs xs) (some ((i + 1 : Nat) : Int)) none = nVs (xs.drop (i + 1)) := by
    rw [cut_L (i := i + 1) (j := (nVs xs).length) (by rw [HT.sIx_nat, List.length_map]; omega) rfl, List.take_of_length_le (by rw [List.length_drop]; omega)]
    exact List.map_drop.symm
  refine (el_sl (K := K) h eo_none (eo_some hv) hp) H1 e _ fun a H2 ha e3 h2 => ?_
  refine (el_sl (K := K) h (eo_some (ev_int (ev_op hv ev_c rv_I0) (show (i : Int) + 1 = ((i + 1 : Nat) : Int) by omega))) eo_none hp) H2 (e.trans e3) _ fun b H3 hb e4 h3 => ?_
  refine ⟨a, b, _, _, rfl, rfl, e4 a _ h2, h3, sz_of ?_, fun r hr => ?_⟩
  · rw [e1, e2, List.length_map, List.length_map, List.length_take, List.length_drop]
    omega
  · rw [e1, e2]
    have q2 := q r (upd H3 r (.lst (nVs (xs.take i) ++ nVs (xs.drop (i + 1))))) (fresh_back (e3.trans e4) hr) ((e3.trans e4).trans (Ex.new hr))
    rw [upd_same] at q2
    refine q2 (congrArg some (congrArg HO.lst ?_))
    rw [← List.map_append, erase_cut xs hi]
theorem flat_one (ds : List Nat) : TL.joinL [] (ds.map fun c => [c]) = ds := by
  induction ds with
  | nil => rfl
  | cons d r ih =>
    cases r with
    | nil => rfl
    | cons d2 r2 =>
      show [d] ++ ([] ++ TL.joinL [] ((d2 :: r2).map fun c => [c])) = d :: d2 :: r2
      rw [ih]
      rfl
theorem join_one (ds : List Nat) : Txt.join "" (ds.map fun c => (⟨#[c]⟩ : Str)) = Sw ds := by
  refine TL.ext_tl ?_
  rw [TL.join_eq, TL.tl_join, List.map_map]
  exact flat_one ds
/-- ''.join(..) of a new list of letters -/
theorem ev_join {r : V → List V → Hp → VK → Prop} {ds : List Nat} (hr : r = fun x xs H Q => ∃ a p, ∃ ys : List Str, x = .str a ∧ xs = [.ref p] ∧ (SqL K H p (ys.map V.str) ∨ SqT K H p (ys.map V.str)) ∧ (ys.map (·.length)).sum + ys.length * a.length ≤ 16777216 ∧ Q (.str (Txt.join a ys)) H)
    (h : EvL te σ H (ds.map fun c => V.str ⟨#[c]⟩)) (hz : ds.length ≤ 1000) : Ev (tM1 r (tC (.str "")) te) σ H (Wv ds) := fun H1 e Q q => by
  subst hr
  refine ⟨⟨_, rfl⟩, h H1 e _ fun p H2 hp e2 h2 => ⟨"", p, ds.map fun c => (⟨#[c]⟩ : Str), rfl, rfl, .inl (sq_of ?_), ?_, ?_⟩⟩
  · rw [List.map_map]
    exact h2
  · have e0 : ("" : Str).length = 0 := by decide +kernel
    have e3 : ∀ l : List Nat, ((l.map fun c => (⟨#[c]⟩ : Str)).map (·.length)).sum = l.length := fun l => by
      induction l with
      | nil => rfl
      | cons d r ih =>
        rw [List.map_cons, List.map_cons, List.sum_cons, ih, List.length_cons]
        show 1 + r.length = r.length + 1
        omega
    rw [e0, e3]
    omega
  · rw [join_one]
    exact q H2 e2
end
end K54

set_option Elab.async false
set_option linter.all false
set_option maxRecDepth 100000
set_option maxHeartbeats 4000000
namespace K54
open PySem PySem.Spec PyProof.Rows L2 Evl
abbrev s_law_tree : Stmt := topS 32
abbrev s_law_tree_N : List Str := ["_law_row", "_law_word_here", "_law_left", "_law_found", "_law_some", "_law_at", "_law_there", "_law_place"]
theorem s_law_tree_sc : FnScope s_law_tree_N ["_law_row", "_law_word_here"] (defScope s_law_tree) := ⟨rfl, rfl, rfl, by decide +kernel, rfl, by decide +kernel, by decide +kernel⟩
def takesB (cs : Wd) (i : Nat) : Bool := decide (lt cs (i - 1) ≠ lt cs (i + 1)) && (decide ((cs.eraseIdx i).length = 2) || !decide (opens (cs.eraseIdx i) = []))
theorem takesB_iff {cs : Wd} {i : Nat} (h1 : 1 ≤ i) (h2 : i + 1 < cs.length) : takesB cs i = true ↔ Takes cs i := by
  unfold takesB
  rw [Bool.and_eq_true, Bool.or_eq_true, decide_eq_true_iff, decide_eq_true_iff, Bool.not_eq_true', decide_eq_false_iff_not]
  exact ⟨fun h => ⟨h1, h2, h.1, h.2⟩, fun t => ⟨t.ne, t.op⟩⟩
def tks (cs : Wd) (k : Nat) : List Nat := ((List.range k).map fun j => 1 + j).filter (takesB cs)
theorem tks_succ (cs : Wd) (k : Nat) : tks cs (k + 1) = tks cs k ++ (if takesB cs (1 + k) = true then [1 + k] else []) := by
  unfold tks
  rw [List.range_succ, List.map_append, List.filter_append, List.map_singleton]
  refine congrArg _ ?_
  rw [List.filter_cons, List.filter_nil]
theorem erase_map (f : Nat → Nat) (xs : List Nat) (i : Nat) : (xs.map f).eraseIdx i = (xs.eraseIdx i).map f := by
  rw [List.eraseIdx_eq_take_drop_succ, List.eraseIdx_eq_take_drop_succ, List.map_append, List.map_take, List.map_drop]
theorem mem_tks {cs : Wd} {k i : Nat} : i ∈ tks cs k ↔ (1 ≤ i ∧ i < 1 + k) ∧ takesB cs i = true := by
  unfold tks
  rw [List.mem_filter, List.mem_map]
  refine and_congr_left fun _ => ⟨?_, fun h => ⟨i - 1, List.mem_range.mpr (by omega), by omega⟩⟩
  rintro ⟨j, hj, rfl⟩
  have := List.mem_range.mp hj
  omega
theorem tks_len (cs : Wd) (k : Nat) : (tks cs k).length ≤ k := by
  have := List.length_filter_le (takesB cs) ((List.range k).map fun j => 1 + j)
  rw [List.length_map, List.length_range] at this
  exact this
section
variable {K : PySem.W.Frag} {w : World} {σ : L2.St} {H H' : Hp} {ta tb tc td te tx ty tv tl : TE} {t u : TT} {x y z v : V} {D : Ends} {tu tw tz : TS} {Q : VK}
theorem el_nNL {sm : List Nat} {j : Nat} {vs : List Nat} (g : Nat → V) (h : EvL tl σ H (nVs sm)) (hz : sm.length ≤ 1000) (hw : ∀ x, wipe ((wipe σ vs).set j (some x)) vs = wipe σ vs)
    (he : ∀ p H1, Ex H H1 → p ∈ sm → Ev te ((wipe σ vs).set j (some (nV p))) H1 (g p)) : EvL (tLc (iList K tl) (gName j) tYes te vs) σ H (sm.map g) := by
  have e := given_filter sm (fun _ => true) g
  rw [filter_all] at e
  rw [← e]
  refine el_lcNL _ _ h (by rw [List.length_map]; omega) hw (fun _ _ _ _ _ => et_yes) fun i x H1 e hi hf => ?_
  obtain ⟨_, rfl, hm⟩ := nV_at hi
  exact he _ H1 e hm
theorem el_c1 {sp : Sp} {ta : TA} {vs xs : List V} (h : EvA ta σ H vs) (hs : ∀ H1, Ex H H1 → ∀ Q : VK, RetL xs H1 Q → ∀ E : XK, sp vs H1 Q E) : EvL (tCall sp [] E0 ta) σ H xs := fun H1 e Q q =>
  h H1 e _ fun H2 e2 => by
    rw [List.append_nil]
    exact hs H2 (e.trans e2) Q (fun p H3 hp e3 h3 => q p H3 (fresh_back e2 hp) (e2.trans e3) h3) E0
/-- a new list of whole numbers != [] -/
theorem ev_neNilN {xs : List Nat} (h : EvL tx σ H (nVs xs)) : Ev (tOp (rNeD K) tx (tLst tNil)) σ H (.bl (!decide (xs = []))) := by
  have q := ev_opLL (r := rNeD K) (z := .bl (!decide (xs = []))) h (el_lst ea_nil (Nat.zero_le _)) fun p q H1 hp hq e => by
    have z := rv_neD (K := K) (x := .ref p) (y := .ref q) (H := H1) (d := .list (xs.map nD)) (e := .list []) (fun H2 e2 => .lst (sq_of (e2 p _ hp)) (dp_N xs)) (fun H2 e2 => .lst (sq_of (e2 q _ hq)) .nil) (sh_N xs) (by decide +kernel)
    rw [eqv_nil, show (xs.map nD).isEmpty = decide (xs = []) by cases xs <;> rfl] at z
    exact z
  exact q
theorem ev_at {p : Addr} {xs : List Nat} {i : Nat} {j : Int} (h : Ev ta σ H (.ref p)) (hb : Ev tb σ H (.int j)) (hp : SqL K H p (nVs xs)) (hi : i < xs.length) (e : j = (i : Int)) : Ev (tOp (rIxL K) ta tb) σ H (nV (lt xs i)) := by
  subst e
  exact ev_op h hb (rv_ixL hp (atI_nat (by rw [List.getElem?_map, get_lt hi]; rfl)))
end
section
variable {P : Program} {w : World} {K : PySem.W.Frag} {mg : Str → Option Value} {base : Heap}
def spTree (K : PySem.W.Frag) : Sp := fun vs H Q _ => ∃ (p a : Addr) (ws : Wd), vs = [.ref p, Wv ws] ∧ Row K H p a ∧ Good ws ∧ ws.length ≤ 60 ∧
  ∀ q H' us F, Tr ws.length F → F.length ≤ 60 → H' q = some (.tup us) → LC K H' us F → Xp p H H' → Row K H' p a → Q (.ref q) H'
theorem cal_tree (D : Df K mg "_law_tree" s_law_tree) (B : Bt mg) (C_law_pick : Cal P w K mg base 2 "_law_pick" (spPick K)) (C_law_open : Cal P w K mg base 1 "_law_open" spOpen) : Cal P w K mg base 3 "_law_tree" (spTree K) := by
  refine D.cal s_law_tree_sc (fun _ _ _ _ _ _ us hl => match us, hl with | [_, _], _ => rfl) (fun vs H Q E h => ?_) (fun f cdv A outer s H vs Q E hr h => ?_)
  · obtain ⟨p, a, ws, rfl, _⟩ := h
    rfl
  · obtain ⟨p, a, ws, rfl, R, G, hz, k⟩ := h
    have h2 := G.w.two
    refine ⟨_, (pss_cons (ps_par (i := 2) (j := 3) rfl s_law_tree_sc.nd rfl rfl (by decide) rfl rfl (pa_cons (pe_listRg rfl (by rfl) B.list (prg_1 (by rfl) B.range (pe_callB call_len_str (by rfl) B.len bt_len (pa_cons (pv 1) pa_nil)))) (pa_cons (pe_lst pa_nil) pa_nil)) (by rfl))
    (pss_cons (ps_while PassesOwn.never (pt_cmpR op_gt (pe_callB call_len_seq (by rfl) B.len bt_len (pa_cons (pv 2) pa_nil)) pe_int (nomark _))
      (pss_cons (ps_set (i := 4) s_law_tree_sc.nd rfl (.inl rfl) (pe_lst pa_nil))
      (pss_cons (ps_for PassesOwn.never rfl (pi_range2 (by rfl) B.range (pa_cons pe_int (pa_cons (pe_op op_sub (pe_callB call_len_seq (by rfl) B.len bt_len (pa_cons (pv 2) pa_nil)) pe_int) pa_nil))) (pg_name (i := 5) s_law_tree_sc.nd rfl (.inl rfl))
        (pss_cons (ps_set (i := 6) s_law_tree_sc.nd rfl (.inl rfl) (pe_join pe_str (pe_lc (own := [("_law_place", 7)]) (g := gName 7) rfl (by exact s_law_tree_sc.nd) (pi_list (pe_op op_cat (pe_slice sl_list (pv 2) po_none (po_some (pv 5))) (pe_slice sl_list (pv 2) (po_some (pe_op op_add (pv 5) pe_int)) po_none))) (blkOk_by (own := [("_law_place", 7)]) (N := s_law_tree_N) (sc := defScope s_law_tree) (by decide +kernel)) (fun _ _ _ _ _ => pg_name (i := 7) s_law_tree_sc.nd rfl (.inl rfl)) (fun _ _ _ _ _ => pts_nil) (fun _ _ _ _ _ => (pe_ix ix_str (pv 1) (pv 7) (fun _ _ => rfl))))))
        (pss_one (ps_if (pw_and (pt_cmpR op_ne (pe_ix ix_str (pv 1) (pe_ix ix_list (pv 2) (pe_op op_sub (pv 5) pe_int) (fun _ _ => rfl)) (fun _ _ => rfl)) (pe_ix ix_str (pv 1) (pe_ix ix_list (pv 2) (pe_op op_add (pv 5) pe_int) (fun _ _ => rfl)) (fun _ _ => rfl)) (nomark _)) (pw_and1 (pw_or (pt_cmpR op_eq (pe_callB call_len_str (by rfl) B.len bt_len (pa_cons (pv 6) pa_nil)) pe_int (nomark _)) (pw_or1 (pt_cmpR (op_neD hr.units) (pe_c C_law_open hr (by decide) (by rfl) (pa_cons (pv 6) pa_nil)) (pe_lst pa_nil) (nomark _)))).pt)).pt
          (pss_one (ps_expr (pe_bm PySem.F.plainAttrs_list PySem.F.slot_list_append PySem.F.type_list_append mt_append (pv 4) (pa_cons (pv 5) pa_nil))))
          pss_nil))))
      (pss_cons (ps_set (i := 5) s_law_tree_sc.nd rfl (.inl rfl) (pe_c C_law_pick hr (by decide) (by rfl) (pa_cons (pv 0) (pa_cons (pv 4) pa_nil))))
      (pss_cons (ps_expr (pe_bm PySem.F.plainAttrs_list PySem.F.slot_list_append PySem.F.type_list_append mt_append (pv 3) (pa_cons (pe_tup (pa_cons (pe_ix ix_list (pv 2) (pe_op op_sub (pv 5) pe_int) (fun _ _ => rfl)) (pa_cons (pe_ix ix_list (pv 2) (pv 5) (fun _ _ => rfl)) (pa_cons (pe_ix ix_list (pv 2) (pe_op op_add (pv 5) pe_int) (fun _ _ => rfl)) pa_nil)))) pa_nil)))
      (pss_one (ps_set (i := 2) s_law_tree_sc.nd rfl (.inl rfl) (pe_op op_cat (pe_slice sl_list (pv 2) po_none (po_some (pv 5))) (pe_slice sl_list (pv 2) (po_some (pe_op op_add (pv 5) pe_int)) po_none)))))))))
    (pss_one (ps_ret (pe_tupleOf (by rfl) B.tuple (pe_callB (cr_sortT (d := 3) (B := 64) (by decide)) (by rfl) B.sorted bt_sorted (pa_cons (pv 3) pa_nil))))))), ?_⟩
    obtain ⟨zs, hzs⟩ := R.lst
    refine q_parLL (el_range (n := ws.length) (ev_lenW (ev_var rfl) (by omega)) (by omega)) (el_lst ea_nil (Nat.zero_le _)) fun lp fp H1 lp0 fp0 lf e1 hlp hfp => ?_
    have fpp : fp ≠ p := (ne_of_none hzs fp0).symm
    have lpp : lp ≠ p := (ne_of_none hzs lp0).symm
    refine q_while (fun m σ' H' => ∃ (left : List Nat) (F : List C3) (us : List V) (lp : Addr) (a4 a5 a6 a7 : Option V), left.length = m ∧ σ' = [some (.ref p), some (Wv ws), some (.ref lp), some (.ref fp), a4, a5, a6, a7] ∧ Xp p H H' ∧ Row K H' p a ∧ TI ws.length left F ∧ Good (left.map (lt ws)) ∧ F.length + left.length = ws.length ∧
        lp ≠ p ∧ lp ≠ fp ∧ H' lp = some (.lst (nVs left)) ∧ H' fp = some (.lst us) ∧ LC K H' us F) ws.length
      ⟨List.range ws.length, [], [], lp, _, _, _, _, List.length_range, rfl, Xp.of e1, R.ex e1, TI.start h2, ?_, by rw [List.length_range]; exact Nat.zero_add _, lpp, lf, hlp, hfp, .nil⟩ (fun m σ' H' pv => ?_)
    · have e : (List.range ws.length).map (lt ws) = ws := self_map ws
      rw [e]
      exact G
    · obtain ⟨left, F, us, lp, a4, a5, a6, a7, rfl, rfl, x', R', I, G', hFl, lpp, lf, hlp, hfp, hlc⟩ := pv
      refine ⟨decide (left.length > 2), et_is (et_test (ev_op (ev_len (K := K) (ev_var rfl) (sq_of hlp)) ev_c rv_I0)) (by rw [List.length_map]; exact decide_eq_decide.mpr (by omega)), fun hb H2 e2 => ?_, fun hb H2 e2 => ?_⟩
      · have hb := of_decide_eq_true hb
        refine ⟨fun σ2 H2 => ∃ m', m' < left.length ∧ ∃ (left : List Nat) (F : List C3) (us : List V) (lp : Addr) (a4 a5 a6 a7 : Option V), left.length = m' ∧ σ2 = [some (.ref p), some (Wv ws), some (.ref lp), some (.ref fp), a4, a5, a6, a7] ∧ Xp p H H2 ∧ Row K H2 p a ∧ TI ws.length left F ∧ Good (left.map (lt ws)) ∧ F.length + left.length = ws.length ∧
          lp ≠ p ∧ lp ≠ fp ∧ H2 lp = some (.lst (nVs left)) ∧ H2 fp = some (.lst us) ∧ LC K H2 us F, fun _ _ z => z, ?_⟩
        have hll : left.length ≤ 60 := by omega
        have lts : ∀ i, i < left.length → lt left i < ws.length := fun i hi => by
          have := I.inv.le _ (lt_mem hi)
          omega
        generalize hcs : left.map (lt ws) = cs at G'
        have hcl : cs.length = left.length := by rw [← hcs, List.length_map]
        have hcv : ∀ i, i < left.length → lt cs i = lt ws (lt left i) := fun i hi => by rw [← hcs, lt_map hi]
        -- some = []
        refine q_asgL (el_lst ea_nil (Nat.zero_le _)) fun sp H3 hsp e3 h3 => ?_
        have hzsp : ∃ zs, H2 p = some (.lst zs) := (R'.ex e2).lst
        obtain ⟨zs2, hzs2⟩ := hzsp
        have spp : sp ≠ p := (ne_of_none hzs2 hsp).symm
        -- the places that may be taken
        refine q_forR2 (lo := 1) (n := (left.length : Int) - 1) (ea_cons ev_c (ea_cons (ev_is (ev_op (ev_len (K := K) (ev_var rfl) (sq_of (e3 lp _ (e2 lp _ hlp)))) ev_c rv_I0) (by rw [List.length_map])) ea_nil)) (by omega)
          (fun i σ' H4 => Ex H2 H4 ∧ H4 sp = some (.lst (nVs (tks cs i))) ∧ ∃ a5 a6 a7, σ' = [some (.ref p), some (Wv ws), some (.ref lp), some (.ref fp), some (.ref sp), a5, a6, a7])
          (fun H4 e4 => ⟨e3.trans e4, e4 sp _ h3, _, _, _, rfl⟩) (fun i σ' H4 hi pv => ?_) (fun σ' H4 pv => ?_)
        · obtain ⟨e4, h4, a5, a6, a7, rfl⟩ := pv
          have em : (1 : Int) + (i : Int) = ((1 + i : Nat) : Int) := by omega
          rw [em]
          have hi1 : 1 + i + 1 < left.length := by omega
          have hlp4 : H4 lp = some (.lst (nVs left)) := e4 lp _ (e2 lp _ hlp)
          -- there
          refine q_asg (v := Wv (cs.eraseIdx (1 + i))) (ev_is (ev_join (ds := (left.eraseIdx (1 + i)).map (lt ws)) rfl ?_ (by rw [List.length_map, List.length_eraseIdx_of_lt (by omega)]; omega)) (by rw [← hcs, erase_map])) fun H5 e5 => ?_
          · rw [List.map_map]
            refine el_nNL (K := K) (sm := left.eraseIdx (1 + i)) ((fun c => V.str ⟨#[c]⟩) ∘ lt ws) (el_cut (ev_var rfl) (sq_of hlp4) (by omega) (ev_var rfl) (by omega)) (by rw [List.length_eraseIdx_of_lt (by omega)]; omega) (fun _ => rfl) fun q H6 e6 hq => ?_
            have hq' := I.inv.le q (List.mem_of_mem_eraseIdx hq)
            exact ev_word (ev_var rfl) (ev_var rfl) (by omega) (by omega)
          have hlp5 := e5 lp _ hlp4
          have cel : (cs.eraseIdx (1 + i)).length = left.length - 1 := by rw [List.length_eraseIdx_of_lt (by omega), hcl]
          refine s_when (b := takesB cs (1 + i)) ?_ (fun hb H6 e6 => ?_) (fun hb H6 e6 => ?_)
          · unfold takesB
            refine et_and (et_test ?_) fun _ => et_or (b := !decide (opens (cs.eraseIdx (1 + i)) = [])) (et_is (et_test (ev_op (ev_lenW (ta := tVar 6) (ev_var rfl) (by omega)) (tb := tC (.int 2)) ev_c rv_eqI)) (decide_eq_decide.mpr (by omega))) fun _ => et_test (ev_neNilN (K := K) (el_c1 (ta := tCons (tVar 6) tNil) (ea_cons (ev_var rfl) ea_nil) fun H6 e6 Q k E => ⟨_, rfl, by omega, by omega, k⟩))
            rw [hcv _ (by omega), hcv _ (by omega)]
            exact ev_op (ev_word (ta := tVar 1) (ev_var rfl) (ev_at (K := K) (ta := tVar 2) (tb := tOp (rI0 fun i j => V.int (i - j)) (tVar 5) (tC (.int 1))) (i := 1 + i - 1) (ev_var rfl) (ev_op (ev_var rfl) ev_c rv_I0) (sq_of hlp5) (by omega) (by omega)) (by omega) (lts _ (by omega))) (ev_word (ta := tVar 1) (ev_var rfl) (ev_at (K := K) (ta := tVar 2) (tb := tOp (rI0 fun i j => V.int (i + j)) (tVar 5) (tC (.int 1))) (i := 1 + i + 1) (ev_var rfl) (ev_op (ev_var rfl) ev_c rv_I0) (sq_of hlp5) (by omega) (by omega)) (by omega) (lts _ (by omega))) rv_neS
          · have tl := tks_len cs i
            refine s_app (K := K) (v := nV (1 + i)) ((e5.trans e6) sp _ h4) (ev_var rfl) (ev_var rfl) (by rw [List.length_map]; omega) fun H7 e7 => ?_
            refine ⟨Ex.mut (((e4.trans e5).trans e6).trans e7) hsp, ?_, _, _, _, rfl⟩
            rw [upd_same, tks_succ, if_pos hb]
            exact congrArg some (congrArg HO.lst (List.map_append (f := nV) (l₁ := tks cs i) (l₂ := [1 + i])).symm)
          · refine ⟨(e4.trans e5).trans e6, ?_, _, _, _, rfl⟩
            rw [tks_succ, if_neg (by rw [hb]; decide), List.append_nil]
            exact (e5.trans e6) sp _ h4
        · obtain ⟨e4, h4, a5, a6, a7, rfl⟩ := pv
          rw [show ((left.length : Int) - 1 - 1).toNat = left.length - 2 by omega] at h4
          have R4 := (R'.ex e2).ex e4
          have tl := tks_len cs (left.length - 2)
          have t0 : 0 < (tks cs (left.length - 2)).length := by
            obtain ⟨i, ti⟩ := G'.some_take (by omega)
            have a1 := ti.lo
            have a2 := ti.hi
            exact List.length_pos_of_mem (mem_tks.mpr ⟨⟨a1, by omega⟩, (takesB_iff a1 a2).mpr ti⟩)
          refine x_asg (go_pick (o := .ref sp) (xs := nVs (tks cs (left.length - 2))) (ea_cons (ev_var rfl) (ea_cons (ev_var rfl) ea_nil)) R4 (fun H5 e5 => .inr ⟨sp, rfl, spp, sq_of (e5 sp _ h4)⟩) (by rw [List.length_map]; exact t0) (by rw [List.length_map]; omega) fun x H5 hx x5 R5 => ?_)
          obtain ⟨i, hi, rfl⟩ := List.mem_map.mp hx
          obtain ⟨⟨i1, i2⟩, hti⟩ := mem_tks.mp hi
          have ti := (takesB_iff i1 (by omega)).mp hti
          have hlp5 : H5 lp = some (.lst (nVs left)) := x5 lp _ lpp (e4 lp _ (e2 lp _ hlp))
          have hfp5 : H5 fp = some (.lst us) := x5 fp _ fpp (e4 fp _ (e2 fp _ hfp))
          have hlc5 : LC K H5 us F := ((hlc.ex e2).ex e4).xp R4 x5
          have xH5 : Xp p H H5 := (x'.trans (Xp.of (e2.trans e4))).trans x5
          have lf' : fp ≠ lp := lf.symm
          -- found.append(..)
          refine q_appU (K := K) (xs := us) (ys := nVs (c3l (lt left (i - 1), lt left i, lt left (i + 1)))) hfp5 (ev_var rfl) (eu_tup (ea_cons (ev_at (K := K) (ev_var rfl) (ev_op (ev_var rfl) ev_c rv_I0) (sq_of hlp5) (by omega) (by omega)) (ea_cons (ev_at (K := K) (ev_var rfl) (ev_var rfl) (sq_of hlp5) (by omega) rfl) (ea_cons (ev_at (K := K) (ev_var rfl) (ev_op (ev_var rfl) ev_c rv_I0) (sq_of hlp5) (by omega) (by omega)) ea_nil))) (by show 3 ≤ 100000; decide)) (by have := hlc.len; omega) fun tp H6 htp e6 h6 => ?_
          have hfp6 : H6 fp = some (.lst us) := e6 fp _ hfp5
          have x7 : Xp p H (upd H6 fp (.lst (us ++ [.ref tp]))) := (xH5.trans (Xp.of e6)).mut fp0
          have R7 : Row K (upd H6 fp (.lst (us ++ [.ref tp]))) p a := R.mut fp0 (R5.ex e6)
          have hlp7 : upd H6 fp (.lst (us ++ [.ref tp])) lp = some (.lst (nVs left)) := by
            rw [upd_ne lf]
            exact e6 lp _ hlp5
          have hlc7 : LC K (upd H6 fp (.lst (us ++ [.ref tp]))) (us ++ [.ref tp]) (F ++ [(lt left (i - 1), lt left i, lt left (i + 1))]) := ((hlc5.ex e6).app (.cons ⟨tp, rfl, st_of h6⟩ .nil)).exT (ExT.lst hfp6)
          have hfp7 : upd H6 fp (.lst (us ++ [.ref tp])) fp = some (.lst (us ++ [.ref tp])) := upd_same
          generalize upd H6 fp (.lst (us ++ [.ref tp])) = H7 at x7 R7 hlp7 hlc7 hfp7 ⊢
          refine s_asgL (el_cut (K := K) (xs := left) (i := i) (ev_var rfl) (sq_of hlp7) (by omega) (ev_var rfl) (by omega)) fun lq H8 hlq e8 h8 => ?_
          obtain ⟨zs7, hzs7⟩ := R7.lst
          have ell : (left.eraseIdx i).length = left.length - 1 := List.length_eraseIdx_of_lt (by omega)
          refine ⟨left.length - 1, by omega, left.eraseIdx i, F ++ [(lt left (i - 1), lt left i, lt left (i + 1))], us ++ [.ref tp], lq, _, _, _, _, ell, rfl, x7.trans (Xp.of e8), R7.ex e8, I.step i1 (by omega), ?_, ?_, (ne_of_none hzs7 hlq).symm, (ne_of_none hfp7 hlq).symm, h8, e8 fp _ hfp7, hlc7.ex e8⟩
          · rw [← erase_map, hcs]
            exact G'.take ti
          · rw [ell, List.length_append]
            show F.length + 1 + _ = _
            omega
      · have hb := of_decide_eq_false hb
        have hFv : ∀ c ∈ F, ∀ m ∈ c3l c, m < 64 := fun c hc m hm => by
          obtain ⟨z1, z2, z3, _⟩ := I.cor c hc
          simp only [c3l, List.mem_cons, List.not_mem_nil, or_false] at hm
          rcases hm with rfl | rfl | rfl <;> omega
        have hlc2 := hlc.ex e2
        refine x_ret ⟨.ref fp, rfl, fp, us, rfl, sq_of (e2 fp _ hfp), by rw [hlc2.len]; omega, fun x hx => ?_, fun ys q hperm _ hq => .inl ⟨q, ys, rfl, sq_of upd_same, fun t ht => ?_⟩⟩
        · obtain ⟨i, hi, e⟩ := List.getElem_of_mem hx
          obtain ⟨b, c, rfl, hc, hb⟩ := hlc2.at (i := i) (v := x) (by rw [List.getElem?_eq_getElem hi, e])
          refine ⟨(c3l c).map Int.ofNat, ⟨b, rfl, by rw [← nVs_int]; exact hb⟩, rfl, fun m hm => ?_⟩
          obtain ⟨j, hj, rfl⟩ := List.mem_map.mp hm
          have := hFv c (List.mem_of_getElem? hc) j hj
          exact ⟨Int.natCast_nonneg j, by show (j : Int) < 64; omega⟩
        · obtain ⟨G2, g1, g2⟩ := paired_perm hperm hlc2
          have e4 : Ex H2 (upd (upd H2 q (.lst ys)) t (.tup ys)) := (Ex.new hq).trans (Ex.new ht)
          exact k t _ ys G2 ((I.tree (by omega)).perm g1) (by rw [g1.length_eq]; omega) upd_same (LC.ex g2 e4) ((x'.trans (Xp.of e2)).trans (Xp.of e4)) ((R'.ex e2).ex e4)
end
end K54

set_option Elab.async false
set_option linter.all false
set_option maxRecDepth 100000
set_option maxHeartbeats 4000000
namespace K54
open PySem PySem.Spec PyProof.Rows L2 Evl
abbrev s_law_depths : Stmt := topS 33
abbrev s_law_depths_N : List Str := ["_law_tree_here", "_law_low", "_law_high", "_law_depth", "_law_middle", "_law_corner"]
theorem s_law_depths_sc : FnScope s_law_depths_N ["_law_tree_here", "_law_low", "_law_high", "_law_depth"] (defScope s_law_depths) := ⟨rfl, rfl, rfl, by decide +kernel, rfl, by decide +kernel, by decide +kernel⟩
theorem self_mapG {α : Type} (sm : List α) (d : α) : (List.range sm.length).map (fun i => sm.getD i d) = sm := by
  refine List.ext_getElem? fun i => ?_
  rw [List.getElem?_map]
  by_cases h : i < sm.length
  · rw [List.getElem?_range h, List.getElem?_eq_getElem h]
    show some (sm.getD i d) = _
    rw [List.getD_eq_getElem?_getD, List.getElem?_eq_getElem h]
    rfl
  · rw [List.getElem?_eq_none (by simpa using h), List.getElem?_eq_none (by simpa using h)]
    rfl
theorem given_filterG {α : Type} (sm : List α) (d : α) (f : α → Bool) (g : α → V) : given sm.length (fun i => f (sm.getD i d)) (fun i => g (sm.getD i d)) = (sm.filter f).map g := by
  unfold given
  have e := self_mapG sm d
  conv => rhs; rw [← e]
  rw [List.filter_map, List.map_map]
  rfl
/-- what the depths are -/
def DepOk (F : List C3) (l h dep : Nat) (xs : List Nat) : Prop := xs.length = h - l ∧ (∀ x ∈ xs, x ≤ dep + Ht F l h) ∧ dep + Ht F l h ∈ xs
section
variable {K : PySem.W.Frag} {w : World} {σ : L2.St} {H H' : Hp} {ta tb tc td te tx ty tv tl : TE} {t u : TT} {x y z v : V} {D : Ends} {tu tw tz : TS} {Q : VK}
/-- (c[0], c[2]) == (l, h) -/
theorem et_hit {a : Addr} {c : C3} {l h : Nat} (hx : Ev tx σ H (.ref a)) (hq : SqT K H a (nVs (c3l c))) (hl : Ev ta σ H (nV l)) (hh : Ev tb σ H (nV h)) :
    EvT (tTest (tOp (rEqD K) (tTup (tCons (tOp (rIxT K) tx (tC (.int 0))) (tCons (tOp (rIxT K) tx (tC (.int 2))) tNil))) (tTup (tCons ta (tCons tb tNil))))) σ H (hit l h c) := by
  have q := ev_opUU (r := rEqD K) (z := .bl (hit l h c)) (eu_tup (ea_cons (ev_op hx (ev_c (v := .int 0)) (rv_ixT (K := K) (v := nV c.1) hq (atI_nat (j := 0) rfl))) (ea_cons (ev_op hx (ev_c (v := .int 2)) (rv_ixT (K := K) (v := nV c.2.2) hq (atI_nat (j := 2) rfl))) ea_nil)) (by show 2 ≤ 100000; decide)) (eu_tup (ea_cons hl (ea_cons hh ea_nil)) (by show 2 ≤ 100000; decide)) fun p q H1 hp hq e => by
    have z := rv_eqD (K := K) (x := .ref p) (y := .ref q) (H := H1) (d := .tuple ([c.1, c.2.2].map nD)) (e := .tuple ([l, h].map nD)) (fun H2 e2 => .tup (st_of (e2 p _ hp)) (dp_N [c.1, c.2.2])) (fun H2 e2 => .tup (st_of (e2 q _ hq)) (dp_N [l, h])) (sh_NT _) (sh_NT _)
    have e1 : PyData.eqv (.tuple ([c.1, c.2.2].map nD)) (.tuple ([l, h].map nD)) = hit l h c := by
      have e2 : PyData.eqv (.tuple ([c.1, c.2.2].map nD)) (.tuple ([l, h].map nD)) = PyData.eqvAll ([c.1, c.2.2].map nD) ([l, h].map nD) := by simp only [PyData.eqv]
      rw [e2, eqv_N]
      exact decide_eq_decide.mpr ⟨fun z => by injection z with z1 z2; injection z2 with z2 _; exact ⟨z1, z2⟩, fun z => by rw [z.1, z.2]⟩
    rw [e1] at z
    exact z
  exact et_test q
end
section
variable {P : Program} {w : World} {K : PySem.W.Frag} {mg : Str → Option Value} {base : Heap}
def spDepths (K : PySem.W.Frag) (d : Nat) : Sp := fun vs H Q _ => ∃ (q : Addr) (us : List V) (F : List C3) (n l h dep : Nat), vs = [.ref q, nV l, nV h, nV dep] ∧ SqT K H q us ∧ LC K H us F ∧ F.length ≤ 60 ∧ Tr n F ∧ Cov F l h ∧ l < h ∧ h - l ≤ d ∧ h ≤ 60 ∧
  ∀ r H' xs, H r = none → Ex H H' → H' r = some (.lst (nVs xs)) → DepOk F l h dep xs → Q (.ref r) H'
theorem cal_depths (D : Df K mg "_law_depths" s_law_depths) : ∀ d, Cal P w K mg base (d + 1) "_law_depths" (spDepths K d)
  | 0 => by
    refine D.cal s_law_depths_sc (fun _ _ _ _ _ _ us hl => match us, hl with | [_, _, _, _], _ => rfl) (fun vs H Q E h => ?_) (fun f cdv A outer s H vs Q E hr h => ?_)
    · obtain ⟨q, us, F, n, l, h, dep, rfl, _⟩ := h
      rfl
    · obtain ⟨q, us, F, n, l, h, dep, _, _, _, _, _, _, h1, h2, _⟩ := h
      omega
  | d + 1 => by
    have C_law_depths := cal_depths D d
    refine D.cal s_law_depths_sc (fun _ _ _ _ _ _ us hl => match us, hl with | [_, _, _, _], _ => rfl) (fun vs H Q E h => ?_) (fun f cdv A outer s H vs Q E hr h => ?_)
    · obtain ⟨q, us, F, n, l, h, dep, rfl, _⟩ := h
      rfl
    · obtain ⟨q, us, F, n, l, h, dep, rfl, hq, hlc, hF, tr, cov, h1, h2, h3, k⟩ := h
      refine ⟨_, (pss_cons (ps_if (pt_cmpR op_eq (pe_op op_sub (pv 2) (pv 1)) pe_int (nomark _))
      (pss_one (ps_ret (pe_lst (pa_cons (pv 3) pa_nil))))
      pss_nil)
    (pss_cons (ps_set (i := 4) s_law_depths_sc.nd rfl (.inl rfl) (pe_ix ix_list (pe_lc (own := [("_law_corner", 5)]) (g := gName 5) rfl (by exact s_law_depths_sc.nd) (pi_tup (pv 0)) (blkOk_by (own := [("_law_corner", 5)]) (N := s_law_depths_N) (sc := defScope s_law_depths) (by decide +kernel)) (fun _ _ _ _ _ => pg_name (i := 5) s_law_depths_sc.nd rfl (.inl rfl)) (fun _ _ _ _ _ => pts_one (pt_cmpR (op_eqD_K (K := K) rfl hr.units) (pe_tup (pa_cons (pe_ix (ix_tup_K (K := K) rfl) (pv 5) pe_int (fun _ _ => rfl)) (pa_cons (pe_ix (ix_tup_K (K := K) rfl) (pv 5) pe_int (fun _ _ => rfl)) pa_nil))) (pe_tup (pa_cons (pv 1) (pa_cons (pv 2) pa_nil))) (nomark _))) (fun _ _ _ _ _ => (pe_ix (ix_tup_K (K := K) rfl) (pv 5) pe_int (fun _ _ => rfl)))) pe_int (fun _ _ => rfl)))
    (pss_one (ps_ret (pe_op op_cat (pe_c C_law_depths hr (Nat.le_refl _) (by rfl) (pa_cons (pv 0) (pa_cons (pv 1) (pa_cons (pv 4) (pa_cons (pe_op op_add (pv 3) pe_int) pa_nil))))) (pe_c C_law_depths hr (Nat.le_refl _) (by rfl) (pa_cons (pv 0) (pa_cons (pv 4) (pa_cons (pv 2) (pa_cons (pe_op op_add (pv 3) pe_int) pa_nil)))))))))), ?_⟩
      refine q_when (b := decide (h = l + 1)) (et_is (et_test (ev_op (ev_op (ev_var rfl) (ev_var rfl) rv_I0) ev_c rv_eqI)) (decide_eq_decide.mpr (by omega))) (fun hb H1 e1 => ?_) fun hb H1 e1 => ?_
      · have hb := of_decide_eq_true hb
        have h0 : Ht F l h = 0 := Ht_one (by omega)
        refine s_retL (xs := nVs [dep]) (el_lst (ea_cons (ev_var rfl) ea_nil) (by show 1 ≤ 100000; decide)) fun r H2 hr e2 h2 => k r H2 [dep] (fresh_back e1 hr) (e1.trans e2) h2 ⟨by show 1 = _; omega, fun x hx => ?_, ?_⟩
        · rw [List.mem_singleton.mp hx]
          omega
        · rw [h0]
          exact List.mem_singleton.mpr rfl
      · have hb := of_decide_eq_false hb
        obtain ⟨m1, _, m3, m4, m5, m6, _⟩ := mid_ok tr (show l + 1 < h by omega) cov
        have hE := Ht_eq tr (show l + 1 < h by omega) cov
        have hq1 := ex_t e1 hq
        have hlc1 := hlc.ex e1
        -- middle
        have lc := el_lcT (K := K) (σ := [some (.ref q), some (nV l), some (nV h), some (nV dep), none, none]) (H := H1) (xs := us) (tl := tVar 0) (j := 5) (vs := [5]) (t := tTest (tOp (rEqD K) (tTup (tCons (tOp (rIxT K) (tVar 5) (tC (.int 0))) (tCons (tOp (rIxT K) (tVar 5) (tC (.int 2))) tNil))) (tTup (tCons (tVar 1) (tCons (tVar 2) tNil))))) (te := tOp (rIxT K) (tVar 5) (tC (.int 1)))
          (fun i => hit l h (F.getD i (0, 0, 0))) (fun i => nV (F.getD i (0, 0, 0)).2.1) (ev_var rfl) hq1 (by rw [hlc1.len]; omega) (fun _ => rfl)
          (fun i x H2 e2 hx => by
            obtain ⟨b, c, rfl, hc, hb⟩ := hlc1.at hx
            rw [show F.getD i (0, 0, 0) = c by rw [List.getD_eq_getElem?_getD, hc]; rfl]
            exact et_hit (ev_var rfl) (ex_t e2 hb) (ev_var rfl) (ev_var rfl))
          (fun i x H2 e2 hx _ => by
            obtain ⟨b, c, rfl, hc, hb⟩ := hlc1.at hx
            rw [show F.getD i (0, 0, 0) = c by rw [List.getD_eq_getElem?_getD, hc]; rfl]
            exact ev_op (ev_var rfl) ev_c (rv_ixT (K := K) (ex_t e2 hb) (atI_nat (j := 1) rfl)))
        rw [hlc1.len, given_filterG F (0, 0, 0) (hit l h) (fun c => nV c.2.1)] at lc
        have hv : ((F.filter (hit l h)).map fun c => nV c.2.1)[0]? = some (nV (mid F l h)) := by
          have e : ((F.filter (hit l h)).map fun c => nV c.2.1) = nVs (mids F l h) := by
            unfold mids
            show List.map (nV ∘ fun c : C3 => c.2.1) _ = List.map nV (List.map (fun c : C3 => c.2.1) _)
            rw [List.map_map]
          rw [e, m1]
          rfl
        refine q_asg (v := nV (mid F l h)) (ev_ixNew (K := K) (i := 0) lc (fun _ _ => ev_c) hv) fun H2 e2 => ?_
        generalize mid F l h = m at m3 m4 m5 m6 hE
        have hq2 := ex_t e2 hq1
        have hlc2 := hlc1.ex e2
        have go : ∀ {ta : TA} {σ : L2.St} {H3 : Hp} {l' h' : Nat} {Q : VK}, Ex H2 H3 → EvA ta σ H3 [.ref q, nV l', nV h', nV (dep + 1)] → Cov F l' h' → l' < h' → h' - l' ≤ d → h' ≤ 60 →
            (∀ r H' xs, H3 r = none → Ex H3 H' → H' r = some (.lst (nVs xs)) → DepOk F l' h' (dep + 1) xs → Q (.ref r) H') → tCall (spDepths K d) [] E0 ta σ H3 Q := fun {ta σ H3 l' h' Q} e ha c a b b2 kk =>
          ha H3 (Ex.refl H3) _ fun H4 e4 => ⟨q, us, F, n, l', h', dep + 1, rfl, ex_t (e.trans e4) hq2, hlc2.ex (e.trans e4), hF, tr, c, a, b, b2, fun r H5 xs hr e5 h5 hd => kk r H5 xs (fresh_back e4 hr) (e4.trans e5) h5 hd⟩
        refine x_ret (go (l' := l) (h' := m) (Ex.refl H2) (ea_cons (ev_var rfl) (ea_cons (ev_var rfl) (ea_cons (ev_var rfl) (ea_cons (ev_int (ev_op (ev_var rfl) ev_c rv_I0) (by omega)) ea_nil)))) m5 m3 (by omega) (by omega) fun r1 H3 xs hr1 e3 h3' d1 => ?_)
        refine go (l' := m) (h' := h) e3 (ea_cons (ev_var rfl) (ea_cons (ev_var rfl) (ea_cons (ev_var rfl) (ea_cons (ev_int (ev_op (ev_var rfl) ev_c rv_I0) (by omega)) ea_nil)))) m6 m4 (by omega) h3 fun r2 H4 ys hr2 e4 h4 d2 => ?_
        refine ⟨r1, r2, nVs xs, nVs ys, rfl, rfl, e4 r1 _ h3', h4, sz_of ?_, fun r hr => ?_⟩
        · rw [List.length_map, List.length_map, d1.1, d2.1]
          omega
        · have e5 : Ex H4 (upd H4 r (.lst (nVs xs ++ nVs ys))) := Ex.new hr
          refine k r _ (xs ++ ys) (fresh_back (((e1.trans e2).trans e3).trans e4) hr) ((((e1.trans e2).trans e3).trans e4).trans e5) ?_ ⟨?_, fun x hx => ?_, ?_⟩
          · rw [upd_same]
            exact congrArg some (congrArg HO.lst List.map_append.symm)
          · rw [List.length_append, d1.1, d2.1]
            omega
          · rw [hE]
            rcases List.mem_append.mp hx with z | z
            · have := d1.2.1 x z
              omega
            · have := d2.2.1 x z
              omega
          · rw [hE]
            by_cases c : Ht F l m ≤ Ht F m h
            · refine List.mem_append_right _ ?_
              have := d2.2.2
              rw [show dep + (1 + max (Ht F l m) (Ht F m h)) = dep + 1 + Ht F m h by omega]
              exact this
            · refine List.mem_append_left _ ?_
              have := d1.2.2
              rw [show dep + (1 + max (Ht F l m) (Ht F m h)) = dep + 1 + Ht F l m by omega]
              exact this
end
end K54

set_option Elab.async false
set_option linter.all false
set_option maxRecDepth 100000
set_option maxHeartbeats 4000000
namespace K54
open PySem PySem.Spec PyProof.Rows L2 Evl
abbrev s_law_rounds : Stmt := topS 34
abbrev s_law_rounds_N : List Str := ["_law_word_here", "_law_value", "_law_left", "_law_some", "_law_places", "_law_place", "_law_at"]
theorem s_law_rounds_sc : FnScope s_law_rounds_N ["_law_word_here", "_law_value"] (defScope s_law_rounds) := ⟨rfl, rfl, rfl, by decide +kernel, rfl, by decide +kernel, by decide +kernel⟩
theorem sub_nat {ns : List Int} {sm : List Nat} (hs : ns.Pairwise (· < ·)) (hm : ∀ k : Int, k ∈ ns ↔ k ∈ sm.map Int.ofNat) : ∃ ms : List Nat, ns = ms.map Int.ofNat ∧ ms.Pairwise (· < ·) ∧ ∀ x, x ∈ ms ↔ x ∈ sm := by
  have e : ns = (ns.map Int.toNat).map Int.ofNat := by
    rw [List.map_map]
    have q : ns.map id = ns.map (Int.ofNat ∘ Int.toNat) := List.map_congr_left fun x hx => by
      obtain ⟨y, _, rfl⟩ := List.mem_map.mp ((hm x).mp hx)
      rfl
    rw [← q, List.map_id]
  refine ⟨ns.map Int.toNat, e, ?_, fun x => ?_⟩
  · rw [List.pairwise_map]
    refine List.Pairwise.imp_of_mem (fun {a b} ha hb hab => ?_) hs
    obtain ⟨y, _, rfl⟩ := List.mem_map.mp ((hm a).mp ha)
    obtain ⟨z, _, rfl⟩ := List.mem_map.mp ((hm b).mp hb)
    have hab : (y : Int) < (z : Int) := hab
    show y < z
    omega
  · constructor
    · intro h
      obtain ⟨k, hk, rfl⟩ := List.mem_map.mp h
      obtain ⟨y, hy, rfl⟩ := List.mem_map.mp ((hm k).mp hk)
      exact hy
    · intro h
      exact List.mem_map.mpr ⟨(x : Int), (hm x).mpr (List.mem_map.mpr ⟨x, h, rfl⟩), rfl⟩
section
variable {K : PySem.W.Frag} {w : World} {σ : L2.St} {H H' : Hp} {ta tb tc td te tx ty tv tl : TE} {t u : TT} {x y z v : V} {D : Ends} {tu tw tz : TS} {Q : VK}
theorem ev_lenT {p : Addr} {xs : List V} (ha : Ev ta σ H (.ref p)) (h : SqT K H p xs) : Ev (tCB (rLenS K) (tCons ta tNil)) σ H (.int (xs.length : Int)) := fun H1 e Q q =>
  ha H1 e _ fun H2 e2 => ⟨p, xs, rfl, Or.inr (ex_t (e.trans e2) h), q H2 e2⟩
theorem eqv_L (ns ms : List Nat) : PyData.eqv (.list (ns.map nD)) (.list (ms.map nD)) = decide (ns = ms) := by
  have e2 : PyData.eqv (.list (ns.map nD)) (.list (ms.map nD)) = PyData.eqvAll (ns.map nD) (ms.map nD) := by simp only [PyData.eqv]
  rw [e2, eqv_N]
/-- list(t) != sorted(set(t)) -/
theorem ev_asc {p : Addr} {sm : List Nat} (ha : Ev ta σ H (.ref p)) (h : SqT K H p (nVs sm)) (hz : sm.length ≤ 60) :
    Ev (tOp (rNeD K) (tCB (rListS K) (tCons ta tNil)) (tCB (rSortedSet w) (tCons (tCB (rSetI K w) (tCons ta tNil)) tNil))) σ H (.bl (!ascB sm)) := fun H1 e Q q =>
  ha H1 e _ fun H2 e2 => ⟨p, nVs sm, rfl, .inr (ex_t (e.trans e2) h), fun l hl => by
    have e3 : Ex H2 (upd H2 l (.lst (nVs sm))) := Ex.new hl
    have hl3 : upd H2 l (.lst (nVs sm)) l = some (.lst (nVs sm)) := upd_same
    generalize upd H2 l (.lst (nVs sm)) = H3 at e3 hl3 ⊢
    refine ha H3 ((e.trans e2).trans e3) _ fun H4 e4 => ⟨p, sm.map Int.ofNat, rfl, by rw [← nVs_int]; exact ex_t (((e.trans e2).trans e3).trans e4) h, by rw [List.length_map]; omega, fun s c hc hs => ?_⟩
    rw [List.length_map] at hc
    refine ⟨s, _, c, rfl, upd_same, by omega, fun ns r hsort hmem _ hr => ?_⟩
    obtain ⟨ms, rfl, p1, p2⟩ := sub_nat (sm := sm) hsort fun k => by rw [hmem k, decide_eq_true_iff]
    have e5 : Ex H4 (upd (upd H4 s (SetO w s (fun j => decide (j ∈ sm.map Int.ofNat)) c)) r (.lst ((ms.map Int.ofNat).map V.int))) := (Ex.new hs).trans (Ex.new hr)
    have hr5 : upd (upd H4 s (SetO w s (fun j => decide (j ∈ sm.map Int.ofNat)) c)) r (.lst ((ms.map Int.ofNat).map V.int)) r = some (.lst (nVs ms)) := by
      rw [upd_same, nVs_int]
    generalize upd (upd H4 s (SetO w s (fun j => decide (j ∈ sm.map Int.ofNat)) c)) r (.lst ((ms.map Int.ofNat).map V.int)) = H5 at e5 hr5 ⊢
    refine ⟨.list (sm.map nD), .list (ms.map nD), .lst (sq_of ((e4.trans e5) l _ hl3)) (dp_N sm), .lst (sq_of hr5) (dp_N ms), sh_N sm, sh_N ms, ?_⟩
    have ee : PyData.eqv (.list (sm.map nD)) (.list (ms.map nD)) = ascB sm := by
      rw [eqv_L, Bool.eq_iff_iff, decide_eq_true_iff, ascB_iff]
      exact ⟨fun z => by rw [z]; exact p1, fun z => asc_ext z p1 fun x => (p2 x).symm⟩
    rw [ee]
    exact q H5 (((e2.trans e3).trans e4).trans e5)⟩
end
theorem in_len {left sm : List Nat} : decide ((sm.filter fun p => decide (p ∈ left)).length = sm.length) = inB left sm := by
  unfold inB
  rw [Bool.eq_iff_iff, decide_eq_true_iff, List.length_filter_eq_length_iff, List.all_eq_true]
section
variable {P : Program} {w : World} {K : PySem.W.Frag} {mg : Str → Option Value} {base : Heap}
def spJudge (K : PySem.W.Frag) : Sp := fun vs H Q _ => ∃ (cs : Wd) (q : Addr) (us : List V) (nss : List (List Nat)), vs = [Wv cs, .ref q] ∧ SqL K H q us ∧ LT K H us nss ∧ 2 ≤ cs.length ∧ cs.length ≤ 60 ∧ (∀ sm ∈ nss, sm.length ≤ 60) ∧ RetV (.bl (lr cs nss (List.range cs.length))) H Q
theorem cal_judge (D : Df K mg "_law_rounds" s_law_rounds) (B : Bt mg) : Cal P w K mg base 1 "_law_rounds" (spJudge K) := by
  refine D.cal s_law_rounds_sc (fun _ _ _ _ _ _ us hl => match us, hl with | [_, _], _ => rfl) (fun vs H Q E h => ?_) (fun f cdv A outer s H vs Q E hr h => ?_)
  · obtain ⟨cs, q, us, nss, rfl, _⟩ := h
    rfl
  · obtain ⟨cs, p, us, nss, rfl, hp, L, h2, hz, hs, k⟩ := h
    refine ⟨_, (pss_cons (ps_set (i := 2) s_law_rounds_sc.nd rfl (.inr rfl) (pe_listRg rfl (by rfl) B.list (prg_1 (by rfl) B.range (pe_callB call_len_str (by rfl) B.len bt_len (pa_cons (pv 0) pa_nil)))))
    (pss_cons (ps_for PassesOwn.never rfl (pi_list (pv 1)) (pg_name (i := 3) s_law_rounds_sc.nd rfl (.inr rfl))
      (pss_cons (ps_setLc (i := 4) (own := [("_law_place", 5)]) (g := gName 5) rfl s_law_rounds_sc.nd rfl rfl (sw_true rfl rfl rfl (by decide +kernel)) (pi_tup (pv 3)) (blkOk_by (own := [("_law_place", 5)]) (N := s_law_rounds_N) (sc := defScope s_law_rounds) (by decide +kernel)) (fun _ _ _ _ _ => pg_name (i := 5) s_law_rounds_sc.nd rfl (.inl rfl)) (fun _ _ _ _ _ => pts_one (pt_cmpR (op_in_seq_K (K := K) rfl) (pv 5) (pv 2) (by rfl))) (fun _ _ _ _ _ => (pv 5)))
      (pss_cons (ps_if (pw_or (pt_cmpR (op_neD hr.units) (pe_callTy call_list_of (by rfl) B.list bt_list (pa_cons (pv 3) pa_nil)) (pe_callB (cr_sortedSet rfl) (by rfl) B.sorted bt_sorted (pa_cons (pe_callTy (cr_setI rfl) (by rfl) B.set bt_set (pa_cons (pv 3) pa_nil)) pa_nil)) (nomark _)) (pw_or (pt_cmpR (op_eqD hr.units) (pv 3) (pe_tup pa_nil) (nomark _)) (pw_or1 (pt_cmpR op_ne (pe_callB call_len_seq (by rfl) B.len bt_len (pa_cons (pv 4) pa_nil)) (pe_callB call_len_seq (by rfl) B.len bt_len (pa_cons (pv 3) pa_nil)) (nomark _))))).pt
        (pss_one (ps_ret pe_bl))
        pss_nil)
      (pss_cons (ps_for PassesOwn.never rfl (pi_tup (pv 3)) (pg_name (i := 5) s_law_rounds_sc.nd rfl (.inl rfl))
        (pss_cons (ps_set (i := 6) s_law_rounds_sc.nd rfl (.inl rfl) (pe_bm PySem.F.plainAttrs_list PySem.F.slot_list_index PySem.F.type_list_index mt_index (pv 2) (pa_cons (pv 5) pa_nil)))
        (pss_one (ps_if (pw_or (pt_not (pt_chain op_lt op_lt pe_int (pv 6) (pe_op op_sub (pe_callB call_len_seq (by rfl) B.len bt_len (pa_cons (pv 2) pa_nil)) pe_int))) (pw_or (pt_cmpR op_eq (pe_ix ix_str (pv 0) (pe_ix ix_list (pv 2) (pe_op op_sub (pv 6) pe_int) (fun _ _ => rfl)) (fun _ _ => rfl)) (pe_ix ix_str (pv 0) (pe_ix ix_list (pv 2) (pe_op op_add (pv 6) pe_int) (fun _ _ => rfl)) (fun _ _ => rfl)) (nomark _)) (pw_or (pt_cmpR op_in_seq (pe_ix ix_list (pv 2) (pe_op op_sub (pv 6) pe_int) (fun _ _ => rfl)) (pv 3) (by rfl)) (pw_or1 (pt_cmpR op_in_seq (pe_ix ix_list (pv 2) (pe_op op_add (pv 6) pe_int) (fun _ _ => rfl)) (pv 3) (by rfl)))))).pt
          (pss_one (ps_ret pe_bl))
          pss_nil))))
      (pss_one (ps_set (i := 2) s_law_rounds_sc.nd rfl (.inr rfl) (pe_lc (own := [("_law_place", 5)]) (g := gName 5) rfl (by exact s_law_rounds_sc.nd) (pi_list (pv 2)) (blkOk_by (own := [("_law_place", 5)]) (N := s_law_rounds_N) (sc := defScope s_law_rounds) (by decide +kernel)) (fun _ _ _ _ _ => pg_name (i := 5) s_law_rounds_sc.nd rfl (.inl rfl)) (fun _ _ _ _ _ => pts_one (pt_cmpR (op_notIn_seq_K (K := K) rfl) (pv 5) (pv 3) (by rfl))) (fun _ _ _ _ _ => (pv 5)))))))))
    (pss_one (ps_ret (pe_cmpR op_eq (pe_callB call_len_seq (by rfl) B.len bt_len (pa_cons (pv 2) pa_nil)) pe_int (nomark _)))))), ?_⟩
    refine q_asgL (el_range (n := cs.length) (ev_lenW (ev_var rfl) (by omega)) (by omega)) fun lp H4 lp0 e4 hlp => ?_
    have L4 := L.ex e4
    have hp4 := ex_l e4 hp
    refine q_forLn (K := K) (ev_var rfl) hp4 (fun i σ' H' => Ex H4 H' ∧ ∃ lp left a3 a4 a5 a6, σ' = [some (Wv cs), some (.ref p), some (.ref lp), a3, a4, a5, a6] ∧ H' lp = some (.lst (nVs left)) ∧ LInv cs.length left ∧ left.length ≤ 60 ∧ lr cs (nss.drop i) left = lr cs nss (List.range cs.length))
      (fun H5 e5 => ⟨e5, lp, _, _, _, _, _, rfl, e5 lp _ hlp, LInv.range h2, by rw [List.length_range]; exact hz, rfl⟩) (fun i σ' H' _ pv => ex_l pv.1 hp4) (fun i x σ' H' hx pv => ?_) (fun σ' H' pv => ?_)
    · obtain ⟨e5, lp, left, a3, a4, a5, a6, rfl, hl5, LI, hll, hsr⟩ := pv
      obtain ⟨q, sm, rfl, hsm, hq4⟩ := L4.at hx
      have hq := ex_t e5 hq4
      have sml := hs sm (List.mem_of_getElem? hsm)
      have ed : nss.drop i = sm :: nss.drop (i + 1) := by
        obtain ⟨hi, e⟩ := List.getElem?_eq_some_iff.mp hsm
        rw [List.drop_eq_getElem_cons hi, e]
      rw [ed] at hsr
      have hsr : (lrStep cs left sm && lr cs (nss.drop (i + 1)) (keep left sm)) = lr cs nss (List.range cs.length) := hsr
      have bad : lrStep cs left sm = false → ∀ H6, Ex H4 H6 → Q (.bl false) H6 := fun z H6 e6 => by
        have q := k H6 (e4.trans e6)
        rw [← hsr, z] at q
        exact q
      -- places
      refine q_asgL (el_nT (K := K) (sm := sm) (fun p => decide (p ∈ left)) nV (ev_var rfl) hq (by omega) (fun _ => rfl) (fun pl H6 e6 _ => et_test (ev_inL (ev_var rfl) (ev_var rfl) (sq_of (e6 lp _ hl5)))) fun pl H6 e6 _ _ => ev_var rfl) fun pp H6 pp0 e6 hpp => ?_
      have e56 := e5.trans e6
      have hq6 := ex_t e6 hq
      have hl6 := e6 lp _ hl5
      refine q_retF (b := !(ascB sm && !decide (sm = []) && inB left sm)) (et_is (et_or (et_test (ev_asc (K := K) (w := w) (ev_var rfl) hq6 sml)) fun _ => et_or (et_test (ev_eqNilT (K := K) (ev_var rfl) hq6)) fun _ => et_test (ev_op (ev_len (K := K) (ev_var rfl) (sq_of hpp)) (ev_lenT (K := K) (ev_var rfl) hq6) rv_neI)) ?_) (fun hb H7 e7 => bad ?_ H7 (e56.trans e7)) fun hb H7 e7 => ?_
      · rw [List.length_map, List.length_map, show decide ((((sm.filter fun p => decide (p ∈ left)).length : Nat) : Int) = ((sm.length : Nat) : Int)) = inB left sm by rw [← in_len]; exact decide_eq_decide.mpr (by omega)]
        cases ascB sm <;> cases decide (sm = []) <;> cases inB left sm <;> rfl
      · unfold lrStep
        rw [Bool.not_eq_true'] at hb
        rw [hb]
        rfl
      rw [Bool.not_eq_false'] at hb
      have h4 : inB left sm = true := (Bool.and_eq_true_iff.mp hb).2
      have hin : ∀ p ∈ sm, p ∈ left := fun p hp => of_decide_eq_true (List.all_eq_true.mp h4 p hp)
      have hq7 := ex_t e7 hq6
      have hl7 := e7 lp _ hl6
      have e57 := e56.trans e7
      -- each place
      refine q_forT (K := K) (ev_var rfl) hq7 (fun j σ' H' => Ex H7 H' ∧ (∀ m, m < j → ∀ y, sm[m]? = some y → okB cs left sm y = true) ∧ ∃ a5 a6, σ' = [some (Wv cs), some (.ref p), some (.ref lp), some (.ref q), some (.ref pp), a5, a6])
        (fun H8 e8 => ⟨e8, fun m hm => absurd hm (Nat.not_lt_zero m), _, _, rfl⟩) (fun j σ' H' _ pv => ex_t pv.1 hq7) (fun j x σ' H' hx pv => ?_) (fun σ' H' pv => ?_)
      · obtain ⟨e8, hok, a5, a6, rfl⟩ := pv
        obtain ⟨hj, rfl, hm⟩ := nV_at hx
        have hsj : sm[j]? = some (sm.getD j 0) := get_lt hj
        generalize sm.getD j 0 = pl at hm hsj
        have hl8 := e8 lp _ hl7
        have hq8 := ex_t e8 hq7
        show tSeq _ _ _ [some (Wv cs), some (.ref p), some (.ref lp), some (.ref q), some (.ref pp), some (nV pl), a6] H'
        refine q_asg (ev_index (K := K) (ev_var rfl) (ev_var rfl) (sq_of hl8) (hin pl hm)) fun H9 e9 => ?_
        have hl9 := e9 lp _ hl8
        have hq9 := ex_t e9 hq8
        have okd : okB cs left sm pl = (decide (0 < left.idxOf pl) && decide (left.idxOf pl + 1 < left.length) && !decide (lt cs (lt left (left.idxOf pl - 1)) = lt cs (lt left (left.idxOf pl + 1))) && !decide (lt left (left.idxOf pl - 1) ∈ sm) && !decide (lt left (left.idxOf pl + 1) ∈ sm)) := rfl
        have hidx := idx_lt (hin pl hm)
        generalize left.idxOf pl = st at okd hidx ⊢
        have lts : ∀ i, i < left.length → lt left i < cs.length := fun i hi => by
          have := LI.le _ (lt_mem hi)
          omega
        refine s_retF (b := !okB cs left sm pl) ?_ (fun hb H10 e10 => bad ?_ H10 (((e57.trans e8).trans e9).trans e10)) fun hb H10 e10 => ?_
        · have at1 : ∀ {H10 : Hp}, Ex H9 H10 → 0 < st → Ev (tOp (rIxL K) (tVar 2) (tOp (rI0 fun i j => V.int (i - j)) (tVar 6) (tC (.int 1)))) [some (Wv cs), some (.ref p), some (.ref lp), some (.ref q), some (.ref pp), some (nV pl), some (nV st)] H10 (nV (lt left (st - 1))) := fun {H10} e10 c =>
            ev_at (K := K) (ev_var rfl) (ev_op (ev_var rfl) ev_c rv_I0) (sq_of (e10 lp _ hl9)) (by omega) (by omega)
          have at2 : ∀ {H10 : Hp}, Ex H9 H10 → st + 1 < left.length → Ev (tOp (rIxL K) (tVar 2) (tOp (rI0 fun i j => V.int (i + j)) (tVar 6) (tC (.int 1)))) [some (Wv cs), some (.ref p), some (.ref lp), some (.ref q), some (.ref pp), some (nV pl), some (nV st)] H10 (nV (lt left (st + 1))) := fun {H10} e10 c =>
            ev_at (K := K) (ev_var rfl) (ev_op (ev_var rfl) ev_c rv_I0) (sq_of (e10 lp _ hl9)) (by omega) (by omega)
          refine et_is (et_or (a := !(decide (0 < st) && decide (st + 1 < left.length))) (b := decide (lt cs (lt left (st - 1)) = lt cs (lt left (st + 1))) || (decide (lt left (st - 1) ∈ sm) || decide (lt left (st + 1) ∈ sm))) (et_not (et_test (ev_is (ev_chain ev_c (ev_var rfl) (ev_op (ev_len (K := K) (ev_var rfl) (sq_of hl9)) ev_c rv_I0) rv_I0 rv_I0) ?_))) fun hA => ?_) ?_
          · refine congrArg V.bl ?_
            rw [List.length_map]
            refine congr (congrArg and (decide_eq_decide.mpr (by omega))) (decide_eq_decide.mpr (by omega))
          · rw [Bool.not_eq_false', Bool.and_eq_true_iff, decide_eq_true_iff, decide_eq_true_iff] at hA
            obtain ⟨c1, c2⟩ := hA
            exact et_or (et_test (ev_op (ev_word (ev_var rfl) (at1 (Ex.refl _) c1) (by omega) (lts _ (by omega))) (ev_word (ev_var rfl) (at2 (Ex.refl _) c2) (by omega) (lts _ (by omega))) rv_eqS)) fun _ => et_or (et_test (ev_inT (at1 (Ex.refl _) c1) (ev_var rfl) hq9)) fun _ => et_test (ev_inT (at2 (Ex.refl _) c2) (ev_var rfl) hq9)
          · rw [okd]
            cases decide (0 < st) <;> cases decide (st + 1 < left.length) <;> cases decide (lt cs (lt left (st - 1)) = lt cs (lt left (st + 1))) <;> cases decide (lt left (st - 1) ∈ sm) <;> cases decide (lt left (st + 1) ∈ sm) <;> rfl
        · rw [Bool.not_eq_true'] at hb
          unfold lrStep
          have : sm.all (okB cs left sm) = false := by
            cases z : sm.all (okB cs left sm) with
            | false => rfl
            | true =>
              rw [List.all_eq_true.mp z pl hm] at hb
              cases hb
          rw [this, Bool.and_false]
        · rw [Bool.not_eq_false'] at hb
          refine ⟨(e8.trans e9).trans e10, fun m hm y hy => ?_, _, _, rfl⟩
          by_cases c : m = j
          · subst c
            rw [hsj] at hy
            obtain rfl : pl = y := Option.some.inj hy
            exact hb
          · exact hok m (by omega) y hy
      · obtain ⟨e8, hok, a5, a6, rfl⟩ := pv
        have good : lrStep cs left sm = true := by
          unfold lrStep
          rw [hb, Bool.true_and, List.all_eq_true]
          intro y hy
          obtain ⟨m, hm, e⟩ := List.getElem_of_mem hy
          exact hok m (by rw [List.length_map]; exact hm) y (by rw [List.getElem?_eq_getElem hm, e])
        have hl8 := e8 lp _ hl7
        have hq8 := ex_t e8 hq7
        refine s_asgL (el_nL (K := K) (sm := left) (fun p => !decide (p ∈ sm)) nV (ev_var rfl) (sq_of hl8) (by omega) (fun _ => rfl) (fun pl H12 e12 _ => et_test (ev_niT (ev_var rfl) (ev_var rfl) (ex_t e12 hq8))) fun pl H12 e12 _ _ => ev_var rfl) fun lp' H12 lp0' e12' hlp' => ?_
        refine ⟨(e57.trans e8).trans e12', lp', keep left sm, _, _, _, _, rfl, hlp', LI.keep (by rw [step_eq LI]; exact good), ?_, ?_⟩
        · exact Nat.le_trans (List.length_filter_le _ _) hll
        · rw [← hsr, good]
          rfl
    · obtain ⟨e5, lp, left, a3, a4, a5, a6, rfl, hl5, LI, hll, hsr⟩ := pv
      rw [L4.len, List.drop_length] at hsr
      refine s_ret (ev_op (ev_len (K := K) (ev_var rfl) (sq_of hl5)) ev_c rv_eqI) fun H6 e6 => ?_
      have q := k H6 ((e4.trans e5).trans e6)
      rw [← hsr] at q
      have ee : decide (((nVs left).length : Int) = 2) = decide (left.length = 2) := decide_eq_decide.mpr (by rw [List.length_map]; omega)
      rw [ee]
      exact q
end
end K54

set_option Elab.async false
set_option linter.all false
set_option maxRecDepth 100000
set_option maxHeartbeats 2000000
namespace K54
open PySem PySem.Spec PyProof.Rows L2 Evl
section
variable {K : PySem.W.Frag} {w : World} {σ : L2.St} {H H' : Hp} {ta tb tc td te tx ty tv tl : TE} {t u : TT} {x y z v : V} {D : Ends} {tu tw tz : TS} {Q : VK}
/-- f(x, [..]) -/
theorem ev_cVL {sp : Sp} {xs : List V} (ha : Ev ta σ H x) (hl : EvL tb σ H xs) (hs : ∀ q H1, Ex H H1 → H1 q = some (.lst xs) → ∀ Q : VK, RetV z H1 Q → ∀ E : XK, sp [x, .ref q] H1 Q E) : Ev (tCall sp [] E0 (tCons ta (tCons tb tNil))) σ H z := fun H1 e Q q =>
  ha H1 e _ fun H2 e2 => hl H2 (e.trans e2) _ fun p H3 _ e3 h3 => hs p H3 ((e.trans e2).trans e3) h3 Q (fun H4 e4 => q H4 ((e2.trans e3).trans e4)) E0
theorem rv_isB {a b : Bool} : RV rIsB (.bl a) (.bl b) H (.bl (decide (a = b))) := fun H1 _ _ q => ⟨a, b, rfl, rfl, q H1 (Ex.refl H1)⟩
theorem rv_notB {a b : Bool} : RV rNotB (.bl a) (.bl b) H (.bl (!decide (a = b))) := fun H1 _ _ q => ⟨a, b, rfl, rfl, q H1 (Ex.refl H1)⟩
/-- [draw for i in range(lo, n)] -/
theorem go_draws2 {p a : Addr} {tr : TA} {lo : Nat} {n : Int} {m : Nat} {j : Nat} {vs : List Nat} {Pd : V → Prop} (h : EvA tr σ H [nV lo, .int n]) (hn : lo ≤ 1000 ∧ -1000 ≤ n ∧ n ≤ 1000) (hm : (n - (lo : Int)).toNat = m) (R : Row K H p a) (hw : ∀ x, wipe ((wipe σ vs).set j (some x)) vs = wipe σ vs)
    (he : ∀ (i : Nat) H1 (Q : VK), i < m → Xp p H H1 → Row K H1 p a → (∀ v H2, Pd v → Xp p H1 H2 → Row K H2 p a → Q v H2) → te ((wipe σ vs).set j (some (nV (lo + i)))) H1 Q)
    (k : ∀ f xs H1, H f = none → f ≠ p → H1 f = some (.lst xs) → xs.length = m → (∀ x ∈ xs, Pd x) → Xp p H H1 → Row K H1 p a → Q (.ref f) H1) : tLc (iRng2 tr) (gName j) tYes te vs σ H Q :=
  h H (Ex.refl H) _ fun H1 e1 => ⟨(lo : Int), n, rfl, by omega, fun Dl hD => by
    have R1 := R.ex e1
    obtain ⟨zs, hzs⟩ := R1.lst
    have hne : Dl ≠ p := (ne_of_none hzs hD).symm
    rw [hm]
    refine lc_range (lo := (lo : Int)) (n := m) (fun i H' => Xp p H H' ∧ Row K H' p a ∧ ∃ xs, H' Dl = some (.lst xs) ∧ xs.length = i ∧ ∀ x ∈ xs, Pd x) ⟨(Xp.of e1).trans (Xp.of (Ex.new hD)), R1.ex (Ex.new hD), [], upd_same, rfl, fun _ h => nomatch h⟩ (fun i H' hi pv => ?_) (fun H' pv => ?_)
    · obtain ⟨x', r', xs, hx, hl, hp⟩ := pv
      have e0 : (lo : Int) + (i : Int) = ((lo + i : Nat) : Int) := by omega
      show wipe ((wipe σ vs).set j (some (.int ((lo : Int) + (i : Int))))) vs = wipe σ vs ∧ te ((wipe σ vs).set j (some (.int ((lo : Int) + (i : Int))))) H' fun y H4 => ∃ acc, H4 Dl = some (.lst acc) ∧ acc.length < sizeLine ∧ _
      rw [e0]
      refine ⟨hw _, he i H' _ hi x' r' fun v H2 hv x2 r2 => ⟨xs, x2 Dl _ hne hx, sz_lt (by omega), (x'.trans x2).mut (fresh_back e1 hD), R1.mut hD r2, xs ++ [v], upd_same, by rw [List.length_append, hl]; rfl, fun y hy => ?_⟩⟩
      rcases List.mem_append.mp hy with z | z
      · exact hp y z
      · exact List.mem_singleton.mp z ▸ hv
    · obtain ⟨x', r', xs, hx, hl, hp⟩ := pv
      exact k Dl xs H' (fresh_back e1 hD) hne hx hl hp x' r'⟩
/-- max(_law_depths(..)) -/
theorem ev_maxDepths {d : Nat} {tr : TA} {q : Addr} {us : List V} {F : List C3} {n l h : Nat} (ha : EvA tr σ H [.ref q, nV l, nV h, nV 0]) (hq : SqT K H q us) (hlc : LC K H us F) (hF : F.length ≤ 60) (tr' : Tr n F) (cov : Cov F l h) (h1 : l < h) (h2 : h - l ≤ d) (h3 : h ≤ 60) :
    Ev (tCB (rMax K) (tCons (tCall (spDepths K d) [] E0 tr) tNil)) σ H (nV (Ht F l h)) := fun H1 e Q qq =>
  ha H1 e _ fun H2 e2 => ⟨q, us, F, n, l, h, 0, rfl, ex_t (e.trans e2) hq, hlc.ex (e.trans e2), hF, tr', cov, h1, h2, h3, fun r H3 xs hr e3 h3 hd => by
    obtain ⟨d1, d2, d3⟩ := hd
    rw [Nat.zero_add] at d3
    refine ⟨r, xs.map Int.ofNat, rfl, by rw [← nVs_int]; exact sq_of h3, by rw [List.length_map, d1]; omega, fun m hm hall => ?_⟩
    obtain ⟨y, hy, rfl⟩ := List.mem_map.mp hm
    have a1 := hall (Int.ofNat (Ht F l h)) (List.mem_map.mpr ⟨_, d3, rfl⟩)
    have a2 := d2 y hy
    have a1 : ((Ht F l h : Nat) : Int) ≤ (y : Int) := a1
    obtain rfl : y = Ht F l h := by omega
    exact qq H3 (e2.trans e3)⟩
/-! ### what is bent -/
def EvS (K : PySem.W.Frag) (ws : Wd) (te : TE) (σ : L2.St) (H : Hp) : Prop := ∀ H1, Ex H H1 → ∀ Q : VK, (∀ v H2, Ex H1 H2 → SA K ws H2 v false → Q v H2) → te σ H1 Q
def EvSA (K : PySem.W.Frag) (ws : Wd) (n : Nat) (ta : TA) (σ : L2.St) (H : Hp) : Prop := ∀ H1, Ex H H1 → ∀ Q : List V → Hp → Prop, (∀ vs H2, Ex H1 H2 → vs.length = n → (∀ v ∈ vs, SA K ws H2 v false) → Q vs H2) → ta σ H1 Q
theorem esa_nil {ws : Wd} : EvSA K ws 0 tNil σ H := fun H1 _ _ q => q [] H1 (Ex.refl H1) rfl fun _ h => nomatch h
theorem esa_cons {ws : Wd} {n : Nat} {tr : TA} (h : EvS K ws te σ H) (hr : EvSA K ws n tr σ H) : EvSA K ws (n + 1) (tCons te tr) σ H := fun H1 e Q q =>
  h H1 e _ fun v H2 e2 s => hr H2 (e.trans e2) _ fun vs H3 e3 hl hs => q (v :: vs) H3 (e2.trans e3) (by rw [List.length_cons, hl]) fun y hy => by
    rcases List.mem_cons.mp hy with z | z
    · rw [z]
      exact s.ex e3
    · exact hs y z
/-- a list of such -/
def EvSL (K : PySem.W.Frag) (ws : Wd) (n : Nat) (te : TE) (σ : L2.St) (H : Hp) : Prop := ∀ H1, Ex H H1 → ∀ Q : VK, (∀ p vs H2, H1 p = none → Ex H1 H2 → H2 p = some (.lst vs) → vs.length = n → (∀ v ∈ vs, SA K ws H2 v false) → Q (.ref p) H2) → te σ H1 Q
theorem esl_lst {ws : Wd} {n : Nat} {ta : TA} (h : EvSA K ws n ta σ H) (hn : n ≤ 1000) : EvSL K ws n (tLst ta) σ H := fun H1 e Q q =>
  h H1 e _ fun vs H2 e2 hl hs => ⟨sz_of (by omega), fun p hp => q p vs _ (fresh_back e2 hp) (e2.trans (Ex.new hp)) upd_same hl fun v hv => (hs v hv).ex (Ex.new hp)⟩
theorem es_non {ws : Wd} : EvS K ws (tC .non) σ H := fun H1 _ _ q => q _ H1 (Ex.refl H1) .non
theorem es_tupleOf {ws : Wd} {f : Addr} {us : List V} (h : Ev ta σ H (.ref f)) (hf : H f = some (.lst us)) : EvS K ws (tThen ta (kTup K)) σ H := fun H1 e Q q =>
  h H1 e _ fun H2 e2 => .inl ⟨f, us, rfl, sq_of ((e.trans e2) f _ hf), fun r hr => q _ _ (e2.trans (Ex.new hr)) (.tup (st_of upd_same))⟩
theorem x_lst1 (h : te σ H fun v H1 => [v].length ≤ sizeLine ∧ ∀ p, H1 p = none → Q (.ref p) (upd H1 p (.lst [v]))) : tLst (tCons te tNil) σ H Q := h
theorem es_catNil {ws : Wd} {f : Addr} {us : List V} {M : Nat} (h : Ev ta σ H (.ref f)) (hf : H f = some (.lst us)) (hT : T ws 0 (ws.length - 1) = some M) (hl : us.length = M) (hM : M ≤ 1000) : EvS K ws (tOp rCat ta (tLst (tCons (tTup tNil) tNil))) σ H := fun H1 e Q q =>
  have hU : EvU (tTup tNil) σ H [] := eu_tup ea_nil (Nat.zero_le _)
  h H1 e _ fun H2 e2 => x_lst1 (hU H2 (e.trans e2) _ fun p H3 _ e3 h3 => ⟨sz_of (by show 1 ≤ 100000; decide), fun l hl' => by
    have a3 := (e.trans e2).trans e3
    have hf3 := a3 f _ hf
    refine ⟨f, l, us, [.ref p], rfl, rfl, by rw [upd_ne (ne_of_none hf3 hl')]; exact hf3, upd_same, sz_of (by show us.length + 1 ≤ 100000; omega), fun r hr => ?_⟩
    refine q _ _ ((e2.trans e3).trans ((Ex.new hl').trans (Ex.new hr))) (.len (sq_of upd_same) ?_)
    rw [hT, List.length_append]
    intro z
    have z := Option.some.inj z
    have : us.length + 1 = M := z.symm
    omega⟩)
theorem rep_flat (k : Nat) (v : V) : (List.replicate k [v]).flatten = List.replicate k v := by
  induction k with
  | zero => rfl
  | succ k ih => rw [List.replicate_succ, List.flatten_cons, ih, List.replicate_succ]; rfl
/-- [(y,)] * k -/
theorem go_rep {k : Nat} (h : EvU te σ H [y]) (hb : Ev tb σ H (nV k)) (hk : k ≤ 1000) : ∀ H1, Ex H H1 → ∀ Q : VK, (∀ r q H2, Ex H1 H2 → H2 r = some (.lst (List.replicate k (.ref q))) → H2 q = some (.tup [y]) → Q (.ref r) H2) → tOp rRep (tLst (tCons te tNil)) tb σ H1 Q := fun H1 e Q q =>
  h H1 e _ fun a H2 ha e2 h2 => ⟨sz_of (by show 1 ≤ 100000; decide), fun l hl => by
    have e3 : Ex H2 (upd H2 l (.lst [.ref a])) := Ex.new hl
    have hl3 : upd H2 l (.lst [.ref a]) l = some (.lst [.ref a]) := upd_same
    generalize upd H2 l (.lst [.ref a]) = H3 at e3 hl3 ⊢
    refine hb H3 ((e.trans e2).trans e3) _ fun H4 e4 => ⟨l, (k : Int), [.ref a], rfl, rfl, e4 l _ hl3, by omega, by omega, sz_of (by show 1 * (k : Int).toNat ≤ 100000; omega), fun r hr => ?_⟩
    have e5 : Ex H4 (upd H4 r (.lst (List.replicate (k : Int).toNat [.ref a]).flatten)) := Ex.new hr
    refine q r a _ (((e2.trans e3).trans e4).trans e5) ?_ (e5 a _ (e4 a _ (e3 a _ h2)))
    rw [upd_same, show (k : Int).toNat = k from rfl, rep_flat]⟩
theorem es_repLen {ws : Wd} {k : Nat} (h : EvU te σ H [y]) (hb : Ev tb σ H (nV k)) (hk : k ≤ 1000) (hT : T ws 0 (ws.length - 1) ≠ some k) : EvS K ws (tOp rRep (tLst (tCons te tNil)) tb) σ H := fun H1 e Q q =>
  go_rep h hb hk H1 e Q fun r a H2 e2 h2 _ => q _ H2 e2 (.len (sq_of h2) (by rw [List.length_replicate]; exact hT))
theorem es_repPlace {ws : Wd} {k : Nat} (h : EvU te σ H [y]) (hb : Ev tb σ H (nV k)) (hk : k ≤ 1000) (h0 : 0 < k) (hy : y = .non ∨ ∃ i : Int, y = .int i ∧ ¬ (1 ≤ i ∧ i ≤ (ws.length : Int) - 2)) : EvS K ws (tOp rRep (tLst (tCons te tNil)) tb) σ H := fun H1 e Q q =>
  go_rep h hb hk H1 e Q fun r a H2 e2 h2 h3 => q _ H2 e2 (.place (q := a) (xs := List.replicate (k - 1) (.ref a)) (by
    have e : List.replicate k (V.ref a) = .ref a :: List.replicate (k - 1) (.ref a) := by
      rw [← List.replicate_succ, Nat.sub_add_cancel h0]
    rw [← e]
    exact sq_of h2) (st_of h3) hy)
theorem es_cut1 {ws : Wd} {f : Addr} {us : List V} {M : Nat} (h : Ev ta σ H (.ref f)) (hf : H f = some (.lst us)) (hT : T ws 0 (ws.length - 1) = some M) (hl : us.length = M) (h0 : 0 < M) : EvS K ws (tSl (rSlL K) ta (tPart (tC (.int 1))) tNoPart) σ H := fun H1 e Q q =>
  (el_sl (K := K) h (eo_some ev_c) eo_none (sq_of hf)) H1 e _ fun p H2 _ e2 h2 => q _ H2 e2 (.len (sq_of h2) (by
    rw [cut_one, List.length_tail, hT]
    intro z
    have z := Option.some.inj z
    omega))
/-- [list(some) for some in found] -/
theorem es_lists {ws : Wd} {f : Addr} {us : List V} {nss : List (List Nat)} {j : Nat} {vs : List Nat} (h : Ev ta σ H (.ref f)) (hf : H f = some (.lst us)) (L : LT K H us nss) (h0 : 0 < us.length) (h1 : us.length ≤ 1000) (hw : ∀ x, wipe ((wipe σ vs).set j (some x)) vs = wipe σ vs) (hj : ∀ x, ((wipe σ vs).set j (some x))[j]? = some (some x)) :
    EvS K ws (tLc (iList K ta) (gName j) tYes (tCB (rListS K) (tCons (tVar j) tNil)) vs) σ H := fun H1 e Q q =>
  h H1 e _ fun H2 e2 => ⟨f, rfl, ⟨us, sq_of ((e.trans e2) f _ hf)⟩, fun Dl hD => by
    have L2 := L.ex (e.trans e2)
    have hf2 := (e.trans e2) f _ hf
    refine lc_list (xs := us) (fun i H' => Ex H2 H' ∧ ∃ acc, H' Dl = some (.lst acc) ∧ acc.length = i ∧ (0 < i → ∃ b ys r, acc = .ref b :: r ∧ H' b = some (.lst ys) ∧ b ≠ Dl)) ⟨Ex.new hD, [], upd_same, rfl, fun z => absurd z (Nat.lt_irrefl 0)⟩ (fun i H' _ pv => sq_of (pv.1 f _ hf2)) (fun i x H' hx pv => ⟨hw x, ?_⟩) (fun H' pv => ?_)
    · obtain ⟨e3, acc, hacc, hn, hfirst⟩ := pv
      have hi : i < us.length := (List.getElem?_eq_some_iff.mp hx).1
      obtain ⟨b, ns, rfl, hns, hb⟩ := L2.at hx
      refine ⟨_, hj _, b, nVs ns, rfl, .inr (ex_t e3 hb), fun l hl => ?_⟩
      have nD : Dl ≠ l := ne_of_none hacc hl
      refine ⟨acc, by rw [upd_ne nD]; exact hacc, sz_lt (by omega), Ex.mut (e3.trans (Ex.new hl)) hD, acc ++ [.ref l], upd_same, by rw [List.length_append, hn]; rfl, fun _ => ?_⟩
      by_cases c : 0 < i
      · obtain ⟨b', ys, r, h1, h2, h3⟩ := hfirst c
        refine ⟨b', ys, r ++ [.ref l], by rw [h1]; rfl, ?_, h3⟩
        rw [upd_ne h3, upd_ne (ne_of_none h2 hl)]
        exact h2
      · have hz : acc = [] := List.length_eq_zero_iff.mp (by omega)
        refine ⟨l, nVs ns, [], by rw [hz]; rfl, ?_, nD.symm⟩
        rw [upd_ne nD.symm, upd_same]
    · obtain ⟨e3, acc, hacc, hn, hfirst⟩ := pv
      obtain ⟨b, ys, r, h1, h2, _⟩ := hfirst h0
      refine q _ H' (e2.trans e3) (.first (q := b) (xs := r) (ys := ys) (sq_of ?_) (sq_of h2))
      rw [← h1]
      exact hacc⟩
/-- bent + [..] -/
theorem esl_cat {ws : Wd} {n m : Nat} {b : Addr} {vs : List V} (h : Ev ta σ H (.ref b)) (hb : H b = some (.lst vs)) (hn : vs.length = n) (hs : ∀ v ∈ vs, SA K ws H v false) (hr : EvSL K ws m tb σ H) (hz : n + m ≤ 1000) : EvSL K ws (n + m) (tOp rCat ta tb) σ H := fun H1 e Q q =>
  h H1 e _ fun H2 e2 => hr H2 (e.trans e2) _ fun p us H3 hp e3 h3 hl hu => ⟨b, p, vs, us, rfl, rfl, ((e.trans e2).trans e3) b _ hb, h3, sz_of (by omega), fun r hr => q r (vs ++ us) _ (fresh_back (e2.trans e3) hr) ((e2.trans e3).trans (Ex.new hr)) upd_same (by rw [List.length_append, hn, hl]) fun v hv => by
    rcases List.mem_append.mp hv with z | z
    · exact (hs v z).ex (((e.trans e2).trans e3).trans (Ex.new hr))
    · exact (hu v z).ex (Ex.new hr)⟩
/-- [tuple(..) for w in range(n)] -/
theorem go_values {tr : TA} {R j : Nat} {vs : List Nat} (h : EvA tr σ H [nV R]) (hR : R ≤ 1000) (hw : ∀ x, wipe ((wipe σ vs).set j (some x)) vs = wipe σ vs)
    (he : ∀ (n : Nat) H1, Ex H H1 → ∃ sm : List Nat, sm.length ≤ 60 ∧ EvL te ((wipe σ vs).set j (some (nV n))) H1 (nVs sm))
    (k : ∀ r H2 us nss, H r = none → Ex H H2 → H2 r = some (.lst us) → LT K H2 us nss → nss.length = R → (∀ sm ∈ nss, sm.length ≤ 60) → Q (.ref r) H2) : tLc (iRng1 tr) (gName j) tYes (tThen te (kTup K)) vs σ H Q :=
  h H (Ex.refl H) _ fun H1 e1 => ⟨(R : Int), rfl, by omega, by omega, fun Dl hD => by
    refine lc_range (lo := 0) (n := R) (fun i H' => Ex H1 H' ∧ ∃ us nss, H' Dl = some (.lst us) ∧ LT K H' us nss ∧ nss.length = i ∧ ∀ sm ∈ nss, sm.length ≤ 60) ⟨Ex.new hD, [], [], upd_same, .nil, rfl, fun _ h => nomatch h⟩ (fun i H' hi pv => ?_) (fun H' pv => ?_)
    · obtain ⟨e2, us, nss, hus, hlt, hn, hs⟩ := pv
      have e0 : (0 : Int) + (i : Int) = (i : Int) := Int.zero_add _
      show wipe ((wipe σ vs).set j (some (.int ((0 : Int) + (i : Int))))) vs = wipe σ vs ∧ tThen te (kTup K) ((wipe σ vs).set j (some (.int ((0 : Int) + (i : Int))))) H' fun y H4 => ∃ acc, H4 Dl = some (.lst acc) ∧ acc.length < sizeLine ∧ _
      rw [e0]
      obtain ⟨sm, sml, hev⟩ := he i H' (e1.trans e2)
      refine ⟨hw _, hev H' (Ex.refl H') _ fun a H3 ha e3 h3 => .inl ⟨a, nVs sm, rfl, sq_of h3, fun b hb => ?_⟩⟩
      have e4 : Ex H' (upd H3 b (.tup (nVs sm))) := e3.trans (Ex.new hb)
      have hD4 := e4 Dl _ hus
      refine ⟨us, hD4, sz_lt (by rw [hlt.len, hn]; omega), Ex.mut (e2.trans e4) hD, us ++ [.ref b], nss ++ [sm], upd_same, ?_, by rw [List.length_append, hn]; rfl, fun s hs' => ?_⟩
      · exact ((hlt.ex e4).app (LT.one (st_of upd_same))).exT (ExT.lst hD4)
      · rcases List.mem_append.mp hs' with z | z
        · exact hs s z
        · rw [List.mem_singleton.mp z]
          exact sml
    · obtain ⟨e2, us, nss, hus, hlt, hn, hs⟩ := pv
      exact k Dl H' us nss (fresh_back e1 hD) (e1.trans e2) hus hlt hn hs⟩
end
theorem ms_len : ∀ {s : List S3}, (∀ x ∈ s, x.1 < x.2.1) → s.length ≤ ms s
  | [], _ => Nat.zero_le _
  | x :: r, h => by
    have h1 := h x List.mem_cons_self
    have h2 := ms_len (s := r) fun y hy => h y (List.mem_cons_of_mem _ hy)
    unfold ms at h2 ⊢
    rw [List.map_cons, List.sum_cons, List.length_cons]
    omega
end K54

set_option Elab.async false
set_option linter.all false
set_option maxRecDepth 100000
set_option maxHeartbeats 8000000
namespace K54
open PySem PySem.Spec PyProof.Rows L2 Evl
abbrev s_law : Stmt := topS 35
abbrev s_law_N : List Str := ["_law_script", "_law_row", "_law_word_here", "_law_found", "_law_best", "_law_tree_here", "_law_value", "_law_turn", "_law_deep", "_law_low", "_law_high", "_law_when", "_law_corner", "_law_other", "_law_some", "_law_small", "_law_rounds_of", "_law_drawn", "_law_place", "_law_bent", "_law_one"]
theorem s_law_sc : FnScope s_law_N ["_law_script"] (defScope s_law) := ⟨rfl, rfl, rfl, by decide +kernel, rfl, by decide +kernel, by decide +kernel⟩
def s_law_outer : Scope := match (match (defBody s_law).getD 13 (.Pass ⟨0, 0, 0, 0⟩) with
  | .For _ _ b _ _ => b
  | _ => []).getD 1 (.Pass ⟨0, 0, 0, 0⟩) with
  | .Assign _ (.ListComp _ _ sc _) _ => sc
  | _ => { kind := .function, names := [], isGenerator := false, isCoroutine := false }
section
variable {K : PySem.W.Frag} {w : World} {σ : L2.St} {H H' : Hp} {ta tb tc td te tx ty tv tl : TE} {t u : TT} {x y z v : V} {D : Ends} {tu tw tz : TS} {Q : VK}
theorem x_lst2 (h : ta σ H fun x H1 => tb σ H1 fun y H2 => [x, y].length ≤ sizeLine ∧ ∀ p, H2 p = none → Q (.ref p) (upd H2 p (.lst [x, y]))) : tLst (tCons ta (tCons tb tNil)) σ H Q := h
theorem x_call1 {sp : Sp} (h : ta σ H fun x H1 => sp [x] H1 Q E0) : tCall sp [] E0 (tCons ta tNil) σ H Q := h
theorem nat_list : ∀ {xs : List V}, (∀ x ∈ xs, ∃ k : Nat, x = nV k) → ∃ dl : List Nat, xs = nVs dl
  | [], _ => ⟨[], rfl⟩
  | x :: r, h => by
    obtain ⟨k, hk⟩ := h x List.mem_cons_self
    obtain ⟨dl, hd⟩ := nat_list (xs := r) fun y hy => h y (List.mem_cons_of_mem _ hy)
    exact ⟨k :: dl, by rw [hk, hd]; rfl⟩
theorem x_par {i j : Nat} (h : ta σ H fun x H1 => tb σ H1 fun y H2 => ∃ u v, [x, y] = [u, v] ∧ tz D ((σ.set i (some u)).set j (some v)) H2) : tSeq (tPar i j (tCons ta (tCons tb tNil))) tz D σ H := h
end
section
variable {P : Program} {w : World} {K : PySem.W.Frag} {mg : Str → Option Value} {base : Heap}
def spLaw (K : PySem.W.Frag) : Sp := fun vs H Q _ => ∃ (a : Addr) (ns : List Int), vs = [.ref a] ∧ SqL K H a (ns.map V.int) ∧ ∀ H', Q (.bl true) H'
theorem ok_law {f : Addr} {fd : FuncData} (F : L2.Fun K "law" "law" s_law f fd) (B : Bt mg)
    (Crounds : Cal P w K mg base 4 "rounds" (spRounds K)) (Cleast_height : Cal P w K mg base 4 "least_height" spLeast) (Cshows_rounds : Cal P w K mg base 4 "shows_rounds" (spShows K))
    (C_law_taken : Cal P w K mg base 1 "_law_taken" (spTaken K)) (C_law_pick : Cal P w K mg base 2 "_law_pick" (spPick K)) (C_law_alike : Cal P w K mg base 1 "_law_alike" spAlike) (C_law_any : Cal P w K mg base 3 "_law_any" (spAny K)) (C_law_coming : Cal P w K mg base 3 "_law_coming" (spComing K))
    (C_law_tree : Cal P w K mg base 3 "_law_tree" (spTree K)) (C_law_depths : Cal P w K mg base 13 "_law_depths" (spDepths K 12)) (C_law_rounds : Cal P w K mg base 1 "_law_rounds" (spJudge K)) : FnOk P w K mg base CX0 14 f fd ["_law_script"] (spLaw K) := by
  refine F.ok s_law_sc (fun vs H Q E h => ?_) (fun cdv A outer s H vs Q E hr h => ?_)
  · obtain ⟨a, ns, rfl, _⟩ := h
    rfl
  · obtain ⟨a, ns, rfl, hs, k⟩ := h
    refine ⟨_, (pss_cons (ps_set (i := 1) s_law_sc.nd rfl (.inr rfl) (pe_lst (pa_cons (pv 0) (pa_cons pe_int (pa_cons pe_int (pa_cons pe_int pa_nil))))))
    (pss_cons (ps_set (i := 2) s_law_sc.nd rfl (.inr rfl) (pe_c C_law_pick hr (by decide) (by rfl) (pa_cons (pv 1) (pa_cons (pe_lst (pa_cons (pe_c C_law_any hr (by decide) (by rfl) (pa_cons (pv 1) (pa_cons pe_int pa_nil))) (pa_cons (pe_c C_law_coming hr (by decide) (by rfl) (pa_cons (pv 1) (pa_cons pe_int pa_nil))) pa_nil))) pa_nil))))
    (pss_cons (ps_par (i := 3) (j := 4) rfl s_law_sc.nd rfl rfl (by decide) rfl rfl (pa_cons (pe_c Crounds hr (by decide) (by rfl) (pa_cons (pv 2) pa_nil)) (pa_cons (pe_c Cleast_height hr (by decide) (by rfl) (pa_cons (pv 2) pa_nil)) pa_nil)) (by rfl))
    (pss_cons (ps_if (pt_cmpR op_isN (pv 4) pe_non (nomark _))
      (pss_one (ps_ret (pe_and (pe_cmpR op_isN (pv 3) pe_non (nomark _)) (pe_one (pe_cmpR op_isBl (pe_c Cshows_rounds hr (by decide) (by rfl) (pa_cons (pv 2) (pa_cons (pe_lst pa_nil) pa_nil))) pe_bl (nomark _))))))
      pss_nil)
    (pss_cons (ps_if (pw_or (pt_not (pt_val (pe_callB call_isi (by rfl) B.isinstance bt_isinstance (pa_cons (pv 3) (pa_cons (pe_bltn (v := .ty "list") (by rfl) B.list bt_list rfl) pa_nil))))) (pw_or (pt_cmpR op_ne (pe_callB call_len_seq (by rfl) B.len bt_len (pa_cons (pv 3) pa_nil)) (pv 4) (nomark _)) (pw_or (pt_not (pt_val (pe_c C_law_rounds hr (by decide) (by rfl) (pa_cons (pv 2) (pa_cons (pv 3) pa_nil))))) (pw_or1 (pt_cmpR op_notBl (pe_c Cshows_rounds hr (by decide) (by rfl) (pa_cons (pv 2) (pa_cons (pv 3) pa_nil))) pe_bl (nomark _)))))).pt
      (pss_one (ps_ret pe_bl))
      pss_nil)
    (pss_cons (ps_set (i := 5) s_law_sc.nd rfl (.inl rfl) (pe_c C_law_tree hr (by decide) (by rfl) (pa_cons (pv 1) (pa_cons (pv 2) pa_nil))))
    (pss_cons (ps_setLc (i := 6) (own := [("_law_turn", 7)]) (g := gName 7) rfl s_law_sc.nd rfl rfl (sw_true rfl rfl rfl (by decide +kernel)) (pi_range1 (by rfl) B.range (pa_cons (pe_callB (cr_max rfl) (by rfl) B.max bt_max (pa_cons (pe_c C_law_depths hr (by decide) (by rfl) (pa_cons (pv 5) (pa_cons pe_int (pa_cons (pe_op op_sub (pe_callB call_len_str (by rfl) B.len bt_len (pa_cons (pv 2) pa_nil)) pe_int) (pa_cons pe_int pa_nil))))) pa_nil)) pa_nil)) (blkOk_by (own := [("_law_turn", 7)]) (N := s_law_N) (sc := defScope s_law) (by decide +kernel)) (fun _ _ _ _ _ => pg_name (i := 7) s_law_sc.nd rfl (.inl rfl)) (fun _ _ _ _ _ => pts_nil) (fun _ _ _ _ _ => (pe_lst pa_nil)))
    (pss_cons (ps_set (i := 8) s_law_sc.nd rfl (.inl rfl) (pe_lst (pa_cons (pe_tup (pa_cons pe_int (pa_cons (pe_op op_sub (pe_callB call_len_str (by rfl) B.len bt_len (pa_cons (pv 2) pa_nil)) pe_int) (pa_cons (pe_callB call_len_seq (by rfl) B.len bt_len (pa_cons (pv 6) pa_nil)) pa_nil)))) pa_nil)))
    (pss_cons (ps_while PassesOwn.never (pt_cmpR (op_neD hr.units) (pv 8) (pe_lst pa_nil) (nomark _))
      (pss_cons (ps_asg (pe_bm0 PySem.F.plainAttrs_list PySem.F.slot_list_pop PySem.F.type_list_pop mt_pop (pv 8)) (pg_tup rfl (pgs_cons (pg_name (i := 9) s_law_sc.nd rfl (.inl rfl)) (pgs_cons (pg_name (i := 10) s_law_sc.nd rfl (.inl rfl)) (pgs_cons (pg_name (i := 11) s_law_sc.nd rfl (.inl rfl)) pgs_nil)))))
      (pss_one (ps_for PassesOwn.never rfl (pi_tup (pv 5)) (pg_name (i := 12) s_law_sc.nd rfl (.inl rfl))
        (pss_one (ps_if (pt_cmpR (op_eqD hr.units) (pe_tup (pa_cons (pe_ix ix_tup (pv 12) pe_int (fun _ _ => rfl)) (pa_cons (pe_ix ix_tup (pv 12) pe_int (fun _ _ => rfl)) pa_nil))) (pe_tup (pa_cons (pv 9) (pa_cons (pv 10) pa_nil))) (nomark _))
          (pss_cons (ps_expr (pe_bm PySem.F.plainAttrs_list PySem.F.slot_list_append PySem.F.type_list_append mt_append (pe_ix ix_list (pv 6) (pe_op op_sub (pv 11) pe_int) (fun _ _ => rfl)) (pa_cons (pe_ix ix_tup (pv 12) pe_int (fun _ _ => rfl)) pa_nil)))
          (pss_one (ps_set (i := 8) s_law_sc.nd rfl (.inl rfl) (pe_op op_cat (pv 8) (pe_lst (pa_cons (pe_tup (pa_cons (pv 9) (pa_cons (pe_ix ix_tup (pv 12) pe_int (fun _ _ => rfl)) (pa_cons (pe_op op_sub (pv 11) pe_int) pa_nil)))) (pa_cons (pe_tup (pa_cons (pe_ix ix_tup (pv 12) pe_int (fun _ _ => rfl)) (pa_cons (pv 10) (pa_cons (pe_op op_sub (pv 11) pe_int) pa_nil)))) pa_nil)))))))
          pss_nil))))))
    (pss_cons (ps_setLc (i := 13) (own := [("_law_some", 14)]) (g := gName 14) rfl s_law_sc.nd rfl rfl (sw_true rfl rfl rfl (by decide +kernel)) (pi_list (pv 6)) (blkOk_by (own := [("_law_some", 14)]) (N := s_law_N) (sc := defScope s_law) (by decide +kernel)) (fun _ _ _ _ _ => pg_name (i := 14) s_law_sc.nd rfl (.inl rfl)) (fun _ _ _ _ _ => pts_nil) (fun _ _ _ _ _ => (pe_tupleOf_K (K := K) rfl (by rfl) B.tuple (pe_callB (cr_sortedI_K (K := K) rfl) (by rfl) B.sorted bt_sorted (pa_cons (pv 14) pa_nil)))))
    (pss_cons (ps_if (pt_not (pt_val (pe_c C_law_alike hr (by decide) (by rfl) (pa_cons (pe_c Cshows_rounds hr (by decide) (by rfl) (pa_cons (pv 2) (pa_cons (pv 13) pa_nil))) (pa_cons (pe_and (pe_cmpR op_eq (pe_callB call_len_seq (by rfl) B.len bt_len (pa_cons (pv 13) pa_nil)) (pv 4) (nomark _)) (pe_one (pe_c C_law_rounds hr (by decide) (by rfl) (pa_cons (pv 2) (pa_cons (pv 13) pa_nil))))) pa_nil)))))
      (pss_one (ps_ret pe_bl))
      pss_nil)
    (pss_cons (ps_set (i := 15) s_law_sc.nd rfl (.inl rfl) (pe_c C_law_coming hr (by decide) (by rfl) (pa_cons (pv 1) (pa_cons pe_int pa_nil))))
    (pss_cons (ps_set (i := 16) s_law_sc.nd rfl (.inr rfl) (pe_c Cleast_height hr (by decide) (by rfl) (pa_cons (pv 15) pa_nil)))
    (pss_cons (ps_for PassesOwn.never rfl (pi_range1 (by rfl) B.range (pa_cons pe_int pa_nil)) (pg_name (i := 7) s_law_sc.nd rfl (.inl rfl))
      (pss_cons (ps_set (i := 17) s_law_sc.nd rfl (.inr rfl) (pe_lc (own := [("_law_place", 18)]) (g := gName 18) rfl (by exact s_law_sc.nd) (pi_range2 (by rfl) B.range (pa_cons pe_int (pa_cons (pe_op op_sub (pe_callB call_len_str (by rfl) B.len bt_len (pa_cons (pv 15) pa_nil)) pe_int) pa_nil))) (blkOk_by (own := [("_law_place", 18)]) (N := s_law_N) (sc := defScope s_law) (by decide +kernel)) (fun _ _ _ _ _ => pg_name (i := 18) s_law_sc.nd rfl (.inl rfl)) (fun _ _ _ _ _ => pts_nil) (fun _ _ _ _ _ => (pe_c C_law_taken hr (by decide) (by rfl) (pa_cons (pv 1) (pa_cons (pe_callB (call_max2 rfl) (by rfl) B.max bt_max (pa_cons pe_int (pa_cons (pv 16) pa_nil))) pa_nil))))))
      (pss_cons (ps_setLc (i := 6) (own := [("_law_when", 11)]) (g := gName 11) rfl s_law_sc.nd rfl rfl (sw_true rfl rfl rfl (by decide +kernel)) (pi_range1 (by rfl) B.range (pa_cons (pv 16) pa_nil)) (blkOk_by (own := [("_law_when", 11)]) (N := s_law_N) (sc := defScope s_law) (by decide +kernel)) (fun _ _ _ _ _ => pg_name (i := 11) s_law_sc.nd rfl (.inr rfl)) (fun _ _ _ _ _ => pts_nil) (fun _ _ _ _ _ => (pe_tupleOf_K (K := K) rfl (by rfl) B.tuple (pe_lc (own := [("_law_place", 18)]) (g := gName 18) rfl (by exact s_law_sc.nd) (pi_range1 (by rfl) B.range (pa_cons (pe_callB (call_len_seq_K (K := K) rfl) (by rfl) B.len bt_len (pa_cons (pv 17) pa_nil)) pa_nil)) (blkOk_by (own := [("_law_place", 18)]) (N := s_law_N) (sc := (relS s_law_outer (defScope s_law))) (by decide +kernel)) (fun _ _ _ _ _ => pg_name (i := 18) s_law_sc.nd rfl (.inl rfl)) (fun _ _ _ _ _ => pts_one (pt_cmpR op_eq (pe_ix (ix_list_K (K := K) rfl) (pv 17) (pv 18) (fun _ _ => rfl)) (pv 11) (nomark _))) (fun _ _ _ _ _ => (pe_op op_add (pv 18) pe_int))))))
      (pss_one (ps_if (pt_not (pt_val (pe_c C_law_alike hr (by decide) (by rfl) (pa_cons (pe_c Cshows_rounds hr (by decide) (by rfl) (pa_cons (pv 15) (pa_cons (pv 6) pa_nil))) (pa_cons (pe_c C_law_rounds hr (by decide) (by rfl) (pa_cons (pv 15) (pa_cons (pv 6) pa_nil))) pa_nil)))))
        (pss_one (ps_ret pe_bl))
        pss_nil)))))
    (pss_cons (ps_set (i := 19) s_law_sc.nd rfl (.inl rfl) (pe_lst (pa_cons pe_non (pa_cons (pe_tupleOf (by rfl) B.tuple (pv 3)) (pa_cons (pe_op op_cat (pv 3) (pe_lst (pa_cons (pe_tup pa_nil) pa_nil))) (pa_cons (pe_op op_rep (pe_lst (pa_cons (pe_tup (pa_cons pe_int pa_nil)) pa_nil)) (pe_op op_add (pv 4) pe_int)) (pa_cons (pe_op op_rep (pe_lst (pa_cons (pe_tup (pa_cons pe_int pa_nil)) pa_nil)) (pe_op op_add (pv 4) pe_int)) pa_nil)))))))
    (pss_cons (ps_if (pt_cmpR op_gt (pv 4) pe_int (nomark _))
      (pss_one (ps_set (i := 19) s_law_sc.nd rfl (.inl rfl) (pe_op op_cat (pv 19) (pe_lst (pa_cons (pe_lc (own := [("_law_some", 14)]) (g := gName 14) rfl (by exact s_law_sc.nd) (pi_list (pv 3)) (blkOk_by (own := [("_law_some", 14)]) (N := s_law_N) (sc := defScope s_law) (by decide +kernel)) (fun _ _ _ _ _ => pg_name (i := 14) s_law_sc.nd rfl (.inl rfl)) (fun _ _ _ _ _ => pts_nil) (fun _ _ _ _ _ => (pe_callTy (call_list_of_K (K := K) rfl) (by rfl) B.list bt_list (pa_cons (pv 14) pa_nil)))) (pa_cons (pe_slice sl_list (pv 3) (po_some pe_int) po_none) (pa_cons (pe_op op_rep (pe_lst (pa_cons (pe_tup (pa_cons pe_int pa_nil)) pa_nil)) (pv 4)) (pa_cons (pe_op op_rep (pe_lst (pa_cons (pe_tup (pa_cons pe_non pa_nil)) pa_nil)) (pv 4)) (pa_cons (pe_op op_rep (pe_lst (pa_cons (pe_tup (pa_cons (pe_op op_sub (pe_callB call_len_str (by rfl) B.len bt_len (pa_cons (pv 2) pa_nil)) pe_int) pa_nil)) pa_nil)) (pv 4)) pa_nil)))))))))
      pss_nil)
    (pss_one (ps_ret (pe_cmpR (op_eqD hr.units) (pe_lc (own := [("_law_one", 20)]) (g := gName 20) rfl (by exact s_law_sc.nd) (pi_list (pv 19)) (blkOk_by (own := [("_law_one", 20)]) (N := s_law_N) (sc := defScope s_law) (by decide +kernel)) (fun _ _ _ _ _ => pg_name (i := 20) s_law_sc.nd rfl (.inl rfl)) (fun _ _ _ _ _ => pts_one (pt_cmpR op_notBl (pe_c Cshows_rounds hr (by decide) (by rfl) (pa_cons (pv 2) (pa_cons (pv 20) pa_nil))) pe_bl (nomark _))) (fun _ _ _ _ _ => (pv 20))) (pe_lst pa_nil) (nomark _)))))))))))))))))))), ?_⟩
    -- row
    refine q_asgL (xs := [.ref a, .int 0, .int 4954, .int 0]) (el_lst (ea_cons (ev_var rfl) (ea_cons ev_c (ea_cons ev_c (ea_cons ev_c ea_nil)))) (by show 4 ≤ 100000; decide)) fun p H1 p0 e1 h1 => ?_
    have R1 : Row K H1 p a := ⟨ns, 0, 4954, 0, h1, ex_l e1 hs, Int.le_refl 0⟩
    clear hs
    -- word
    refine x_asg (x_call2 (x_var rfl (x_lst2 (x_call2 (x_var rfl ?_)))))
    refine ⟨p, a, 7, rfl, R1, by decide, by decide, fun c1 H2 W1 l1 x2 R2 => ?_⟩
    refine x_call2 (x_var rfl ⟨p, a, 12, rfl, R2, by decide, by decide, fun c2 H3 W2 ht2 l2 x3 R3 => ?_⟩)
    refine ⟨sz_of (by show 2 ≤ 100000; decide), fun th hth => ?_⟩
    have R3' := R3.ex (Ex.new (o := .lst [Wv c1, Wv c2]) hth)
    obtain ⟨zs3, hzs3⟩ := R3.lst
    refine ⟨p, a, .ref th, [Wv c1, Wv c2], rfl, R3', .inr ⟨th, rfl, (ne_of_none hzs3 hth).symm, sq_of upd_same⟩, by show 0 < 2; decide, by show 2 ≤ 1000; decide, fun x H4 hx x4 R4 => ?_⟩
    obtain ⟨ws, rfl, W, hz⟩ : ∃ ws, x = Wv ws ∧ IsW ws ∧ ws.length ≤ 12 := by
      rcases List.mem_cons.mp hx with z | z
      · exact ⟨c1, z, W1, by omega⟩
      · exact ⟨c2, List.mem_singleton.mp z, W2, l2⟩
    clear hx x4 R3' hzs3 hth th R3 x3 l2 ht2 W2 R2 x2 l1 W1 c1 c2 R1 h1 e1 p0 H1 H2 H3
    have h2 := W.two
    -- found, best
    refine x_par (x_call1 (x_var rfl ?_))
    refine ⟨ws, rfl, W, by omega, fun hT => ?_, fun M hT => ?_⟩
    · -- no tree
      intro H5 e5
      refine x_call1 (x_var rfl ⟨ws, rfl, W, by omega, fun H6 e6 => ⟨_, _, rfl, ?_⟩⟩)
      rw [hT]
      show tSeq _ _ _ [some (.ref a), some (.ref p), some (Wv ws), some .non, some .non, none, none, none, none, none, none, none, none, none, none, none, none, none, none, none, none] H6
      refine q_when (b := true) (et_test (ev_op (ev_var rfl) ev_c rv_isN)) (fun _ H7 e7 => ?_) (fun z => nomatch z)
      refine s_ret (v := .bl true) (ev_andV (a := true) (b := true) (ev_op (ev_var rfl) ev_c rv_isN) fun _ => ev_op (x := .bl false) (ev_cVL (ev_var rfl) (el_lst ea_nil (Nat.zero_le _)) fun q H8 e8 h8 Q k E => ⟨ws, _, _, rfl, W, by omega, .noTree _ hT, k⟩) ev_c rv_isB) fun H8 _ => k H8
    · intro fp H5 nss f0 e5 rd
      obtain ⟨hl, ⟨us, hf, L⟩, hperm⟩ := rd
      have R5 := R4.ex e5
      obtain ⟨zs5, hzs5⟩ := R4.lst
      have fpp : fp ≠ p := (ne_of_none hzs5 f0).symm
      refine x_call1 (x_var rfl ⟨ws, rfl, W, by omega, fun H6 e6 => ⟨_, _, rfl, ?_⟩⟩)
      rw [hT]
      have hf6 := e6 fp _ hf
      have L6 := L.ex e6
      have R6 := R5.ex e6
      clear R5 hzs5 hf L e5 f0 R4 H4 e6
      clear H5
      show tSeq _ _ _ [some (.ref a), some (.ref p), some (Wv ws), some (.ref fp), some (nV M), none, none, none, none, none, none, none, none, none, none, none, none, none, none, none, none] H6
      have hM := T_le _ 0 (ws.length - 1) M (Nat.le_refl _) (by omega) hT
      have usl : us.length = M := L6.len.trans hl
      have sml : ∀ sm ∈ nss, sm.length ≤ 60 := fun sm hm => by
        obtain ⟨i, hi, e⟩ := List.getElem_of_mem hm
        have q := (hperm i sm (by rw [List.getElem?_eq_getElem hi, e])).2.length_eq
        have a2 := sel_len (i + 1) (Mq ws 0 (ws.length - 1) M)
        have a3 := mq_len (ws.length - 1 - 0) 0 (ws.length - 1) M M (Nat.le_refl _) hT
        have a3 : (Mq ws 0 (ws.length - 1) M).length ≤ ws.length - 1 - 0 := a3
        omega
      have good : lr ws nss (List.range ws.length) = true := rounds_good h2 hT hl hperm
      have srlr : ∀ vs, sr ws vs (List.range ws.length) = lr ws vs (List.range ws.length) := fun vs => sr_eq vs (LInv.range h2)
      refine q_when (b := false) (et_test (ev_op (ev_var rfl) ev_c rv_isN)) (fun z => nomatch z) fun _ H7 e7 => ?_
      have hf7 := e7 fp _ hf6
      have L7 := L6.ex e7
      have R7 := R6.ex e7
      clear hf6 L6 R6 e7
      clear H6
      refine q_retF (b := false) (et_or (a := false) (b := false) (et_not (et_B (ev_isi (K := K) (t := "list") (b := true) (ev_var rfl) ev_c (fun _ e => ty_L (ex_l e (sq_of hf7))) (by decide +kernel)))) fun _ => et_or (a := false) (b := false) (et_is (et_test (ev_op (ev_len (K := K) (ev_var rfl) (sq_of hf7)) (ev_var rfl) rv_neI)) (by rw [usl]; simp)) fun _ =>
        et_or (a := false) (b := false) (et_not (a := true) (et_B (ev_c1 (ea_cons (ev_var rfl) (ea_cons (ev_var rfl) ea_nil)) fun H8 e8 Q k E => ⟨ws, fp, us, nss, rfl, ex_l e8 (sq_of hf7), L7.ex e8, h2, by omega, sml, by rw [good]; exact k⟩))) fun _ =>
        et_test (ev_op (x := .bl true) (ev_c1 (ea_cons (ev_var rfl) (ea_cons (ev_var rfl) ea_nil)) fun H8 e8 Q k E => ⟨ws, _, _, rfl, W, by omega, .ok (ex_l e8 (sq_of hf7)) (by rw [hl]; exact hT) (L7.ex e8) fun sm hm => by have := sml sm hm; omega, by rw [srlr, good]; exact k⟩) ev_c rv_notB)) (fun z => nomatch z) fun _ H8 e8 => ?_
      have hf8 := e8 fp _ hf7
      have L8 := L7.ex e8
      have R8 := R7.ex e8
      clear hf7 L7 R7 e8
      clear H7
      -- tree
      refine x_asg (x_call2 (x_var rfl (x_var rfl ⟨p, a, ws, rfl, R8, HTw.good W (by rw [HTw, HT, hT]; rfl), by omega, fun tq H9 tus F tr hFl htq hlc x9 R9 => ?_⟩)))
      have hf9 : H9 fp = some (.lst us) := x9 fp _ fpp hf8
      have L9 : LT K H9 us nss := L8.xp R8 x9
      clear hf8 L8 R8 x9
      clear H8
      show tSeq _ _ _ [some (.ref a), some (.ref p), some (Wv ws), some (.ref fp), some (nV M), some (.ref tq), none, none, none, none, none, none, none, none, none, none, none, none, none, none, none] H9
      have hW := Ht_le tr (ws.length - 1 - 0) 0 (ws.length - 1) (Nat.le_refl _) tr.top
      generalize hWe : Ht F 0 (ws.length - 1) = W0 at hW
      -- value = [[] for turn in range(..)]
      refine q_lcNew (n := (W0 : Int)) (ea_cons (ev_is (ev_maxDepths (K := K) (d := 12) (q := tq) (l := 0) (h := ws.length - 1) (ea_cons (ev_var rfl) (ea_cons ev_c (ea_cons (ev_int (ev_op (ev_lenW (ev_var rfl) (by omega)) ev_c rv_I0) (show (ws.length : Int) - 1 = ((ws.length - 1 : Nat) : Int) by omega)) (ea_cons ev_c ea_nil)))) (st_of htq) hlc hFl tr tr.top (by omega) (by omega) (by omega)) (by rw [hWe])) ea_nil) (by omega) (fun _ => rfl) fun g ps H10 hg hps e10 LV => ?_
      rw [show (W0 : Int).toNat = W0 from rfl] at LV
      have lenps : ps.length = W0 := by have := LV.len; rw [List.length_replicate] at this; exact this
      -- deep = [(0, len(word) - 1, len(value))]
      refine q_lst1 (xs := nVs [0, ws.length - 1, W0]) (eu_tup (ea_cons ev_c (ea_cons (ev_int (ev_op (ev_lenW (ev_var rfl) (by omega)) ev_c rv_I0) (by omega)) (ea_cons (ev_int (ev_len (K := K) (ev_var rfl) (sq_of LV.hd)) (by rw [List.length_map, lenps])) ea_nil))) (by show 3 ≤ 100000; decide)) fun r q H11 hr' e11 h11 hq11 => ?_
      have r0 : H9 r = none := fresh_back e10 hr'
      have rg : r ≠ g := fun z => by rw [z, LV.hd] at hr'; cases hr'
      have rps : r ∉ ps := fun z => by
        obtain ⟨ns, e⟩ := LV.mem z
        rw [e] at hr'
        cases hr'
      -- while deep != []
      refine q_while (fun m σ' H' => ∃ (stack : List S3) (us : List V) (r : Addr) (rows : List (List Nat)), ms stack = m ∧ Ex H9 H' ∧ LL H' g ps rows ∧ H9 r = none ∧ r ≠ g ∧ r ∉ ps ∧ H' r = some (.lst us) ∧ LT K H' us (stack.map t3) ∧ rows.length = W0 ∧
          (∀ x ∈ stack, SOk F ws.length W0 x) ∧ (∀ (k : Nat) rk, rows[k]? = some rk → rk.length + ms stack ≤ 60) ∧
          ∃ a7 a9 a10 a11 a12, σ' = [some (.ref a), some (.ref p), some (Wv ws), some (.ref fp), some (nV M), some (.ref tq), some (.ref g), a7, some (.ref r), a9, a10, a11, a12, none, none, none, none, none, none, none, none]) (ms [(0, ws.length - 1, W0)])
        ⟨[(0, ws.length - 1, W0)], [.ref q], r, List.replicate W0 [], rfl, e10.trans e11, LV.ex e11, r0, rg, rps, h11, LT.one (st_of hq11), List.length_replicate, fun x hx => ?_, fun k rk hrk => ?_, _, _, _, _, _, rfl⟩ (fun m σ' H' pv => ?_)
      · obtain rfl := List.mem_singleton.mp hx
        exact ⟨by show 0 < ws.length - 1; omega, Nat.le_refl _, tr.top, by show Ht F 0 (ws.length - 1) ≤ W0; omega, Nat.le_refl _⟩
      · obtain ⟨b1, b2⟩ := List.getElem?_eq_some_iff.mp hrk
        rw [List.getElem_replicate] at b2
        subst b2
        show 0 + (2 * (ws.length - 1 - 0) - 1 + 0) ≤ 60
        omega
      · obtain ⟨stack, vs, r, rows, rfl, ee, L', r0, rg, rps, hus, hlt, hrl, hst, hrk, a7, a9, a10, a11, a12, rfl⟩ := pv
        refine ⟨!((stack.map t3).map tD).isEmpty, et_test (ev_neNil (ev_var rfl) (fun H6 e6 => .lst (sq_of (e6 r _ hus)) (hlt.ex e6).dp) (sh_TL _)), fun hb H12 e12 => ?_, fun hb H12 e12 => ?_⟩
        · refine ⟨fun σ2 H2 => ∃ m', m' < ms stack ∧ ∃ (stack : List S3) (us : List V) (r : Addr) (rows : List (List Nat)), ms stack = m' ∧ Ex H9 H2 ∧ LL H2 g ps rows ∧ H9 r = none ∧ r ≠ g ∧ r ∉ ps ∧ H2 r = some (.lst us) ∧ LT K H2 us (stack.map t3) ∧ rows.length = W0 ∧
              (∀ x ∈ stack, SOk F ws.length W0 x) ∧ (∀ (k : Nat) rk, rows[k]? = some rk → rk.length + ms stack ≤ 60) ∧
              ∃ a7 a9 a10 a11 a12, σ2 = [some (.ref a), some (.ref p), some (Wv ws), some (.ref fp), some (nV M), some (.ref tq), some (.ref g), a7, some (.ref r), a9, a10, a11, a12, none, none, none, none, none, none, none, none], fun _ _ z => z, ?_⟩
          obtain ⟨st, x, rfl⟩ : ∃ st x, stack = st ++ [x] := by
            rcases List.eq_nil_or_concat stack with z | ⟨st, x, z⟩
            · rw [z] at hb; cases hb
            · exact ⟨st, x, by rw [z]; simp⟩
          obtain ⟨l, h, wn⟩ := x
          have so : SOk F ws.length W0 (l, h, wn) := hst (l, h, wn) (by simp)
          have hst' : ∀ x ∈ st, SOk F ws.length W0 x := fun x hx => hst x (List.mem_append_left _ hx)
          have lh : l < h := so.lt
          rw [List.map_append] at hlt
          obtain ⟨us', q, rfl, hlt', hq⟩ := LT.pop (ns := [l, h, wn]) hlt
          rw [ms_snoc] at hrk ⊢
          have hrk : ∀ (k : Nat) rk, rows[k]? = some rk → rk.length + (ms st + (2 * (h - l) - 1)) ≤ 60 := hrk
          refine q_pop3 (K := K) (ev_var rfl) (e12 r _ hus) (ex_t e12 hq) fun H13 e13 => ?_
          have hr13 : H13 r = some (.lst (us' ++ [.ref q])) := e13 r _ (e12 r _ hus)
          have e67 := e12.trans e13
          have E14 : Ex H9 (upd H13 r (.lst us')) := Ex.mut (ee.trans e67) r0
          have L14 : LL (upd H13 r (.lst us')) g ps rows := (L'.ex e67).other rg rps
          have lt14 : LT K (upd H13 r (.lst us')) us' (st.map t3) := (hlt'.ex e67).exT (ExT.lst hr13)
          have hr14 : upd H13 r (.lst us') r = some (.lst us') := upd_same
          generalize upd H13 r (.lst us') = H14 at E14 L14 lt14 hr14 ⊢
          show tFor _ _ _ _ [some (.ref a), some (.ref p), some (Wv ws), some (.ref fp), some (nV M), some (.ref tq), some (.ref g), a7, some (.ref r), some (nV l), some (nV h), some (nV wn), a12, none, none, none, none, none, none, none, none] H14
          -- for corner in tree
          refine s_forT (K := K) (a := tq) (xs := tus) (ev_var rfl) (st_of (E14 tq _ htq)) (fun i σ' H' => ∃ (stack : List S3) (us : List V) (r : Addr) (rows' : List (List Nat)), ms stack < ms st + (2 * (h - l) - 1) ∧ Ex H9 H' ∧ LL H' g ps rows' ∧ H9 r = none ∧ r ≠ g ∧ r ∉ ps ∧ H' r = some (.lst us) ∧ LT K H' us (stack.map t3) ∧ rows'.length = W0 ∧
              (∀ x ∈ stack, SOk F ws.length W0 x) ∧ (∀ (k : Nat) rk, rows'[k]? = some rk → rk.length + ms stack ≤ 60) ∧ ((stack = st ∧ rows' = rows) ∨ ∃ j, j < i ∧ ∃ c, F[j]? = some c ∧ hit l h c = true) ∧
              ∃ a12, σ' = [some (.ref a), some (.ref p), some (Wv ws), some (.ref fp), some (nV M), some (.ref tq), some (.ref g), a7, some (.ref r), some (nV l), some (nV h), some (nV wn), a12, none, none, none, none, none, none, none, none])
            (fun H15 e15 => ⟨st, us', r, rows, by omega, E14.trans e15, L14.ex e15, r0, rg, rps, e15 r _ hr14, lt14.ex e15, hrl, hst', fun k rk hk => by have := hrk k rk hk; omega, .inl ⟨rfl, rfl⟩, _, rfl⟩) (fun i σ' H' _ pv => ?_) (fun i x σ' H' hx pv => ?_) (fun σ' H' pv => ?_)
          · obtain ⟨_, _, _, _, _, e, _⟩ := pv
            exact st_of (e tq _ htq)
          · obtain ⟨stack, us, r, rows', hms, eec, Lc, r0c, rgc, rpsc, husc, hltc, hrlc, hstc, hrk', hcase, a12, rfl⟩ := pv
            obtain ⟨b, c, rfl, hc, hbq⟩ := (hlc.ex eec).at hx
            show tIfS _ _ _ _ [some (.ref a), some (.ref p), some (Wv ws), some (.ref fp), some (nV M), some (.ref tq), some (.ref g), a7, some (.ref r), some (nV l), some (nV h), some (nV wn), some (.ref b), none, none, none, none, none, none, none, none] H'
            refine s_when (et_hit (K := K) (ev_var rfl) hbq (ev_var rfl) (ev_var rfl)) (fun hh H16 e16 => ?_) (fun hh H16 e16 => ?_)
            · have hcm : c ∈ F := List.mem_of_getElem? hc
              obtain ⟨w1, _, _, k1, k2, k3, k4⟩ := SOk.kids tr so hcm hh
              have hA : stack = st ∧ rows' = rows := by
                refine hcase.resolve_right ?_
                rintro ⟨j, hj, c2, hc2, hh2⟩
                obtain ⟨i1, i2⟩ := List.getElem?_eq_some_iff.mp hc
                obtain ⟨j1, j2⟩ := List.getElem?_eq_some_iff.mp hc2
                refine List.pairwise_iff_getElem.mp tr.uni j i j1 i1 hj ?_
                rw [i2, j2]
                have z1 := of_decide_eq_true hh
                have z2 := of_decide_eq_true hh2
                exact ⟨z2.1.trans z1.1.symm, z2.2.trans z1.2.symm⟩
              obtain ⟨rfl, rfl⟩ := hA
              have wle : wn ≤ W0 := so.top
              obtain ⟨pa, rk, hp, hrk2, hpl⟩ := Lc.both (k := wn - 1) (by omega)
              have rkl := hrk (wn - 1) rk hrk2
              have hb16 := ex_t e16 hbq
              refine q_appAt (K := K) (i := wn - 1) (m := c.2.1) (ns := rk) (Lc.ex e16) (ev_var rfl) (ev_int (ev_op (ev_var rfl) ev_c rv_I0) (by omega)) hp hrk2 (ev_op (ev_var rfl) ev_c (rv_ixT (K := K) hb16 (atI_nat (j := 1) rfl))) (by omega) fun H17 e17 => ?_
              have e617 := e16.trans e17
              have hp17 : H17 pa = some (.lst (nVs rk)) := e617 pa _ hpl
              have pm : pa ∈ ps := List.mem_of_getElem? hp
              have E18 : Ex H9 (upd H17 pa (.lst (nVs (rk ++ [c.2.1])))) := Ex.mut (eec.trans e617) (hps pa pm)
              have L18 := (Lc.ex e617).put (ms := rk ++ [c.2.1]) hp
              have lt18 : LT K (upd H17 pa (.lst (nVs (rk ++ [c.2.1])))) us (stack.map t3) := (hltc.ex e617).exT (ExT.lst hp17)
              have hb18 : SqT K (upd H17 pa (.lst (nVs (rk ++ [c.2.1])))) b (nVs (c3l c)) := (ExT.lst hp17).sq (ex_t e17 hb16)
              have hr18 : upd H17 pa (.lst (nVs (rk ++ [c.2.1]))) r = some (.lst us) := by
                have hne : r ≠ pa := fun z => rpsc (by rw [z]; exact pm)
                rw [upd_ne hne]
                exact e617 r _ husc
              generalize upd H17 pa (.lst (nVs (rk ++ [c.2.1]))) = H18 at E18 L18 lt18 hb18 hr18 ⊢
              have hml := ms_len (s := stack) fun x hx => (hstc x hx).lt
              have lus : us.length = stack.length := by rw [lt18.len, List.length_map]
              refine s_cat2 (r := r) (us := us) (xs := nVs [l, c.2.1, wn - 1]) (ys := nVs [c.2.1, h, wn - 1]) (ev_var rfl) hr18 (eu_tup (ea_cons (ev_var rfl) (ea_cons (ev_op (ev_var rfl) ev_c (rv_ixT (K := K) hb18 (atI_nat (j := 1) rfl))) (ea_cons (ev_int (ev_op (ev_var rfl) ev_c rv_I0) (by omega)) ea_nil))) (by show 3 ≤ 100000; decide)) (eu_tup (ea_cons (ev_op (ev_var rfl) ev_c (rv_ixT (K := K) hb18 (atI_nat (j := 1) rfl))) (ea_cons (ev_var rfl) (ea_cons (ev_int (ev_op (ev_var rfl) ev_c rv_I0) (by omega)) ea_nil))) (by show 3 ≤ 100000; decide)) (by omega) fun r' p1 q1 H19 nr' e19 hr19 hp19 hq19 => ?_
              have mse : ms (stack ++ [(l, c.2.1, wn - 1), (c.2.1, h, wn - 1)]) = ms stack + (2 * (c.2.1 - l) - 1) + (2 * (h - c.2.1) - 1) := ms_two _ _ _
              refine ⟨stack ++ [(l, c.2.1, wn - 1), (c.2.1, h, wn - 1)], _, r', rows'.set (wn - 1) (rk ++ [c.2.1]), by omega, E18.trans e19, L18.ex e19, fresh_back E18 nr', fun z => ?_, fun z => ?_, hr19, ?_, by rw [List.length_set]; exact hrlc, fun x hx => ?_, fun k rk' hk' => ?_, .inr ⟨i, Nat.lt_succ_self i, c, hc, hh⟩, _, rfl⟩
              · rw [z, L18.hd] at nr'
                cases nr'
              · obtain ⟨ns, e⟩ := L18.mem z
                rw [e] at nr'
                cases nr'
              · rw [List.map_append]
                refine (lt18.ex e19).app ?_
                exact .cons ⟨p1, rfl, st_of hp19⟩ (.cons ⟨q1, rfl, st_of hq19⟩ .nil)
              · rcases List.mem_append.mp hx with z | z
                · exact hstc x z
                · rcases List.mem_cons.mp z with z | z
                  · rw [z]
                    exact k3
                  · rw [List.mem_singleton.mp z]
                    exact k4
              · rw [mse]
                by_cases ck : k = wn - 1
                · subst ck
                  have hk2 : wn - 1 < rows'.length := by omega
                  rw [List.getElem?_set_self hk2] at hk'
                  obtain rfl : rk ++ [c.2.1] = rk' := Option.some.inj hk'
                  rw [List.length_append]
                  show rk.length + 1 + _ ≤ 60
                  omega
                · rw [List.getElem?_set_ne (Ne.symm ck)] at hk'
                  have := hrk k rk' hk'
                  omega
            · refine ⟨stack, us, r, rows', hms, eec.trans e16, Lc.ex e16, r0c, rgc, rpsc, e16 r _ husc, hltc.ex e16, hrlc, hstc, hrk', ?_, _, rfl⟩
              rcases hcase with z | ⟨j, hj, z⟩
              · exact .inl z
              · exact .inr ⟨j, Nat.lt_succ_of_lt hj, z⟩
          · obtain ⟨stack, us, r, rows', hms, ee, L', r0, rg, rps, hus, hlt, hrl, hst, hrk', hcase, a12, rfl⟩ := pv
            exact ⟨ms stack, hms, stack, us, r, rows', rfl, ee, L', r0, rg, rps, hus, hlt, hrl, hst, hrk', _, _, _, _, _, rfl⟩
        · have e9 := ee.trans e12
          have L12 := L'.ex e12
          have row60 : ∀ (k : Nat) rk, rows[k]? = some rk → rk.length ≤ 60 := fun k rk h => by have := hrk k rk h; omega
          -- other
          refine x_asg (ev_srtRows (K := K) (ev_var rfl) L12 (by omega) (fun _ => rfl) (fun _ => rfl) H12 (Ex.refl _) _ fun oq H13 ous onss _ e13 ho hlo srt => ?_)
          have e913 := e9.trans e13
          have R13 := R9.ex e913
          have hf13 := e913 fp _ hf9
          have L13 := L9.ex e913
          have onl : onss.length = W0 := srt.1.trans hrl
          have osl : ∀ sm ∈ onss, sm.length ≤ 60 := fun sm hm => by
            obtain ⟨i, hi, e⟩ := List.getElem_of_mem hm
            obtain ⟨rk, q1, _, q2⟩ := srt.2 i sm (by rw [List.getElem?_eq_getElem hi, e])
            rw [q2.length_eq]
            exact row60 i rk q1
          clear srt row60 L12 e9 hb hst hrk hus hlt L' ee e12 hrl r0 rg rps e913 R9 hf9 L9 hlc htq hFl
          show tSeq _ _ _ [some (.ref a), some (.ref p), some (Wv ws), some (.ref fp), some (nV M), some (.ref tq), some (.ref g), a7, some (.ref r), a9, a10, a11, a12, some (.ref oq), none, none, none, none, none, none, none] H13
          -- alike
          refine q_retF (b := false) (et_not (a := true) (et_B ?_)) (fun z => nomatch z) fun _ H14 e14 => ?_
          · have sh : SA K ws H13 (.ref oq) (decide (W0 = M) && lr ws onss (List.range ws.length)) := by
              by_cases c : W0 = M
              · have q := SA.ok (K := K) (cs := ws) (sq_of ho) (by rw [onl, c]; exact hT) hlo fun sm hm => by have := osl sm hm; omega
                rw [srlr] at q
                rw [decide_eq_true c, Bool.true_and]
                exact q
              · rw [decide_eq_false c, Bool.false_and]
                exact .len (sq_of ho) (by
                  rw [hlo.len, onl, hT]
                  intro z
                  exact c (Option.some.inj z).symm)
            generalize hjb : (decide (W0 = M) && lr ws onss (List.range ws.length)) = jb at sh
            refine ev_is (ev_c1 (ea_cons (x := .bl jb) (ev_c1 (ea_cons (ev_var rfl) (ea_cons (ev_var rfl) ea_nil)) fun H15 e15 Q k E => ⟨ws, _, jb, rfl, W, by omega, sh.ex e15, k⟩) (ea_cons (x := .bl jb) (ev_is (ev_andV (a := decide (W0 = M)) (b := lr ws onss (List.range ws.length)) (ev_is (ev_op (ev_len (K := K) (ev_var rfl) (sq_of ho)) (ev_var rfl) rv_eqI) ?_) fun _ => ev_c1 (ea_cons (ev_var rfl) (ea_cons (ev_var rfl) ea_nil)) fun H15 e15 Q k E => ⟨ws, oq, ous, onss, rfl, ex_l e15 (sq_of ho), hlo.ex e15, h2, by omega, osl, k⟩) (by rw [hjb])) ea_nil)) fun H15 e15 Q k E => ⟨jb, jb, rfl, k⟩) (by rw [decide_eq_true rfl])
            rw [hlo.len, onl]
            exact congrArg V.bl (decide_eq_decide.mpr (by omega))
          have R14 := R13.ex e14
          have hf14 := e14 fp _ hf13
          have L14 := L13.ex e14
          clear R13 hf13 L13 hlo ho osl onl e13 e14
          -- small
          refine x_asg (x_call2 (x_var rfl ⟨p, a, 6, rfl, R14, by decide, by decide, fun ds H15 W2 ht2 l2 x15 R15 => ?_⟩))
          have hf15 : H15 fp = some (.lst us) := x15 fp _ fpp hf14
          have L15 : LT K H15 us nss := L14.xp R14 x15
          clear R14 hf14 L14 x15
          obtain ⟨R, hT2⟩ := Option.isSome_iff_exists.mp ht2
          have d2 := W2.two
          have hR := T_le _ 0 (ds.length - 1) R (Nat.le_refl _) (by omega) hT2
          refine q_asg (v := nV R) (ev_is (ev_c1 (ea_cons (ev_var rfl) ea_nil) fun H16 e16 Q k E => ⟨ds, rfl, W2, by omega, k⟩) (by rw [hT2]; rfl)) fun H16 e16 => ?_
          have R16 := R15.ex e16
          have hf16 := e16 fp _ hf15
          have L16 := L15.ex e16
          clear R15 hf15 L15 e16
          show tSeq _ _ _ [some (.ref a), some (.ref p), some (Wv ws), some (.ref fp), some (nV M), some (.ref tq), some (.ref g), a7, some (.ref r), a9, a10, a11, a12, some (.ref oq), none, some (Wv ds), some (nV R), none, none, none, none] H16
          -- four small drawings
          refine q_forR1 (n := 4) (ea_cons ev_c ea_nil) (by omega) (fun i σ' H' => Xp p H16 H' ∧ Row K H' p a ∧ ∃ a6 a7 a17, σ' = [some (.ref a), some (.ref p), some (Wv ws), some (.ref fp), some (nV M), some (.ref tq), a6, a7, some (.ref r), a9, a10, a11, a12, some (.ref oq), none, some (Wv ds), some (nV R), a17, none, none, none])
            (fun H17 e17 => ⟨Xp.of e17, R16.ex e17, _, _, _, rfl⟩) (fun i σ' H17 hi pv => ?_) (fun σ' H17 pv => ?_)
          · obtain ⟨x17, R17, a6, a7, a17, rfl⟩ := pv
            show tSeq _ _ _ [some (.ref a), some (.ref p), some (Wv ws), some (.ref fp), some (nV M), some (.ref tq), a6, some (.int (i : Int)), some (.ref r), a9, a10, a11, a12, some (.ref oq), none, some (Wv ds), some (nV R), a17, none, none, none] H17
            refine x_asg (go_draws2 (lo := 1) (n := (ds.length : Int) - 1) (m := ds.length - 2) (Pd := fun v => ∃ k : Nat, v = nV k) (ea_cons ev_c (ea_cons (ev_op (ev_lenW (ev_var rfl) (by omega)) ev_c rv_I0) ea_nil)) (by omega) (by omega) R17 (fun _ => rfl) (fun j H18 Q3 hj x18 r18 k3 => ?_) fun dq dxs H18 dq0 dqp hdq hdl hdP x18 R18 => ?_)
            · refine go_taken (ea_cons (ev_var rfl) (ea_cons (ev_max2 ev_c (ev_var rfl)) ea_nil)) r18 ?_ ?_ fun c H19 _ x19 r19 => k3 (nV c) H19 ⟨c, rfl⟩ x19 r19
              · by_cases c : (R : Int) > 1
                · rw [if_pos c]; omega
                · rw [if_neg c]; omega
              · by_cases c : (R : Int) > 1
                · rw [if_pos c]; omega
                · rw [if_neg c]; omega
            obtain ⟨dl, rfl⟩ := nat_list hdP
            rw [List.length_map] at hdl
            refine x_asg (go_values (K := K) (R := R) (ea_cons (ev_var rfl) ea_nil) (by omega) (fun _ => rfl) (fun n H19 e19 => ⟨((List.range dl.length).filter fun i => decide (lt dl i = n)).map fun i => i + 1, ?_, ?_⟩) fun vq H19 vus vnss v0 e19 hv hlv hvn hvs => ?_)
            · rw [List.length_map]
              have := List.length_filter_le (fun i => decide (lt dl i = n)) (List.range dl.length)
              rw [List.length_range] at this
              omega
            · have e : nVs (((List.range dl.length).filter fun i => decide (lt dl i = n)).map fun i => i + 1) = given ((dl.length : Int)).toNat (fun i => decide (lt dl i = n)) (fun i => nV (i + 1)) := by
                unfold given
                exact List.map_map
              rw [e]
              refine el_lcR1 _ _ (ea_cons (ev_is (ev_len (K := K) (ev_var rfl) (sq_of (e19 dq _ hdq))) (by rw [List.length_map])) ea_nil) (by omega) (fun _ => rfl) (fun i H20 e20 hi => ?_) (fun i H20 e20 hi _ => ev_int (ev_op (ev_var rfl) ev_c rv_I0) (by omega))
              exact et_is (et_test (ev_op (ev_at (K := K) (i := i) (ev_var rfl) (ev_var rfl) (sq_of (e20 dq _ (e19 dq _ hdq))) (by omega) rfl) (ev_var rfl) rv_eqI)) (decide_eq_decide.mpr (by omega))
            · show tIfS _ _ _ _ [some (.ref a), some (.ref p), some (Wv ws), some (.ref fp), some (nV M), some (.ref tq), some (.ref vq), some (.int (i : Int)), some (.ref r), a9, a10, a11, a12, some (.ref oq), none, some (Wv ds), some (nV R), some (.ref dq), none, none, none] H19
              have sh : SA K ds H19 (.ref vq) (lr ds vnss (List.range ds.length)) := by
                have q := SA.ok (K := K) (cs := ds) (sq_of hv) (by rw [hvn]; exact hT2) hlv fun sm hm => by have := hvs sm hm; omega
                rw [sr_eq vnss (LInv.range d2)] at q
                exact q
              generalize hjb : lr ds vnss (List.range ds.length) = jb at sh
              refine s_retF (b := false) (et_not (a := true) (et_B (ev_is (ev_c1 (ea_cons (x := .bl jb) (ev_c1 (ea_cons (ev_var rfl) (ea_cons (ev_var rfl) ea_nil)) fun H20 e20 Q k E => ⟨ds, _, jb, rfl, W2, by omega, sh.ex e20, k⟩) (ea_cons (x := .bl jb) (ev_c1 (ea_cons (ev_var rfl) (ea_cons (ev_var rfl) ea_nil)) fun H20 e20 Q k E => ⟨ds, vq, vus, vnss, rfl, ex_l e20 (sq_of hv), hlv.ex e20, d2, by omega, hvs, by rw [hjb]; exact k⟩) ea_nil)) fun H20 e20 Q k E => ⟨jb, jb, rfl, k⟩) (by rw [decide_eq_true rfl])))) (fun z => nomatch z) fun _ H20 e20 => ?_
              exact ⟨(x17.trans x18).trans (Xp.of (e19.trans e20)), R18.ex (e19.trans e20), _, _, _, rfl⟩
          · obtain ⟨x17, R17, a6, a7, a17, rfl⟩ := pv
            have hf17 : H17 fp = some (.lst us) := x17 fp _ fpp hf16
            have L17 : LT K H17 us nss := L16.xp R16 x17
            clear hf16 L16 R16 x17 R17
            -- bent
            refine x_asg (esl_lst (K := K) (ws := ws) (n := 5) (esa_cons es_non (esa_cons (es_tupleOf (ev_var rfl) hf17) (esa_cons (es_catNil (ev_var rfl) hf17 hT usl (by omega)) (esa_cons (es_repLen (k := M + 1) (eu_tup (ea_cons ev_c ea_nil) (by show 1 ≤ 100000; decide)) (ev_int (ev_op (ev_var rfl) ev_c rv_I0) (by omega)) (by omega) (by rw [hT]; intro z; have := Option.some.inj z; omega)) (esa_cons (es_repLen (k := M + 1) (eu_tup (ea_cons ev_c ea_nil) (by show 1 ≤ 100000; decide)) (ev_int (ev_op (ev_var rfl) ev_c rv_I0) (by omega)) (by omega) (by rw [hT]; intro z; have := Option.some.inj z; omega)) esa_nil))))) (by omega) H17 (Ex.refl _) _ fun bq bvs H18 _ e18 hbq hbl hbs => ?_)
            have hf18 := e18 fp _ hf17
            have L18 := L17.ex e18
            clear hf17 L17 e18
            show tSeq _ _ _ [some (.ref a), some (.ref p), some (Wv ws), some (.ref fp), some (nV M), some (.ref tq), a6, a7, some (.ref r), a9, a10, a11, a12, some (.ref oq), none, some (Wv ds), some (nV R), a17, none, some (.ref bq), none] H18
            have fin : ∀ bq bvs H', H' bq = some (.lst bvs) → bvs.length ≤ 20 → (∀ v ∈ bvs, SA K ws H' v false) → tRet (tOp (rEqD K) (tLc (iList K (tVar 19)) (gName 20) (tTest (tOp rNotB (tCall (spShows K) [] E0 (tCons (tVar 2) (tCons (tVar 20) tNil))) (tC (.bl false)))) (tVar 20) [20]) (tLst tNil)) { nx := fun _ H' => Q .non H', rt := Q } [some (.ref a), some (.ref p), some (Wv ws), some (.ref fp), some (nV M), some (.ref tq), a6, a7, some (.ref r), a9, a10, a11, a12, some (.ref oq), none, some (Wv ds), some (nV R), a17, none, some (.ref bq), none] H' := fun bq bvs H' hbq hbl hbs => by
              have lc := el_lcL (K := K) (σ := [some (.ref a), some (.ref p), some (Wv ws), some (.ref fp), some (nV M), some (.ref tq), a6, a7, some (.ref r), a9, a10, a11, a12, some (.ref oq), none, some (Wv ds), some (nV R), a17, none, some (.ref bq), none]) (H := H') (xs := bvs) (tl := tVar 19) (j := 20) (vs := [20]) (t := tTest (tOp rNotB (tCall (spShows K) [] E0 (tCons (tVar 2) (tCons (tVar 20) tNil))) (tC (.bl false)))) (te := tVar 20)
                (fun _ => false) (fun _ => .non) (ev_var rfl) (sq_of hbq) (by omega) (fun _ => rfl) (fun i x H1 e1 hx => et_test (ev_op (x := .bl false) (ev_c1 (ea_cons (ev_var rfl) (ea_cons (ev_var rfl) ea_nil)) fun H2 e2 Q k E => ⟨ws, x, false, rfl, W, by omega, (hbs x (List.mem_of_getElem? hx)).ex (e1.trans e2), k⟩) ev_c rv_notB)) (fun _ _ _ _ _ z => nomatch z)
              have e0 : given bvs.length (fun _ => false) (fun _ => V.non) = [] := by
                unfold given
                simp
              rw [e0] at lc
              refine s_ret (v := .bl true) (ev_opLL lc (el_lst ea_nil (Nat.zero_le _)) fun p1 q1 H1 hp hq e => ?_) fun H1 _ => k H1
              have z := rv_eqD (K := K) (x := .ref p1) (y := .ref q1) (H := H1) (d := .list []) (e := .list []) (fun H2 e2 => .lst (sq_of (e2 p1 _ hp)) .nil) (fun H2 e2 => .lst (sq_of (e2 q1 _ hq)) .nil) (by decide +kernel) (by decide +kernel)
              rw [eqv_nil] at z
              exact z
            refine q_when (b := decide (0 < M)) (et_is (et_test (ev_op (ev_var rfl) ev_c rv_I0)) (decide_eq_decide.mpr (by omega))) (fun hb H19 e19 => ?_) fun _ H19 e19 => fin bq bvs H19 (e19 bq _ hbq) (by omega) fun v hv => (hbs v hv).ex e19
            have hM0 := of_decide_eq_true hb
            have hf19 := e19 fp _ hf18
            have L19 := L18.ex e19
            refine x_asg1 (esl_cat (K := K) (ws := ws) (n := 5) (m := 5) (ev_var rfl) (e19 bq _ hbq) hbl (fun v hv => (hbs v hv).ex e19) (esl_lst (esa_cons (es_lists (ev_var rfl) hf19 L19 (by omega) (by omega) (fun _ => rfl) (fun _ => rfl)) (esa_cons (es_cut1 (ev_var rfl) hf19 hT usl hM0) (esa_cons (es_repPlace (k := M) (eu_tup (ea_cons ev_c ea_nil) (by show 1 ≤ 100000; decide)) (ev_var rfl) (by omega) hM0 (.inr ⟨0, rfl, by omega⟩)) (esa_cons (es_repPlace (k := M) (eu_tup (ea_cons ev_c ea_nil) (by show 1 ≤ 100000; decide)) (ev_var rfl) (by omega) hM0 (.inl rfl)) (esa_cons (es_repPlace (k := M) (eu_tup (ea_cons (ev_op (ev_lenW (ev_var rfl) (by omega)) ev_c rv_I0) ea_nil) (by show 1 ≤ 100000; decide)) (ev_var rfl) (by omega) hM0 (.inr ⟨(ws.length : Int) - 1, rfl, by omega⟩)) esa_nil))))) (by omega)) (by omega) H19 (Ex.refl _) _ fun bq2 bvs2 H20 _ e20 hbq2 hbl2 hbs2 => ?_)
            exact fin bq2 bvs2 H20 hbq2 (by omega) hbs2
end
end K54

set_option Elab.async false
set_option linter.all false
set_option maxRecDepth 100000
set_option maxHeartbeats 8000000
namespace K54
open PySem PySem.Spec PyProof.Rows L2 Evl
/-! ### the program's top -/
/-! ### the program's top -/
theorem all_mk {l : PySem.W.OpenLaw} {w : World} {K : PySem.W.Frag} {h : Heap} {mg : Str → Option Value} {fa : Addr} (X : K.In h) (G : h.Ns mainGlobals mg) (hfa : mg "law" = some (.ref fa))
    {f0 f1 f2 f3 f4 f5 f6 f7 f8 f9 f10 f11 f12 f13 f14 f15 f16 f17 f18 f19 f20 f21 f22 f23 f24 : Addr}
    {od0 an0 od1 an1 od2 an2 od3 an3 od4 an4 od5 an5 od6 an6 od7 an7 od8 an8 od9 an9 od10 an10 od11 an11 od12 an12 od13 an13 od14 an14 od15 an15 od16 an16 od17 an17 od18 an18 od19 an19 od20 an20 od21 an21 od22 an22 od23 an23 od24 an24 : Option Addr} {sl0 sl1 sl2 sl3 sl4 sl5 sl6 sl7 sl8 sl9 sl10 sl11 sl12 sl13 sl14 sl15 sl16 sl17 sl18 sl19 sl20 sl21 sl22 sl23 sl24 : Array (Option Value)} {oc0 kV0 dc0 pm0 cd0 ct0 oc1 kV1 dc1 pm1 cd1 ct1 oc2 kV2 dc2 pm2 cd2 ct2 oc3 kV3 dc3 pm3 cd3 ct3 oc4 kV4 dc4 pm4 cd4 ct4 oc5 kV5 dc5 pm5 cd5 ct5 oc6 kV6 dc6 pm6 cd6 ct6 oc7 kV7 dc7 pm7 cd7 ct7 oc8 kV8 dc8 pm8 cd8 ct8 oc9 kV9 dc9 pm9 cd9 ct9 oc10 kV10 dc10 pm10 cd10 ct10 oc11 kV11 dc11 pm11 cd11 ct11 oc12 kV12 dc12 pm12 cd12 ct12 oc13 kV13 dc13 pm13 cd13 ct13 oc14 kV14 dc14 pm14 cd14 ct14 oc15 kV15 dc15 pm15 cd15 ct15 oc16 kV16 dc16 pm16 cd16 ct16 oc17 kV17 dc17 pm17 cd17 ct17 oc18 kV18 dc18 pm18 cd18 ct18 oc19 kV19 dc19 pm19 cd19 ct19 oc20 kV20 dc20 pm20 cd20 ct20 oc21 kV21 dc21 pm21 cd21 ct21 oc22 kV22 dc22 pm22 cd22 ct22 oc23 kV23 dc23 pm23 cd23 ct23 oc24 kV24 dc24 pm24 cd24 ct24 : Value}
    {t0 t1 t2 : Tok}
    (a0 : PySem.W.nsIn K mainGlobals "is_int" = some (some (.ref f0))) (l0 : K.lookup f0 = some ⟨oc0, od0, .func (PySem.W.fnOf "is_int" "is_int" (defArgs s_is_int) (defBody s_is_int) (defScope s_is_int) .none kV0 dc0 pm0 an0 cd0 ct0), sl0⟩) (c0 : PySem.W.codeIn K cd0 "is_int" = true) (k0 : PySem.W.keepIn K (.ref f0) = true)
    (a1 : PySem.W.nsIn K mainGlobals "is_in" = some (some (.ref f1))) (l1 : K.lookup f1 = some ⟨oc1, od1, .func (PySem.W.fnOf "is_in" "is_in" (defArgs s_is_in) (defBody s_is_in) (defScope s_is_in) .none kV1 dc1 pm1 an1 cd1 ct1), sl1⟩) (c1 : PySem.W.codeIn K cd1 "is_in" = true) (k1 : PySem.W.keepIn K (.ref f1) = true)
    (a2 : PySem.W.nsIn K mainGlobals "fits" = some (some (.ref f2))) (l2 : K.lookup f2 = some ⟨oc2, od2, .func (PySem.W.fnOf "fits" "fits" (defArgs s_fits) (defBody s_fits) (defScope s_fits) .none kV2 dc2 pm2 an2 cd2 ct2), sl2⟩) (c2 : PySem.W.codeIn K cd2 "fits" = true) (k2 : PySem.W.keepIn K (.ref f2) = true)
    (a3 : PySem.W.nsIn K mainGlobals "need_word" = some (some (.ref f3))) (l3 : K.lookup f3 = some ⟨oc3, od3, .func (PySem.W.fnOf "need_word" "need_word" (defArgs s_need_word) (defBody s_need_word) (defScope s_need_word) .none kV3 dc3 pm3 an3 cd3 ct3), sl3⟩) (c3 : PySem.W.codeIn K cd3 "need_word" = true) (k3 : PySem.W.keepIn K (.ref f3) = true)
    (a4 : PySem.W.nsIn K mainGlobals "need_short" = some (some (.ref f4))) (l4 : K.lookup f4 = some ⟨oc4, od4, .func (PySem.W.fnOf "need_short" "need_short" (defArgs s_need_short) (defBody s_need_short) (defScope s_need_short) .none kV4 dc4 pm4 an4 cd4 ct4), sl4⟩) (c4 : PySem.W.codeIn K cd4 "need_short" = true) (k4 : PySem.W.keepIn K (.ref f4) = true)
    (a5 : PySem.W.nsIn K mainGlobals "need_limited" = some (some (.ref f5))) (l5 : K.lookup f5 = some ⟨oc5, od5, .func (PySem.W.fnOf "need_limited" "need_limited" (defArgs s_need_limited) (defBody s_need_limited) (defScope s_need_limited) .none kV5 dc5 pm5 an5 cd5 ct5), sl5⟩) (c5 : PySem.W.codeIn K cd5 "need_limited" = true) (k5 : PySem.W.keepIn K (.ref f5) = true)
    (a6 : PySem.W.nsIn K mainGlobals "need_tall" = some (some (.ref f6))) (l6 : K.lookup f6 = some ⟨oc6, od6, .func (PySem.W.fnOf "need_tall" "need_tall" (defArgs s_need_tall) (defBody s_need_tall) (defScope s_need_tall) .none kV6 dc6 pm6 an6 cd6 ct6), sl6⟩) (c6 : PySem.W.codeIn K cd6 "need_tall" = true) (k6 : PySem.W.keepIn K (.ref f6) = true)
    (a7 : PySem.W.nsIn K mainGlobals "heights_of" = some (some (.ref f7))) (l7 : K.lookup f7 = some ⟨oc7, od7, .func (PySem.W.fnOf "heights_of" "heights_of" (defArgs s_heights_of) (defBody s_heights_of) (defScope s_heights_of) .none kV7 dc7 pm7 an7 cd7 ct7), sl7⟩) (c7 : PySem.W.codeIn K cd7 "heights_of" = true) (k7 : PySem.W.keepIn K (.ref f7) = true)
    (a8 : PySem.W.nsIn K mainGlobals "least_height" = some (some (.ref f8))) (l8 : K.lookup f8 = some ⟨oc8, od8, .func (PySem.W.fnOf "least_height" "least_height" (defArgs s_least_height) (defBody s_least_height) (defScope s_least_height) .none kV8 dc8 pm8 an8 cd8 ct8), sl8⟩) (c8 : PySem.W.codeIn K cd8 "least_height" = true) (k8 : PySem.W.keepIn K (.ref f8) = true)
    (a9 : PySem.W.nsIn K mainGlobals "best_middle" = some (some (.ref f9))) (l9 : K.lookup f9 = some ⟨oc9, od9, .func (PySem.W.fnOf "best_middle" "best_middle" (defArgs s_best_middle) (defBody s_best_middle) (defScope s_best_middle) .none kV9 dc9 pm9 an9 cd9 ct9), sl9⟩) (c9 : PySem.W.codeIn K cd9 "best_middle" = true) (k9 : PySem.W.keepIn K (.ref f9) = true)
    (a10 : PySem.W.nsIn K mainGlobals "rounds" = some (some (.ref f10))) (l10 : K.lookup f10 = some ⟨oc10, od10, .func (PySem.W.fnOf "rounds" "rounds" (defArgs s_rounds) (defBody s_rounds) (defScope s_rounds) .none kV10 dc10 pm10 an10 cd10 ct10), sl10⟩) (c10 : PySem.W.codeIn K cd10 "rounds" = true) (k10 : PySem.W.keepIn K (.ref f10) = true)
    (a11 : PySem.W.nsIn K mainGlobals "shows_rounds" = some (some (.ref f11))) (l11 : K.lookup f11 = some ⟨oc11, od11, .func (PySem.W.fnOf "shows_rounds" "shows_rounds" (defArgs s_shows_rounds) (defBody s_shows_rounds) (defScope s_shows_rounds) .none kV11 dc11 pm11 an11 cd11 ct11), sl11⟩) (c11 : PySem.W.codeIn K cd11 "shows_rounds" = true) (k11 : PySem.W.keepIn K (.ref f11) = true)
    (a12 : PySem.W.nsIn K mainGlobals "_law_taken" = some (some (.ref f12))) (l12 : K.lookup f12 = some ⟨oc12, od12, .func (PySem.W.fnOf "_law_taken" "_law_taken" (defArgs s_law_taken) (defBody s_law_taken) (defScope s_law_taken) .none kV12 dc12 pm12 an12 cd12 ct12), sl12⟩) (c12 : PySem.W.codeIn K cd12 "_law_taken" = true) (k12 : PySem.W.keepIn K (.ref f12) = true)
    (a13 : PySem.W.nsIn K mainGlobals "_law_pick" = some (some (.ref f13))) (l13 : K.lookup f13 = some ⟨oc13, od13, .func (PySem.W.fnOf "_law_pick" "_law_pick" (defArgs s_law_pick) (defBody s_law_pick) (defScope s_law_pick) .none kV13 dc13 pm13 an13 cd13 ct13), sl13⟩) (c13 : PySem.W.codeIn K cd13 "_law_pick" = true) (k13 : PySem.W.keepIn K (.ref f13) = true)
    (a14 : PySem.W.nsIn K mainGlobals "_law_alike" = some (some (.ref f14))) (l14 : K.lookup f14 = some ⟨oc14, od14, .func (PySem.W.fnOf "_law_alike" "_law_alike" (defArgs s_law_alike) (defBody s_law_alike) (defScope s_law_alike) .none kV14 dc14 pm14 an14 cd14 ct14), sl14⟩) (c14 : PySem.W.codeIn K cd14 "_law_alike" = true) (k14 : PySem.W.keepIn K (.ref f14) = true)
    (a15 : PySem.W.nsIn K mainGlobals "_law_word" = some (some (.ref f15))) (l15 : K.lookup f15 = some ⟨oc15, od15, .func (PySem.W.fnOf "_law_word" "_law_word" (defArgs s_law_word) (defBody s_law_word) (defScope s_law_word) .none kV15 dc15 pm15 an15 cd15 ct15), sl15⟩) (c15 : PySem.W.codeIn K cd15 "_law_word" = true) (k15 : PySem.W.keepIn K (.ref f15) = true)
    (a16 : PySem.W.nsIn K mainGlobals "_law_any" = some (some (.ref f16))) (l16 : K.lookup f16 = some ⟨oc16, od16, .func (PySem.W.fnOf "_law_any" "_law_any" (defArgs s_law_any) (defBody s_law_any) (defScope s_law_any) .none kV16 dc16 pm16 an16 cd16 ct16), sl16⟩) (c16 : PySem.W.codeIn K cd16 "_law_any" = true) (k16 : PySem.W.keepIn K (.ref f16) = true)
    (a17 : PySem.W.nsIn K mainGlobals "_law_put" = some (some (.ref f17))) (l17 : K.lookup f17 = some ⟨oc17, od17, .func (PySem.W.fnOf "_law_put" "_law_put" (defArgs s_law_put) (defBody s_law_put) (defScope s_law_put) .none kV17 dc17 pm17 an17 cd17 ct17), sl17⟩) (c17 : PySem.W.codeIn K cd17 "_law_put" = true) (k17 : PySem.W.keepIn K (.ref f17) = true)
    (a18 : PySem.W.nsIn K mainGlobals "_law_grown" = some (some (.ref f18))) (l18 : K.lookup f18 = some ⟨oc18, od18, .func (PySem.W.fnOf "_law_grown" "_law_grown" (defArgs s_law_grown) (defBody s_law_grown) (defScope s_law_grown) .none kV18 dc18 pm18 an18 cd18 ct18), sl18⟩) (c18 : PySem.W.codeIn K cd18 "_law_grown" = true) (k18 : PySem.W.keepIn K (.ref f18) = true)
    (a19 : PySem.W.nsIn K mainGlobals "_law_coming" = some (some (.ref f19))) (l19 : K.lookup f19 = some ⟨oc19, od19, .func (PySem.W.fnOf "_law_coming" "_law_coming" (defArgs s_law_coming) (defBody s_law_coming) (defScope s_law_coming) .none kV19 dc19 pm19 an19 cd19 ct19), sl19⟩) (c19 : PySem.W.codeIn K cd19 "_law_coming" = true) (k19 : PySem.W.keepIn K (.ref f19) = true)
    (a20 : PySem.W.nsIn K mainGlobals "_law_open" = some (some (.ref f20))) (l20 : K.lookup f20 = some ⟨oc20, od20, .func (PySem.W.fnOf "_law_open" "_law_open" (defArgs s_law_open) (defBody s_law_open) (defScope s_law_open) .none kV20 dc20 pm20 an20 cd20 ct20), sl20⟩) (c20 : PySem.W.codeIn K cd20 "_law_open" = true) (k20 : PySem.W.keepIn K (.ref f20) = true)
    (a21 : PySem.W.nsIn K mainGlobals "_law_tree" = some (some (.ref f21))) (l21 : K.lookup f21 = some ⟨oc21, od21, .func (PySem.W.fnOf "_law_tree" "_law_tree" (defArgs s_law_tree) (defBody s_law_tree) (defScope s_law_tree) .none kV21 dc21 pm21 an21 cd21 ct21), sl21⟩) (c21 : PySem.W.codeIn K cd21 "_law_tree" = true) (k21 : PySem.W.keepIn K (.ref f21) = true)
    (a22 : PySem.W.nsIn K mainGlobals "_law_depths" = some (some (.ref f22))) (l22 : K.lookup f22 = some ⟨oc22, od22, .func (PySem.W.fnOf "_law_depths" "_law_depths" (defArgs s_law_depths) (defBody s_law_depths) (defScope s_law_depths) .none kV22 dc22 pm22 an22 cd22 ct22), sl22⟩) (c22 : PySem.W.codeIn K cd22 "_law_depths" = true) (k22 : PySem.W.keepIn K (.ref f22) = true)
    (a23 : PySem.W.nsIn K mainGlobals "_law_rounds" = some (some (.ref f23))) (l23 : K.lookup f23 = some ⟨oc23, od23, .func (PySem.W.fnOf "_law_rounds" "_law_rounds" (defArgs s_law_rounds) (defBody s_law_rounds) (defScope s_law_rounds) .none kV23 dc23 pm23 an23 cd23 ct23), sl23⟩) (c23 : PySem.W.codeIn K cd23 "_law_rounds" = true) (k23 : PySem.W.keepIn K (.ref f23) = true)
    (a24 : PySem.W.nsIn K mainGlobals "law" = some (some (.ref f24))) (l24 : K.lookup f24 = some ⟨oc24, od24, .func (PySem.W.fnOf "law" "law" (defArgs s_law) (defBody s_law) (defScope s_law) .none kV24 dc24 pm24 an24 cd24 ct24), sl24⟩) (c24 : PySem.W.codeIn K cd24 "law" = true) (k24 : PySem.W.keepIn K (.ref f24) = true)
    (z0 : PySem.W.nsIn K mainGlobals "len" = some none)
    (z1 : PySem.W.nsIn K mainGlobals "range" = some none)
    (z2 : PySem.W.nsIn K mainGlobals "max" = some none)
    (z3 : PySem.W.nsIn K mainGlobals "min" = some none)
    (z4 : PySem.W.nsIn K mainGlobals "isinstance" = some none)
    (z5 : PySem.W.nsIn K mainGlobals "int" = some none)
    (z6 : PySem.W.nsIn K mainGlobals "str" = some none)
    (z7 : PySem.W.nsIn K mainGlobals "bool" = some none)
    (z8 : PySem.W.nsIn K mainGlobals "list" = some none)
    (z9 : PySem.W.nsIn K mainGlobals "tuple" = some none)
    (z10 : PySem.W.nsIn K mainGlobals "set" = some none)
    (z11 : PySem.W.nsIn K mainGlobals "sorted" = some none)
    (z12 : PySem.W.nsIn K mainGlobals "all" = some none)
    (z13 : PySem.W.nsIn K mainGlobals "any" = some none)
    (z14 : PySem.W.nsIn K mainGlobals "zip" = some none)
    (z15 : PySem.W.nsIn K mainGlobals "enumerate" = some none)
    (y0 : PySem.W.nsIn K mainGlobals "LETTERS" = some (some (.str "abc" t0)))
    (y1 : PySem.W.nsIn K mainGlobals "MOST_LETTERS_words" = some (some (.int 200 t1)))
    (y2 : PySem.W.nsIn K mainGlobals "MOST_LETTERS_trees" = some (some (.int 60 t2))) :
    ∃ fd : FuncData, (∀ (s : Shared) (v : Value), BindsTo s fd ⟨[v], []⟩ [("_law_script", v)]) ∧ ∀ base : Heap, K.In base → base.Ns mainGlobals mg → FnOk l.prog w K mg base CX0 14 fa fd ["_law_script"] (spLaw K) := by
  have D0 : Df K mg "is_int" s_is_int := ⟨f0, _, fun_mk (st := s_is_int) l0 c0 k0, PySem.W.mg_of X G a0⟩
  have D1 : Df K mg "is_in" s_is_in := ⟨f1, _, fun_mk (st := s_is_in) l1 c1 k1, PySem.W.mg_of X G a1⟩
  have D2 : Df K mg "fits" s_fits := ⟨f2, _, fun_mk (st := s_fits) l2 c2 k2, PySem.W.mg_of X G a2⟩
  have D3 : Df K mg "need_word" s_need_word := ⟨f3, _, fun_mk (st := s_need_word) l3 c3 k3, PySem.W.mg_of X G a3⟩
  have D4 : Df K mg "need_short" s_need_short := ⟨f4, _, fun_mk (st := s_need_short) l4 c4 k4, PySem.W.mg_of X G a4⟩
  have D5 : Df K mg "need_limited" s_need_limited := ⟨f5, _, fun_mk (st := s_need_limited) l5 c5 k5, PySem.W.mg_of X G a5⟩
  have D6 : Df K mg "need_tall" s_need_tall := ⟨f6, _, fun_mk (st := s_need_tall) l6 c6 k6, PySem.W.mg_of X G a6⟩
  have D7 : Df K mg "heights_of" s_heights_of := ⟨f7, _, fun_mk (st := s_heights_of) l7 c7 k7, PySem.W.mg_of X G a7⟩
  have D8 : Df K mg "least_height" s_least_height := ⟨f8, _, fun_mk (st := s_least_height) l8 c8 k8, PySem.W.mg_of X G a8⟩
  have D9 : Df K mg "best_middle" s_best_middle := ⟨f9, _, fun_mk (st := s_best_middle) l9 c9 k9, PySem.W.mg_of X G a9⟩
  have D10 : Df K mg "rounds" s_rounds := ⟨f10, _, fun_mk (st := s_rounds) l10 c10 k10, PySem.W.mg_of X G a10⟩
  have D11 : Df K mg "shows_rounds" s_shows_rounds := ⟨f11, _, fun_mk (st := s_shows_rounds) l11 c11 k11, PySem.W.mg_of X G a11⟩
  have D12 : Df K mg "_law_taken" s_law_taken := ⟨f12, _, fun_mk (st := s_law_taken) l12 c12 k12, PySem.W.mg_of X G a12⟩
  have D13 : Df K mg "_law_pick" s_law_pick := ⟨f13, _, fun_mk (st := s_law_pick) l13 c13 k13, PySem.W.mg_of X G a13⟩
  have D14 : Df K mg "_law_alike" s_law_alike := ⟨f14, _, fun_mk (st := s_law_alike) l14 c14 k14, PySem.W.mg_of X G a14⟩
  have D15 : Df K mg "_law_word" s_law_word := ⟨f15, _, fun_mk (st := s_law_word) l15 c15 k15, PySem.W.mg_of X G a15⟩
  have D16 : Df K mg "_law_any" s_law_any := ⟨f16, _, fun_mk (st := s_law_any) l16 c16 k16, PySem.W.mg_of X G a16⟩
  have D17 : Df K mg "_law_put" s_law_put := ⟨f17, _, fun_mk (st := s_law_put) l17 c17 k17, PySem.W.mg_of X G a17⟩
  have D18 : Df K mg "_law_grown" s_law_grown := ⟨f18, _, fun_mk (st := s_law_grown) l18 c18 k18, PySem.W.mg_of X G a18⟩
  have D19 : Df K mg "_law_coming" s_law_coming := ⟨f19, _, fun_mk (st := s_law_coming) l19 c19 k19, PySem.W.mg_of X G a19⟩
  have D20 : Df K mg "_law_open" s_law_open := ⟨f20, _, fun_mk (st := s_law_open) l20 c20 k20, PySem.W.mg_of X G a20⟩
  have D21 : Df K mg "_law_tree" s_law_tree := ⟨f21, _, fun_mk (st := s_law_tree) l21 c21 k21, PySem.W.mg_of X G a21⟩
  have D22 : Df K mg "_law_depths" s_law_depths := ⟨f22, _, fun_mk (st := s_law_depths) l22 c22 k22, PySem.W.mg_of X G a22⟩
  have D23 : Df K mg "_law_rounds" s_law_rounds := ⟨f23, _, fun_mk (st := s_law_rounds) l23 c23 k23, PySem.W.mg_of X G a23⟩
  have D24 : Df K mg "law" s_law := ⟨f24, _, fun_mk (st := s_law) l24 c24 k24, PySem.W.mg_of X G a24⟩
  have B : Bt mg := ⟨PySem.W.mg_none_of X G z0, PySem.W.mg_none_of X G z1, PySem.W.mg_none_of X G z2, PySem.W.mg_none_of X G z3, PySem.W.mg_none_of X G z4, PySem.W.mg_none_of X G z5, PySem.W.mg_none_of X G z6, PySem.W.mg_none_of X G z7, PySem.W.mg_none_of X G z8, PySem.W.mg_none_of X G z9, PySem.W.mg_none_of X G z10, PySem.W.mg_none_of X G z11, PySem.W.mg_none_of X G z12, PySem.W.mg_none_of X G z13, PySem.W.mg_none_of X G z14, PySem.W.mg_none_of X G z15, ⟨_, PySem.W.mg_of X G y0⟩, ⟨_, PySem.W.mg_of X G y1⟩, ⟨_, PySem.W.mg_of X G y2⟩⟩
  have e := hfa.symm.trans (PySem.W.mg_of X G a24)
  cases e
  refine ⟨PySem.W.fnOf "law" "law" (defArgs s_law) (defBody s_law) (defScope s_law) .none kV24 dc24 pm24 an24 cd24 ct24, fun s v => .of_eq rfl, fun base _ _ => ?_⟩
  have C_is_int := cal_is_int (P := l.prog) (w := w) (base := base) D0 B
  have C_is_in := cal_is_in D1 C_is_int
  have C_fits := cal_fits (P := l.prog) (w := w) (base := base) D2
  have C_need_word := cal_need_word (P := l.prog) (w := w) (base := base) D3 B
  have C_need_short := cal_need_short (P := l.prog) (w := w) (base := base) D4 B
  have C_need_limited := cal_need_limited D5 C_need_word C_need_short
  have C_need_tall := cal_need_tall D6 B C_need_limited
  have C_heights := cal_heights_of D7 B C_fits
  have C_least := cal_least_height D8 B C_need_tall C_heights
  have C_best := cal_best_middle D9 B C_fits
  have C_rounds := cal_rounds D10 B C_need_tall C_heights C_best
  have C_shows := cal_shows_rounds D11 B C_need_tall C_heights C_is_in
  have C_taken := cal_taken (P := l.prog) (w := w) (base := base) D12 B
  have C_pick := cal_pick D13 B C_taken
  have C_alike := cal_alike (P := l.prog) (w := w) (base := base) D14 B
  have C_word := cal_word (P := l.prog) (w := w) (base := base) D15 B
  have C_any := cal_any D16 B C_taken C_pick C_word
  have C_put := cal_put (P := l.prog) (w := w) (base := base) D17 B
  have C_grown := cal_grown D18 B C_taken C_put
  have C_coming := cal_coming D19 B C_taken C_pick C_grown
  have C_open := cal_open (P := l.prog) (w := w) (base := base) D20 B
  have C_tree := cal_tree D21 B C_pick C_open
  have C_depths := cal_depths (P := l.prog) (w := w) (base := base) D22 12
  have C_judge := cal_judge (P := l.prog) (w := w) (base := base) D23 B
  have C_law := ok_law (fun_mk (st := s_law) l24 c24 k24) B C_rounds C_least C_shows C_taken C_pick C_alike C_any C_coming C_tree C_depths C_judge
  exact C_law
theorem walk {l : PySem.W.OpenLaw} {q : Program} {loose : List Str} {XP : (Str → Option Value) → Heap → Prop} {YP : World → Heap → Prop} {d : DefRec} {K : Params → PySem.W.Frag} (hn : l.most = some 63) (hdf : d.params.defaults = [])
    (hY : ∀ (w : World) (h : Heap), YP w h → (K w.params).In h)
    (F : ∀ (w : World) (mg : Str → Option Value) (fa : Addr) (h : Heap), (K w.params).In h → h.Ns mainGlobals mg → mg d.name = some (.ref fa) →
      ∃ fd : FuncData, (∀ (s : Shared) (u : Value), BindsTo s fd ⟨[u], []⟩ [("_law_script", u)]) ∧ ∀ base : Heap, (K w.params).In base → base.Ns mainGlobals mg → FnOk l.prog w (K w.params) mg base CX0 14 fa fd ["_law_script"] (spLaw (K w.params))) :
    PySem.W.WalkO q loose XP YP l.row.toRowW d [] (fun f vs => PySem.call f vs) :=
  L2.walk_of (n := 63) (k := 14) (x := "_law_script") (CX := fun _ => CX0) (sp := fun w => spLaw (K w.params)) hn (by decide) hdf ⟨rfl, by decide, by decide⟩ hY F (fun _ _ a ns _ _ hS => ⟨a, ns, rfl, hS, fun _ => rfl⟩) fun _ _ _ _ _ z => z
end K54

set_option Elab.async false
set_option linter.all false
set_option maxRecDepth 100000
open PySem PySem.W PyProof.Rows
set_option maxRecDepth 100000 in
set_option maxHeartbeats 0 in
theorem PySem.Challenge.cw_thirdletters_k54_whole_rounds_holds : PySem.Challenge.rw_thirdletters_k54_whole_rounds.Holds := by
  w_on; o_law; k_head; (case hw => w_witness2)
  k_fill
  refine K54.walk (l := PySem.Challenge.rw_thirdletters_k54_whole_rounds) rfl rfl (fun w h Y => PySem.W.kIn_of Y) ?F
  case F =>
    intro w mg fa h KX G hmg
    refine' K54.all_mk KX G hmg ?a0 ?l0 ?c0 ?k0 ?a1 ?l1 ?c1 ?k1 ?a2 ?l2 ?c2 ?k2 ?a3 ?l3 ?c3 ?k3 ?a4 ?l4 ?c4 ?k4 ?a5 ?l5 ?c5 ?k5 ?a6 ?l6 ?c6 ?k6 ?a7 ?l7 ?c7 ?k7 ?a8 ?l8 ?c8 ?k8 ?a9 ?l9 ?c9 ?k9 ?a10 ?l10 ?c10 ?k10 ?a11 ?l11 ?c11 ?k11 ?a12 ?l12 ?c12 ?k12 ?a13 ?l13 ?c13 ?k13 ?a14 ?l14 ?c14 ?k14 ?a15 ?l15 ?c15 ?k15 ?a16 ?l16 ?c16 ?k16 ?a17 ?l17 ?c17 ?k17 ?a18 ?l18 ?c18 ?k18 ?a19 ?l19 ?c19 ?k19 ?a20 ?l20 ?c20 ?k20 ?a21 ?l21 ?c21 ?k21 ?a22 ?l22 ?c22 ?k22 ?a23 ?l23 ?c23 ?k23 ?a24 ?l24 ?c24 ?k24 ?z0 ?z1 ?z2 ?z3 ?z4 ?z5 ?z6 ?z7 ?z8 ?z9 ?z10 ?z11 ?z12 ?z13 ?z14 ?z15 ?y0 ?y1 ?y2
    (case a0 => k_is); (case l0 => k_is); (case c0 => k_is); (case k0 => k_is)
    (case a1 => k_is); (case l1 => k_is); (case c1 => k_is); (case k1 => k_is)
    (case a2 => k_is); (case l2 => k_is); (case c2 => k_is); (case k2 => k_is)
    (case a3 => k_is); (case l3 => k_is); (case c3 => k_is); (case k3 => k_is)
    (case a4 => k_is); (case l4 => k_is); (case c4 => k_is); (case k4 => k_is)
    (case a5 => k_is); (case l5 => k_is); (case c5 => k_is); (case k5 => k_is)
    (case a6 => k_is); (case l6 => k_is); (case c6 => k_is); (case k6 => k_is)
    (case a7 => k_is); (case l7 => k_is); (case c7 => k_is); (case k7 => k_is)
    (case a8 => k_is); (case l8 => k_is); (case c8 => k_is); (case k8 => k_is)
    (case a9 => k_is); (case l9 => k_is); (case c9 => k_is); (case k9 => k_is)
    (case a10 => k_is); (case l10 => k_is); (case c10 => k_is); (case k10 => k_is)
    (case a11 => k_is); (case l11 => k_is); (case c11 => k_is); (case k11 => k_is)
    (case a12 => k_is); (case l12 => k_is); (case c12 => k_is); (case k12 => k_is)
    (case a13 => k_is); (case l13 => k_is); (case c13 => k_is); (case k13 => k_is)
    (case a14 => k_is); (case l14 => k_is); (case c14 => k_is); (case k14 => k_is)
    (case a15 => k_is); (case l15 => k_is); (case c15 => k_is); (case k15 => k_is)
    (case a16 => k_is); (case l16 => k_is); (case c16 => k_is); (case k16 => k_is)
    (case a17 => k_is); (case l17 => k_is); (case c17 => k_is); (case k17 => k_is)
    (case a18 => k_is); (case l18 => k_is); (case c18 => k_is); (case k18 => k_is)
    (case a19 => k_is); (case l19 => k_is); (case c19 => k_is); (case k19 => k_is)
    (case a20 => k_is); (case l20 => k_is); (case c20 => k_is); (case k20 => k_is)
    (case a21 => k_is); (case l21 => k_is); (case c21 => k_is); (case k21 => k_is)
    (case a22 => k_is); (case l22 => k_is); (case c22 => k_is); (case k22 => k_is)
    (case a23 => k_is); (case l23 => k_is); (case c23 => k_is); (case k23 => k_is)
    (case a24 => k_is); (case l24 => k_is); (case c24 => k_is); (case k24 => k_is)
    (case z0 => k_is)
    (case z1 => k_is)
    (case z2 => k_is)
    (case z3 => k_is)
    (case z4 => k_is)
    (case z5 => k_is)
    (case z6 => k_is)
    (case z7 => k_is)
    (case z8 => k_is)
    (case z9 => k_is)
    (case z10 => k_is)
    (case z11 => k_is)
    (case z12 => k_is)
    (case z13 => k_is)
    (case z14 => k_is)
    (case z15 => k_is)
    (case y0 => k_is)
    (case y1 => k_is)
    (case y2 => k_is)
