import PyProof.Rows.All
import Wide.All
import OpenK.AllK
import Wide.FinOn
import HandS.ForMost
import HandS.Codes
import HandS.Wide
import HandS.IsInst
import HandS.NoneIn
import HandS.TupAny
import HandS.Walk
import HandS.Zip
import HandS.Flow
import PyProof.Rows.ListStrD
import HandS.HotCalls
import HandS.ExcInit
import HandS.ExcCtx
import HandS.ExcField
import HandS.ExcIs
import KE.KExcIs
import HandS.Style
import HandS.TupMul
import HandS.Dict
import HandS.More
import HandS.Star
import HandS.FStr
import HandS.OwnEq
import PySem.Challenge.RW_knownways_k02_steps_and_their_ways
set_option Elab.async false
set_option linter.all false
set_option maxRecDepth 100000
set_option maxHeartbeats 4000000
/-! ## generic: heaps, feeds, builtins -/
namespace KW
open PySem PySem.Spec PyProof.Rows L2

/-- the built-in names that the module leaves alone -/
structure Bi (mg : Str → Option Value) : Prop where
  len : mg "len" = none
  range : mg "range" = none
  abs : mg "abs" = none
  isinstance : mg "isinstance" = none
  all : mg "all" = none
  zip : mg "zip" = none
  enumerate : mg "enumerate" = none
  min : mg "min" = none
  ty_int : mg "int" = none
  ty_str : mg "str" = none
  ty_list : mg "list" = none
  ty_tuple : mg "tuple" = none
  ty_bool : mg "bool" = none

/-! ### the rules with the written part named -/
section
variable {X : Cx} (K : PySem.W.Frag) (hK : X.K = K)
include hK
theorem kk_len : CallR X (.builtin "len") (fun xs H Q => ∃ x n, xs = [x] ∧ LenV K x H n ∧ Q (.int n) H) := by subst hK; exact call_len
theorem kk_list_of : CallR X (.type "list") (fun xs H Q => ∃ p ys, xs = [.ref p] ∧ (SqL K H p ys ∨ SqT K H p ys) ∧ ∀ l, H l = none → Q (.ref l) (upd H l (.lst ys))) := by subst hK; exact call_list_of
theorem kk_tuple_of : CallR X (.type "tuple") (fun xs H Q => ∃ p ys, xs = [.ref p] ∧ ((SqL K H p ys ∧ ∀ l, H l = none → Q (.ref l) (upd H l (.tup ys))) ∨ (SqT K H p ys ∧ Q (.ref p) H))) := by subst hK; exact call_tuple_of
theorem kk_all (hc : X.calm = true) : CallR X (.builtin "all") (rAll K) := by subst hK; exact cr_all hc
theorem kk_isi : CallR X (.builtin "isinstance") (rIsi K) := by subst hK; exact call_isi
theorem kk_isiT : CallR X (.builtin "isinstance") (rIsiT K) := by subst hK; exact call_isiT
theorem kk_ixL : IxR X (rIxL K) := by subst hK; exact ix_list
theorem kk_ixT : IxR X (rIxT K) := by subst hK; exact ix_tup
theorem kk_ix : IxR X (rIx K) := by subst hK; exact ix_seq
theorem kk_slL : SlR X (rSlL K) := by subst hK; exact sl_list
theorem kk_slA : SlR X (rSlA K) := by subst hK; exact sl_tupA
theorem kk_in : OpR X (compareOp .In) (rIn K false) := by subst hK; exact op_in_seq
theorem kk_notIn : OpR X (compareOp .NotIn) (rIn K true) := by subst hK; exact op_notIn_seq
theorem kk_catA : OpR X (binaryOp .Add) (rCatA K) := by subst hK; exact op_catA
theorem kk_eqD (hu : X.A.units + 64 < cLine) : OpR X (compareOp .Eq) (rEqD K) := by subst hK; exact op_eqD hu
theorem kk_neD (hu : X.A.units + 64 < cLine) : OpR X (compareOp .NotEq) (rNeD K) := by subst hK; exact op_neD hu
theorem kk_join : MtR X "str.join" (fun x xs H Q => ∃ a p, ∃ ys : List Str, x = .str a ∧ xs = [.ref p] ∧ (SqL K H p (ys.map V.str) ∨ SqT K H p (ys.map V.str)) ∧
    (ys.map (·.length)).sum + ys.length * a.length ≤ 16777216 ∧ Q (.str (Txt.join a ys)) H) := by subst hK; exact mt_join
theorem kk_fld {e : Expr} {f : Str} {pos : Pos} {ta : TE} (he : PE X e ta) (hb : attributeBase e f X.env (eval e X.env) = eval e X.env) : PE X (.Attribute e f pos) (tFld K ta f) := by subst hK; exact pe_fld he hb
theorem kk_bm {T : String} {name : Str} {id : String} {o e : Expr} {es : List Expr} {apos cpos : Pos} {r : V → List V → Hp → VK → Prop} {to : TE} {t : TA} (pa : PlainAttrs T) (slot : Slot T name id) (hty : typeOf (.builtin id) = pure (.type "method_descriptor")) (hm : MtR X id r) (ho : PE X o to) (ha : PA X (e :: es) t)
    (hbase : attributeBase o name X.env (eval o X.env) = eval o X.env := by rfl)
    (hfew : ((backTo cpos (starEach (e :: es) X.env)).all (fun x => !x.1) && (backToKw cpos (keywordEach [] X.env)).all (fun x => x.1.isSome)
      && decide ((e :: es).length + ([] : List Keyword).length + (if ([] : List Keyword).isEmpty then 0 else 1) < 30)) = true := by rfl)
    (hline : (apos.endLine == cpos.line) = true := by rfl) (hs : starEach (e :: es) X.env = (false, eval e X.env) :: starEach es X.env := by rfl) (hplain : (backTo cpos (starEach es X.env)).any (·.1) = false := by rfl) :
    PE X (.Call (.Attribute o name apos) (e :: es) [] cpos) (tBM K T r to t) := by subst hK; exact pe_bm pa slot hty hm ho ha hbase hfew hline hs hplain
theorem kk_gtup {es : List Expr} {k : Nat} {pos : Pos} {t : TGs} {n : Nat} (hc : X.calm = true) (h : PGs X es t) (hn : (assignEach es X.env).length = n := by rfl) (hst : (assignEach es X.env).findIdx? (·.1) = none := by rfl) : PG X (.Tuple es k pos) (gTup K n t) := by subst hK; exact pg_tup hc h hn hst
theorem kk_iList {tg l : Expr} {tl : TE} (hl : PE X l tl) : PI X tg l (iList K tl) := by subst hK; exact pi_list hl
theorem kk_iTup {tg l : Expr} {tl : TE} (hl : PE X l tl) : PI X tg l (iTup K tl) := by subst hK; exact pi_tup hl
end

theorem kt_tuple {X : Cx} {pos : Pos} (hg : Gl X "tuple") (hm : X.mg "tuple" = none) : PE X (.Name "tuple" pos) (tC (.ty "tuple")) := pe_bltn (u := .type "tuple") hg hm (by decide +kernel) rfl
theorem kt_list {X : Cx} {pos : Pos} (hg : Gl X "list") (hm : X.mg "list" = none) : PE X (.Name "list" pos) (tC (.ty "list")) := pe_bltn (u := .type "list") hg hm (by decide +kernel) rfl
theorem kt_bool {X : Cx} {pos : Pos} (hg : Gl X "bool") (hm : X.mg "bool" = none) : PE X (.Name "bool" pos) (tC (.ty "bool")) := pe_bltn (u := .type "bool") hg hm (by decide +kernel) rfl
theorem kt_str {X : Cx} {pos : Pos} (hg : Gl X "str") (hm : X.mg "str" = none) : PE X (.Name "str" pos) (tC (.ty "str")) := pe_bltn (u := .type "str") hg hm (by decide +kernel) rfl
theorem kt_int {X : Cx} {pos : Pos} (hg : Gl X "int") (hm : X.mg "int" = none) : PE X (.Name "int" pos) (tC (.ty "int")) := pe_bltn (u := .type "int") hg hm (by decide +kernel) rfl

theorem pe_gref {X : Cx} {x : Str} {C : Addr} {p : Pos} (hg : Gl X x) (hm : X.mg x = some (.ref C)) (hdb : (x == ("__debug__" : Str)) = false := by decide) : PE X (.Name x p) (tC (.ref C)) := pe_glob (v := .ref C) hg hm rfl hdb
theorem pe_gstr {X : Cx} {x s : Str} {t : Tok} {p : Pos} (hg : Gl X x) (hm : X.mg x = some (.str s t)) (hdb : (x == ("__debug__" : Str)) = false := by decide) : PE X (.Name x p) (tC (.str s)) := pe_glob (v := .str s) hg hm ⟨t, rfl⟩ hdb
/-- all but what stands at a is as it was -/
def KB (a : Addr) (H H' : Hp) : Prop := ∀ b o, b ≠ a → H b = some o → H' b = some o
theorem KB.refl (a : Addr) (H : Hp) : KB a H H := fun _ _ _ h => h
theorem KB.trans {a : Addr} {H H1 H2 : Hp} (x : KB a H H1) (y : KB a H1 H2) : KB a H H2 := fun b o n h => y b o n (x b o n h)
theorem KB.of_same {a : Addr} {H H' : Hp} (s : Same H H') : KB a H H' := fun b o _ h => s b o h
theorem same_upd {H : Hp} {p : Addr} {o : HO} (h : H p = none) : Same H (upd H p o) := fun b x e => by
  rw [upd_ne (ne_of_none e h)]
  exact e
theorem KB.new {a p : Addr} {H H' : Hp} {o : HO} (x : KB a H H') (h : H' p = none) : KB a H (upd H' p o) := x.trans (KB.of_same (same_upd h))
theorem KB.upd {a : Addr} {H H' : Hp} {o : HO} (x : KB a H H') : KB a H (L2.upd H' a o) := fun b u n h => by
  rw [upd_ne n]
  exact x b u n h
theorem KB.seq {K : PySem.W.Frag} {a p : Addr} {H H' : Hp} {xs : List V} (e : KB a H H') (n : p ≠ a) (h : SqL K H p xs) : SqL K H' p xs := by
  rcases h with (h | ⟨o, h⟩) | h
  · exact .inl (.inl (e _ _ n h))
  · exact .inl (.inr ⟨o, e _ _ n h⟩)
  · exact .inr h
theorem KB.tup {K : PySem.W.Frag} {a p : Addr} {H H' : Hp} {xs : List V} (e : KB a H H') (n : p ≠ a) (h : SqT K H p xs) : SqT K H' p xs := by
  rcases h with (h | ⟨o, h⟩) | h
  · exact .inl (.inl (e _ _ n h))
  · exact .inl (.inr ⟨o, e _ _ n h⟩)
  · exact .inr h
theorem Same.tup {K : PySem.W.Frag} {a : Addr} {H H' : Hp} {xs : List V} (e : Same H H') (h : SqT K H a xs) : SqT K H' a xs := by
  rcases h with (h | ⟨o, h⟩) | h
  · exact .inl (.inl (e _ _ h))
  · exact .inl (.inr ⟨o, e _ _ h⟩)
  · exact .inr h
/-- the heap without what stands at a -/
def hid (a : Addr) (H : Hp) : Hp := fun b => if b = a then none else H b
theorem hid_ne {a b : Addr} {H : Hp} (h : b ≠ a) : hid a H b = H b := if_neg h
theorem hid_same {a : Addr} {H : Hp} : Same (hid a H) H := fun b o h => by
  by_cases e : b = a
  · rw [e] at h
    unfold hid at h
    rw [if_pos rfl] at h
    cases h
  · rw [hid_ne e] at h
    exact h
theorem hid_kb {a : Addr} {H H' : Hp} (k : KB a H H') : Same (hid a H) (hid a H') := fun b o h => by
  by_cases e : b = a
  · rw [e] at h
    unfold hid at h
    rw [if_pos rfl] at h
    cases h
  · rw [hid_ne e] at h ⊢
    exact k b o e h
theorem hid_of {a b : Addr} {H : Hp} {o : HO} (h : b ≠ a) (e : H b = some o) : hid a H b = some o := by
  rw [hid_ne h]
  exact e

/-- a feed stands at a -/
def Fd (H : Hp) (a : Addr) : Prop := ∃ c d : Int, H a = some (.lst [.int c, .int d])
theorem Fd.new {H : Hp} {a p : Addr} {o : HO} (f : Fd H a) (h : H p = none) : Fd (upd H p o) a := by
  obtain ⟨c, d, e⟩ := f
  exact ⟨c, d, same_upd h _ _ e⟩
theorem Fd.same {H H' : Hp} {a : Addr} (f : Fd H a) (h : Same H H') : Fd H' a := by
  obtain ⟨c, d, e⟩ := f
  exact ⟨c, d, h _ _ e⟩
theorem Fd.ne {H : Hp} {a p : Addr} (f : Fd H a) (h : H p = none) : p ≠ a := by
  obtain ⟨c, d, e⟩ := f
  exact (ne_of_none e h).symm
theorem Fd.neT {H : Hp} {a p : Addr} {xs : List V} (f : Fd H a) (h : H p = some (.tup xs)) : p ≠ a := by
  obtain ⟨c, d, e⟩ := f
  exact ne_of h e (by intro z; cases z)

theorem calMono {P : Program} {w : World} {K : PySem.W.Frag} {mg : Str → Option Value} {base : Heap} {j k : Nat} {x : Str} {sp : Sp} {dvs : List V} (c : C8.Cal P w K mg base j x sp dvs) (h : j ≤ k) : C8.Cal P w K mg base k x sp dvs := by
  obtain ⟨f, fd, ps, ds, F, r⟩ := c.ex
  exact ⟨f, fd, ps, ds, F.mono h, r⟩
theorem metMono {P : Program} {w : World} {K : PySem.W.Frag} {mg : Str → Option Value} {base : Heap} {j k : Nat} {C : Addr} {x : Str} {sp : Sp} {dvs : List V} (c : C8.Met P w K mg base j C x sp dvs) (h : j ≤ k) : C8.Met P w K mg base k C x sp dvs := by
  obtain ⟨f, fd, ps, ds, c1, m, F, r⟩ := c.ex
  exact ⟨f, fd, ps, ds, c1, m, F.mono h, r⟩
theorem makMono {P : Program} {w : World} {K : PySem.W.Frag} {mg : Str → Option Value} {base : Heap} {j k : Nat} {C : Addr} {x : Str} {sp : Sp} {dvs : List V} (c : C8.Mak P w K mg base j x C sp dvs) (h : j ≤ k) : C8.Mak P w K mg base k x C sp dvs := by
  obtain ⟨f, fd, ps, ds, M, F, r⟩ := c.ex
  exact ⟨f, fd, ps, ds, M, F.mono h, r⟩
theorem calImp {P : Program} {w : World} {K : PySem.W.Frag} {mg : Str → Option Value} {base : Heap} {k : Nat} {x : Str} {sp sp' : Sp} {dvs : List V} (c : C8.Cal P w K mg base k x sp dvs) (h : ∀ vs H Q E, sp' vs H Q E → sp vs H Q E) : C8.Cal P w K mg base k x sp' dvs := by
  obtain ⟨f, fd, ps, ds, F, r⟩ := c.ex
  exact ⟨f, fd, ps, ds, F.imp h, r⟩

/-- a def of the module as it stands behind the top: its place, its name, how it binds -/
structure Df (K : PySem.W.Frag) (mg : Str → Option Value) (x : Str) (st : Stmt) (ps : List Str) : Prop where
  ex : ∃ f fd, Fun K x x st f fd ∧ mg x = some (.ref f) ∧ PySem.W.keepIn K (.ref f) = true ∧ Binds K fd ps []
theorem Df.cal {P : Program} {w : World} {K : PySem.W.Frag} {mg : Str → Option Value} {base : Heap} {x : Str} {st : Stmt} {N ps : List Str} {k : Nat} {sp : Sp} (F : Df K mg x st ps) (S : FnScope N ps (defScope st)) (len : ∀ vs H Q E, sp vs H Q E → vs.length = ps.length)
    (hbody : ∀ (f : Addr) (cdv : Value) (A : Around) (outer : List Env) (s : Shared) (H : Hp) (vs : List V) (Q : VK) (E : XK), Room k (A.deeper (envOfC x (defScope st) s.heap.objs.size f cdv)) → sp vs H Q E →
      ∃ t, PSs (cxOf CX0 P w K mg base N x (defScope st) f cdv A outer s H E).nox (defBody st) t ∧ t { nx := fun _ H' => Q .non H', rt := Q } (start N vs) H) : C8.Cal P w K mg base (k + 1) x sp [] := by
  obtain ⟨f, fd, F, hm, kp, b⟩ := F.ex
  exact ⟨f, fd, ps, [], F.ok S len (hbody f), hm, kp, b, .nil⟩

/-- a promise that is never asked -/
theorem Df.never {P : Program} {w : World} {K : PySem.W.Frag} {mg : Str → Option Value} {base : Heap} {x : Str} {st : Stmt} {ps : List Str} {sp : Sp} (F : Df K mg x st ps) (h : ∀ vs H Q E, ¬ sp vs H Q E) : C8.Cal P w K mg base 0 x sp [] := by
  obtain ⟨f, fd, F, hm, kp, b⟩ := F.ex
  exact ⟨f, fd, ps, [], ⟨fun vs H Q E q => (h _ _ _ _ q).elim, fun A outer s H args us vs Q E hr he hb hv hs => (h _ _ _ _ hs).elim⟩, hm, kp, b, .nil⟩
/-- a method of the class at C -/
structure Dm (K : PySem.W.Frag) (C : Addr) (m qual : Str) (st : Stmt) (ps : List Str) : Prop where
  ex : ∃ f fd, Cls K C ∧ Meth K C m f ∧ Fun K m qual st f fd ∧ Binds K fd ps []
theorem Dm.met {P : Program} {w : World} {K : PySem.W.Frag} {mg : Str → Option Value} {base : Heap} {C : Addr} {m qual : Str} {st : Stmt} {N ps : List Str} {k : Nat} {sp : Sp} (F : Dm K C m qual st ps) (S : FnScope N ps (defScope st)) (len : ∀ vs H Q E, sp vs H Q E → vs.length = ps.length)
    (hbody : ∀ (f : Addr) (cdv : Value) (A : Around) (outer : List Env) (s : Shared) (H : Hp) (vs : List V) (Q : VK) (E : XK), Room k (A.deeper (envOfC qual (defScope st) s.heap.objs.size f cdv)) → sp vs H Q E →
      ∃ t, PSs (cxOf CX0 P w K mg base N qual (defScope st) f cdv A outer s H E).nox (defBody st) t ∧ t { nx := fun _ H' => Q .non H', rt := Q } (start N vs) H) : C8.Met P w K mg base (k + 1) C m sp [] := by
  obtain ⟨f, fd, c, me, F, b⟩ := F.ex
  exact ⟨f, fd, ps, [], c, me, F.ok S len (hbody f), b, .nil⟩
theorem Dm.never {P : Program} {w : World} {K : PySem.W.Frag} {mg : Str → Option Value} {base : Heap} {C : Addr} {m qual : Str} {st : Stmt} {ps : List Str} {sp : Sp} (F : Dm K C m qual st ps) (h : ∀ vs H Q E, ¬ sp vs H Q E) : C8.Met P w K mg base 0 C m sp [] := by
  obtain ⟨f, fd, c, me, F, b⟩ := F.ex
  exact ⟨f, fd, ps, [], c, me, ⟨fun vs H Q E q => (h _ _ _ _ q).elim, fun A outer s H args us vs Q E hr he hb hv hs => (h _ _ _ _ hs).elim⟩, b, .nil⟩
/-- a class of the module, with its __init__ -/
structure Dc (K : PySem.W.Frag) (mg : Str → Option Value) (C : Addr) (x qual : Str) (st : Stmt) (ps : List Str) : Prop where
  ex : ∃ f fd, Mk K C f ∧ mg x = some (.ref C) ∧ Fun K "__init__" qual st f fd ∧ Binds K fd ps []
theorem Dc.mak {P : Program} {w : World} {K : PySem.W.Frag} {mg : Str → Option Value} {base : Heap} {C : Addr} {x qual : Str} {st : Stmt} {N ps : List Str} {k : Nat} {sp : Sp} (F : Dc K mg C x qual st ps) (S : FnScope N ps (defScope st)) (len : ∀ vs H Q E, sp vs H Q E → vs.length = ps.length)
    (hbody : ∀ (f : Addr) (cdv : Value) (A : Around) (outer : List Env) (s : Shared) (H : Hp) (vs : List V) (Q : VK) (E : XK), Room k (A.deeper (envOfC qual (defScope st) s.heap.objs.size f cdv)) → sp vs H Q E →
      ∃ t, PSs (cxOf CX0 P w K mg base N qual (defScope st) f cdv A outer s H E).nox (defBody st) t ∧ t { nx := fun _ H' => Q .non H', rt := Q } (start N vs) H) : C8.Mak P w K mg base (k + 1) x C sp [] := by
  obtain ⟨f, fd, M, hm, F, b⟩ := F.ex
  exact ⟨f, fd, ps, [], M, F.ok S len (hbody f), hm, b, .nil⟩

theorem vals_of : ∀ {xs : List V} {us : List Value}, xs.length = us.length → (∀ (i : Nat) x u, xs[i]? = some x → us[i]? = some u → RelV x u) → Vals xs us
  | [], [], _, _ => .nil
  | [], _ :: _, h, _ => by simp at h
  | _ :: _, [], h, _ => by simp at h
  | x :: xs, u :: us, h, p => .cons (p 0 x u rfl rfl) (vals_of (by simpa using h) fun i y v a b => p (i + 1) y v (by simpa using a) (by simpa using b))
/-- list(text): its signs -/
theorem call_list_txt {X : Cx} : CallR X (.type "list") (fun xs H Q => ∃ z : Str, xs = [.str z] ∧ z.length ≤ sizeLine ∧ X.A.handled = none ∧ ∀ l, H l = none → Q (.ref l) (upd H l (.lst (z.cps.toList.map fun c => V.str ⟨#[c]⟩)))) := by
  intro pins s σ H xs us Q I r h
  obtain ⟨z, rfl, hz, hh, q⟩ := h
  obtain ⟨u, rfl, rx⟩ := vals1 r
  obtain ⟨t, rfl⟩ := rx
  refine call_list_str hh z t (hn := hz) fun h' tk acc' c' hk hS' hacc => ?_
  refine ⟨.ref s.heap.objs.size, _, I.laid (t' := tk) hk (Nat.le_refl _) (show ObjOk X.prog X.w _ h' _ (.lst (z.cps.toList.map fun c => V.str ⟨#[c]⟩)) from ⟨by simpa [Str.length] using hz, acc'.toList, c', ?_, by simpa using hS'⟩), rfl, q _ (I.hok.fresh (Nat.le_refl _))⟩
  refine vals_of (by simp [hacc.1]) fun i x u hx hu => ?_
  obtain ⟨c, t', hc, rfl⟩ := hacc.2 i u (by simpa using hu)
  rw [List.getElem?_map] at hx
  have hc' : z.cps.toList[i]? = some c := by simpa using hc
  rw [hc'] at hx
  cases hx
  exact ⟨_, rfl⟩

theorem yesT {σ : L2.St} {H : Hp} {X Y : Hp → Prop} (h : X H) : tYes σ H (fun b H3 => if b = true then X H3 else Y H3) := by
  show (if true = true then X H else Y H)
  rw [if_pos rfl]
  exact h
/-! ### a comprehension whose element is reckoned from the item alone -/
theorem lc_pure {K : PySem.W.Frag} {a D : Addr} {xs : List V} {i : Nat} {te : TE} {vs : List Nat} {σ : L2.St} {H1 : Hp} {Qd : Hp → Prop} (g : V → V) (ha : SqL K H1 a xs) (hD : H1 D = none) (hsz : xs.length ≤ sizeLine)
    (hw : ∀ x, wipe ((wipe σ vs).set i (some x)) vs = wipe σ vs)
    (he : ∀ x ∈ xs, ∀ (acc : List V) (Qv : VK), Qv (g x) (upd H1 D (.lst acc)) → te ((wipe σ vs).set i (some x)) (upd H1 D (.lst acc)) Qv)
    (hd : Qd (upd H1 D (.lst (xs.map g)))) :
    ∃ W : Nat → Nat → Hp → Prop, (∃ m, W 0 m (upd H1 D (.lst []))) ∧ ∀ j m H, W j m H →
      ((Itl K a).stop j H ∧ Qd H) ∨ ((Itl K a).go j H ∧ ∃ Nx : Hp → Prop, (∀ H', Nx H' → ∃ m', m' < m ∧ W (j + 1) m' H') ∧ ∀ x H', (Itl K a).yld j H x H' → gName i x (wipe σ vs) H' fun σ2 H2 => wipe σ2 vs = wipe σ vs ∧ tYes σ2 H2 fun b H3 =>
        if b = true then te σ2 H3 fun y H4 => ∃ acc, H4 D = some (.lst acc) ∧ acc.length < sizeLine ∧ Nx (upd H4 D (.lst (acc ++ [y]))) else Nx H3) := by
  refine lc_list (K := K) (a := a) (xs := xs) (fun j H => H = upd H1 D (.lst ((xs.take j).map g))) rfl (fun j H _ e => ?_) (fun j x H hx e => ?_) (fun H e => ?_)
  · rw [e]
    exact (same_upd hD).seq ha
  · subst e
    refine ⟨hw x, yesT ?_⟩
    obtain ⟨hj, ex⟩ := List.getElem?_eq_some_iff.mp hx
    refine he x (by rw [← ex]; exact List.getElem_mem hj) _ _ ⟨_, upd_same, ?_, ?_⟩
    · rw [List.length_map, List.length_take]
      omega
    · rw [upd_upd, List.take_succ_eq_append_getElem hj, List.map_append, ex]
      rfl
  · rw [e, List.take_length]
    exact hd
end KW

/-! ## the law's feed: _law_feed, _law_draw, _law_pick -/
namespace KW
open PySem PySem.Spec PyProof.Rows L2
def topS (i : Nat) : Stmt := PySem.Challenge.pw_knownways_k02_steps_and_their_ways.main.body.getD i (.Pass ⟨0, 0, 0, 0⟩)
theorem at_ofN {α : Type} {xs : List α} {z : Int} {v : α} (e : z = (z.toNat : Int)) (h : xs[z.toNat]? = some v) : atI xs z = some v := by
  rw [e]
  exact atI_nat h
section
variable {P : Program} {w : World} {K : PySem.W.Frag} {mg : Str → Option Value} {base : Heap}
abbrev s__law_feed : Stmt := topS 37
theorem sc__law_feed : FnScope ["_law_script", "_law_k", "_law_cell"] ["_law_script", "_law_k"] (defScope s__law_feed) := ⟨rfl, rfl, rfl, by decide +kernel, rfl, by decide +kernel, by decide +kernel⟩
def spFeed (K : PySem.W.Frag) : Sp := fun vs H Q _ => ∃ (a : Addr) (ns : List Int) (k : Int), vs = [.ref a, .int k] ∧ SqL K H a (ns.map V.int) ∧ 0 ≤ k ∧
  ∀ (p : Addr) (H' : Hp), H p = none → Same H H' → Fd H' p → Q (.ref p) H'
theorem ok_feed {k : Nat} (B : Bi mg) (F : Df K mg "_law_feed" s__law_feed ["_law_script", "_law_k"]) : C8.Cal P w K mg base (k + 1) "_law_feed" (spFeed K) [] := by
  refine F.cal sc__law_feed (fun vs H Q E h => ?_) (fun f cdv A outer s H vs Q E hr h => ?_)
  · obtain ⟨a, ns, k, rfl, _⟩ := h
    rfl
  · obtain ⟨a, ns, k, rfl, hS, hk, q⟩ := h
    refine ⟨_, (pss_cons (ps_set (i := 2) sc__law_feed.nd rfl (Or.inl rfl) (pe_op op_add (pe_op op_mul pe_int (pv 1)) pe_int))
      (C8.pss_cut (ps_if (pt_cmpR op_lt (pv 1) (pe_callB (kk_len K rfl) rfl B.len PySem.boot_len (pa_cons (pv 0) pa_nil)) (nomark _)) (pss_one (ps_set (i := 2) sc__law_feed.nd rfl (Or.inl rfl) (pe_ix (kk_ixL K rfl) (pv 0) (pv 1) (fun _ _ => rfl)))) (pss_one (ps_if (pt_cmpR op_gt (pe_callB (kk_len K rfl) rfl B.len PySem.boot_len (pa_cons (pv 0) pa_nil)) pe_int (nomark _)) (pss_one (ps_set (i := 2) sc__law_feed.nd rfl (Or.inl rfl) (pe_op op_add (pv 2) (pe_op op_mul (pe_op op_mod (pe_callB call_abs rfl B.abs (by decide +kernel) (pa_cons (pe_ix (kk_ixL K rfl) (pv 0) (pe_op op_mod (pe_callTy call_int1 rfl B.ty_int (by decide +kernel) (pa_cons (pv 1) pa_nil)) (pe_callB (kk_len K rfl) rfl B.len PySem.boot_len (pa_cons (pv 0) pa_nil))) (fun _ _ => rfl)) pa_nil)) pe_int) pe_int)))) pss_nil)))
      (C8.pss_cut (ps_if (pt_cmpR op_lt (pv 2) pe_int (nomark _)) (pss_one (ps_set (i := 2) sc__law_feed.nd rfl (Or.inl rfl) (pe_op op_sub pe_int (pe_op op_mul pe_int (pv 2))))) pss_nil)
      (pss_one (ps_ret (pe_lst (pa_cons (pe_ifExp (pt_cmpR op_ge (pv 2) (pe_op op_pow pe_int pe_int) (nomark _)) (pv 2) pe_int) (pa_cons (pe_op op_add (pe_op op_add (pe_op op_mod (pe_callTy call_int1 rfl B.ty_int (by decide +kernel) (pa_cons (pv 2) pa_nil)) pe_int) (pe_op op_mul pe_int (pv 1))) pe_int) pa_nil)))))))), ?_⟩
    have hL : (List.map V.int ns).length = ns.length := List.length_map _
    have at_ : ∀ (i : Int), 0 ≤ i → i < (ns.length : Int) → ∃ z : Int, atI (ns.map V.int) i = some (.int z) := fun i h0 h1 => by
      obtain ⟨j, rfl⟩ : ∃ j : Nat, i = (j : Int) := ⟨i.toNat, by omega⟩
      have hj : j < ns.length := by omega
      exact ⟨ns[j], atI_nat (by rw [List.getElem?_map, List.getElem?_eq_getElem hj]; rfl)⟩
    refine ⟨_, rfl, _, _, rfl, rfl, .inl ⟨by decide, by decide⟩, _, _, rfl, rfl, fun σ H' => ∃ c : Int, σ = [some (.ref a), some (.int k), some (.int c)] ∧ H = H', ?_, ?_⟩
    · refine ⟨_, rfl, _, rfl, _, _, rfl, .inl ⟨_, hS, rfl⟩, _, _, rfl, rfl, _, rfl, ?_⟩
      refine ite2 (fun h0 => ?_) (fun h0 => ?_)
      · obtain ⟨z, hz⟩ := at_ k hk (by simpa using h0)
        exact ⟨_, rfl, _, rfl, a, _, k, _, rfl, rfl, hS, hz, z, rfl, rfl⟩
      · refine ⟨_, rfl, _, _, rfl, .inl ⟨_, hS, rfl⟩, _, _, rfl, rfl, _, rfl, ?_⟩
        refine ite2 (fun h1 => ?_) (fun h1 => ?_)
        · have h2 : (0 : Int) < (ns.length : Int) := by simpa using h1
          obtain ⟨z, hz⟩ := at_ (k % ((ns.map V.int).length : Nat)) (Int.emod_nonneg _ (by rw [hL]; omega)) (by rw [hL]; exact Int.emod_lt_of_pos _ h2)
          refine ⟨_, rfl, _, rfl, _, rfl, .inl ⟨_, rfl, _, rfl, _, _, rfl, .inl ⟨_, hS, rfl⟩, _, _, rfl, rfl, (by rw [hL]; exact h2), a, _, _, _, rfl, rfl, hS, hz, _, rfl, _, _, rfl, rfl, (by show (0 : Int) < 1000003; decide), _, _, rfl, rfl, .inr ⟨by decide, by decide⟩, _, _, rfl, rfl, _, rfl, rfl⟩⟩
        · exact ⟨_, rfl, rfl⟩
    · rintro σ H' ⟨c, rfl, rfl⟩
      refine ⟨fun σ H' => ∃ c : Int, σ = [some (.ref a), some (.int k), some (.int c)] ∧ H = H', ?_, ?_⟩
      · refine ⟨_, rfl, _, _, rfl, rfl, _, rfl, ?_⟩
        refine ite2 (fun h1 => ?_) (fun h1 => ?_)
        · exact ⟨_, rfl, _, _, rfl, rfl, .inl ⟨by decide, by decide⟩, _, _, rfl, rfl, _, rfl, rfl⟩
        · exact ⟨_, rfl, rfl⟩
      · rintro σ H' ⟨c, rfl, rfl⟩
        have fin : ∀ z : Int, (tCons (tOp (rI0 fun i j => V.int (i + j)) (tOp (rI0 fun i j => V.int (i + j)) (tOp (rI (fun _ j => 0 < j) fun i j => V.int (i % j)) (tCB (fun xs H Q => (∃ i, xs = [V.int i] ∧ Q (V.int i) H) ∨ ∃ k, xs = [V.bl k] ∧ Q (V.int (if k = true then 1 else 0)) H) (tCons (tVar 2) tNil)) (tC (V.int 1000003))) (tOp (rI CMul fun i j => V.int (i * j)) (tC (V.int 13)) (tVar 1))) (tC (V.int 1))) tNil)
            [some (.ref a), some (.int k), some (.int c)] H (fun xs H2 => (V.int z :: xs).length ≤ sizeLine ∧ ∀ p, H2 p = none → Q (.ref p) (upd H2 p (.lst (V.int z :: xs)))) := fun z => by
          refine ⟨_, rfl, .inl ⟨_, rfl, _, _, rfl, rfl, (by show (0 : Int) < 1000003; decide), _, rfl, _, _, rfl, rfl, .inl ⟨by decide, by decide⟩, _, _, rfl, rfl, _, _, rfl, rfl, (by show 2 ≤ sizeLine; decide), fun p hp => ?_⟩⟩
          exact q p _ hp (same_upd hp) ⟨_, _, upd_same⟩
        refine ⟨_, rfl, _, _, rfl, rfl, ⟨by decide, by decide, by decide⟩, _, _, rfl, rfl, _, rfl, ?_⟩
        refine ite2 (fun h1 => ?_) (fun h1 => ?_)
        · exact ⟨_, rfl, fin c⟩
        · exact fin 0
abbrev s__law_draw : Stmt := topS 38
theorem sc__law_draw : FnScope ["_law_feed_here", "_law_many", "_law_digit"] ["_law_feed_here", "_law_many"] (defScope s__law_draw) := ⟨rfl, rfl, rfl, by decide +kernel, rfl, by decide +kernel, by decide +kernel⟩
def spDraw : Sp := fun vs H Q _ => ∃ (a : Addr) (m : Int), vs = [.ref a, .int m] ∧ Fd H a ∧ 0 < m ∧ m < 1073741824 ∧
  ∀ (r : Int) (H' : Hp), 0 ≤ r → r < m → Fd H' a → KB a H H' → Q (.int r) H'
theorem ok_draw {k : Nat} (B : Bi mg) (F : Df K mg "_law_draw" s__law_draw ["_law_feed_here", "_law_many"]) : C8.Cal P w K mg base (k + 1) "_law_draw" spDraw [] := by
  refine F.cal sc__law_draw (fun vs H Q E h => ?_) (fun f cdv A outer s H vs Q E hr h => ?_)
  · obtain ⟨a, m, rfl, _⟩ := h
    rfl
  · obtain ⟨a, m, rfl, ⟨c, d, hF⟩, m0, m1, q⟩ := h
    refine ⟨_, (pss_cons (ps_if (pt_cmpR op_gt (pe_ix (kk_ixL K rfl) (pv 0) pe_int (fun _ _ => rfl)) pe_int (nomark _)) (pss_cons (ps_set (i := 2) sc__law_draw.nd rfl (Or.inl rfl) (pe_op op_mod (pe_callTy call_int1 rfl B.ty_int (by decide +kernel) (pa_cons (pe_ix (kk_ixL K rfl) (pv 0) pe_int (fun _ _ => rfl)) pa_nil)) (pv 1)))
      (pss_cons (ps_asg (pe_op op_fdivW (pe_ix (kk_ixL K rfl) (pv 0) pe_int (fun _ _ => rfl)) (pv 1)) (pg_sub (pv 0) pe_int set_list))
      (pss_one (ps_ret (pv 2))))) pss_nil)
      (pss_cons (ps_asg (pe_op op_mod (pe_callTy call_int1 rfl B.ty_int (by decide +kernel) (pa_cons (pe_op op_add (pe_op op_mul (pe_ix (kk_ixL K rfl) (pv 0) pe_int (fun _ _ => rfl)) pe_int) pe_int) pa_nil)) pe_int) (pg_sub (pv 0) pe_int set_list))
      (pss_one (ps_ret (pe_op op_mod (pe_callTy call_int1 rfl B.ty_int (by decide +kernel) (pa_cons (pe_op op_fdivW (pe_ix (kk_ixL K rfl) (pv 0) pe_int (fun _ _ => rfl)) pe_int) pa_nil)) (pv 1)))))), ?_⟩
    refine ⟨_, rfl, a, _, 0, _, rfl, rfl, SqL.of hF, rfl, _, _, rfl, rfl, _, rfl, ?_⟩
    refine ite2 (fun h0 => ?_) (fun h0 => ?_)
    · refine ⟨_, rfl, a, _, 0, _, rfl, rfl, SqL.of hF, rfl, .inl ⟨_, rfl, _, rfl, _, _, rfl, rfl, m0, ?_⟩⟩
      refine ⟨_, rfl, a, _, 0, _, rfl, rfl, SqL.of hF, rfl, _, rfl, _, _, rfl, rfl, wide_div m0 (b := 31) (by omega) (by decide) (by decide), _, rfl, a, _, _, 0, rfl, rfl, hF, rfl, ?_⟩
      refine ⟨_, rfl, q _ _ (Int.emod_nonneg _ (by omega)) (Int.emod_lt_of_pos _ m0) ⟨_, _, upd_same⟩ (KB.refl _ _).upd⟩
    · refine ⟨_, rfl, a, _, 1, _, rfl, rfl, SqL.of hF, rfl, _, _, rfl, rfl, .inr ⟨by decide, by decide⟩, _, _, rfl, rfl, .inl ⟨_, rfl, _, _, rfl, rfl, (by show (0 : Int) < 2147483647; decide), _, rfl, a, _, _, 1, rfl, rfl, hF, rfl, ?_⟩⟩
      refine ⟨_, rfl, a, _, 1, _, rfl, rfl, SqL.of upd_same, rfl, _, _, rfl, rfl, wide_div (b := 7) (by decide) (by decide) (by decide) (by decide), .inl ⟨_, rfl, _, rfl, _, _, rfl, rfl, m0, ?_⟩⟩
      exact q _ _ (Int.emod_nonneg _ (by omega)) (Int.emod_lt_of_pos _ m0) ⟨_, _, upd_same⟩ (KB.refl _ _).upd

abbrev s__law_pick : Stmt := topS 39
theorem sc__law_pick : FnScope ["_law_feed_here", "_law_items"] ["_law_feed_here", "_law_items"] (defScope s__law_pick) := ⟨rfl, rfl, rfl, by decide +kernel, rfl, by decide +kernel, by decide +kernel⟩
def spPick (K : PySem.W.Frag) : Sp := fun vs H Q _ => ∃ (a : Addr) (x : V), vs = [.ref a, x] ∧ Fd H a ∧
  ((∃ z : Str, x = .str z ∧ z.cps.toList ≠ [] ∧ z.length ≤ 1000 ∧ ∀ (c : Nat) (H' : Hp), c ∈ z.cps.toList → Fd H' a → KB a H H' → Q (.str ⟨#[c]⟩) H') ∨
   (∃ (p : Addr) (xs : List V), x = .ref p ∧ p ≠ a ∧ (SqL K H p xs ∨ SqT K H p xs) ∧ xs ≠ [] ∧ xs.length ≤ 1000 ∧ ∀ (v : V) (H' : Hp), v ∈ xs → Fd H' a → KB a H H' → Q v H'))
theorem ok_pick {k : Nat} (B : Bi mg) (F : Df K mg "_law_pick" s__law_pick ["_law_feed_here", "_law_items"]) (G_law_draw : C8.Cal P w K mg base k "_law_draw" spDraw []) : C8.Cal P w K mg base (k + 1) "_law_pick" (spPick K) [] := by
  refine F.cal sc__law_pick (fun vs H Q E h => ?_) (fun f cdv A outer s H vs Q E hr h => ?_)
  · obtain ⟨a, x, rfl, _⟩ := h
    rfl
  · obtain ⟨a, x, rfl, hF, h⟩ := h
    refine ⟨_, (pss_one (ps_ret (pe_ix (kk_ix K rfl) (pv 1) (C8.pe_c G_law_draw hr (Nat.le_refl _) rfl (pa_cons (pv 0) (pa_cons (pe_callB (kk_len K rfl) rfl B.len PySem.boot_len (pa_cons (pv 1) pa_nil)) pa_nil))) (fun _ _ => rfl)))), ?_⟩
    rcases h with ⟨z, rfl, hz, hl, q⟩ | ⟨p, xs, rfl, hp, hS, hx, hl, q⟩
    · have h0 : 0 < z.cps.toList.length := List.length_pos_iff.mpr hz
      have hzl : z.length = z.cps.toList.length := by simp [Str.length]
      refine ⟨_, rfl, _, rfl, _, rfl, _, z.length, rfl, ⟨Nat.le_trans hl (by decide), rfl⟩, a, _, rfl, hF, by omega, by omega, fun r H' r0 r1 f' kb => ?_⟩
      have hr : r.toNat < z.cps.toList.length := by omega
      refine .inr (.inr ⟨z, r, z.cps.toList[r.toNat], rfl, rfl, Nat.le_trans hl (by decide), at_ofN (by omega) (List.getElem?_eq_getElem hr), ?_⟩)
      exact q _ _ (List.getElem_mem hr) f' kb
    · have h0 : 0 < xs.length := List.length_pos_iff.mpr hx
      have lv : LenV K (.ref p) H xs.length := hS.elim (fun h => .inl ⟨xs, h, rfl⟩) (fun h => .inr ⟨xs, h, rfl⟩)
      refine ⟨_, rfl, _, rfl, _, rfl, _, xs.length, rfl, lv, a, _, rfl, hF, by omega, by omega, fun r H' r0 r1 f' kb => ?_⟩
      have hr : r.toNat < xs.length := by omega
      rcases hS with hS | hS
      · exact .inl ⟨p, xs, r, xs[r.toNat], rfl, rfl, kb.seq hp hS, at_ofN (by omega) (List.getElem?_eq_getElem hr), q _ _ (List.getElem_mem hr) f' kb⟩
      · exact .inr (.inl ⟨p, xs, r, xs[r.toNat], rfl, rfl, kb.tup hp hS, at_ofN (by omega) (List.getElem?_eq_getElem hr), q _ _ (List.getElem_mem hr) f' kb⟩)
end
end KW

/-! ## names: _law_word, _law_words -/
namespace KW
open PySem PySem.Spec PyProof.Rows L2
abbrev S : List Nat → Str := SX.S
/-- a row of texts as values -/
abbrev LS (ls : List (List Nat)) : List V := ls.map fun l => V.str (S l)
abbrev wIf : List Nat := [105, 102]
abbrev wElse : List Nat := [101, 108, 115, 101]
abbrev wEnd : List Nat := [101, 110, 100]
/-- small letters -/
def Low (l : List Nat) : Prop := ∀ c ∈ l, 97 ≤ c ∧ c ≤ 122
/-- a name -/
def Nm (l : List Nat) : Prop := Low l ∧ 1 ≤ l.length ∧ l.length ≤ 4 ∧ l ≠ wIf ∧ l ≠ wElse ∧ l ≠ wEnd
abbrev abc : List Nat := [97, 98, 99, 100, 101, 102, 103, 104, 105, 106, 107, 108, 109, 110, 111, 112, 113, 114, 115, 116, 117, 118, 119, 120, 121, 122]
theorem abc_eq : (Str.ofString "abcdefghijklmnopqrstuvwxyz") = S abc := by decide +kernel
theorem low_abc : Low abc := by unfold Low; decide
theorem abc_tl : (Str.ofString "abcdefghijklmnopqrstuvwxyz").cps.toList = abc := by rw [abc_eq]
theorem nm_one {c : Nat} (h : c ∈ abc) : Nm [c] := ⟨fun d hd => by
  rw [List.mem_singleton] at hd
  subst hd
  exact low_abc _ h, by simp, by simp, by simp, by simp, by simp⟩
theorem joinL_single : ∀ cs : List Nat, TL.joinL [] (cs.map fun c => [c]) = cs
  | [] => rfl
  | [_] => rfl
  | c :: d :: r => by
    show [c] ++ ([] ++ TL.joinL [] ((d :: r).map fun c => [c])) = c :: d :: r
    rw [joinL_single (d :: r)]
    rfl
theorem sgn_eq (c : Nat) : (⟨#[c]⟩ : Str) = S [c] := rfl
theorem sum_ones : ∀ cs : List Nat, ((cs.map fun c => S [c]).map (·.length)).sum = cs.length
  | [] => rfl
  | c :: r => by
    have ih := sum_ones r
    rw [List.map_cons, List.map_cons, List.sum_cons, ih, List.length_cons]
    show 1 + _ = _
    omega
theorem KB.upd0 {a p : Addr} {H H' : Hp} {o : HO} (x : KB a H H') (h : H p = none) : KB a H (L2.upd H' p o) := fun b u n e => by
  rw [upd_ne (ne_of_none e h)]
  exact x b u n e
theorem Fd.upd {H : Hp} {a p : Addr} {o : HO} (f : Fd H a) (h : a ≠ p) : Fd (L2.upd H p o) a := by
  obtain ⟨c, d, e⟩ := f
  exact ⟨c, d, by rw [upd_ne h]; exact e⟩
/-- what is new behind a draw was new ahead of it -/
theorem KB.free {a p : Addr} {H H' : Hp} (k : KB a H H') (n : p ≠ a) (h : H' p = none) : H p = none := by
  cases e : H p with
  | none => rfl
  | some o => rw [k p o n e] at h; cases h
section
variable {P : Program} {w : World} {K : PySem.W.Frag} {mg : Str → Option Value} {base : Heap}
abbrev s__law_word : Stmt := topS 41
theorem sc__law_word : FnScope ["_law_feed_here", "_law_letters", "_law_word_here", "_law_k"] ["_law_feed_here"] (defScope s__law_word) := ⟨rfl, rfl, rfl, by decide +kernel, rfl, by decide +kernel, by decide +kernel⟩
def spWord : Sp := fun vs H Q _ => ∃ (a : Addr), vs = [.ref a] ∧ Fd H a ∧ ∀ (l : List Nat) (H' : Hp), Nm l → Fd H' a → KB a H H' → Q (.str (S l)) H'
theorem ok_word {k : Nat} (B : Bi mg) (F : Df K mg "_law_word" s__law_word ["_law_feed_here"]) (G_law_draw : C8.Cal P w K mg base k "_law_draw" spDraw []) (G_law_pick : C8.Cal P w K mg base k "_law_pick" (spPick K) []) :
    C8.Cal P w K mg base (k + 1) "_law_word" spWord [] := by
  refine F.cal sc__law_word (fun vs H Q E h => ?_) (fun f cdv A outer s H vs Q E hr h => ?_)
  · obtain ⟨a, rfl, _⟩ := h
    rfl
  · obtain ⟨a, rfl, hF, q⟩ := h
    refine ⟨_, (pss_cons (ps_set (i := 1) sc__law_word.nd rfl (Or.inr rfl) pe_str)
      (pss_cons (ps_set (i := 2) sc__law_word.nd rfl (Or.inl rfl) (kk_bm K rfl PySem.F.plainAttrs_str PySem.F.slot_str_join PySem.F.type_str_join (kk_join K rfl) pe_str (pa_cons (pe_lc (own := [("_law_k", 3)]) (g := gName 3) (tt := tYes) rfl sc__law_word.nd (pi_range1 rfl B.range (pa_cons (pe_op op_add pe_int (C8.pe_c G_law_draw hr (Nat.le_refl _) rfl (pa_cons (pv 0) (pa_cons pe_int pa_nil)))) pa_nil)) (blkOk_by (own := [("_law_k", 3)]) (N := ["_law_feed_here", "_law_letters", "_law_word_here", "_law_k"]) (sc := defScope s__law_word) (by decide +kernel)) (fun _ _ _ _ _ => (pg_name (i := 3) sc__law_word.nd rfl (Or.inl rfl))) (fun _ _ _ _ _ => pts_nil) (fun _ _ _ _ _ => (C8.pe_c G_law_pick hr (Nat.le_refl _) rfl (pa_cons (pv 0) (pa_cons (pv 1) pa_nil))))) pa_nil)))
      (pss_one (ps_ret (pe_ifExp (pt_cmpR (kk_in K rfl) (pv 2) (pe_tup (pa_cons pe_str (pa_cons pe_str (pa_cons pe_str pa_nil)))) rfl) pe_str (pv 2)))))), ?_⟩
    refine ⟨rfl, _, rfl, a, _, rfl, hF, by decide, by decide, fun r H1 r0 r1 f1 k1 => ⟨_, _, rfl, rfl, _, rfl, by omega, by omega, fun D hD => ?_⟩⟩
    have hDa : D ≠ a := f1.ne hD
    have hD0 : H D = none := k1.free hDa hD
    refine lc_range (lo := 0) (fun i H2 => ∃ cs : List Nat, cs.length = i ∧ Low cs ∧ H2 D = some (.lst (cs.map fun c => V.str (S [c]))) ∧ Fd H2 a ∧ KB a H H2) ⟨[], rfl, fun _ h => by simp at h, upd_same, f1.new hD, k1.new hD⟩ (fun i H2 hi hP => ?_) (fun H2 hP => ?_)
    · obtain ⟨cs, hl, hlow, hDc, f2, k2⟩ := hP
      refine ⟨rfl, yesT ?_⟩
      refine ⟨_, rfl, _, rfl, a, _, rfl, f2, .inl ⟨_, rfl, by rw [abc_tl]; decide, by decide, fun c H3 hc f3 k3 => ?_⟩⟩
      rw [abc_tl] at hc
      have hD3 := k3 D _ hDa hDc
      refine ⟨_, hD3, by rw [List.length_map]; exact Nat.lt_of_lt_of_le (show cs.length < 100 by omega) (by decide), cs ++ [c], by simp [hl], fun d hd => ?_, ?_, f3.upd hDa.symm, (k2.trans k3).upd0 hD0⟩
      · rw [List.mem_append, List.mem_singleton] at hd
        rcases hd with hd | rfl
        · exact hlow d hd
        · exact low_abc _ hc
      · rw [upd_same, List.map_append]
        rfl
    · obtain ⟨cs, hl, hlow, hDc, f2, k2⟩ := hP
      have hlen : 1 ≤ cs.length ∧ cs.length ≤ 4 := by omega
      refine ⟨_, _, cs.map fun c => S [c], rfl, rfl, .inl (SqL.of (by rw [hDc, List.map_map]; rfl)), ?_, ?_⟩
      · rw [sum_ones, List.length_map]
        show cs.length + cs.length * 0 ≤ _
        omega
      have ej : Txt.join (Str.ofString "") (cs.map fun c => S [c]) = S cs := by
        have e := SX.join_S [] (cs.map fun c => [c])
        rw [joinL_single, List.map_map] at e
        exact e
      rw [ej]
      refine ⟨_, rfl, (by show 3 ≤ sizeLine; decide), fun p hp => ?_⟩
      have f3 := f2.new (o := .tup [V.str (Str.ofString "if"), V.str (Str.ofString "else"), V.str (Str.ofString "end")]) hp
      have k3 := k2.new (o := .tup [V.str (Str.ofString "if"), V.str (Str.ofString "else"), V.str (Str.ofString "end")]) hp
      refine ⟨p, _, rfl, .inr (SqT.of upd_same), rfl, rfl, _, rfl, ite2 (fun h => ?_) (fun h => ?_)⟩
      · exact q [113] _ (nm_one (by decide)) f3 k3
      · refine ⟨_, rfl, q cs _ ⟨hlow, hlen.1, hlen.2, ?_, ?_, ?_⟩ f3 k3⟩
        all_goals (rintro rfl; exact h (by decide +kernel))
def spWords : Sp := fun vs H Q _ => ∃ (a : Addr) (m : Nat), vs = [.ref a, .int m] ∧ Fd H a ∧ m ≤ 26 ∧
  ∀ (p : Addr) (ls : List (List Nat)) (H' : Hp), H p = none → ls.length = m → (∀ l ∈ ls, Nm l) → ls.Nodup → H' p = some (.lst (LS ls)) → Fd H' a → KB a H H' → Q (.ref p) H'
theorem len_ne {α : Type} [BEq α] [LawfulBEq α] (x : α) {M : List α} (h : M.Nodup) : M.length ≤ (M.filter fun y => y != x).length + 1 := by
  rw [← h.erase_eq_filter, List.length_erase]
  split <;> omega
theorem len_out {α : Type} [BEq α] [LawfulBEq α] {M : List α} (h : M.Nodup) : ∀ f : List α, M.length ≤ (M.filter fun y => !f.contains y).length + f.length
  | [] => by
    rw [List.filter_eq_self.mpr (by intro _ _; rfl)]
    exact Nat.le_refl _
  | x :: r => by
    have e : (M.filter fun y => !(x :: r).contains y) = (M.filter fun y => !r.contains y).filter fun y => y != x := by
      rw [List.filter_filter]
      refine List.filter_congr fun y _ => ?_
      rw [List.contains_cons, Bool.not_or]
      rfl
    have i := len_out h r
    have j := len_ne x (h.filter (fun y => !r.contains y))
    rw [e, List.length_cons]
    omega
theorem inV_LS (x : List Nat) : ∀ ls : List (List Nat), inV (V.str (S x)) (LS ls) = ls.contains x
  | [] => rfl
  | y :: r => by
    have ih := inV_LS x r
    show ((S y == S x) || inV (V.str (S x)) (LS r)) = _
    rw [ih, SX.S_beq, List.contains_cons, BEq.comm]
theorem LS_snoc (ls : List (List Nat)) (y : List Nat) : LS ls ++ [V.str (S y)] = LS (ls ++ [y]) := by
  rw [LS, LS, List.map_append]
  rfl
theorem flat_LS (ls : List (List Nat)) : (LS ls).all flatV = true := by
  rw [List.all_eq_true]
  intro v hv
  obtain ⟨l, _, rfl⟩ := List.mem_map.mp hv
  rfl
theorem take_more {α : Type} {l : List α} {i : Nat} {x : α} (h : l[i]? = some x) : l.take (i + 1) = l.take i ++ [x] := by
  obtain ⟨hi, e⟩ := List.getElem?_eq_some_iff.mp h
  rw [List.take_succ_eq_append_getElem hi, e]
theorem LS_get {ls : List (List Nat)} {i : Nat} {v : V} (h : (LS ls)[i]? = some v) : ∃ l, ls[i]? = some l ∧ v = V.str (S l) := by
  rw [List.getElem?_map] at h
  cases e : ls[i]? with
  | none => rw [e] at h; cases h
  | some l => rw [e] at h; exact ⟨l, rfl, (Option.some.inj h).symm⟩
end
end KW

/-! ## _law_same, of one plain datum read twice -/
namespace KW
open PySem PySem.Spec PyProof.Rows L2
section
variable {K : PySem.W.Frag} {H H' : Hp}
mutual
theorem dp_same (s : Same H H') : ∀ (d : PyData) (v : V), Dp K H v d → Dp K H' v d
  | .none, _, h => by cases h; exact .non
  | .bool _, _, h => by cases h; exact .bl _
  | .int _, _, h => by cases h; exact .int _
  | .str _, _, h => by cases h; exact .str _
  | .list ds, _, h => by
    cases h with
    | lst hs ha => exact .lst (s.seq hs) (dpAll_same s ds _ ha)
  | .tuple ds, _, h => by
    cases h with
    | tup hs ha => exact .tup (Same.tup s hs) (dpAll_same s ds _ ha)
  | .dict _, _, h => by cases h
theorem dpAll_same (s : Same H H') : ∀ (ds : List PyData) (vs : List V), DpAll K H vs ds → DpAll K H' vs ds
  | [], _, h => by cases h; exact .nil
  | d :: ds, _, h => by
    cases h with
    | cons h1 h2 => exact .cons (dp_same s d _ h1) (dpAll_same s ds _ h2)
end
theorem dpAll_len : ∀ {vs : List V} {ds : List PyData}, DpAll K H vs ds → vs.length = ds.length
  | _, _, .nil => rfl
  | _, _, .cons _ h => by rw [List.length_cons, List.length_cons, dpAll_len h]
theorem dpAll_get : ∀ {vs : List V} {ds : List PyData} {i : Nat} {v : V}, DpAll K H vs ds → vs[i]? = some v → ∃ d, ds[i]? = some d ∧ Dp K H v d
  | _, _, _, _, .nil, h => by simp at h
  | _, _, 0, _, .cons h1 _, h => by
    simp at h
    subst h
    exact ⟨_, rfl, h1⟩
  | _, _, i + 1, v, .cons _ h2, h => by
    obtain ⟨d, e, q⟩ := dpAll_get (i := i) (v := v) h2 (by simpa using h)
    exact ⟨d, by simpa using e, q⟩
theorem tyL {a : Addr} {xs : List V} (h : SqL K H a xs) : TyX K H (.ref a) (.type "list") := by
  rcases h with (h | ⟨o, h⟩) | ⟨o, its, n, h, c, _⟩
  · exact .base (.lst h)
  · exact .base (.frz h)
  · exact .kList h c
theorem tyT {a : Addr} {xs : List V} (h : SqT K H a xs) : TyX K H (.ref a) (.type "tuple") := by
  rcases h with (h | ⟨o, h⟩) | ⟨o, its, n, h, c, _⟩
  · exact .base (.tup h)
  · exact .fTuple h
  · exact .kTuple h c
/-- the built-in type of a datum -/
def tyD : PyData → String
  | .none => "NoneType"
  | .bool _ => "bool"
  | .int _ => "int"
  | .str _ => "str"
  | .list _ => "list"
  | .tuple _ => "tuple"
  | .dict _ => "dict"
theorem dp_ty : ∀ {d : PyData} {v : V}, Dp K H v d → TyX K H v (.type (tyD d))
  | .none, _, h => by cases h; exact .base .non
  | .bool _, _, h => by cases h; exact .base (.bl _)
  | .int _, _, h => by cases h; exact .base (.int _)
  | .str _, _, h => by cases h; exact .base (.str _)
  | .list ds, _, h => by
    cases h with
    | lst hs ha => exact tyL hs
  | .tuple ds, _, h => by
    cases h with
    | tup hs ha => exact tyT hs
  | .dict _, _, h => by cases h
abbrev tyNames : List String := ["NoneType", "bool", "int", "str", "list", "tuple", "dict"]
theorem tyD_mem (d : PyData) : tyD d ∈ tyNames := by cases d <;> simp [tyD]
theorem kitT : ∀ t ∈ tyNames, kitB t "tuple" = some (decide (t = "tuple")) := by decide +kernel
theorem kitL : ∀ t ∈ tyNames, kitB t "list" = some (decide (t = "list")) := by decide +kernel
theorem kitBo : ∀ t ∈ tyNames, kitB t "bool" = some (decide (t = "bool")) := by decide +kernel
theorem kit_tup (d : PyData) : kitB (tyD d) "tuple" = some (decide (tyD d = "tuple")) := kitT _ (tyD_mem d)
theorem kit_lst (d : PyData) : kitB (tyD d) "list" = some (decide (tyD d = "list")) := kitL _ (tyD_mem d)
theorem kit_bool (d : PyData) : kitB (tyD d) "bool" = some (decide (tyD d = "bool")) := kitBo _ (tyD_mem d)
theorem depth_get : ∀ {ds : List PyData} {i : Nat} {d : PyData}, ds[i]? = some d → d.depth ≤ PyData.depthAll ds
  | [], _, _, h => by simp at h
  | x :: r, 0, d, h => by
    simp at h
    subst h
    simp only [PyData.depthAll]
    omega
  | x :: r, i + 1, d, h => by
    have ih := depth_get (ds := r) (i := i) (d := d) (by simpa using h)
    simp only [PyData.depthAll]
    omega
theorem lay_get : ∀ {ds : List PyData} {i : Nat} {d : PyData}, PyData.canLayAll0 ds = true → ds[i]? = some d → d.canLay0 = true
  | [], _, _, _, h => by simp at h
  | x :: r, 0, d, hl, h => by
    simp at h
    subst h
    simp only [PyData.canLayAll0, Bool.and_eq_true] at hl
    exact hl.1
  | x :: r, i + 1, d, hl, h => by
    simp only [PyData.canLayAll0, Bool.and_eq_true] at hl
    exact lay_get (i := i) hl.2 (by simpa using h)
/-! how much a datum holds -/
mutual
def sizeD : PyData → Nat
  | .list xs => sizeAll xs + 1
  | .tuple xs => sizeAll xs + 1
  | _ => 1
def sizeAll : List PyData → Nat
  | [] => 0
  | x :: xs => sizeD x + sizeAll xs + 1
end
theorem len_sizeAll : ∀ ds : List PyData, ds.length ≤ sizeAll ds
  | [] => Nat.le_refl _
  | x :: r => by
    have := len_sizeAll r
    simp only [sizeAll, List.length_cons]
    omega
theorem size_get : ∀ {ds : List PyData} {i : Nat} {d : PyData}, ds[i]? = some d → sizeD d ≤ sizeAll ds
  | [], _, _, h => by simp at h
  | x :: r, 0, d, h => by
    simp at h
    subst h
    simp only [sizeAll]
    omega
  | x :: r, i + 1, d, h => by
    have ih := size_get (ds := r) (i := i) (d := d) (by simpa using h)
    simp only [sizeAll]
    omega
theorem walk_zipT {a b : Addr} {xs ys : List V} {n : Nat} (hn : n = min xs.length ys.length) : Walk (RZ.ItzT K a b) n (fun H => SqT K H a xs ∧ SqT K H b ys) (YPair (fun i => xs[i]?) (fun i => ys[i]?)) := by
  subst hn
  refine ⟨fun i _ hi q => ?_, fun _ q => ⟨xs, ys, q.1, q.2, by omega⟩, fun i H v H' _ q y => ?_⟩
  · exact ⟨xs, ys, xs[i], ys[i], q.1, q.2, List.getElem?_eq_getElem (by omega), List.getElem?_eq_getElem (by omega)⟩
  · obtain ⟨T, x, z, h1, h2, h3, h4, h5⟩ := y
    exact ⟨T, x, z, h1, h2, h3, h4 xs q.1, h5 ys q.2⟩
end
section
variable {P : Program} {w : World} {K : PySem.W.Frag} {mg : Str → Option Value} {base : Heap}
abbrev s__law_same : Stmt := topS 40
theorem sc__law_same : FnScope ["_law_found", "_law_due", "_law_one", "_law_other"] ["_law_found", "_law_due"] (defScope s__law_same) := ⟨rfl, rfl, rfl, by decide +kernel, rfl, by decide +kernel, by decide +kernel⟩
def spSame (K : PySem.W.Frag) (n : Nat) : Sp := fun vs H Q _ => ∃ (x y : V) (d : PyData), vs = [x, y] ∧ Dp K H x d ∧ Dp K H y d ∧ d.canLay0 = true ∧ d.depth < n ∧ n ≤ 60 ∧ sizeD d ≤ 100000 ∧ ∀ H', Same H H' → Q (.bl true) H'
theorem ok_same (B : Bi mg) (F : Df K mg "_law_same" s__law_same ["_law_found", "_law_due"]) : ∀ n : Nat, C8.Cal P w K mg base n "_law_same" (spSame K n) []
  | 0 => F.never fun vs H Q E h => by
      obtain ⟨x, y, d, _, _, _, _, h, _⟩ := h
      exact absurd h (Nat.not_lt_zero _)
  | n + 1 => by
    have G_law_same := ok_same B F n
    refine F.cal sc__law_same (fun vs H Q E h => ?_) (fun f cdv A outer s H vs Q E hr h => ?_)
    · obtain ⟨x, y, d, rfl, _⟩ := h
      rfl
    · obtain ⟨x, y, d, rfl, hx, hy, hlay, hdep, hn, hsz, q⟩ := h
      refine ⟨_, (pss_cons (ps_if (pt_val (pe_callB (kk_isiT K rfl) rfl B.isinstance (by decide +kernel) (pa_cons (pv 1) (pa_cons (pe_tup (pa_cons (kt_tuple rfl B.ty_tuple) (pa_cons (kt_list rfl B.ty_list) pa_nil))) pa_nil)))) (pss_cons (ps_if (PW.pt (pw_or (pt_cmpR op_ne (pe_callB (kk_isi K rfl) rfl B.isinstance (by decide +kernel) (pa_cons (pv 0) (pa_cons (kt_tuple rfl B.ty_tuple) pa_nil))) (pe_callB (kk_isi K rfl) rfl B.isinstance (by decide +kernel) (pa_cons (pv 1) (pa_cons (kt_tuple rfl B.ty_tuple) pa_nil))) (nomark _)) (pw_or1 (pt_cmpR op_ne (pe_callB (kk_isi K rfl) rfl B.isinstance (by decide +kernel) (pa_cons (pv 0) (pa_cons (kt_list rfl B.ty_list) pa_nil))) (pe_callB (kk_isi K rfl) rfl B.isinstance (by decide +kernel) (pa_cons (pv 1) (pa_cons (kt_list rfl B.ty_list) pa_nil))) (nomark _))))) (pss_one (ps_ret pe_bl)) pss_nil)
      (pss_one (ps_ret (pe_and (pe_cmpR op_eq (pe_callB (kk_len K rfl) rfl B.len PySem.boot_len (pa_cons (pv 0) pa_nil)) (pe_callB (kk_len K rfl) rfl B.len PySem.boot_len (pa_cons (pv 1) pa_nil)) (nomark _)) (pe_one (pe_callB (kk_all K rfl rfl) rfl B.all (by decide +kernel) (pa_cons (pe_lc (own := [("_law_one", 2), ("_law_other", 3)]) (tt := tYes) rfl sc__law_same.nd (RZ.pi_zipA rfl B.zip (pa_cons (pv 0) (pa_cons (pv 1) pa_nil))) (blkOk_by (own := [("_law_one", 2), ("_law_other", 3)]) (N := ["_law_found", "_law_due", "_law_one", "_law_other"]) (sc := defScope s__law_same) (by decide +kernel)) (fun _ _ _ _ _ => (kk_gtup K rfl (n := 2) rfl (pgs_cons (pg_name (i := 2) sc__law_same.nd rfl (Or.inl rfl)) (pgs_cons (pg_name (i := 3) sc__law_same.nd rfl (Or.inl rfl)) pgs_nil)))) (fun _ _ _ _ _ => pts_nil) (fun _ _ _ _ _ => (C8.pe_c G_law_same hr (Nat.le_refl _) rfl (pa_cons (pv 2) (pa_cons (pv 3) pa_nil))))) pa_nil))))))) pss_nil)
      (pss_one (ps_ret (pe_and (pe_cmpR op_eq (pe_callB (kk_isi K rfl) rfl B.isinstance (by decide +kernel) (pa_cons (pv 0) (pa_cons (kt_bool rfl B.ty_bool) pa_nil))) (pe_callB (kk_isi K rfl) rfl B.isinstance (by decide +kernel) (pa_cons (pv 1) (pa_cons (kt_bool rfl B.ty_bool) pa_nil))) (nomark _)) (pe_one (pe_cmpR (kk_eqD K rfl hr.units) (pv 0) (pv 1) (nomark _))))))), ?_⟩
      have b1 : ∀ z : Bool, (!decide (V.bl z = V.bl z)) = false := fun z => by rw [decide_eq_true rfl]; rfl
      have hsh : SeqAt.shaped d = true := by
        unfold SeqAt.shaped
        rw [hlay, Bool.true_and]
        exact decide_eq_true (by omega)
      refine ⟨_, rfl, (by show 2 ≤ sizeLine; decide), fun tp htp => ?_⟩
      have s1 := same_upd (o := .tup [V.ty "tuple", V.ty "list"]) htp
      have hx1 := dp_same s1 d x hx
      have hy1 := dp_same s1 d y hy
      have tys : PySem.W.kitAny K (.type (tyD d)) [.type "tuple", .type "list"] = some (decide (tyD d = "tuple") || decide (tyD d = "list")) := by
        refine kitAny_cons (kit_ty (kit_tup d)) (fun h0 => ?_) (fun h1 => by rw [h1]; rfl)
        rw [h0, Bool.false_or]
        refine kitAny_cons (kit_ty (kit_lst d)) (fun h0 => ?_) (fun h1 => h1)
        rw [h0]
        rfl
      refine ⟨_, tp, _, _, _, _, rfl, upd_same, .cons (.ty _) (.cons (.ty _) .nil), dp_ty hy1, tys, _, rfl, ite2 (fun hs => ?_) (fun hs => ?_)⟩
      · -- sequences
        refine ⟨_, rfl, _, _, _, _, _, rfl, .ty _, dp_ty hx1, kit_ty (kit_tup d), _, rfl, _, _, _, _, _, rfl, .ty _, dp_ty hy1, kit_ty (kit_tup d), rfl, _, rfl, ?_⟩
        rw [b1]
        refine iteF ⟨_, rfl, _, _, _, _, _, rfl, .ty _, dp_ty hx1, kit_ty (kit_lst d), _, rfl, _, _, _, _, _, rfl, .ty _, dp_ty hy1, kit_ty (kit_lst d), rfl, _, rfl, ?_⟩
        rw [b1]
        refine iteF ?_
        -- the items, list or tuple
        have main : ∀ (xs ys : List V) (ds : List PyData) (J : It) (G : Hp → Prop) (H1 : Hp) (Qd : VK), Walk J xs.length G (YPair (fun i => xs[i]?) (fun i => ys[i]?)) → (∀ H2, Same H1 H2 → G H2) → DpAll K H1 xs ds → DpAll K H1 ys ds → PyData.canLayAll0 ds = true → PyData.depthAll ds < n → sizeAll ds ≤ 100000 → (∀ H2, Same H1 H2 → Qd (.bl true) H2) →
            ∀ D, H1 D = none → ∃ W : Nat → Nat → Hp → Prop, (∃ m, W 0 m (upd H1 D (.lst []))) ∧ ∀ i m H, W i m H →
              (J.stop i H ∧ ∃ (a : Addr) (bs : List Bool), [V.ref D] = [V.ref a] ∧ SqL K H a (bs.map V.bl) ∧ Qd (.bl (bs.all id)) H) ∨ (J.go i H ∧ ∃ Nx : Hp → Prop, (∀ H', Nx H' → ∃ m', m' < m ∧ W (i + 1) m' H') ∧ ∀ v H', J.yld i H v H' → gTup K 2 (gCons (gName 2) (gCons (gName 3) gNil)) v (wipe [some x, some y, none, none] [2, 3]) H' fun σ2 H2 => wipe σ2 [2, 3] = wipe [some x, some y, none, none] [2, 3] ∧ tYes σ2 H2 fun b H3 =>
                if b = true then tCall (spSame K n) [] C8.E0 (tCons (tVar 2) (tCons (tVar 3) tNil)) σ2 H3 fun y H4 => ∃ acc, H4 D = some (.lst acc) ∧ acc.length < sizeLine ∧ Nx (upd H4 D (.lst (acc ++ [y]))) else Nx H3) := by
          intro xs ys ds J G H1 Qd wk hG hdx hdy hl hdp hxs hq D hD
          have hxl : xs.length ≤ sizeLine := Nat.le_trans (by rw [dpAll_len hdx]; exact Nat.le_trans (len_sizeAll ds) hxs) (show 100000 ≤ sizeLine by decide)
          refine lc_it wk (fun i H2 => Same H1 H2 ∧ H2 D = some (.lst ((List.replicate i true).map V.bl))) ⟨same_upd hD, upd_same⟩ (fun i H2 _ h => hG H2 h.1) (fun i v H2 H3 hi h hy => ?_) (fun H2 h => ?_)
          · obtain ⟨T, x1, y1, rfl, hT, rfl, ex, ey⟩ := hy
            obtain ⟨s2, hD2⟩ := h
            have s3 := same_upd (o := .tup [x1, y1]) hT
            obtain ⟨d1, e1, h1⟩ := dpAll_get hdx ex
            obtain ⟨d2, e2, h2⟩ := dpAll_get hdy ey
            have ed : d1 = d2 := Option.some.inj (e1.symm.trans e2)
            subst ed
            refine ⟨T, _, rfl, SqT.of upd_same, rfl, _, _, rfl, _, _, rfl, rfl, ?_⟩
            refine ⟨rfl, yesT ?_⟩
            have dlt : d1.depth < n := Nat.lt_of_le_of_lt (depth_get e1) hdp
            refine ⟨_, rfl, _, rfl, x1, y1, d1, rfl, dp_same s3 _ _ (dp_same s2 _ _ h1), dp_same s3 _ _ (dp_same s2 _ _ h2), lay_get hl e1, dlt, by omega, Nat.le_trans (size_get e1) hxs, fun H4 s4 => ?_⟩
            have hD4 := s4 _ _ (s3 _ _ hD2)
            refine ⟨_, hD4, by rw [List.length_map, List.length_replicate]; omega, fun b' o' e' => ?_, ?_⟩
            · rw [upd_ne (ne_of_none e' hD)]
              exact s4 _ _ (s3 _ _ (s2 _ _ e'))
            · rw [upd_same, List.replicate_succ', List.map_append]
              rfl
          · refine ⟨D, _, rfl, SqL.of h.2, ?_⟩
            rw [show (List.replicate xs.length true).all id = true by rw [List.all_eq_true]; intro z hz; rw [(List.mem_replicate.mp hz).2]; rfl]
            exact hq H2 h.1
        cases hx1 with
        | lst hsx hdx =>
          cases hy1 with
          | lst hsy hdy =>
            have lxy := (dpAll_len hdx).trans (dpAll_len hdy).symm
            simp only [PyData.depth] at hdep
            simp only [PyData.canLay0] at hlay
            simp only [sizeD] at hsz
            refine ⟨_, rfl, _, _, rfl, .inl ⟨_, hsx, rfl⟩, _, rfl, _, _, rfl, .inl ⟨_, hsy, rfl⟩, rfl, true, ?_, iteT ?_⟩
            · rw [lxy, decide_eq_true rfl]
            · refine ⟨_, rfl, _, rfl, _, _, _, _, rfl, .inl ⟨hsx, hsy, ?_⟩⟩
              refine main _ _ _ _ _ _ _ (walk_zip (K := K) (by omega)) (fun H2 s2 => ⟨s2.seq hsx, s2.seq hsy⟩) hdx hdy hlay (by omega) (by omega) fun H2 s2 => q H2 (s1.trans s2)
        | tup hsx hdx =>
          cases hy1 with
          | tup hsy hdy =>
            have lxy := (dpAll_len hdx).trans (dpAll_len hdy).symm
            simp only [PyData.depth] at hdep
            simp only [PyData.canLay0] at hlay
            simp only [sizeD] at hsz
            refine ⟨_, rfl, _, _, rfl, .inr ⟨_, hsx, rfl⟩, _, rfl, _, _, rfl, .inr ⟨_, hsy, rfl⟩, rfl, true, ?_, iteT ?_⟩
            · rw [lxy, decide_eq_true rfl]
            · refine ⟨_, rfl, _, rfl, _, _, _, _, rfl, .inr ⟨hsx, hsy, ?_⟩⟩
              refine main _ _ _ _ _ _ _ (walk_zipT (K := K) (by omega)) (fun H2 s2 => ⟨Same.tup s2 hsx, Same.tup s2 hsy⟩) hdx hdy hlay (by omega) (by omega) fun H2 s2 => q H2 (s1.trans s2)
        | non => exact absurd hs (by decide)
        | bl z => exact absurd hs (by simp [tyD])
        | int z => exact absurd hs (by simp [tyD])
        | str z => exact absurd hs (by simp [tyD])
      · -- a single value
        refine ⟨_, rfl, _, _, _, _, _, rfl, .ty _, dp_ty hx1, kit_ty (kit_bool d), _, rfl, _, _, _, _, _, rfl, .ty _, dp_ty hy1, kit_ty (kit_bool d), rfl, _, rfl, ?_⟩
        rw [decide_eq_true rfl]
        refine iteT ⟨_, rfl, _, rfl, d, d, hx1, hy1, hsh, hsh, ?_⟩
        rw [SeqAt.eqv_refl d hlay]
        exact q _ s1
end
end KW

/-! ## trees: the plain part -/
namespace KW
open PySem PySem.Spec PyProof.Rows L2
inductive Tr where
  | leaf
  | node (l r : List Nat) (a b : Tr)
abbrev leq : List Nat := [32, 60, 61, 32]
abbrev slt : List Nat := [32, 60, 32]
abbrev two : List Nat := [32, 32]
abbrev so : List Nat := [115, 111]
theorem leq_eq : (Str.ofString " <= ") = S leq := by decide +kernel
theorem slt_eq : (Str.ofString " < ") = S slt := by decide +kernel
theorem two_eq : (Str.ofString "  ") = S two := by decide +kernel
theorem so_eq : (Str.ofString "so") = S so := by decide +kernel
theorem nl_eq : (Str.ofString "\n") = S [10] := by decide +kernel
theorem nil_eq : (Str.ofString "") = S [] := by decide +kernel
theorem cat (a b : List Nat) : S a ++ S b = S (a ++ b) := SX.S_cat a b
theorem slen (a : List Nat) : (S a).length = a.length := SX.S_len a
def Tr.lines : Tr → List (List Nat)
  | .leaf => [so]
  | .node l r a b => ((([(l ++ leq) ++ r] ++ a.lines.map (two ++ ·)) ++ [(r ++ slt) ++ l]) ++ b.lines.map (two ++ ·))
def Tr.dep : Tr → Nat
  | .leaf => 0
  | .node _ _ a b => max a.dep b.dep + 1
def Tr.sz : Tr → Nat
  | .leaf => 0
  | .node _ _ a b => a.sz + b.sz + 1
/-- a side of a comparison -/
structure Sd (l : List Nat) : Prop where
  ne : l ≠ []
  len : l.length ≤ 40000
  chars : ∀ c ∈ l, 32 ≤ c ∧ c ≤ 126 ∧ c ≠ 60 ∧ c ≠ 61
  hd : l.head? ≠ some 32
  la : l.getLast? ≠ some 32
def Tr.ok : Tr → Prop
  | .leaf => True
  | .node l r a b => Sd l ∧ Sd r ∧ a.ok ∧ b.ok
theorem Tr.lines_len : ∀ t : Tr, t.lines.length = 3 * t.sz + 1
  | .leaf => rfl
  | .node l r a b => by
    have h1 := Tr.lines_len a
    have h2 := Tr.lines_len b
    simp only [Tr.lines, Tr.sz, List.length_append, List.length_map, List.length_cons, List.length_nil, h1, h2]
    omega
/-- of every line: its signs and its length -/
theorem Tr.lines_ok : ∀ (t : Tr), t.ok → ∀ x ∈ t.lines, (∀ c ∈ x, 32 ≤ c ∧ c ≤ 126) ∧ x.length ≤ 80004 + 2 * t.dep
  | .leaf, _, x, hx => by
    have e : x = so := by simpa [Tr.lines] using hx
    subst e
    exact ⟨by decide, by show 2 ≤ 80004 + 2 * 0; decide⟩
  | .node l r a b, ⟨hl, hr, ha, hb⟩, x, hx => by
    have cl : ∀ c ∈ l, 32 ≤ c ∧ c ≤ 126 := fun c h => ⟨(hl.chars c h).1, (hl.chars c h).2.1⟩
    have cr : ∀ c ∈ r, 32 ≤ c ∧ c ≤ 126 := fun c h => ⟨(hr.chars c h).1, (hr.chars c h).2.1⟩
    have ll := hl.len
    have lr := hr.len
    have dq : ∀ c ∈ leq, 32 ≤ c ∧ c ≤ 126 := by decide
    have ds : ∀ c ∈ slt, 32 ≤ c ∧ c ≤ 126 := by decide
    have dt : ∀ c ∈ two, 32 ≤ c ∧ c ≤ 126 := by decide
    have hd : (Tr.node l r a b).dep = max a.dep b.dep + 1 := rfl
    simp only [Tr.lines, List.mem_append, List.mem_singleton, List.mem_map] at hx
    rcases hx with ((rfl | ⟨y, hy, rfl⟩) | rfl) | ⟨y, hy, rfl⟩
    · refine ⟨fun c hc => ?_, by simp only [List.length_append, List.length_cons, List.length_nil]; omega⟩
      simp only [List.mem_append] at hc
      rcases hc with (h | h) | h
      · exact cl c h
      · exact dq c h
      · exact cr c h
    · obtain ⟨h1, h2⟩ := Tr.lines_ok a ha y hy
      refine ⟨fun c hc => ?_, by rw [List.length_append]; simp only [List.length_cons, List.length_nil]; omega⟩
      simp only [List.mem_append] at hc
      rcases hc with h | h
      · exact dt c h
      · exact h1 c h
    · refine ⟨fun c hc => ?_, by simp only [List.length_append, List.length_cons, List.length_nil]; omega⟩
      simp only [List.mem_append] at hc
      rcases hc with (h | h) | h
      · exact cr c h
      · exact ds c h
      · exact cl c h
    · obtain ⟨h1, h2⟩ := Tr.lines_ok b hb y hy
      refine ⟨fun c hc => ?_, by rw [List.length_append]; simp only [List.length_cons, List.length_nil]; omega⟩
      simp only [List.mem_append] at hc
      rcases hc with h | h
      · exact dt c h
      · exact h1 c h
theorem Tr.dep_le : ∀ t : Tr, t.dep ≤ t.sz
  | .leaf => Nat.le_refl _
  | .node l r a b => by
    have h1 := Tr.dep_le a
    have h2 := Tr.dep_le b
    show max a.dep b.dep + 1 ≤ a.sz + b.sz + 1
    omega
/-- a tree stands at v -/
inductive TrAt (H : Hp) : V → Tr → Prop where
  | leaf {p : Addr} : H p = some (.tup []) → TrAt H (.ref p) .leaf
  | node {p : Addr} {l r : List Nat} {va vb : V} {a b : Tr} : H p = some (.tup [.str (S l), .str (S r), va, vb]) → TrAt H va a → TrAt H vb b → TrAt H (.ref p) (.node l r a b)
theorem TrAt.mono {H H' : Hp} (s : Same H H') {v : V} {t : Tr} (h : TrAt H v t) : TrAt H' v t := by
  induction h with
  | leaf e => exact .leaf (s _ _ e)
  | node e _ _ ih1 ih2 => exact .node (s _ _ e) ih1 ih2
theorem TrAt.hid {H : Hp} {a : Addr} (f : Fd H a) {v : V} {t : Tr} (h : TrAt H v t) : TrAt (KW.hid a H) v t := by
  induction h with
  | leaf e => exact .leaf (hid_of (f.neT e) e)
  | node e _ _ ih1 ih2 => exact .node (hid_of (f.neT e) e) ih1 ih2
def Tr.data : Tr → PyData
  | .leaf => .tuple []
  | .node l r a b => .tuple [.str (S l), .str (S r), a.data, b.data]
theorem TrAt.dp {K : PySem.W.Frag} {H : Hp} {v : V} {t : Tr} (h : TrAt H v t) : Dp K H v t.data := by
  induction h with
  | leaf e => exact .tup (SqT.of e) .nil
  | node e _ _ ih1 ih2 => exact .tup (SqT.of e) (.cons (.str _) (.cons (.str _) (.cons ih1 (.cons ih2 .nil))))
theorem sd_strOk {l : List Nat} (h : Sd l) : PyData.strOk (S l) = true := by
  unfold PyData.strOk
  rw [← Array.all_toList, List.all_eq_true]
  intro c hc
  have h1 := h.chars c hc
  simp
  omega
theorem Tr.canLay : ∀ t : Tr, t.ok → t.data.canLay0 = true
  | .leaf, _ => rfl
  | .node l r a b, ⟨hl, hr, ha, hb⟩ => by
    have h1 := Tr.canLay a ha
    have h2 := Tr.canLay b hb
    simp only [Tr.data, PyData.canLay0, PyData.canLayAll0, sd_strOk hl, sd_strOk hr, h1, h2, Bool.and_self, Bool.true_and, Bool.and_true]
theorem Tr.depth : ∀ t : Tr, t.data.depth ≤ t.dep + 2
  | .leaf => by simp [Tr.data, PyData.depth, PyData.depthAll, Tr.dep]
  | .node l r a b => by
    have h1 := Tr.depth a
    have h2 := Tr.depth b
    simp only [Tr.data, PyData.depth, PyData.depthAll, Tr.dep]
    omega
theorem Tr.shaped {t : Tr} (h : t.ok) (hd : t.dep ≤ 60) : SeqAt.shaped t.data = true := by
  unfold SeqAt.shaped
  rw [t.canLay h, Bool.true_and]
  have := t.depth
  exact decide_eq_true (by omega)
theorem Tr.eqv_leaf : PyData.eqv Tr.leaf.data (.tuple []) = true := by simp [Tr.data, PyData.eqv, PyData.eqvAll]
theorem Tr.eqv_node (l r : List Nat) (a b : Tr) : PyData.eqv (Tr.node l r a b).data (.tuple []) = false := by simp [Tr.data, PyData.eqv, PyData.eqvAll]
end KW

/-! ## while an exception is handled: the ends of iterators -/
namespace KH
open PySem PySem.Spec PyProof.Rows L2 HotX L2H
section
variable {prog : Program} {w : World} {A : Around} {E : Value → Shared → Prop} {s : Shared}
/-- a StopIteration made and raised while the exception at x1 is handled: all that stood stands -/
theorem stop_hot {α : Type} {x1 : Addr} {Q : α → Shared → Prop} (hot : HotAt A x1 s.heap)
    (hE : ∀ (h' : Heap) (e : Addr), (∀ b o, s.heap.get? b = some o → h'.get? b = some o) → (∃ o, h'.get? e = some o ∧ o.cls = .type "StopIteration") → E (.ref e) { s with heap := h' }) :
    wpAny (model prog w) A (newExc (.type "StopIteration") [] >>= fun e => (raiseNew e : Sem α)) Q E s := by
  obtain ⟨hh, o1, vs1, h1, d1, c1⟩ := hot
  refine wpAny_bind ?_
  simp only [newExc, newTuple]
  refine wpAny_bind (wpAny_newObj_type ?_ (by size_fits))
  refine wpAny_bind (m := firstArgMember _ _) (wpAny_of_eq (a := Value.none) (by first | rfl | (simp only [firstArgMember]; rfl)) ?_)
  refine wpAny_newObj_type ?_ (by size_fits)
  have g1 : ∀ {o2 o3 : Obj}, ((s.heap.push o2).push o3).get? x1 = some o1 := fun {o2 o3} => Heap.get?_push_of_some _ (Heap.get?_push_of_some _ h1)
  refine raiseNew_hot ⟨hh, o1, vs1, g1, d1, c1⟩ (Nat.ne_of_lt (Heap.lt_size (Heap.get?_push_of_some _ h1))) (Heap.get?_push_size _ rfl) rfl (by first | (simp; done) | (simp; omega)) ?_
  refine hE _ _ (fun b o e => ?_) ⟨_, Heap.get?_update_self _ (Heap.get?_push_size _ rfl) rfl, rfl⟩
  have lt : b < (s.heap.push { cls := .type "tuple", data := .seq #[] }).objs.size := by
    rw [Heap.size_push]
    exact Nat.lt_succ_of_lt (Heap.lt_size e)
  rw [Heap.get?_update_other _ _ (Nat.ne_of_gt lt)]
  exact Heap.get?_push_of_some _ (Heap.get?_push_of_some _ e)
/-- the handled exception is no iterator of two fields -/
theorem hot_ne {x1 it : Addr} {h : Heap} {o : Obj} {a b : Value} (hot : HotAt A x1 h) (ho : h.get? it = some o) (hd : o.data = .fields #[a, b]) : x1 ≠ it := fun z => by
  obtain ⟨_, o1, vs1, h1, d1, c1⟩ := hot
  rw [z, ho] at h1
  cases h1
  rw [hd] at d1
  cases d1
  simp at c1
theorem hot_keep {x1 it : Addr} {h h' : Heap} (hot : HotAt A x1 h) (hne : x1 ≠ it) (k : Heap.ExtBut it h h') : HotAt A x1 h' := by
  obtain ⟨hh, o1, vs1, h1, d1, c1⟩ := hot
  exact ⟨hh, o1, vs1, k _ _ hne h1, d1, c1⟩
theorem hot_in1 {x1 : Addr} {h : Heap} (hot : HotAt A x1 h) : HotAt A.in1 x1 h := hot
theorem list_end_hot {it l x1 : Addr} {i : Nat} {items} {Q : Value → Shared → Prop} (hot : HotAt A x1 s.heap)
    (hit : s.heap.IsListIter it l i) (hl : s.heap.IsList l items) (hx : items[i]? = none)
    (hE : ∀ h' e, Heap.ExtBut it s.heap h' → (∃ o, h'.get? e = some o ∧ o.cls = .type "StopIteration") → E (.ref e) { s with heap := h' }) :
    wpAny (model prog w) A (Builtin.SmallTypes.nextOf (.ref it)) Q E s := by
  obtain ⟨o, ho, hc, hd⟩ := id hit
  obtain ⟨ol, hol, _, nl, hdl⟩ := hl
  have hne := hot_ne hot ho hd
  unfold Builtin.SmallTypes.nextOf
  refine wpAny_bind (wpAny_callSpecial?_slot (name := Str.ofString "__next__") hit.typeIs slot_listiter_next
    (wpAny_call_entry slot_listiter_next hit.typeIs entry_listiter_next ?_ (args_listiter_next _)))
  show wpAny _ _ (field (.ref it) 0 >>= _) _ _ s
  refine wpAny_bind (wpAny_field ho hd (x := .ref l) rfl ?_)
  show wpAny _ _ (if (Value.ref l == Value.none) = true then _ else _) _ _ s
  rw [if_neg (by intro z; exact Bool.false_ne_true z)]
  show wpAny _ _ (field (.ref it) 1 >>= _) _ _ s
  refine wpAny_bind (wpAny_field ho hd (x := .int i 0) rfl ?_)
  show wpAny _ _ (seqItems? (.ref l) >>= _) _ _ s
  refine wpAny_bind (wpAny_seqItems hol hdl ?_)
  simp only [Int.toNat_natCast, hx]
  refine wpAny_bind (wpAny_rule (wpAny_bind (wpAny_setField ho hd (by simp) ?_)))
  have k1 := (Heap.SameBut.update (h := s.heap) (a := it) (f := Obj.mapFields (·.setIfInBounds 0 .none))).extBut
  refine stop_hot (hot_in1 (hot_keep hot hne k1)) fun h' e k he => ?_
  exact hE h' e (fun b ob hb q => k b ob (k1 b ob hb q)) he
theorem enum_end_hot {e it l x1 : Addr} {i : Nat} {items : Array Value} {old : Value} {Q : Option Value → Shared → Prop} (hot : HotAt A x1 s.heap)
    (he : IsEnum s.heap e it i old) (hit : s.heap.IsListIter it l i) (hl : s.heap.IsList l items) (hx : items[i]? = none)
    (hQ : ∀ h', Heap.ExtBut it s.heap h' → Q none { s with heap := h' }) : wpAny (model prog w) A (pyNext (.ref e)) Q E s := by
  have hT : s.TypeIs (.ref e) "enumerate" := ⟨_, he, rfl⟩
  unfold pyNext
  refine wpAny_bind (wpAny_attempt (wpAny_callSpecial?_slot (name := Str.ofString "__next__") hT F.slot_enumerate_next
    (wpAny_call_entry F.slot_enumerate_next hT F.entry_enumerate_next ?_ (F.args_enumerate_next_1 _))))
  show wpAny _ _ (field (.ref e) 2 >>= _) _ _ _
  refine wpAny_bind (wpAny_field he rfl (x := .ref it) rfl ?_)
  refine wpAny_bind (list_end_hot (hot_in1 hot) hit hl hx fun h' x he' hx' => ?_)
  obtain ⟨o, ho, hc⟩ := hx'
  exact wpAny_bind (wpAny_isInstance (T := "StopIteration") (b := true) ⟨o, ho, hc⟩ isSubtype_stop (wpAny_pure (hQ _ he')))
theorem tuple_end_hot {it t x1 : Addr} {i : Nat} {items} {Q : Option Value → Shared → Prop} (hot : HotAt A x1 s.heap)
    (hit : IsTupIter s.heap it t i) (ht : IsTup s.heap t items) (hx : items[i]? = none)
    (hQ : ∀ h', Heap.ExtBut it s.heap h' → Q none { s with heap := h' }) : wpAny (model prog w) A (pyNext (.ref it)) Q E s := by
  obtain ⟨o, ho, hc, hd⟩ := id hit
  obtain ⟨ol, hol, _, nl, hdl⟩ := ht
  have hne := hot_ne hot ho hd
  unfold pyNext
  refine wpAny_bind (wpAny_attempt (wpAny_callSpecial?_slot (name := Str.ofString "__next__") hit.typeIs slot_tupleiter_next
    (wpAny_call_entry slot_tupleiter_next hit.typeIs entry_tupleiter_next ?_ (args_tupleiter_next _))))
  show wpAny _ _ (field (.ref it) 0 >>= _) _ _ s
  refine wpAny_bind (wpAny_field ho hd (x := .ref t) rfl ?_)
  show wpAny _ _ (if (Value.ref t == Value.none) = true then _ else _) _ _ s
  rw [if_neg (by intro z; exact Bool.false_ne_true z)]
  show wpAny _ _ (field (.ref it) 1 >>= _) _ _ s
  refine wpAny_bind (wpAny_field ho hd (x := .int i 0) rfl ?_)
  show wpAny _ _ (seqItems? (.ref t) >>= _) _ _ s
  refine wpAny_bind (wpAny_seqItems hol hdl ?_)
  simp only [Int.toNat_natCast, hx]
  refine wpAny_bind (wpAny_rule (wpAny_bind (wpAny_setField ho hd (by simp) ?_)))
  have k1 := (Heap.SameBut.update (h := s.heap) (a := it) (f := Obj.mapFields (·.setIfInBounds 0 .none))).extBut
  refine stop_hot (hot_in1 (hot_keep hot hne k1)) fun h' e k he => ?_
  obtain ⟨oe, hoe, hce⟩ := he
  refine wpAny_bind (wpAny_isInstance (T := "StopIteration") (b := true) ⟨oe, hoe, hce⟩ isSubtype_stop ?_)
  exact wpAny_pure (hQ _ fun b ob hb q => k b ob (k1 b ob hb q))
theorem unpackItems_hot {t x1 : Addr} {items : Array Value} {Q : List Value → Shared → Prop} (hot : HotAt A x1 s.heap) (ht : IsTup s.heap t items)
    (hQ : ∀ h', Heap.ExtBut s.heap.objs.size s.heap h' → Q items.toList { s with heap := h' }) : wpAny (model prog w) A (unpackItems (.ref t) items.size none) Q E s := by
  have hlt : t ≠ s.heap.objs.size := by
    obtain ⟨o, ho, _⟩ := ht
    exact Nat.ne_of_lt (Heap.lt_size ho)
  have hx : x1 ≠ s.heap.objs.size := by
    obtain ⟨_, o1, _, h1, _⟩ := hot
    exact Nat.ne_of_lt (Heap.lt_size h1)
  unfold unpackItems
  refine wpAny_bind ?_
  unfold notIterableAtAll
  refine wpAny_bind (wpAny_specialOf ht.typeIs slot_tuple_iter.lookup ?_)
  refine wpAny_pure ?_
  simp only [Bool.false_eq_true, if_false]
  refine wpAny_bind (wpAny_holding (iter_tuple ht ?_))
  refine wpAny_bind (wpAny_holding (draw_tuple hlt items.size 0 _ _ ⟨_, Heap.get?_push_size _ rfl, rfl, rfl⟩ (ht.push _) (by omega) fun h₁ hit₁ hs₁ => ?_))
  have hall : List.take items.size (List.drop 0 items.toList) = items.toList := by
    rw [List.drop_zero]
    exact List.take_of_length_le (by simp)
  rw [hall, if_neg (by simp)]
  have ht₁ : IsTup h₁ t items := (ht.push _).extBut hs₁.extBut hlt
  have hot₁ : HotAt A x1 h₁ := hot_keep hot hx fun b o hb e => hs₁.extBut b o hb (Heap.get?_push_of_some _ e)
  refine wpAny_bind (wpAny_holding (tuple_end_hot hot₁ hit₁ ht₁ (by simp) fun h₂ he₂ => ?_))
  simp only [Option.isSome_none, Bool.false_eq_true, if_false]
  exact wpAny_pure (hQ h₂ fun b o hb e => he₂ b o hb (hs₁.extBut b o hb (Heap.get?_push_of_some _ e)))
theorem assign_hot {env : Env} {elts : List Expr} {k1} {pos : Pos} {t x1 : Addr} {items : Array Value} {Q : Unit → Shared → Prop} (hot : HotAt A x1 s.heap) (ht : IsTup s.heap t items)
    (hn : (assignEach elts env).length = items.size) (hstar : (assignEach elts env).findIdx? (·.1) = none)
    (h : ∀ h', Heap.ExtBut s.heap.objs.size s.heap h' → wpAny (model prog w) A (assignInOrder ((assignEach elts env).map (·.2)) items.toList) Q E { s with heap := h' }) :
    wpAny (model prog w) A (assign (.Tuple elts k1 pos) env (.ref t)) Q E s := by
  rw [assign_Tuple]
  refine wpAny_bind (wpAny_standAt ?_)
  unfold unpack
  rw [hn, hstar]
  exact wpAny_bind (wpAny_holding (unpackItems_hot hot ht h))
end
/-! ### the rules -/
section
variable {X : Cx}
theorem pg_tupH (K : PySem.W.Frag) (hK : X.K = K) {es : List Expr} {k n : Nat} {pos : Pos} {t : TGs} (hc : HotC X) (h : PGs X es t)
    (hn : (assignEach es X.env).length = n := by rfl) (hst : (assignEach es X.env).findIdx? (·.1) = none := by rfl) : PG X (.Tuple es k pos) (gTup K n t) := by
  subst hK
  refine ⟨fun pins s σ H v u Q I r hw => ?_⟩
  obtain ⟨a, xs, e1, hq, hl, hw⟩ := hw
  subst e1
  cases r
  obtain ⟨its, rv, ht, hz⟩ := I.tuple hq
  obtain ⟨x1, hot⟩ := hc.at I
  refine assign_hot hot ht (by simp [hn, ← hl, rv.length]) hst fun h' hx => ?_
  have I1 : Inv X pins σ H { s with heap := h' } := I.kept (t' := s.toks) fun b o e => hx b o (Nat.ne_of_lt (Heap.lt_size e)) e
  exact h.run pins _ σ H xs _ Q I1 (by simpa using rv) hw
theorem turn_enumH {P : Program} {w : World} {K : PySem.W.Frag} {elts : List Expr} {kk : Nat} {tpos : Pos} (a e it : Addr) :
    TurnH P w K (.Tuple elts kk tpos) (Ite K a) [e, it] e (fun i h => (∃ old, IsEnum h e it ((i : Nat) : Int) old) ∧ h.IsListIter it a i ∧ e ≠ it) where
  mem := (turn_enum (P := P) (w := w) (K := K) (elts := elts) (kk := kk) (tpos := tpos) a e it).mem
  obj := (turn_enum (P := P) (w := w) (K := K) (elts := elts) (kk := kk) (tpos := tpos) a e it).obj
  keep := (turn_enum (P := P) (w := w) (K := K) (elts := elts) (kk := kk) (tpos := tpos) a e it).keep
  self := (turn_enum (P := P) (w := w) (K := K) (elts := elts) (kk := kk) (tpos := tpos) a e it).self
  item := by
    intro X hP hw hK _ i pins s σ H E I hf st hg
    subst hP hw hK
    obtain ⟨⟨old, he⟩, hit, hne⟩ := st
    obtain ⟨xs, x, hq, hx⟩ := hg
    obtain ⟨its, rv, p, hz⟩ := I.list hq
    obtain ⟨u, hu, ru⟩ := rv.get hx
    have hel : e < s.heap.objs.size := Heap.lt_size he
    have hil : it < s.heap.objs.size := by
      obtain ⟨_, q, _⟩ := hit
      exact Heap.lt_size q
    refine wpAny_pyNext_enum_item he hit p.isList (x := u) (by simpa using hu) hne fun h' ho hit' hT hsz hk => ?_
    refine ⟨_, rfl, wpAny_letOwnedTupleGo_enum (s := { s with heap := h', toks := s.toks + 1 }) ho fun h2 he2 sb => ?_⟩
    generalize hn : s.heap.objs.size = n at *
    have hT2 : h2.get? n = some { cls := .type "tuple", data := .seq #[.int i s.toks, u] } := (sb.2 _ (Nat.ne_of_gt hel)).trans hT
    have new : ObjOk X.prog X.w (upd H n (.tup [.int (i : Nat), x])) h2 n (.tup [.int (i : Nat), x]) :=
      ⟨by show 2 ≤ sizeLine; decide, [.int i s.toks, u], .cons ⟨_, rfl⟩ (.cons ru .nil), ⟨_, hT2, rfl, _, rfl⟩⟩
    have I1 : Inv X pins σ (upd H n (.tup [.int (i : Nat), x])) { s with heap := h2, toks := s.toks + 1 } :=
      I.turnedNew (ch := [e, it]) (fun b ob hb q => (sb.2 b (fun z => hb (by simp [z]))).trans (hk b ob (fun z => hb (by simp [z])) (fun z => hb (by simp [z])) q)) hf (Nat.le_of_eq hn) new
    refine ⟨.ref n, _, I1, rfl, ⟨_, x, rfl, I.hok.fresh (Nat.le_of_eq hn), rfl, fun ys hy => by rw [I.list_inj hy hq]; exact hx⟩, ⟨⟨u, ?_⟩, hit'.at fun o q => (sb.2 it (Ne.symm hne)).trans q, hne⟩, fun b hb => ?_⟩
    · have e1 : ((i + 1 : Nat) : Int) = (i : Int) + 1 := by omega
      rw [e1]
      exact he2
    · have hb' : b < n := by
        rcases (show b = e ∨ b = it by simpa using hb) with z | z
        · rw [z]; exact hel
        · rw [z]; exact hil
      rw [upd_ne (Nat.ne_of_lt hb')]
      exact (hf b hb).1
  done := by
    intro X hP hw hK hc i pins s σ H E I hf st hg
    subst hP hw hK
    obtain ⟨⟨old, he⟩, hit, hne⟩ := st
    obtain ⟨xs, hq, hx⟩ := hg
    obtain ⟨its, rv, p, hz⟩ := I.list hq
    obtain ⟨f0, f1, f2, f3, f4, f5⟩ := hf it (by simp)
    obtain ⟨x1, hot⟩ := hc.at I
    have hl := rv.length
    exact enum_end_hot hot he hit p.isList (by simp; omega) fun h' eb => ⟨rfl, I.turned (t' := s.toks) (fun b o hb q => eb b o hb q) f0 f1 f3 f4 f5⟩
theorem pi_enumH {e : Expr} {ta : TA} {p pos tpos : Pos} {elts : List Expr} {kk : Nat} (hg : Gl X "enumerate") (hm : X.mg "enumerate" = none) (ha : PA X [e] ta) (hs : starEach [e] X.env = [(false, eval e X.env)] := by rfl) :
    PIH X (.Tuple elts kk tpos) (.Call (.Name "enumerate" p) [e] [] pos) (iEnum X.K ta) := by
  refine ⟨fun pins s σ H R I h => ?_⟩
  refine Call_ (ld_blt I hg hm boot_enumerate (PyProof.Rows.callWith_type1 (thn (ha.run pos pins s σ H _ I h) fun us s1 ⟨vs, H1, I1, r1, q1⟩ => ?_) hs rfl))
  obtain ⟨a, xs, ex, hq, q⟩ := q1
  subst ex
  cases r1 with
  | cons r rr =>
    cases rr
    cases r
    obtain ⟨its, rv, p', hz⟩ := I1.list hq
    refine call_enumerate_list p'.isList fun h' he hit hsz hk => wpAny_pyIter_enum he ?_
    have I2 : Inv X pins σ H1 { s1 with heap := h' } := I1.kept (t' := s1.toks) hk
    refine ⟨s1.heap.objs.size + 1, [s1.heap.objs.size + 1, s1.heap.objs.size], _, _, H1, rfl, I2, turn_enumH a (s1.heap.objs.size + 1) s1.heap.objs.size, ⟨⟨.none, he⟩, hit, Nat.succ_ne_self _⟩, fun b hb => ?_, q⟩
    have hle : s1.heap.objs.size ≤ b := by
      rcases (show b = s1.heap.objs.size + 1 ∨ b = s1.heap.objs.size by simpa using hb) with z | z
      · rw [z]; exact Nat.le_add_right _ _
      · rw [z]; exact Nat.le_refl _
    exact I1.fpOk hle (I1.hok.fresh hle)
end
end KH

/-! ## while an exception is handled: comprehensions, defs that are called -/
namespace KH
open PySem PySem.Spec PyProof.Rows L2 HotX L2H
section
variable {X : Cx}
/-- the block of a comprehension, the handled exception pinned -/
abbrev blkH (X : Cx) (s : Shared) (H : Hp) (scope : Scope) (cenv : Env) (fp : List Addr) (p : Addr × Obj) : Cx := { X.blk s H scope cenv fp with pn := [p] }
theorem ok_pn {Y : Cx} (ok : Y.Ok) (pn : List (Addr × Obj)) : Cx.Ok { Y with pn := pn } :=
  ⟨ok.mod, ok.kind, ok.glob, ok.blt, ok.above, ok.inj, ok.has, ok.cab, ok.hd, ok.frames, ok.stk, ok.exf, ok.bs, ok.bsz, ok.noex, ok.exfs, ok.funs, ok.frf⟩
theorem inv_pn {Y : Cx} {σ : L2.St} {H : Hp} {s : Shared} {p : Addr × Obj} (I : Inv Y [] σ H s) (h : s.heap.get? p.1 = some p.2 ∧ H p.1 = none ∧ p.1 ≠ Y.env.locals ∧ p.1 ∉ Y.fs ∧ ∀ v, p.2.data ≠ .cell v) : Inv { Y with pn := [p] } [] σ H s :=
  ⟨ok_pn I.ok [p], I.os, I.bare, I.base, I.loc, I.cell, I.free, I.freeC, fun q hq => by
    have e : q = p := by simpa using hq
    rw [e]
    exact h, I.hok, I.len⟩
theorem lc_coreH {pins : List (Addr × Obj)} {s : Shared} {σ : L2.St} {H : Hp} {Q : VK} {elt tg iter : Expr} {ifs : List Expr} {scope : Scope} {own : List (Str × Nat)} {pos pos' : Pos} {wi : TI} {g : TG} {tt : TT} {te : TE} {p : Addr × Obj}
    (hot : Hot1 X.A p) (hp : p ∈ X.pn) (hN : X.N.Nodup) (I : Inv X pins σ H s) (hi : PIH X tg iter wi) (ok : BlkOk X.N X.env.scope scope own)
    (hg : ∀ (s : Shared) (H : Hp) (C : Addr) (cl : List (Str × Addr)) (fp : List Addr), PG (blkH X s H scope (compEnvC scope cl C X.env) fp p) tg g) (ht : ∀ (s : Shared) (H : Hp) (C : Addr) (cl : List (Str × Addr)) (fp : List Addr), PTs (blkH X s H scope (compEnvC scope cl C X.env) fp p) ifs tt)
    (he : ∀ (s : Shared) (H : Hp) (C : Addr) (cl : List (Str × Addr)) (fp : List Addr), PE (blkH X s H scope (compEnvC scope cl C X.env) fp p) elt te) (hs : ∀ x, foldedSetIterable iter X.env x = pure x)
    (h : tLc wi g tt te (own.map (·.2)) σ H Q) : wpAny (model X.prog X.w) X.A (comprehension (.ListComp elt [⟨tg, iter, ifs, 0⟩] scope pos) scope X.env pos' (newList []) false (eval iter X.env) none) (EP X pins σ Q) X.xe s := by
  have hfree : ∀ y ∈ scope.names, y.2 = .free → ∃ c, X.env.cells.lookup y.1 = some c := fun y hy e => (ok.free y hy e).elim (fun k => I.ok.has _ (.inl k)) fun k => I.ok.has _ (.inr k)
  refine wpAny_comprehension_free (use := none) rfl hs (closure_ok hfree) ok.kind (fun y hy e => by rw [ok.uniq y hy, e])
    (thn (hi.run pins s σ H _ I h) fun xv s1 hx => thn hx fun itv s2 h2 => ?_)
  obtain ⟨it, fp, tn, J, H2, e, I2, T, st2, f2, q⟩ := h2
  subst e
  refine wpAny_newObj_type (newEnv_comp ?_) (by show 0 ≤ sizeLine; decide)
  generalize hD : s2.heap.objs.size = D
  obtain ⟨W, ⟨m0, w0⟩, turn⟩ := q D (I2.hok.fresh (Nat.le_of_eq hD))
  generalize hs3 : ({ s2 with heap := s2.heap.push { cls := .type "list", data := .seq ([] : List Value).toArray } } : Shared) = s3
  have h3 : s3.heap = s2.heap.push { cls := .type "list", data := .seq ([] : List Value).toArray } := by rw [← hs3]
  have I3 : Inv X pins σ (upd H2 D (.lst [])) s3 := by
    rw [← hs3]
    refine I2.laid (t' := s2.toks) (fun b o e => Heap.get?_push_of_some _ e) (Nat.le_of_eq hD) ⟨Nat.zero_le _, [], 0, .nil, ?_⟩
    rw [← hD]
    exact Heap.get?_push_size _ rfl
  have f3 : ∀ b ∈ fp, FpOk X pins (upd H2 D (.lst [])) b ∧ b < s3.heap.objs.size := fun b hb => by
    obtain ⟨ob, eb, _⟩ := T.obj _ _ st2 b hb
    have hlt := Heap.lt_size eb
    refine ⟨⟨?_, (f2 b hb).2⟩, by rw [h3, Heap.size_push]; exact Nat.lt_succ_of_lt hlt⟩
    rw [upd_ne (by rw [← hD]; exact Nat.ne_of_lt hlt)]
    exact (f2 b hb).1
  have st3 : tn 0 s3.heap := T.keep _ _ _ st2 fun b _ o e => by rw [h3]; exact Heap.get?_push_of_some _ e
  have P3 := I3.pin p (List.mem_append_left _ hp)
  have I4' := block_start I3 ok hN f3
  have I4 := inv_pn (p := p) I4' ⟨pushCells_keeps _ _ _ _ (Heap.get?_push_of_some _ P3.1), P3.2.1, Nat.ne_of_lt (Heap.lt_size P3.1), fun hm => (List.mem_cons.mp (I3.stkSub p.1 hm)).elim P3.2.2.1 P3.2.2.2.1, P3.2.2.2.2⟩
  have pg := hg s3 (upd H2 D (.lst [])) s3.heap.objs.size (cellsFrom (s3.heap.objs.size + 1) scope.names (cloFrom X.env.cells scope.names [])) fp
  have pt := ht s3 (upd H2 D (.lst [])) s3.heap.objs.size (cellsFrom (s3.heap.objs.size + 1) scope.names (cloFrom X.env.cells scope.names [])) fp
  have pe := he s3 (upd H2 D (.lst [])) s3.heap.objs.size (cellsFrom (s3.heap.objs.size + 1) scope.names (cloFrom X.env.cells scope.names [])) fp
  show codeAny _ _ (.compStart (.ListComp elt [⟨tg, iter, ifs, 0⟩] scope pos) 0 (.ref it) (.ref D) (compEnvC scope (cellsFrom (s3.heap.objs.size + 1) scope.names (cloFrom X.env.cells scope.names [])) s3.heap.objs.size X.env)) (compPost (model X.prog X.w) X.A X.xe none (EP X pins σ Q) (.ref D) s3.heap.objs.size) { s3 with heap := pushCells (s3.heap.push { cls := .type "dict", data := .dict #[] }) scope.names }
  have nfp : ∀ b ∈ fp, (upd H2 D (.lst [])) b = none := fun b hb => (f3 b hb).1.1
  generalize hce : compEnvC scope (cellsFrom (s3.heap.objs.size + 1) scope.names (cloFrom X.env.cells scope.names [])) s3.heap.objs.size X.env = ce at I4' I4 pg pt pe ⊢
  have cL : ce.locals = s3.heap.objs.size := by subst hce; rfl
  generalize hH3 : upd H2 D (.lst []) = H3 at I3 I4' I4 pg pt pe w0 nfp f3 P3
  generalize hs4 : ({ s3 with heap := pushCells (s3.heap.push { cls := .type "dict", data := .dict #[] }) scope.names } : Shared) = s4 at I4' I4 ⊢
  have st4 : tn 0 s4.heap := T.keep _ _ _ st3 fun b _ o e => by rw [← hs4]; exact pushCells_keeps _ _ _ _ (Heap.get?_push_of_some _ e)
  have nop : ∀ b ∈ fp, p.1 ≠ b := fun b hb => (f3 b hb).1.2.2.2.2.2 p (List.mem_append_left _ hp)
  have hotB : HotC (blkH X s3 H3 scope ce fp p) := ⟨p, hot, by simp⟩
  have stat : ∀ {σ' : L2.St} {H' : Hp} {s' : Shared}, Inv (blkH X s3 H3 scope ce fp p) [] σ' H' s' → (∀ b ∈ fp, H' b = none) → ∀ b ∈ fp, FpOk (blkH X s3 H3 scope ce fp p) [] H' b := fun {σ' H' s'} I' hn b hb =>
    ⟨hn b hb, (I'.ok.exf b hb).1, I'.ok.exfs b hb, .inl hb, fun x c e => (I'.ok.exf b hb).2 x c e, fun r hr => by
      have e : r = p := by simpa using hr
      rw [e]
      exact nop b hb⟩
  have loop : codeAny (model X.prog X.w) X.A (.compLoop (.ListComp elt [⟨tg, iter, ifs, 0⟩] scope pos) 0 (.ref it) (.ref D) ce) (compPost (model X.prog X.w) X.A X.xe none (EP X pins σ Q) (.ref D) s3.heap.objs.size) s4 := by
    refine compLoop_any (fun n s' => ∃ i H', Inv (blkH X s3 H3 scope ce fp p) [] (wipe σ (own.map (·.2))) H' s' ∧ tn i s'.heap ∧ (∀ b ∈ fp, H' b = none) ∧ W i n H') ?_ m0 ⟨0, H3, I4, st4, nfp, w0⟩
    rintro n s5 ⟨i, H5, I5, st5, n5, w5⟩
    rcases turn i n H5 w5 with ⟨stop, qq⟩ | ⟨go, Nx, hNx, step⟩
    · refine thnF (T.done (blkH X s3 H3 scope ce fp p) rfl rfl rfl hotB i [] s5 _ H5 (fun _ _ => False) I5 (stat I5 n5) st5 stop) fun r s6 ⟨hr, I6⟩ => ?_
      subst hr
      have I7 : Inv X pins σ H5 s6 := I3.call' (ch := fp) I6.os I6.base I6.hok I6.bare fun b hb => ⟨(f3 b hb).1.2.2.2.1, (f3 b hb).1.2.1, (f3 b hb).1.2.2.2.2.1, (f3 b hb).1.2.2.2.2.2⟩
      have nC : H5 s3.heap.objs.size = none := by
        have z : H5 ce.locals = none := I6.free
        rw [cL] at z
        exact z
      obtain ⟨m, hn, _⟩ := I6.loc
      have hn : s6.heap.Ns ce.locals m := hn
      rw [cL] at hn
      obtain ⟨g0, g1, g2, g3, g4, g5⟩ := I3.fpOk (Nat.le_refl _) nC
      exact ⟨m, hn, fun h'' sb => ⟨.ref D, H5, I7.turned (t' := s6.toks) (fun b o hb e => (sb.2 b hb).trans e) g0 g1 g3 g4 g5, rfl, qq⟩⟩
    · refine thnF (T.item (blkH X s3 H3 scope ce fp p) rfl rfl rfl hotB i [] s5 _ H5 (fun _ _ => False) I5 (stat I5 n5) st5 go) fun r s6 ⟨u, hr, h6⟩ => ?_
      subst hr
      refine thnF h6 fun _ s7 ⟨x, H7, I7, r7, y7, st7, n7⟩ => ?_
      have I7' := I7.pinned (stat I7 n7) (T.obj _ _ st7)
      refine thnF (pg.run _ s7 _ H7 x u _ I7' r7 (step x H7 y7)) fun _ s8 ⟨σ8, H8, I8, hw8, q8⟩ => ?_
      refine thnF (pt.run _ s8 σ8 H8 _ I8 q8) fun b s9 ⟨H9, I9, q9⟩ => ?_
      have fin : ∀ {s' : Shared} {H' : Hp}, Inv (blkH X s3 H3 scope ce fp p) ([] ++ pinsAt fp s7.heap) σ8 H' s' → Nx H' → ∃ m, m < n ∧ ∃ i H', Inv (blkH X s3 H3 scope ce fp p) [] (wipe σ (own.map (·.2))) H' s' ∧ tn i s'.heap ∧ (∀ b ∈ fp, H' b = none) ∧ W i m H' := fun {s' H'} I' nx => by
        obtain ⟨m', hm, w'⟩ := hNx H' nx
        have pin' : ∀ b ∈ fp, ∀ o, s7.heap.get? b = some o → s'.heap.get? b = some o ∧ H' b = none := fun b hb o e =>
          let z := I'.pin (b, o) (List.mem_append_right _ (List.mem_append_right _ (mem_pinsAt hb e)))
          ⟨z.1, z.2.1⟩
        have hl : (wipe σ (own.map (·.2))).length = σ8.length := by rw [← hw8, wipe_length]
        refine ⟨m', hm, i + 1, H', (I'.unpinned (pins := [])).weak hl (fun j v e => ?_), T.keep _ _ _ st7 fun b hb o e => (pin' b hb o e).1, fun b hb => ?_, w'⟩
        · rw [← hw8] at e
          exact (wipe_some e).1
        · obtain ⟨o, e, _⟩ := T.obj _ _ st7 b hb
          exact (pin' b hb o e).2
      cases b with
      | false =>
        simp only [Bool.false_eq_true, if_false] at q9 ⊢
        exact fin I9 q9
      | true =>
        simp only [if_true] at q9 ⊢
        refine thnF (pe.run _ s9 σ8 H9 _ I9 q9) fun z s10 ⟨yv, H10, I10, r10, acc, hD10, hz10, nx⟩ => ?_
        exact app_ok (X := blkH X s3 H3 scope ce fp p) I10 hD10 hz10 r10 fun s11 I11 => fin I11 nx
  exact codeAny_compStart_list loop (T.self X.A 0 _ _ _ st4 loop)
/-- [elt for tg in iter if ..] there -/
theorem pe_lcH {elt tg iter : Expr} {ifs : List Expr} {scope : Scope} {own : List (Str × Nat)} {pos : Pos} {wi : TI} {g : TG} {tt : TT} {te : TE} {p : Addr × Obj} (hot : Hot1 X.A p) (hp : p ∈ X.pn) (hN : X.N.Nodup) (hi : PIH X tg iter wi) (ok : BlkOk X.N X.env.scope scope own)
    (hg : ∀ (s : Shared) (H : Hp) (C : Addr) (cl : List (Str × Addr)) (fp : List Addr), PG (blkH X s H scope (compEnvC scope cl C X.env) fp p) tg g) (ht : ∀ (s : Shared) (H : Hp) (C : Addr) (cl : List (Str × Addr)) (fp : List Addr), PTs (blkH X s H scope (compEnvC scope cl C X.env) fp p) ifs tt)
    (he : ∀ (s : Shared) (H : Hp) (C : Addr) (cl : List (Str × Addr)) (fp : List Addr), PE (blkH X s H scope (compEnvC scope cl C X.env) fp p) elt te) (hs : ∀ x, foldedSetIterable iter X.env x = pure x := by intro _; rfl) :
    PE X (.ListComp elt [⟨tg, iter, ifs, 0⟩] scope pos) (tLc wi g tt te (own.map (·.2))) := by
  refine ⟨fun pins s σ H Q I h => ?_⟩
  rw [eval_ListComp]
  exact lc_coreH hot hp hN I hi ok hg ht he hs h
/-! ### isinstance of the handled exception; its class D, its dict dd -/
def rIsX (K : PySem.W.Frag) (D a dd : Addr) : List V → Hp → VK → Prop := fun xs H Q => ∃ (c : V) (cv : Value) (b : Bool) (fs : List (Str × V)), xs = [.ref a, c] ∧ ClsV c cv ∧ H dd = some (.xd fs) ∧ PySem.W.kitOne K (.ref D) cv = some b ∧ Q (.bl b) H
theorem is_exc (K : PySem.W.Frag) (hK : X.K = K) {a D dd : Addr} {oe : Obj} (C : ExcC K D) (hp : (a, oe) ∈ X.pn) (hz : Zc (.ref D) (some dd) oe) (hf : ∃ vs, oe.data = .fields vs) : CallR X (.builtin "isinstance") (rIsX K D a dd) := by
  subst hK
  intro pins s σ H xs us Q I r h
  obtain ⟨c, cv, b, fs, rfl, hcv, hdd, e, q⟩ := h
  cases r with
  | cons rx rr =>
    cases rr with
    | cons rt rr =>
      cases rr
      cases rx
      have ec := hcv.eq rt
      subst ec
      obtain ⟨hget, _⟩ := I.pin (a, oe) (List.mem_append.mpr (.inl hp))
      obtain ⟨vs, hv⟩ := hf
      have ox : ObjOk X.prog X.w H s.heap dd (.xd fs) := I.hok dd _ hdd
      obtain ⟨mA, hns, _⟩ := ox
      obtain ⟨od, hod, _⟩ := lookIn_ns hns
      have J : PySem.W.InstAt s.heap a oe D (some od) := ⟨hget, hz.1, by unfold PySem.W.notCls; rw [hv] <;> rfl, by rw [hz.2]; exact hod⟩
      have hcl : (PySem.W.clsIn X.K D).isSome = true := by
        obtain ⟨cd, hc, _⟩ := PySem.W.any_some C.hd
        rw [hc]
        rfl
      exact PySem.W.kia_one (PySem.W.kitx_exc hcl C.hg C.hk C.hs C.ha C.hn C.ht C.hm) I.kIn J e (fun z => nomatch z) fun tk => ⟨.bl b, H, I.kept (t' := tk) fun _ _ z => z, rfl, q⟩
end
/-! ### defs that are called there and are told of the handled exception: its address, class and dict -/
abbrev SpX := Addr → Value → Option Addr → Sp
structure FnX (P : Program) (w : World) (K : PySem.W.Frag) (mg : Str → Option Value) (base : Heap) (k : Nat) (f : Addr) (fd : FuncData) (ps : List Str) (sp : SpX) : Prop where
  len : ∀ a c d vs H Q E, sp a c d vs H Q E → vs.length = ps.length
  run : ∀ (A : Around) (outer : List Env) (s : Shared) (H : Hp) (args : Args) (us : List Value) (vs : List V) (Q : VK) (E : XK) (p : Addr × Obj) (c : Value) (d : Option Addr), RoomH k A → Hot1 A p → Zc c d p.2 → PinOk outer H s p → Env0 P w K mg base A outer s H → BindsTo s fd args (ps.zip us) → Vals vs us → sp p.1 c d vs H Q E →
    codeAny (model P w) A (.call (.ref f) args) (CR CX0 outer P w H s Q E) s
theorem fnX_of {P : Program} {w : World} {K : PySem.W.Frag} {mg : Str → Option Value} {base : Heap} {k : Nat} {f : Addr} {x qual : Str} {st : Stmt} {fd : FuncData} {N ps : List Str} {sp : SpX} (F : Fun K x qual st f fd) (S : FnScope N ps (defScope st))
    (len : ∀ a c d vs H Q E, sp a c d vs H Q E → vs.length = ps.length)
    (hbody : ∀ (cdv : Value) (A : Around) (outer : List Env) (s : Shared) (H : Hp) (vs : List V) (Q : VK) (E : XK) (p : Addr × Obj) (c : Value) (d : Option Addr), Hot1 (A.deeper (envOfC qual (defScope st) s.heap.objs.size f cdv)) p → Zc c d p.2 → RoomH k (A.deeper (envOfC qual (defScope st) s.heap.objs.size f cdv)) → sp p.1 c d vs H Q E →
      ∃ t, PSs (cxH CX0 P w K mg base N qual (defScope st) f cdv A outer s H E p) (defBody st) t ∧ t { nx := fun _ H' => Q .non H', rt := Q } (L2.start N vs) H) :
    FnX P w K mg base (k + 1) f fd ps sp := by
  obtain ⟨oc, od, kV, doc, pm, an, cdv, ct, osl, rfl, lk, hcd⟩ := F.ex
  refine ⟨len, fun A outer s H args us vs Q E p c d hr hot hz hpin e0 hb r hsp => ?_⟩
  have hl := len _ _ _ _ _ _ _ hsp
  have KX : K.In s.heap := e0.mod.kin.keeps fun b o e => (e0.bs b o e).1
  have lim : s.heap.NoLimit := e0.mod.nolimit.keeps fun b o e => (e0.bs b o e).1
  have hkind : ∀ y ∈ ps.zip us, (defScope st).names.lookup y.1 = some .local ∨ ((defScope st).names.lookup y.1 = some .cell ∧ ((cellsFrom (s.heap.objs.size + 1) (defScope st).names []).lookup y.1).isSome = true) := fun y hy =>
    (S.par y.1 (List.of_mem_zip (show (y.1, y.2) ∈ ps.zip us from hy)).1).elim .inl fun q => .inr ⟨q, PySem.W.cellsFrom_some _ _ _ (.inl q)⟩
  refine codeAny_call_function hr.depth (KX _ _ lk) rfl S.co S.gen rfl (PySem.W.codeRec_of KX hcd) (hb _ _ _ _ ?_)
  refine wpAny_newFunctionEnv_cells S.kind hkind fun env he s1 x => ?_
  subst he
  refine ⟨lim.keeps x.toInCall.keep, codeAny_func ?_⟩
  obtain ⟨t, ht, hq⟩ := hbody cdv A outer s H vs Q E p c d hot hz (hr.deeper _) hsp
  have I0 : Inv (cxH CX0 P w K mg base N qual (defScope st) f cdv A outer s H E p) [] (L2.start N vs) H s1 := inv_startH S hpin e0 hl r x
  refine wpAny_mono (ht.run [] s1 (L2.start N vs) H _ I0 hq) (fun fl s' hs => ?_) fun e s' hs => hs
  cases fl with
  | ret u =>
    obtain ⟨v, σ', H', J, rv, q⟩ := hs
    exact ⟨v, H', J.os, J.bare, J.base, J.hok, rv, q⟩
  | next =>
    obtain ⟨σ', H', J, q⟩ := hs
    exact ⟨V.non, H', J.os, J.bare, J.base, J.hok, rfl, q⟩
  | brk =>
    obtain ⟨_, _, _, q⟩ := hs
    exact False.elim q
  | cont =>
    obtain ⟨_, _, _, q⟩ := hs
    exact False.elim q
/-- f(e, ..) in an except suite -/
def tCallX (sp : SpX) (a : Addr) (c : Value) (d : Option Addr) (t : TA) : TE := fun σ H Q => t σ H fun vs H1 => sp a c d vs H1 Q E0
theorem pe_callX {X : Cx} {k : Nat} {f : Addr} {fd : FuncData} {ps : List Str} {sp : SpX} {x : Str} {q pos : Pos} {e : Expr} {es : List Expr} {t : TA} {a : Addr} {oe : Obj} {c : Value} {d : Option Addr} (F : FnX X.prog X.w X.K X.mg X.base k f fd ps sp) (hr : RoomH k X.A)
    (hot : Hot1 X.A (a, oe)) (hp : (a, oe) ∈ X.pn) (hz : Zc c d oe) (hg : Gl X x) (hm : X.mg x = some (.ref f)) (hk : PySem.W.keepIn X.K (.ref f) = true) (hb : Binds X.K fd ps [])
    (ha : PA X (e :: es) t) (hdb : (x == ("__debug__" : Str)) = false := by decide) (he : starEach (e :: es) X.env = (false, eval e X.env) :: starEach es X.env := by rfl) (hpl : (backTo pos (starEach es X.env)).any (·.1) = false := by rfl) :
    PE X (.Call (.Name x q) (e :: es) [] pos) (tCallX sp a c d t) := by
  refine ⟨fun pins s σ H Q I h => ?_⟩
  refine wpAny_Call_Name_kw (ld_glob I hg hm ?_ hdb)
  refine PySem.W.callWith_K (h₀ := X.base) I.ok.mod.kin hk (thn (ha.run pos pins s σ H _ I h) fun us s1 ⟨vs, H1, I1, r, hsp⟩ => ⟨I1.kIn, ?_⟩) he hpl
  have hl : us.length = ps.length := by rw [← r.length]; exact F.len _ _ _ _ _ _ _ hsp
  have b := hb s1 us I1.kIn (by rw [List.append_nil]; exact hl)
  rw [List.append_nil] at b
  have P1 := I1.pin (a, oe) (List.mem_append_left _ hp)
  have hpin : PinOk X.stack H1 s1 (a, oe) := ⟨P1.1, P1.2.1, fun hm => (List.mem_cons.mp (I1.stkSub a hm)).elim P1.2.2.1 P1.2.2.2.1, P1.2.2.2.2⟩
  refine wpAny_call (codeAny_mono (F.run X.A X.stack s1 H1 ⟨us, []⟩ us vs Q E0 (a, oe) c d hr hot hz hpin I1.env0 b r hsp) fun r s' hq => ?_)
  cases r with
  | error e => exact False.elim hq
  | ok fl =>
    cases fl with
    | ret u => exact I1.after hq
    | next => exact False.elim hq
    | brk => exact False.elim hq
    | cont => exact False.elim hq
/-! ### an own exception class with its __init__, raised where nothing is handled -/
theorem pmkN {X : Cx} {CX : CXT} {x : Str} {e : Expr} {es : List Expr} {ta : TA} {p pos : Pos} {C fI : Addr} {k : Nat} {fd : FuncData} {ps : List Str} {sp : Sp} (T : OexC X.K C) (iC : PySem.W.findIn X.K (.ref C) "__init__" = some (some (.ref fI))) (tI : PySem.W.typeIn X.K (.ref fI) = some (.type "function"))
    (F1 : FnOk X.prog X.w X.K X.mg X.base CX k fI fd ps sp) (hr : Room (k + 1) X.A) (hb : Binds X.K fd ps []) (hx : Passes CX X (fun _ _ _ => False)) (hg : Gl X x) (hm : X.mg x = some (.ref C)) (ha : PA X (e :: es) ta)
    (hdb : (x == ("__debug__" : Str)) = false := by decide) (he : starEach (e :: es) X.env = (false, eval e X.env) :: starEach es X.env := by rfl) (hpl : (backTo pos (starEach es X.env)).any (·.1) = false := by rfl) :
    L2N.PMk X (.Call (.Name x p) (e :: es) [] pos) (tMkO C sp [] ta) := by
  intro pins s σ H Q I h
  obtain ⟨nm, qn, N, bs, bm, sn, sub, ab, col, dd, k0, k1, k2, k3, k5, hC, hbm⟩ := T.cls
  refine wpAny_Call_Name_kw (ld_glob I hg hm ?_ hdb)
  refine PySem.W.callWith_K (h₀ := X.base) I.ok.mod.kin T.kC (thn (ha.run pos pins s σ H _ I h) fun us s1 ⟨vs, H1, I1, r1, hz, q1⟩ => ⟨I1.kIn, ?_⟩) he hpl
  show wpAny _ _ (call (.ref C) us) _ _ _
  obtain ⟨hp, g, dr, tk, os⟩ := s1
  have hsz : hp.objs.size ≤ hp.objs.size + 1 := Nat.le_succ _
  have hq := q1 (hp.objs.size + 1) (I1.hok.fresh hsz)
  rw [List.append_nil] at hq
  generalize hG : (hp.push (PySem.W.kdv_tup us)).push (PySem.HandSPX.excO C hp.objs.size) = G
  have kk : ∀ b o, hp.get? b = some o → G.get? b = some o := fun b o e => by rw [← hG]; exact Heap.get?_push_of_some _ (Heap.get?_push_of_some _ e)
  have hget : G.get? (hp.objs.size + 1) = some (PySem.HandSPX.excO C hp.objs.size) := by rw [← hG]; heap_get
  have I2 : Inv X pins σ (upd H1 (hp.objs.size + 1) (exo (hp.objs.size + 1) C none)) ⟨G, g, dr, tk, os⟩ :=
    I1.laid (t' := tk) (a := hp.objs.size + 1) (o := exo (hp.objs.size + 1) C none) (h' := G) kk hsz (exo_ok hget)
  have r2 : Vals (V.ref (hp.objs.size + 1) :: vs) (Value.ref (hp.objs.size + 1) :: us) := .cons rfl r1
  have hl : (Value.ref (hp.objs.size + 1) :: us).length = ps.length := r2.length.symm.trans (F1.len _ _ _ _ hq)
  have hus : us.length ≤ sizeLine := by
    rw [← Paired.length r1]
    exact Nat.le_trans hz (by decide)
  have bb := hb ⟨G, g, dr, tk, os⟩ (Value.ref (hp.objs.size + 1) :: us) I2.kIn (by rw [List.append_nil]; exact hl)
  rw [List.append_nil] at bb
  refine wpAny_call (PySem.HandSPX.call_own F.excBase_ValueError (fun Y => PySem.HandSPX.refsVE_contains Y bm hbm) (I1.kIn _ _ hC) (PySem.W.looks_findIn I1.kIn iC) (fun self => PySem.W.bind_fn I1.kIn self tI) hus ?_)
  rw [hG]
  refine codeAny_mono (F1.run _ X.stack _ _ ⟨Value.ref (hp.objs.size + 1) :: us, []⟩ (Value.ref (hp.objs.size + 1) :: us) _ _ (fun _ _ _ => False) (hr.make C us []) (I2.env0.make C us []) bb r2 hq) fun r s' hq' => ?_
  cases r with
  | error er => exact hx pins σ _ _ er s' I2 hq'
  | ok fl =>
    cases fl with
    | ret u =>
      obtain ⟨v, H2, os2, bare2, un2, hok2, rv, ev, d, fs, ea, ed, hd1, q2⟩ := hq'
      subst ev
      obtain ⟨h2, g2, d2, t2, os'⟩ := s'
      obtain ⟨t0, G2, J, kG, ge, hoe, na⟩ := mk_end0 (d2 := d2) (t2 := t2) I1 hsz kk un2 hok2 os2 bare2 ea ed hd1
      exact ⟨rv, ⟨_, _, _, ⟨G2, g2, d2, t2, os'⟩, _, .ref C, some d, rfl, J, kG, ge, hoe, ⟨rfl, rfl, fun vs e => by cases e; rfl⟩, rfl, rfl, na, rfl, bare2, raises_own T.exC T.tyC, q2⟩⟩
    | next => exact False.elim hq'
    | brk => exact False.elim hq'
    | cont => exact False.elim hq'
end KH

/-! ## defs that raise the program's own errors; the errors' classes -/
namespace KW
open PySem PySem.Spec PyProof.Rows L2
/-- a def, a method that may raise -/
structure RCal (P : Program) (w : World) (K : PySem.W.Frag) (mg : Str → Option Value) (base : Heap) (k : Nat) (x : Str) (sp : Sp) : Prop where
  ex : ∃ f fd ps, FnOk P w K mg base (L2N.CX P w) k f fd ps sp ∧ mg x = some (.ref f) ∧ PySem.W.keepIn K (.ref f) = true ∧ Binds K fd ps []
structure RMet (P : Program) (w : World) (K : PySem.W.Frag) (mg : Str → Option Value) (base : Heap) (k : Nat) (C : Addr) (m : Str) (sp : Sp) : Prop where
  ex : ∃ f fd ps, Cls K C ∧ Meth K C m f ∧ FnOk P w K mg base (L2N.CX P w) k f fd ps sp ∧ Binds K fd ps []
section
variable {P : Program} {w : World} {K : PySem.W.Frag} {mg : Str → Option Value} {base : Heap}
theorem rcalMono {j k : Nat} {x : Str} {sp : Sp} (c : RCal P w K mg base j x sp) (h : j ≤ k) : RCal P w K mg base k x sp := by
  obtain ⟨f, fd, ps, F, r⟩ := c.ex
  exact ⟨f, fd, ps, F.mono h, r⟩
theorem rmetMono {j k : Nat} {C : Addr} {x : Str} {sp : Sp} (c : RMet P w K mg base j C x sp) (h : j ≤ k) : RMet P w K mg base k C x sp := by
  obtain ⟨f, fd, ps, c1, m, F, r⟩ := c.ex
  exact ⟨f, fd, ps, c1, m, F.mono h, r⟩
theorem Df.rcal {x : Str} {st : Stmt} {N ps : List Str} {k : Nat} {sp : Sp} (F : Df K mg x st ps) (S : FnScope N ps (defScope st)) (len : ∀ vs H Q E, sp vs H Q E → vs.length = ps.length)
    (hbody : ∀ (f : Addr) (cdv : Value) (A : Around) (outer : List Env) (s : Shared) (H : Hp) (vs : List V) (Q : VK) (E : XK), Room k (A.deeper (envOfC x (defScope st) s.heap.objs.size f cdv)) → sp vs H Q E →
      ∃ t, PSs (cxOf (L2N.CX P w) P w K mg base N x (defScope st) f cdv A outer s H E) (defBody st) t ∧ t { nx := fun _ H' => Q .non H', rt := Q } (start N vs) H) : RCal P w K mg base (k + 1) x sp := by
  obtain ⟨f, fd, F, hm, kp, b⟩ := F.ex
  obtain ⟨oc, od, kV, doc, pm, an, cdv, ct, osl, rfl, lk, hcd⟩ := F.ex
  exact ⟨f, _, ps, fn_of lk hcd S len fun A outer s H vs Q E hr hsp => hbody f cdv A outer s H vs Q E hr hsp, hm, kp, b⟩
theorem Dm.rmet {C : Addr} {m qual : Str} {st : Stmt} {N ps : List Str} {k : Nat} {sp : Sp} (F : Dm K C m qual st ps) (S : FnScope N ps (defScope st)) (len : ∀ vs H Q E, sp vs H Q E → vs.length = ps.length)
    (hbody : ∀ (f : Addr) (cdv : Value) (A : Around) (outer : List Env) (s : Shared) (H : Hp) (vs : List V) (Q : VK) (E : XK), Room k (A.deeper (envOfC qual (defScope st) s.heap.objs.size f cdv)) → sp vs H Q E →
      ∃ t, PSs (cxOf (L2N.CX P w) P w K mg base N qual (defScope st) f cdv A outer s H E) (defBody st) t ∧ t { nx := fun _ H' => Q .non H', rt := Q } (start N vs) H) : RMet P w K mg base (k + 1) C m sp := by
  obtain ⟨f, fd, c, me, F, b⟩ := F.ex
  obtain ⟨oc, od, kV, doc, pm, an, cdv, ct, osl, rfl, lk, hcd⟩ := F.ex
  exact ⟨f, _, ps, c, me, fn_of lk hcd S len fun A outer s H vs Q E hr hsp => hbody f cdv A outer s H vs Q E hr hsp, b⟩
theorem Dm.rnever {C : Addr} {m qual : Str} {st : Stmt} {ps : List Str} {sp : Sp} (F : Dm K C m qual st ps) (h : ∀ vs H Q E, ¬ sp vs H Q E) : RMet P w K mg base 0 C m sp := by
  obtain ⟨f, fd, c, me, F, b⟩ := F.ex
  exact ⟨f, fd, ps, c, me, ⟨fun vs H Q E q => (h _ _ _ _ q).elim, fun A outer s H args us vs Q E hr he hb hv hs => (h _ _ _ _ hs).elim⟩, b⟩
end
section
variable {X : Cx}
/-- what a callee raises leaves this def -/
theorem psx {E : XK} {E1 : Value → Shared → Prop} (hs : X.stack = X.env :: X.outer) (hf : X.env.frame = some X.env.locals) (hex : X.ex = [])
    (hx : X.xe = fun e s' => wpAny (model X.prog X.w) X.A (leaving X.env e) (fun _ s'' => L2N.CX X.prog X.w X.outer X.H_0 X.s_0 E e s'') E1 s') : Passes (L2N.CX X.prog X.w) X E :=
  L2N.passes_call (L2N.takes_of hs hf hex hx) fun _ _ _ _ h => h
/-- a callee that is shown not to raise -/
theorem psx0 : Passes (L2N.CX X.prog X.w) X E0 := fun _ _ _ _ _ _ _ h => by
  obtain ⟨_, _, _, _, _, _, _, _, _, _, _, _, z⟩ := h
  exact z.elim
theorem kr_c {k j : Nat} {x : Str} {sp : Sp} {E : XK} {p pos : Pos} {e : Expr} {es : List Expr} {t : TA} (c : RCal X.prog X.w X.K X.mg X.base k x sp) (hr : Room j X.A) (hk : k ≤ j) (hg : Gl X x) (hx : Passes (L2N.CX X.prog X.w) X E) (ha : PA X (e :: es) t)
    (hdb : (x == ("__debug__" : Str)) = false := by decide) (he : starEach (e :: es) X.env = (false, eval e X.env) :: starEach es X.env := by rfl) (hpl : (backTo pos (starEach es X.env)).any (·.1) = false := by rfl) :
    PE X (.Call (.Name x p) (e :: es) [] pos) (tCall sp [] E t) := by
  obtain ⟨f, fd, ps, F, hm, kp, b⟩ := c.ex
  exact pe_call F (hr.mono hk) hg hm kp b .nil hx ha hdb he hpl
theorem kr_m {k j : Nat} {C : Addr} {m : Str} {sp : Sp} {E : XK} {apos pos : Pos} {o e : Expr} {es : List Expr} {ta : TE} {t : TA} {pl : Sem Bool} (c : RMet X.prog X.w X.K X.mg X.base k C m sp) (hr : Room j X.A) (hk : k ≤ j) (hx : Passes (L2N.CX X.prog X.w) X E) (he : PE X o ta) (ha : PA X (e :: es) t)
    (hst : starEach (e :: es) X.env = (false, eval e X.env) :: starEach es X.env := by rfl) (hpl : (backTo pos (starEach es X.env)).any (·.1) = false := by rfl)
    (ht : eval (.Call (.Attribute o m apos) (e :: es) [] pos) X.env = (do
      let ov ← eval o X.env
      standAt apos.atName
      let (f, first) ← holding [ov] (getMethod ov m pl)
      callWith pos f first (backTo pos (starEach (e :: es) X.env)) (backToKw pos (keywordEach [] X.env))) := by rfl) :
    PE X (.Call (.Attribute o m apos) (e :: es) [] pos) (tMeth C m sp [] E ta t) := by
  obtain ⟨f, fd, ps, hc, hm, F, b⟩ := c.ex
  exact pe_meth (pl := pl) he hc hm F (hr.mono hk) b .nil hx ha hst hpl ht
end
/-- an error's __init__: self.f = v -/
def spErr (C : Addr) (f : Str) : Sp := fun vs H Q _ => ∃ (a : Addr) (v : V), vs = [.ref a, v] ∧ H a = some (exo a C none) ∧ ∀ dx, H dx = none → dx ≠ a → Q .non (upd (upd H dx (exd dx [(f, v)])) a (exo a C (some dx)))
/-- what the top says of an error's class, f its one attribute -/
structure ErC (K : PySem.W.Frag) (mg : Str → Option Value) (name : Str) (f : Str) (C : Addr) : Prop where
  oex : OexC K C
  exc : ExcC K C
  no : PySem.W.findIn K (.ref C) f = some none
  mgC : mg name = some (.ref C)
theorem ErC.xf {K : PySem.W.Frag} {mg : Str → Option Value} {name f : Str} {C : Addr} (T : ErC K mg name f C) : XfC K C := ⟨T.exc.hg, T.exc.hk, T.exc.hs, T.exc.hd⟩
/-- its __init__, walked -/
structure ErI (P : Program) (w : World) (K : PySem.W.Frag) (mg : Str → Option Value) (base : Heap) (f : Str) (C : Addr) : Prop where
  ex : ∃ fI fd ps, PySem.W.findIn K (.ref C) "__init__" = some (some (.ref fI)) ∧ PySem.W.typeIn K (.ref fI) = some (.type "function") ∧ FnOk P w K mg base CX0 1 fI fd ps (spErr C f) ∧ Binds K fd ps []
/-- raise C(e): e's value v, then for every new d the way out -/
def RaiseOk (C : Addr) (f : Str) (W : XK) (v : V) (H1 : Hp) : Prop :=
  [v].length ≤ 1000 ∧ ∀ a, H1 a = none → spErr C f (.ref a :: ([v] ++ [])) (upd H1 a (exo a C none))
    (fun u H2 => u = .non ∧ ∃ (d : Addr) (fs : List (Str × V)), H2 a = some (exo a C (some d)) ∧ H2 d = some (exd d fs) ∧ H1 d = none ∧ W (.ref C) (some d) (upd (L2.del H2 a) d (.xd fs))) (fun _ _ _ => False)
theorem raiseOk {C : Addr} {f : Str} {W : XK} {v : V} {H1 : Hp} (h : ∀ d, H1 d = none → W (.ref C) (some d) (upd H1 d (.xd [(f, v)]))) : RaiseOk C f W v H1 := by
  refine ⟨by show 1 ≤ 1000; decide, fun a ha => ⟨a, v, rfl, upd_same, fun dx hdx hne => ⟨rfl, dx, [(f, v)], upd_same, by rw [upd_ne hne, upd_same], ?_, ?_⟩⟩⟩
  · rw [upd_ne hne] at hdx
    exact hdx
  · have hd1 : H1 dx = none := by
      rw [upd_ne hne] at hdx
      exact hdx
    have e : upd (L2.del (upd (upd (upd H1 a (exo a C none)) dx (exd dx [(f, v)])) a (exo a C (some dx))) a) dx (.xd [(f, v)]) = upd H1 dx (.xd [(f, v)]) := by
      funext b
      by_cases h1 : b = dx
      · rw [h1, upd_same, upd_same]
      · rw [upd_ne h1, upd_ne h1]
        by_cases h2 : b = a
        · rw [h2, L2.del_same, ha]
        · rw [L2.del_ne h2, upd_ne h2, upd_ne h1, upd_ne h2]
    rw [e]
    exact h dx hd1
def tRaiseE (C : Addr) (f : Str) (W : L2.St → XK) (te : TE) : TS := fun _ σ H => te σ H fun v H1 => RaiseOk C f (W σ) v H1
theorem kr_raise {X : Cx} {W : WX} {C : Addr} {f x : Str} {k : Nat} {p pos pos' : Pos} {e : Expr} {te : TE} (T : ErC X.K X.mg x f C) (I : ErI X.prog X.w X.K X.mg X.base f C) (hr : Room (k + 2) X.A) (hc : X.calm = true) (tk : L2N.Takes X W) (hg : Gl X x) (he : PE X e te)
    (hdb : (x == ("__debug__" : Str)) = false := by decide) (hs : starEach [e] X.env = (false, eval e X.env) :: starEach [] X.env := by rfl) (hpl : (backTo pos (starEach [] X.env)).any (·.1) = false := by rfl) :
    PS X (.Raise (some (.Call (.Name x p) [e] [] pos)) none pos') (tRaiseE C f (fun σ cls d H => W cls d σ H) te) := by
  obtain ⟨fI, fd, ps, iC, tI, F, b⟩ := I.ex
  exact L2N.ps_raise hc tk (KH.pmkN T.oex iC tI F (hr.mono (by omega)) b pass0 hg T.mgC (pa_cons he pa_nil hs) hdb hs hpl)
theorem takes0N {X : Cx} : L2N.Takes X (fun _ _ _ _ => False) := fun _ _ x => by
  obtain ⟨_, _, _, _, _, _, _, _, _, _, _, _, _, _, _, _, z⟩ := x
  exact z.elim
/-- C(e, ..) in a try -/
def tMakeS (C : Addr) (sp : Sp) (E : L2.St → XK) (t : TA) : TE := fun σ H Q => t σ H fun vs H1 => ∀ x dx, H1 x = none → H1 dx = none → dx ≠ x →
  sp (.ref x :: (vs ++ [])) (upd (upd H1 dx (.own x)) x (.ins C dx [])) (fun v H2 => v = .non ∧ Q (.ref x) H2) (E σ)
theorem pe_makeS {X : Cx} {CX : CXT} {k : Nat} {f C : Addr} {fd : FuncData} {ps : List Str} {sp : Sp} {E : L2.St → XK} {x : Str} {p pos : Pos} {e : Expr} {es : List Expr} {t : TA} (M : Mk X.K C f) (F : FnOk X.prog X.w X.K X.mg X.base CX k f fd ps sp) (hr : Room (k + 1) X.A) (hg : Gl X x) (hm : X.mg x = some (.ref C)) (hb : Binds X.K fd ps []) (hx : ∀ σ, PassesAt CX X σ (E σ))
    (ha : PA X (e :: es) t) (hdb : (x == ("__debug__" : Str)) = false := by decide) (he : starEach (e :: es) X.env = (false, eval e X.env) :: starEach es X.env := by rfl) (hpl : (backTo pos (starEach es X.env)).any (·.1) = false := by rfl) :
    PE X (.Call (.Name x p) (e :: es) [] pos) (tMakeS C sp E t) := by
  refine ⟨fun pins s σ H Q I h => ?_⟩
  refine wpAny_Call_Name_kw (ld_glob I hg hm ?_ hdb)
  refine PySem.W.callWith_K (h₀ := X.base) I.ok.mod.kin M.kp (thn (ha.run pos pins s σ H _ I h) fun us s1 ⟨vs, H1, I1, r, q⟩ => ⟨I1.kIn, ?_⟩) he hpl
  show wpAny (model X.prog X.w) X.A (call (.ref C) us) (EP X pins σ Q) X.xe s1
  have hq := q (s1.heap.objs.size + 1) s1.heap.objs.size (I1.hok.fresh (Nat.le_succ _)) (I1.hok.fresh (Nat.le_refl _)) (Nat.ne_of_lt (Nat.lt_succ_self _))
  have I2 := Inv.made (C := C) I1
  have r2 : Vals (V.ref (s1.heap.objs.size + 1) :: (vs ++ [])) (Value.ref (s1.heap.objs.size + 1) :: (us ++ [])) := .cons rfl (r.append .nil)
  have hl : (Value.ref (s1.heap.objs.size + 1) :: us ++ []).length = ps.length := by
    have e := r2.length
    rw [F.len _ _ _ _ hq] at e
    exact e.symm
  have bb := hb _ (Value.ref (s1.heap.objs.size + 1) :: us) I2.kIn hl
  rw [List.cons_append] at bb
  refine wpAny_call (make_map (f := f) I1.kIn M.makes M.init (beq_iff_eq.mp M.fn) (codeAny_mono (F.run _ X.stack _ _ ⟨Value.ref (s1.heap.objs.size + 1) :: us, []⟩ (Value.ref (s1.heap.objs.size + 1) :: (us ++ [])) _ _ (E σ) (hr.make C us [])
    (I2.env0.make C us []) bb r2 hq) fun r s' hq' => ?_))
  cases r with
  | error e => exact hx σ pins _ _ e s' I2 hq'
  | ok fl =>
    cases fl with
    | ret u =>
      obtain ⟨v, H', I3, rv, ev, q3⟩ := I2.after hq'
      subst ev
      exact ⟨rv, ⟨V.ref (s1.heap.objs.size + 1), H', I3, rfl, q3⟩⟩
    | next => exact False.elim hq'
    | brk => exact False.elim hq'
    | cont => exact False.elim hq'
end KW

/-! ## names and ways -/
namespace KW
open PySem PySem.Spec PyProof.Rows L2
/-- a comprehension over a text's signs -/
theorem lc_txt {D : Addr} {l : List Nat} {i : Nat} {tt : TT} {te : TE} {vs : List Nat} {σ : L2.St} {H1 : Hp} {Qd : Hp → Prop} (p : Nat → Bool) (g : Nat → V) (hD : H1 D = none) (hlen : l.length ≤ 1000000)
    (hw : ∀ x, wipe ((wipe σ vs).set i (some x)) vs = wipe σ vs)
    (ht : ∀ c ∈ l, ∀ (H : Hp) (R : Bool → Hp → Prop), (∀ H', Same H H' → R (p c) H') → tt ((wipe σ vs).set i (some (.str (S [c])))) H R)
    (he : ∀ c ∈ l, ∀ (H : Hp) (R : VK), (∀ H', Same H H' → R (g c) H') → te ((wipe σ vs).set i (some (.str (S [c])))) H R)
    (hd : ∀ H', H' D = some (.lst ((l.filter p).map g)) → Same H1 H' → Qd H') :
    ∃ W : Nat → Nat → Hp → Prop, (∃ m, W 0 m (upd H1 D (.lst []))) ∧ ∀ j m H, W j m H →
      ((Its (S l)).stop j H ∧ Qd H) ∨ ((Its (S l)).go j H ∧ ∃ Nx : Hp → Prop, (∀ H', Nx H' → ∃ m', m' < m ∧ W (j + 1) m' H') ∧ ∀ x H', (Its (S l)).yld j H x H' → gName i x (wipe σ vs) H' fun σ2 H2 => wipe σ2 vs = wipe σ vs ∧ tt σ2 H2 fun b H3 =>
        if b = true then te σ2 H3 fun y H4 => ∃ acc, H4 D = some (.lst acc) ∧ acc.length < sizeLine ∧ Nx (upd H4 D (.lst (acc ++ [y]))) else Nx H3) := by
  refine lc_it walk_str (fun j H' => H' D = some (.lst (((l.take j).filter p).map g)) ∧ Same H1 H') ⟨by rw [List.take_zero]; exact upd_same, same_upd hD⟩ (fun _ _ _ _ => trivial) ?_ ?_
  · rintro j x H2 H3 hj ⟨hD1, s1⟩ ⟨rfl, c, hc, rfl⟩
    have hc' : l[j]? = some c := by
      rw [← hc]
      show l[j]? = (l.toArray)[j]?
      simp
    have hm := List.mem_of_getElem? hc'
    have etake := take_more hc'
    refine ⟨hw _, ht c hm _ _ fun H4 s4 => ?_⟩
    have hD4 := s4 _ _ hD1
    cases hp : p c with
    | false =>
      refine iteF ⟨?_, s1.trans s4⟩
      rw [hD4, etake, List.filter_append, List.filter_cons, hp]
      simp
    | true =>
      refine iteT (he c hm _ _ fun H5 s5 => ⟨_, s5 _ _ hD4, ?_, ?_, fun b o z => ?_⟩)
      · rw [List.length_map]
        have h1 := List.length_filter_le p (l.take j)
        have h2 : (l.take j).length ≤ j := by rw [List.length_take]; omega
        have h3 : j < l.length := (List.getElem?_eq_some_iff.mp hc').1
        exact Nat.lt_of_lt_of_le (show _ < 1000001 by omega) (by decide)
      · rw [upd_same, etake, List.filter_append, List.filter_cons, hp, List.map_append]
        rfl
      · rw [upd_ne (ne_of_none z hD)]
        exact s5 _ _ (s4 _ _ (s1 _ _ z))
  · rintro H2 ⟨hD1, s1⟩
    refine hd H2 ?_ s1
    rw [hD1]
    show some (HO.lst (((l.take l.toArray.size).filter p).map g)) = _
    rw [List.take_of_length_le (by simp)]
theorem filter_yes {α : Type} (l : List α) : l.filter (fun _ => true) = l := List.filter_eq_self.mpr fun _ _ => rfl
/-- a value and its text, if it is one -/
def TxV (K : PySem.W.Frag) (H : Hp) (v : V) : Option (List Nat) → Prop
  | some l => v = .str (S l) ∧ l.length ≤ 1000
  | none => ∃ t, TyX K H v t ∧ PySem.W.kitOne K t (.type "str") = some false
theorem kit_str (K : PySem.W.Frag) : PySem.W.kitOne K (.type "str") (.type "str") = some true := by
  unfold PySem.W.kitOne
  exact if_pos (by decide +kernel)
def nmB (l : List Nat) : Bool := decide (1 ≤ l.length) && decide (l.length ≤ 4) && (l.all fun c => decide (c ∈ abc)) && !([wIf, wElse, wEnd].contains l)
def nameB : Option (List Nat) → Bool
  | none => false
  | some l => nmB l
abbrev pmq : List Nat := [43, 45, 63]
def wyB (l : List Nat) : Bool := decide (1 ≤ l.length) && decide (l.length ≤ 3) && (l.all fun c => decide (c ∈ pmq))
def waysB : Option (List Nat) → Bool
  | none => false
  | some l => wyB l
theorem kept_eq : [V.str (Str.ofString "if"), V.str (Str.ofString "else"), V.str (Str.ofString "end")] = LS [wIf, wElse, wEnd] := by decide +kernel
theorem pmq_tl : (Str.ofString "+-?").cps.toList = pmq := by decide +kernel
/-- what the top keeps for names and ways -/
structure NwC (K : PySem.W.Frag) (mg : Str → Option Value) : Prop where
  letters : ∃ t, mg "LETTERS" = some (.str (Str.ofString "abcdefghijklmnopqrstuvwxyz") t)
  ways : ∃ t, mg "WAYS" = some (.str (Str.ofString "+-?") t)
  kept : ∃ a, mg "KEPT_WORDS" = some (.ref a) ∧ ∀ H, SqT K H a (LS [wIf, wElse, wEnd])
theorem all_map (l : List Nat) (p : Nat → Bool) : (l.map p).all id = l.all p := by
  rw [List.all_map]
  rfl
section
variable {P : Program} {w : World} {K : PySem.W.Frag} {mg : Str → Option Value} {base : Heap}
abbrev s_is_name : Stmt := topS 17
theorem sc_is_name : FnScope ["word", "letter"] ["word"] (defScope s_is_name) := ⟨rfl, rfl, rfl, by decide +kernel, rfl, by decide +kernel, by decide +kernel⟩
def spIsN (K : PySem.W.Frag) (f : Option (List Nat) → Bool) : Sp := fun vs H Q _ => ∃ (v : V) (o : Option (List Nat)), vs = [v] ∧ TxV K H v o ∧ ∀ H', Same H H' → Q (.bl (f o)) H'
theorem ok_is_name {k : Nat} (B : Bi mg) (C : NwC K mg) (F : Df K mg "is_name" s_is_name ["word"]) : C8.Cal P w K mg base (k + 1) "is_name" (spIsN K nameB) [] := by
  refine F.cal sc_is_name (fun vs H Q E h => ?_) (fun f cdv A outer s H vs Q E hr h => ?_)
  · obtain ⟨v, o, rfl, _⟩ := h
    rfl
  · obtain ⟨v, o, rfl, hv, q⟩ := h
    obtain ⟨tL, hLETTERS⟩ := C.letters
    obtain ⟨aK, hKEPT_WORDS, hkept⟩ := C.kept
    refine ⟨_, (pss_cons (ps_if (PW.pt (pw_or (pt_not (pt_val (pe_callB (kk_isi K rfl) rfl B.isinstance (by decide +kernel) (pa_cons (pv 0) (pa_cons (kt_str rfl B.ty_str) pa_nil))))) (pw_or1 (pt_not (pt_chain op_le op_le pe_int (pe_callB (kk_len K rfl) rfl B.len PySem.boot_len (pa_cons (pv 0) pa_nil)) pe_int))))) (pss_one (ps_ret pe_bl)) pss_nil)
      (pss_one (ps_ret (pe_and (pe_callB (kk_all K rfl rfl) rfl B.all (by decide +kernel) (pa_cons (pe_lc (own := [("letter", 1)]) (g := gName 1) (tt := tYes) rfl sc_is_name.nd (pi_str (pv 0)) (blkOk_by (own := [("letter", 1)]) (N := ["word", "letter"]) (sc := defScope s_is_name) (by decide +kernel)) (fun _ _ _ _ _ => (pg_name (i := 1) sc_is_name.nd rfl (Or.inl rfl))) (fun _ _ _ _ _ => pts_nil) (fun _ _ _ _ _ => (pe_cmpR op_in_sign (pv 1) (pe_gstr rfl hLETTERS) rfl))) pa_nil)) (pe_one (pe_cmpR (kk_notIn K rfl) (pv 0) (pe_gref rfl hKEPT_WORDS) rfl)))))), ?_⟩
    cases o with
    | none =>
      obtain ⟨t, ty, ek⟩ := hv
      exact ⟨_, rfl, _, _, t, _, false, rfl, .ty _, ty, ek, _, rfl, iteT (iteT (q _ fun _ _ z => z))⟩
    | some l =>
      obtain ⟨rfl, hl⟩ := hv
      have big : (S l).length ≤ sizeLine := Nat.le_trans (m := 1000) (by rw [slen]; exact hl) (by decide)
      refine ⟨_, rfl, _, _, .type "str", _, true, rfl, .ty _, .base (.str _), kit_str K, _, rfl, iteF ?_⟩
      refine ⟨_, rfl, _, _, rfl, ⟨big, rfl⟩, _, _, rfl, rfl, _, rfl, ?_⟩
      rw [slen]
      by_cases h1 : 1 ≤ l.length
      case neg =>
        rw [decide_eq_false (by omega)]
        have e : nameB (some l) = false := by
          show nmB l = false
          unfold nmB
          rw [decide_eq_false h1]
          simp
        rw [e] at q
        exact iteF ⟨_, rfl, iteT (q _ fun _ _ z => z)⟩
      rw [decide_eq_true (by omega)]
      refine iteT ⟨_, _, rfl, rfl, _, rfl, ?_⟩
      by_cases h4 : l.length ≤ 4
      case neg =>
        rw [decide_eq_false (by omega)]
        have e : nameB (some l) = false := by
          show nmB l = false
          unfold nmB
          rw [decide_eq_false h4]
          simp
        rw [e] at q
        exact iteT (q _ fun _ _ z => z)
      rw [decide_eq_true (by omega)]
      refine iteF ⟨_, rfl, S l, rfl, fun D hD => ?_⟩
      refine lc_txt (fun _ => true) (fun c => V.bl (decide (c ∈ abc))) hD (by omega) (fun _ => rfl) (fun c _ H' R h => h H' fun _ _ z => z) (fun c _ H' R h => ?_) fun H1 hD1 s1 => ?_
      · refine ⟨_, rfl, c, _, rfl, rfl, ?_⟩
        rw [abc_tl]
        exact h _ fun _ _ z => z
      rw [filter_yes] at hD1
      refine ⟨D, l.map fun c => decide (c ∈ abc), rfl, SqL.of (by rw [hD1, List.map_map]; rfl), _, rfl, ?_⟩
      rw [all_map]
      have e : nameB (some l) = ((l.all fun c => decide (c ∈ abc)) && !([wIf, wElse, wEnd].contains l)) := by
        show nmB l = _
        unfold nmB
        rw [decide_eq_true h1, decide_eq_true h4]
        rfl
      rw [e] at q
      cases hall : l.all fun c => decide (c ∈ abc) with
      | false =>
        rw [hall] at q
        exact iteF (q _ s1)
      | true =>
        rw [hall, Bool.true_and] at q
        refine iteT ⟨_, rfl, aK, _, rfl, .inr (hkept _), rfl, flat_LS _, ?_⟩
        rw [inV_LS]
        exact q _ s1
abbrev s_are_ways : Stmt := topS 28
theorem sc_are_ways : FnScope ["ways", "way"] ["ways"] (defScope s_are_ways) := ⟨rfl, rfl, rfl, by decide +kernel, rfl, by decide +kernel, by decide +kernel⟩
theorem ok_are_ways {k : Nat} (B : Bi mg) (C : NwC K mg) (F : Df K mg "are_ways" s_are_ways ["ways"]) : C8.Cal P w K mg base (k + 1) "are_ways" (spIsN K waysB) [] := by
  refine F.cal sc_are_ways (fun vs H Q E h => ?_) (fun f cdv A outer s H vs Q E hr h => ?_)
  · obtain ⟨v, o, rfl, _⟩ := h
    rfl
  · obtain ⟨v, o, rfl, hv, q⟩ := h
    obtain ⟨tL, hWAYS⟩ := C.ways
    refine ⟨_, (pss_one (ps_ret (pe_and (pe_callB (kk_isi K rfl) rfl B.isinstance (by decide +kernel) (pa_cons (pv 0) (pa_cons (kt_str rfl B.ty_str) pa_nil))) (pe_and (pe_chain op_le op_le pe_int (pe_callB (kk_len K rfl) rfl B.len PySem.boot_len (pa_cons (pv 0) pa_nil)) pe_int) (pe_one (pe_callB (kk_all K rfl rfl) rfl B.all (by decide +kernel) (pa_cons (pe_lc (own := [("way", 1)]) (g := gName 1) (tt := tYes) rfl sc_are_ways.nd (pi_str (pv 0)) (blkOk_by (own := [("way", 1)]) (N := ["ways", "way"]) (sc := defScope s_are_ways) (by decide +kernel)) (fun _ _ _ _ _ => (pg_name (i := 1) sc_are_ways.nd rfl (Or.inl rfl))) (fun _ _ _ _ _ => pts_nil) (fun _ _ _ _ _ => (pe_cmpR op_in_sign (pv 1) (pe_gstr rfl hWAYS) rfl))) pa_nil))))))), ?_⟩
    cases o with
    | none =>
      obtain ⟨t, ty, ek⟩ := hv
      exact ⟨_, rfl, _, _, t, _, false, rfl, .ty _, ty, ek, _, rfl, iteF (q _ fun _ _ z => z)⟩
    | some l =>
      obtain ⟨rfl, hl⟩ := hv
      have big : (S l).length ≤ sizeLine := Nat.le_trans (m := 1000) (by rw [slen]; exact hl) (by decide)
      refine ⟨_, rfl, _, _, .type "str", _, true, rfl, .ty _, .base (.str _), kit_str K, _, rfl, iteT ?_⟩
      refine ⟨_, rfl, _, _, rfl, ⟨big, rfl⟩, _, _, rfl, rfl, _, rfl, ?_⟩
      rw [slen]
      by_cases h1 : 1 ≤ l.length
      case neg =>
        rw [decide_eq_false (by omega)]
        have e : waysB (some l) = false := by
          show wyB l = false
          unfold wyB
          rw [decide_eq_false h1]
          simp
        rw [e] at q
        exact iteF ⟨_, rfl, iteF (q _ fun _ _ z => z)⟩
      rw [decide_eq_true (by omega)]
      refine iteT ⟨_, _, rfl, rfl, _, rfl, ?_⟩
      by_cases h4 : l.length ≤ 3
      case neg =>
        rw [decide_eq_false (by omega)]
        have e : waysB (some l) = false := by
          show wyB l = false
          unfold wyB
          rw [decide_eq_false h4]
          simp
        rw [e] at q
        exact iteF (q _ fun _ _ z => z)
      rw [decide_eq_true (by omega)]
      refine iteT ⟨_, rfl, S l, rfl, fun D hD => ?_⟩
      refine lc_txt (fun _ => true) (fun c => V.bl (decide (c ∈ pmq))) hD (by omega) (fun _ => rfl) (fun c _ H' R h => h H' fun _ _ z => z) (fun c _ H' R h => ?_) fun H1 hD1 s1 => ?_
      · refine ⟨_, rfl, c, _, rfl, rfl, ?_⟩
        rw [pmq_tl]
        exact h _ fun _ _ z => z
      rw [filter_yes] at hD1
      refine ⟨D, l.map fun c => decide (c ∈ pmq), rfl, SqL.of (by rw [hD1, List.map_map]; rfl), ?_⟩
      rw [all_map]
      have e : waysB (some l) = (l.all fun c => decide (c ∈ pmq)) := by
        show wyB l = _
        unfold wyB
        rw [decide_eq_true h1, decide_eq_true h4]
        rfl
      rw [e] at q
      exact q _ s1
end
end KW

/-! ## steps -/
namespace KW
open PySem PySem.Spec PyProof.Rows L2
/-- a class whose __init__ may raise -/
structure RMak (P : Program) (w : World) (K : PySem.W.Frag) (mg : Str → Option Value) (base : Heap) (k : Nat) (x : Str) (C : Addr) (sp : Sp) : Prop where
  ex : ∃ f fd ps, Mk K C f ∧ FnOk P w K mg base (L2N.CX P w) k f fd ps sp ∧ mg x = some (.ref C) ∧ Binds K fd ps []
section
variable {P : Program} {w : World} {K : PySem.W.Frag} {mg : Str → Option Value} {base : Heap}
theorem rmakMono {j k : Nat} {x : Str} {C : Addr} {sp : Sp} (c : RMak P w K mg base j x C sp) (h : j ≤ k) : RMak P w K mg base k x C sp := by
  obtain ⟨f, fd, ps, M, F, r⟩ := c.ex
  exact ⟨f, fd, ps, M, F.mono h, r⟩
theorem Dc.rmak {C : Addr} {x qual : Str} {st : Stmt} {N ps : List Str} {k : Nat} {sp : Sp} (F : Dc K mg C x qual st ps) (S : FnScope N ps (defScope st)) (len : ∀ vs H Q E, sp vs H Q E → vs.length = ps.length)
    (hbody : ∀ (f : Addr) (cdv : Value) (A : Around) (outer : List Env) (s : Shared) (H : Hp) (vs : List V) (Q : VK) (E : XK), Room k (A.deeper (envOfC qual (defScope st) s.heap.objs.size f cdv)) → sp vs H Q E →
      ∃ t, PSs (cxOf (L2N.CX P w) P w K mg base N qual (defScope st) f cdv A outer s H E) (defBody st) t ∧ t { nx := fun _ H' => Q .non H', rt := Q } (start N vs) H) : RMak P w K mg base (k + 1) x C sp := by
  obtain ⟨f, fd, M, hm, F, b⟩ := F.ex
  obtain ⟨oc, od, kV, doc, pm, an, cdv, ct, osl, rfl, lk, hcd⟩ := F.ex
  exact ⟨f, _, ps, M, fn_of lk hcd S len fun A outer s H vs Q E hr hsp => hbody f cdv A outer s H vs Q E hr hsp, hm, b⟩
end
theorem kr_mk {X : Cx} {k j : Nat} {x : Str} {C : Addr} {sp : Sp} {E : XK} {p pos : Pos} {e : Expr} {es : List Expr} {t : TA} (c : RMak X.prog X.w X.K X.mg X.base k x C sp) (hr : Room j X.A) (hk : k + 1 ≤ j) (hg : Gl X x) (hx : Passes (L2N.CX X.prog X.w) X E) (ha : PA X (e :: es) t)
    (hdb : (x == ("__debug__" : Str)) = false := by decide) (he : starEach (e :: es) X.env = (false, eval e X.env) :: starEach es X.env := by rfl) (hpl : (backTo pos (starEach es X.env)).any (·.1) = false := by rfl) :
    PE X (.Call (.Name x p) (e :: es) [] pos) (tMake C sp [] E t) := by
  obtain ⟨f, fd, ps, M, F, hm, b⟩ := c.ex
  exact pe_make M F (hr.mono hk) hg hm b .nil hx ha hdb he hpl
/-- the fields of a step -/
def stF (n u : List Nat) : List (Str × V) := [("name", .str (S n)), ("ways", .str (S u))]
theorem stF_name (n u : List Nat) : (stF n u).lookup ("name" : Str) = some (.str (S n)) := rfl
theorem stF_ways (n u : List Nat) : (stF n u).lookup ("ways" : Str) = some (.str (S u)) := by
  have h : (("ways" : Str) == ("name" : Str)) = false := by decide +kernel
  simp only [stF, List.lookup, h]
  rfl
theorem stF_mk (n u : List Nat) : putF "ways" (.str (S u)) (putF "name" (.str (S n)) []) = stF n u := by
  show (if ("name" : Str) = "ways" then _ else (("name" : Str), V.str (S n)) :: putF "ways" (.str (S u)) []) = _
  rw [if_neg (by decide +kernel)]
  rfl
theorem stF_no (n u : List Nat) {m : Str} (h1 : (m == ("name" : Str)) = false) (h2 : (m == ("ways" : Str)) = false) : (stF n u).lookup m = none := by
  simp only [stF, List.lookup, h1, h2]
/-- a step stands at p -/
def StAt (C : Addr) (H : Hp) (p : Addr) (n u : List Nat) : Prop := ∃ dx, H p = some (.ins C dx (stF n u))
theorem StAt.mono {C p : Addr} {H H' : Hp} {n u : List Nat} (h : StAt C H p n u) (s : Same H H') : StAt C H' p n u := by
  obtain ⟨dx, e⟩ := h
  exact ⟨dx, s _ _ e⟩
/-- the way out while the object at p is being made: an error with f = v -/
def ErP (CI p : Addr) (H : Hp) (E : XK) (f : Str) (v : V) : Prop := ∀ (d : Addr) (H' : Hp), H d = none → H' d = some (.xd [(f, v)]) → KB p H H' → E (.ref CI) (some d) H'
theorem ErP.raise {CI p : Addr} {H H1 : Hp} {E : XK} {f : Str} {v : V} (e : ErP CI p H E f v) (s : KB p H H1) (hp : H1 p ≠ none) : RaiseOk CI f E v H1 :=
  raiseOk fun d hd => by
    have hdp : d ≠ p := fun z => hp (z ▸ hd)
    exact e d _ (s.free hdp hd) upd_same (s.new hd)
/-- the way out where nothing is half made -/
def ErS (CI : Addr) (H : Hp) (E : XK) (f : Str) (v : V) : Prop := ∀ (d : Addr) (H' : Hp), H d = none → H' d = some (.xd [(f, v)]) → Same H H' → E (.ref CI) (some d) H'
theorem ErS.raise {CI : Addr} {H H1 : Hp} {E : XK} {f : Str} {v : V} (e : ErS CI H E f v) (s : Same H H1) : RaiseOk CI f E v H1 :=
  raiseOk fun d hd => e d _ (s.free hd) upd_same (s.trans (same_upd hd))
theorem ErS.toP {CI C p dx : Addr} {H : Hp} {E : XK} {f : Str} {v : V} (e : ErS CI H E f v) (hp : H p = none) (hdx : H dx = none) (hne : dx ≠ p) : ErP CI p (upd (upd H dx (.own p)) p (.ins C dx [])) E f v := fun d H' hd hd' kb => by
  have hdp : d ≠ p := fun z => by rw [z, upd_same] at hd; cases hd
  have hdd : d ≠ dx := fun z => by rw [z, upd_ne hne, upd_same] at hd; cases hd
  rw [upd_ne hdp, upd_ne hdd] at hd
  refine e d H' hd hd' fun b o z => kb b o (ne_of_none z hp) ?_
  rw [upd_ne (ne_of_none z hp), upd_ne (ne_of_none z hdx)]
  exact z
/-- what the class Step has -/
structure StC (K : PySem.W.Frag) (C : Addr) : Prop where
  cl : Cls K C
  nN : NoAttr K C "name"
  nW : NoAttr K C "ways"
section
variable {P : Program} {w : World} {K : PySem.W.Frag} {mg : Str → Option Value} {base : Heap}
abbrev s_InvalidStep___init__ : Stmt := inClass (topS 2) 0
theorem sc_InvalidStep___init__ : FnScope ["self", "word"] ["self", "word"] (defScope s_InvalidStep___init__) := ⟨rfl, rfl, rfl, by decide +kernel, rfl, by decide +kernel, by decide +kernel⟩
theorem ok_InvalidStep {C fI : Addr} {fd : FuncData} (T : ErC K mg "InvalidStep" "word" C) (iC : PySem.W.findIn K (.ref C) "__init__" = some (some (.ref fI))) (tI : PySem.W.typeIn K (.ref fI) = some (.type "function"))
    (F : Fun K "__init__" "InvalidStep.__init__" s_InvalidStep___init__ fI fd) (b : Binds K fd ["self", "word"] []) : ErI P w K mg base "word" C := by
  refine ⟨fI, fd, ["self", "word"], iC, tI, ?_, b⟩
  refine F.ok sc_InvalidStep___init__ (fun vs H Q E h => ?_) (fun cdv A outer s H vs Q E hr h => ?_)
  · obtain ⟨a, v, rfl, _⟩ := h
    rfl
  · obtain ⟨a, v, rfl, ha, q⟩ := h
    refine ⟨_, pss_one (ps_ost (pv 0) (pv 1)), ?_⟩
    exact ⟨_, rfl, _, rfl, a, C, rfl, T.oex, T.no, .inl ⟨ha, q⟩⟩
abbrev s_Step___init__ : Stmt := inClass (topS 29) 0
theorem sc_Step___init__ : FnScope ["self", "name", "ways"] ["self", "name", "ways"] (defScope s_Step___init__) := ⟨rfl, rfl, rfl, by decide +kernel, rfl, by decide +kernel, by decide +kernel⟩
def spStI (K : PySem.W.Frag) (C CI : Addr) : Sp := fun vs H Q E => ∃ (p dx : Addr) (vn vw : V) (n u : Option (List Nat)), vs = [.ref p, vn, vw] ∧ H p = some (.ins C dx []) ∧ TxV K H vn n ∧ TxV K H vw u ∧
  (nameB n = false → ErP CI p H E "word" (.str "name")) ∧ (nameB n = true → waysB u = false → ErP CI p H E "word" (.str "ways")) ∧
  ∀ n' u', n = some n' → u = some u' → nmB n' = true → wyB u' = true → ∀ H', StAt C H' p n' u' → KB p H H' → Q .non H'
theorem tyX_same {K : PySem.W.Frag} {H H' : Hp} {v : V} {t : Value} (s : Same H H') (h : TyX K H v t) : TyX K H' v t := by
  cases h with
  | base b =>
    cases b with
    | non => exact .base .non
    | bl x => exact .base (.bl x)
    | int i => exact .base (.int i)
    | str x => exact .base (.str x)
    | flt x => exact .base (.flt x)
    | lst e => exact .base (.lst (s _ _ e))
    | frz e => exact .base (.frz (s _ _ e))
    | tup e => exact .base (.tup (s _ _ e))
    | dK e => exact .base (.dK (s _ _ e))
    | dT e => exact .base (.dT (s _ _ e))
    | ins e cl ha hn htk hm => exact .base (.ins (s _ _ e) cl ha hn htk hm)
  | byt b => exact .byt b
  | set e => exact .set (s _ _ e)
  | kList e c => exact .kList e c
  | kTuple e c => exact .kTuple e c
  | kDict e c => exact .kDict e c
  | fTuple e => exact .fTuple (s _ _ e)
  | fDict e => exact .fDict (s _ _ e)
theorem TxV.mono {K : PySem.W.Frag} {H H' : Hp} {v : V} {o : Option (List Nat)} (h : TxV K H v o) (s : Same H H') : TxV K H' v o := by
  cases o with
  | some l => exact h
  | none =>
    obtain ⟨t, ty, e⟩ := h
    exact ⟨t, tyX_same s ty, e⟩
theorem ok_StI {k : Nat} {C CI : Addr} (T : StC K C) (TInvalidStep : ErC K mg "InvalidStep" "word" CI) (IInvalidStep : ErI P w K mg base "word" CI) (F : Dc K mg C "Step" "Step.__init__" s_Step___init__ ["self", "name", "ways"])
    (Gis_name : C8.Cal P w K mg base (k + 2) "is_name" (spIsN K nameB) []) (Gare_ways : C8.Cal P w K mg base (k + 2) "are_ways" (spIsN K waysB) []) : RMak P w K mg base (k + 3) "Step" C (spStI K C CI) := by
  refine F.rmak sc_Step___init__ (fun vs H Q E h => ?_) (fun f cdv A outer s H vs Q E hr h => ?_)
  · obtain ⟨p, dx, vn, vw, n, u, rfl, _⟩ := h
    rfl
  · obtain ⟨p, dx, vn, vw, n, u, rfl, hp, hn, hu, e1, e2, q⟩ := h
    refine ⟨_, (pss_cons (ps_if (pt_not (pt_val (C8.pe_c Gis_name hr (Nat.le_refl _) rfl (pa_cons (pv 1) pa_nil)))) (pss_one (kr_raise (k := 0) TInvalidStep IInvalidStep (hr.mono (by omega)) rfl (L2N.takes_of rfl rfl rfl rfl) rfl pe_str)) pss_nil)
      (pss_cons (ps_if (pt_not (pt_val (C8.pe_c Gare_ways hr (Nat.le_refl _) rfl (pa_cons (pv 2) pa_nil)))) (pss_one (kr_raise (k := 0) TInvalidStep IInvalidStep (hr.mono (by omega)) rfl (L2N.takes_of rfl rfl rfl rfl) rfl pe_str)) pss_nil)
      (pss_cons (ps_fld (pv 0) (pv 1) rfl)
      (pss_one (ps_fld (pv 0) (pv 2) rfl))))), ?_⟩
    refine ⟨_, rfl, vn, n, rfl, hn, fun H1 s1 => ⟨_, rfl, ?_⟩⟩
    have hp1 := s1 _ _ hp
    cases bn : nameB n with
    | false => exact iteT ((e1 bn).raise (KB.of_same s1) (by rw [hp1]; exact fun z => nomatch z))
    | true =>
      refine iteF ⟨_, rfl, vw, u, rfl, hu.mono s1, fun H2 s2 => ⟨_, rfl, ?_⟩⟩
      have hp2 := s2 _ _ hp1
      cases bu : waysB u with
      | false => exact iteT ((e2 bn bu).raise (KB.of_same (s1.trans s2)) (by rw [hp2]; exact fun z => nomatch z))
      | true =>
        cases n with
        | none => cases bn
        | some n' =>
          cases u with
          | none => cases bu
          | some u' =>
            obtain ⟨rfl, _⟩ := hn
            obtain ⟨rfl, _⟩ := hu
            refine iteF ⟨_, rfl, _, rfl, p, C, dx, [], rfl, hp2, T.cl, T.nN, by decide, _, rfl, _, rfl, p, C, dx, _, rfl, upd_same, T.cl, T.nW, by show 1 < 1000; decide, ?_⟩
            refine q n' u' rfl rfl bn bu _ ⟨dx, Eq.trans upd_same (congrArg (fun z => some (HO.ins C dx z)) (stF_mk n' u'))⟩ fun b o hb z => ?_
            rw [upd_ne hb, upd_ne hb]
            exact s2 _ _ (s1 _ _ z)
end
/-- what stood ahead of a making stands behind it -/
theorem made_same {H1 H' : Hp} {p dx C : Addr} (hp : H1 p = none) (hdx : H1 dx = none) (kb : KB p (upd (upd H1 dx (.own p)) p (.ins C dx [])) H') : Same H1 H' := fun b o z => by
  refine kb _ _ (ne_of_none z hp) ?_
  rw [upd_ne (ne_of_none z hp), upd_ne (ne_of_none z hdx)]
  exact z
/-- a right step is made -/
theorem mk_step {K : PySem.W.Frag} {CS CI x dx : Addr} {n u : List Nat} {H0 : Hp} {Q : VK} {E : XK} (hn : nmB n = true) (hu : wyB u = true) (ln : n.length ≤ 1000) (lu : u.length ≤ 1000) (hx : H0 x = some (.ins CS dx []))
    (h : ∀ H3, StAt CS H3 x n u → KB x H0 H3 → Q .non H3) : spStI K CS CI (.ref x :: ([.str (S n), .str (S u)] ++ [])) H0 Q E :=
  ⟨x, dx, _, _, some n, some u, rfl, hx, ⟨rfl, ln⟩, ⟨rfl, lu⟩, fun z => absurd (show nmB n = false from z) (by rw [hn]; decide), fun _ z => absurd (show wyB u = false from z) (by rw [hu]; decide), fun n' u' en eu _ _ H3 h3 kb => by
    cases en
    cases eu
    exact h H3 h3 kb⟩
end KW

/-! ## expressions that are names; a trait up; a chain of one step -/
namespace KW
open PySem PySem.Spec PyProof.Rows L2
structure Bi2 (mg : Str → Option Value) : Prop where
  sorted : mg "sorted" = none
  sum : mg "sum" = none
def tNev : TE := fun _ _ _ => False
def ttNev : TT := fun _ _ _ => False
theorem pe_never {X : Cx} {e : Expr} : PE X e tNev := ⟨fun _ _ _ _ _ _ h => h.elim⟩
theorem pt_never {X : Cx} {e : Expr} : PT X e ttNev := ⟨fun _ _ _ _ _ _ h => h.elim⟩
theorem kk_sum {X : Cx} (K : PySem.W.Frag) (hK : X.K = K) (hc : X.calm = true) : CallR X (.builtin "sum") (rSum K) := by subst hK; exact cr_sum hc
/-- t * 1 is t -/
theorem tuple_mul1 (l : Addr) (items : Array Value) (n : Nat) (dd : Option Addr) (sl : Array (Option Value)) (u : Tok) :
    Meets (Builtin.«tuple.__mul__» ⟨[.ref l, .int 1 u], []⟩) (fun _ R s => s.heap.get? l = some { cls := .type "tuple", dict := dd, data := .seq items n, slots := sl } ∧ R (.ok (.ret (Value.ref l))) s) :=
  .of_wp fun prog w A R s h => by
    obtain ⟨hp, g, d, tk, os⟩ := s
    obtain ⟨hl, h⟩ := h
    have f1 := AutoSeq1.idx_int
    have c0 : (decide ((1 : Int) < -(2 ^ 63)) || decide ((1 : Int) ≥ 2 ^ 63)) = false := by decide
    have c1 : (items.isEmpty || (1 : Int) == 1) = true := by simp
    wp_walk using wpAny_loadPart' hl
    repeat (first
      | (refine wpAny_ite_false (decide_eq_false (by rw [c0]; exact Bool.false_ne_true)) ?_; wp_walk using wpAny_loadPart' hl)
      | (refine wpAny_ite_true (decide_eq_true c1) ?_; wp_walk using wpAny_loadPart' hl))
    exact ⟨_, rfl, h⟩
def rRepTA (K : PySem.W.Frag) : R2 := fun x y H Q => (∃ l xs, x = .ref l ∧ y = .int 1 ∧ SqT K H l xs ∧ Q (.ref l) H) ∨ rRepT K x y H Q
theorem op_repTA {X : Cx} (K : PySem.W.Frag) (hK : X.K = K) : OpR X (binaryOp .Mult) (rRepTA K) := by
  subst hK
  intro pins s σ H x y v u Q I rx ry h
  rcases h with ⟨l, xs, rfl, rfl, hT, q⟩ | h
  · cases rx
    obtain ⟨t, rfl⟩ := ry
    obtain ⟨its, r, ⟨⟨cls, dd, data, sl⟩, ho, hc, n, hd⟩, hs⟩ := I.tuple hT
    simp only at hc hd
    subst hc hd
    refine wpAny_binaryOp_repeat_ref (T := "tuple") (U := "int") (by decide) ⟨_, ho, rfl⟩ (fun s' => typeIs_int s' 1 t) noFill_tuple_mul F.fills_int_mul F.slot_int_rmul repeat_tuple F.slot_int_index.lookup
      (call_meets F.slot_int_rmul (typeIs_int s 1 t) F.entry_int_rmul (F.args_int_rmul_2 _ _) (int_rmul_tuple 1 t l its.toArray n dd sl)
        ⟨ho, rfl, ⟨_, ho, rfl⟩, call_meets F.slot_tuple_mul ⟨_, ho, rfl⟩ F.entry_tuple_mul (F.args_tuple_mul_2 _ _) (tuple_mul1 l its.toArray n dd sl t) ⟨ho, ?_⟩⟩)
    exact ⟨.ref l, H, I, rfl, q⟩
  · exact op_repT pins s σ H x y v u Q I rx ry h
/-- the fields of an expression -/
def exF (k w : List Nat) (st p0 p1 p2 p3 : V) (tx : List Nat) : List (Str × V) := [("kind", .str (S k)), ("word", .str (S w)), ("step", st), ("parts", p0), ("names", p1), ("steps", p2), ("marks", p3), ("text", .str (S tx))]
abbrev wName : List Nat := [110, 97, 109, 101]
theorem name_eq : (Str.ofString "name") = S wName := by decide +kernel
/-- an expression that is the name l -/
def ExN (C : Addr) (H : Hp) (p : Addr) (l : List Nat) : Prop := ∃ dx p0 p1 p2 p3, H p = some (.ins C dx (exF wName l .non (.ref p0) (.ref p1) (.ref p2) (.ref p3) l)) ∧ H p0 = some (.tup []) ∧ H p1 = some (.tup [.str (S l)]) ∧ H p2 = some (.tup []) ∧ H p3 = some (.tup [.str (S wName)])
/-- what the class Expr has -/
structure ExC (K : PySem.W.Frag) (C : Addr) : Prop where
  cl : Cls K C
  n1 : NoAttr K C "kind"
  n2 : NoAttr K C "word"
  n3 : NoAttr K C "step"
  n4 : NoAttr K C "parts"
  n5 : NoAttr K C "names"
  n6 : NoAttr K C "steps"
  n7 : NoAttr K C "marks"
  n8 : NoAttr K C "text"
section
variable {P : Program} {w : World} {K : PySem.W.Frag} {mg : Str → Option Value} {base : Heap}
abbrev s_all_steps : Stmt := topS 22
theorem sc_all_steps : FnScope ["step", "parts", "known", "part", "one", "key"] ["step", "parts"] (defScope s_all_steps) := ⟨rfl, rfl, rfl, by decide +kernel, rfl, by decide +kernel, by decide +kernel⟩
/-- of no step and no parts -/
def spAS0 (K : PySem.W.Frag) : Sp := fun vs H Q _ => ∃ (p0 : Addr), vs = [.non, .ref p0] ∧ H p0 = some (.tup []) ∧ ∀ (q : Addr) (H' : Hp), H q = none → H' q = some (.tup []) → Same H H' → Q (.ref q) H'
theorem ok_all_steps0 {k : Nat} (B : Bi mg) (B2 : Bi2 mg) (F : Df K mg "all_steps" s_all_steps ["step", "parts"]) : C8.Cal P w K mg base (k + 1) "all_steps" (spAS0 K) [] := by
  refine F.cal sc_all_steps (fun vs H Q E h => ?_) (fun f cdv A outer s H vs Q E hr h => ?_)
  · obtain ⟨p0, rfl, _⟩ := h
    rfl
  · obtain ⟨p0, rfl, hp0, q⟩ := h
    refine ⟨_, (pss_cons (ps_set (i := 2) sc_all_steps.nd rfl (Or.inr rfl) pe_dnewK)
      (pss_cons (ps_if (pt_cmpR op_notN (pv 0) pe_non (nomark _)) (pss_one ps_never) pss_nil)
      (pss_cons (ps_for PassesOwn.never rfl (kk_iTup K rfl (pv 1)) (pg_name (i := 3) sc_all_steps.nd rfl (Or.inl rfl)) (pss_one ps_never))
      (pss_one (ps_ret (pe_callTy (kk_tuple_of K rfl) rfl B.ty_tuple (by decide +kernel) (pa_cons (pe_lc (own := [("key", 5)]) (g := gName 5) (tt := tYes) rfl sc_all_steps.nd (kk_iList K rfl (pe_callB (call_sortedD rfl) rfl B2.sorted (by decide +kernel) (pa_cons (pv 2) pa_nil))) (blkOk_by (own := [("key", 5)]) (N := ["step", "parts", "known", "part", "one", "key"]) (sc := defScope s_all_steps) (by decide +kernel)) (fun _ _ _ _ _ => (pg_name (i := 5) sc_all_steps.nd rfl (Or.inl rfl))) (fun _ _ _ _ _ => pts_nil) (fun _ _ _ _ _ => pe_never)) pa_nil))))))), ?_⟩
    refine fun d hd => ?_
    have s1 := same_upd (o := .dK []) hd
    have hp1 := s1 _ _ hp0
    have hd1 : (upd H d (.dK [])) d = some (.dK []) := upd_same
    generalize upd H d (.dK []) = H1 at *
    refine ⟨_, rfl, rfl, _, rfl, iteF ?_⟩
    refine ⟨_, rfl, p0, rfl, ⟨_, SqT.of hp1⟩, for_tup (K := K) (a := p0) (xs := []) (fun i σ H' => σ = [some .non, some (.ref p0), some (.ref d), none, none, none] ∧ H1 = H') ⟨rfl, rfl⟩ (fun i σ H' _ h => by rw [← h.2]; exact SqT.of hp1) (fun i x σ H' hx _ => by simp at hx) ?_⟩
    rintro σ H' ⟨rfl, rfl⟩
    refine ⟨_, rfl, d, [], [], rfl, .inl hd1, rfl, by decide, fun ys l hys _ hl => ?_⟩
    have ey : ys = [] := List.perm_nil.mp hys
    subst ey
    have s2 := same_upd (o := .lst (List.map V.str [])) hl
    refine ⟨l, rfl, ⟨_, SqL.of upd_same⟩, fun D hD => ?_⟩
    refine lc_list (K := K) (a := l) (xs := []) (fun j H2 => H2 = upd (upd H1 l (.lst (List.map V.str []))) D (.lst [])) rfl (fun j H2 _ e => ?_) (fun j x H2 hx e => by simp at hx) (fun H2 e => ?_)
    · rw [e]
      exact SqL.of (same_upd hD _ _ upd_same)
    · subst e
      refine ⟨D, [], rfl, .inl ⟨SqL.of upd_same, fun q' hq' => ?_⟩⟩
      have s3 := same_upd (o := .lst []) hD
      exact q q' _ (s1.free (s2.free (s3.free hq'))) upd_same fun b o z => same_upd hq' _ _ (s3 _ _ (s2 _ _ (s1 _ _ z)))
abbrev s_text_of : Stmt := topS 20
theorem sc_text_of : FnScope ["kind", "word", "step", "parts", "first", "part"] ["kind", "word", "step", "parts"] (defScope s_text_of) := ⟨rfl, rfl, rfl, by decide +kernel, rfl, by decide +kernel, by decide +kernel⟩
def spTx0 : Sp := fun vs H Q _ => ∃ (l : List Nat) (a b : V), vs = [.str (S wName), .str (S l), a, b] ∧ Q (.str (S l)) H
theorem ok_text_of0 {k : Nat} (F : Df K mg "text_of" s_text_of ["kind", "word", "step", "parts"]) : C8.Cal P w K mg base (k + 1) "text_of" spTx0 [] := by
  refine F.cal sc_text_of (fun vs H Q E h => ?_) (fun f cdv A outer s H vs Q E hr h => ?_)
  · obtain ⟨l, a, b, rfl, _⟩ := h
    rfl
  · obtain ⟨l, a, b, rfl, q⟩ := h
    refine ⟨_, (pss_cons (ps_if (pt_cmpR op_eq (pv 0) pe_str (nomark _)) (pss_one (ps_ret (pv 1))) pss_nil)
      (pss_cons ps_never
      (pss_one ps_never))), ?_⟩
    refine ⟨_, rfl, rfl, _, rfl, ?_⟩
    rw [decide_eq_true (show V.str (S wName) = V.str (Str.ofString "name") by rw [name_eq])]
    exact iteT ⟨_, rfl, q⟩
theorem putF_new {k : Str} {v : V} : ∀ {fs : List (Str × V)}, k ∉ fs.map (·.1) → putF k v fs = fs ++ [(k, v)]
  | [], _ => rfl
  | (k', v') :: r, h => by
    have h1 : k' ≠ k := fun e => h (by simp [e])
    have h2 : k ∉ r.map (·.1) := fun e => h (by simp at e ⊢; exact .inr e)
    show (if k' = k then _ else (k', v') :: putF k v r) = _
    rw [if_neg h1, putF_new h2]
    rfl
theorem exF_mk (k w : List Nat) (st p0 p1 p2 p3 : V) (tx : List Nat) : putF "text" (.str (S tx)) (putF "marks" p3 (putF "steps" p2 (putF "names" p1 (putF "parts" p0 (putF "step" st (putF "word" (.str (S w)) (putF "kind" (.str (S k)) []))))))) = exF k w st p0 p1 p2 p3 tx := by
  rw [show putF "kind" (V.str (S k)) ([] : List (Str × V)) = [(("kind" : Str), V.str (S k))] from putF_new (fs := []) (show ("kind" : Str) ∉ ([] : List Str) by decide +kernel)]
  rw [show putF "word" (V.str (S w)) ([(("kind" : Str), V.str (S k))] : List (Str × V)) = [(("kind" : Str), V.str (S k)), (("word" : Str), V.str (S w))] from putF_new (fs := [(("kind" : Str), V.str (S k))]) (show ("word" : Str) ∉ (["kind"] : List Str) by decide +kernel)]
  rw [show putF "step" (st) ([(("kind" : Str), V.str (S k)), (("word" : Str), V.str (S w))] : List (Str × V)) = [(("kind" : Str), V.str (S k)), (("word" : Str), V.str (S w)), (("step" : Str), st)] from putF_new (fs := [(("kind" : Str), V.str (S k)), (("word" : Str), V.str (S w))]) (show ("step" : Str) ∉ (["kind", "word"] : List Str) by decide +kernel)]
  rw [show putF "parts" (p0) ([(("kind" : Str), V.str (S k)), (("word" : Str), V.str (S w)), (("step" : Str), st)] : List (Str × V)) = [(("kind" : Str), V.str (S k)), (("word" : Str), V.str (S w)), (("step" : Str), st), (("parts" : Str), p0)] from putF_new (fs := [(("kind" : Str), V.str (S k)), (("word" : Str), V.str (S w)), (("step" : Str), st)]) (show ("parts" : Str) ∉ (["kind", "word", "step"] : List Str) by decide +kernel)]
  rw [show putF "names" (p1) ([(("kind" : Str), V.str (S k)), (("word" : Str), V.str (S w)), (("step" : Str), st), (("parts" : Str), p0)] : List (Str × V)) = [(("kind" : Str), V.str (S k)), (("word" : Str), V.str (S w)), (("step" : Str), st), (("parts" : Str), p0), (("names" : Str), p1)] from putF_new (fs := [(("kind" : Str), V.str (S k)), (("word" : Str), V.str (S w)), (("step" : Str), st), (("parts" : Str), p0)]) (show ("names" : Str) ∉ (["kind", "word", "step", "parts"] : List Str) by decide +kernel)]
  rw [show putF "steps" (p2) ([(("kind" : Str), V.str (S k)), (("word" : Str), V.str (S w)), (("step" : Str), st), (("parts" : Str), p0), (("names" : Str), p1)] : List (Str × V)) = [(("kind" : Str), V.str (S k)), (("word" : Str), V.str (S w)), (("step" : Str), st), (("parts" : Str), p0), (("names" : Str), p1), (("steps" : Str), p2)] from putF_new (fs := [(("kind" : Str), V.str (S k)), (("word" : Str), V.str (S w)), (("step" : Str), st), (("parts" : Str), p0), (("names" : Str), p1)]) (show ("steps" : Str) ∉ (["kind", "word", "step", "parts", "names"] : List Str) by decide +kernel)]
  rw [show putF "marks" (p3) ([(("kind" : Str), V.str (S k)), (("word" : Str), V.str (S w)), (("step" : Str), st), (("parts" : Str), p0), (("names" : Str), p1), (("steps" : Str), p2)] : List (Str × V)) = [(("kind" : Str), V.str (S k)), (("word" : Str), V.str (S w)), (("step" : Str), st), (("parts" : Str), p0), (("names" : Str), p1), (("steps" : Str), p2), (("marks" : Str), p3)] from putF_new (fs := [(("kind" : Str), V.str (S k)), (("word" : Str), V.str (S w)), (("step" : Str), st), (("parts" : Str), p0), (("names" : Str), p1), (("steps" : Str), p2)]) (show ("marks" : Str) ∉ (["kind", "word", "step", "parts", "names", "steps"] : List Str) by decide +kernel)]
  rw [show putF "text" (V.str (S tx)) ([(("kind" : Str), V.str (S k)), (("word" : Str), V.str (S w)), (("step" : Str), st), (("parts" : Str), p0), (("names" : Str), p1), (("steps" : Str), p2), (("marks" : Str), p3)] : List (Str × V)) = [(("kind" : Str), V.str (S k)), (("word" : Str), V.str (S w)), (("step" : Str), st), (("parts" : Str), p0), (("names" : Str), p1), (("steps" : Str), p2), (("marks" : Str), p3), (("text" : Str), V.str (S tx))] from putF_new (fs := [(("kind" : Str), V.str (S k)), (("word" : Str), V.str (S w)), (("step" : Str), st), (("parts" : Str), p0), (("names" : Str), p1), (("steps" : Str), p2), (("marks" : Str), p3)]) (show ("text" : Str) ∉ (["kind", "word", "step", "parts", "names", "steps", "marks"] : List Str) by decide +kernel)]
  rfl
theorem putF_len (k : Str) (v : V) : ∀ fs : List (Str × V), (putF k v fs).length ≤ fs.length + 1
  | [] => Nat.le_refl _
  | (k', v') :: r => by
    have ih := putF_len k v r
    unfold putF
    split
    · simp
    · simp only [List.length_cons]
      omega
abbrev s_all_names : Stmt := topS 21
theorem sc_all_names : FnScope ["parts", "part", "name"] ["parts"] (defScope s_all_names) := ⟨rfl, rfl, rfl, by decide +kernel, rfl, by decide +kernel, by decide +kernel⟩
abbrev s_Expr___init__ : Stmt := inClass (topS 19) 0
theorem sc_Expr___init__ : FnScope ["self", "kind", "word", "step", "parts", "part"] ["self", "kind", "word", "step", "parts"] (defScope s_Expr___init__) := ⟨rfl, rfl, rfl, by decide +kernel, rfl, by decide +kernel, by decide +kernel⟩
def spExI0 (C : Addr) : Sp := fun vs H Q _ => ∃ (p dx p0 : Addr) (l : List Nat), vs = [.ref p, .str (S wName), .str (S l), .non, .ref p0] ∧ H p = some (.ins C dx []) ∧ H p0 = some (.tup []) ∧ ∀ H', ExN C H' p l → KB p H H' → Q .non H'
theorem ok_ExI0 {k : Nat} {C : Addr} (B : Bi mg) (B2 : Bi2 mg) (T : ExC K C) (F : Dc K mg C "Expr" "Expr.__init__" s_Expr___init__ ["self", "kind", "word", "step", "parts"])
    (Gall_names : C8.Cal P w K mg base k "all_names" (fun _ _ _ _ => False) []) (Gall_steps : C8.Cal P w K mg base k "all_steps" (spAS0 K) []) (Gtext_of : C8.Cal P w K mg base k "text_of" spTx0 []) : C8.Mak P w K mg base (k + 1) "Expr" C (spExI0 C) [] := by
  refine F.mak sc_Expr___init__ (fun vs H Q E h => ?_) (fun f cdv A outer s H vs Q E hr h => ?_)
  · obtain ⟨p, dx, p0, l, rfl, _⟩ := h
    rfl
  · obtain ⟨p, dx, p0, l, rfl, hp, hp0, q⟩ := h
    refine ⟨_, (pss_cons (ps_fld (pv 0) (pv 1) rfl)
      (pss_cons (ps_fld (pv 0) (pv 2) rfl)
      (pss_cons (ps_fld (pv 0) (pv 3) rfl)
      (pss_cons (ps_fld (pv 0) (pv 4) rfl)
      (pss_cons (ps_fld (pv 0) (pe_ifExp (pt_cmpR op_eq (pv 1) pe_str (nomark _)) (pe_tup (pa_cons (pv 2) pa_nil)) (C8.pe_c Gall_names hr (Nat.le_refl _) rfl (pa_cons (pv 4) pa_nil))) rfl)
      (pss_cons (ps_fld (pv 0) (C8.pe_c Gall_steps hr (Nat.le_refl _) rfl (pa_cons (pv 3) (pa_cons (pv 4) pa_nil))) rfl)
      (pss_cons (ps_fld (pv 0) (pe_op (op_repTA K rfl) (pe_tup (pa_cons (pv 1) pa_nil)) (pe_op op_add pe_int (pe_callB (kk_sum K rfl rfl) rfl B2.sum (by decide +kernel) (pa_cons (pe_lc (own := [("part", 5)]) (g := gName 5) (tt := tYes) rfl sc_Expr___init__.nd (kk_iTup K rfl (pv 4)) (blkOk_by (own := [("part", 5)]) (N := ["self", "kind", "word", "step", "parts", "part"]) (sc := defScope s_Expr___init__) (by decide +kernel)) (fun _ _ _ _ _ => (pg_name (i := 5) sc_Expr___init__.nd rfl (Or.inl rfl))) (fun _ _ _ _ _ => pts_nil) (fun _ _ _ _ _ => (pe_callB (kk_len K rfl) rfl B.len PySem.boot_len (pa_cons (kk_fld K rfl (pv 5) rfl) pa_nil)))) pa_nil)))) rfl)
      (pss_one (ps_fld (pv 0) (C8.pe_c Gtext_of hr (Nat.le_refl _) rfl (pa_cons (pv 1) (pa_cons (pv 2) (pa_cons (pv 3) (pa_cons (pv 4) pa_nil))))) rfl))))))))), ?_⟩
    have n0 : p0 ≠ p := ne_of hp0 hp (by intro z; cases z)
    refine ⟨_, rfl, _, rfl, p, C, dx, [], rfl, hp, T.cl, T.n1, by decide, _, rfl, _, rfl, p, C, dx, _, rfl, upd_same, T.cl, T.n2, by show 1 < 1000; decide, ?_⟩
    rw [upd_upd]
    have l1 : (putF "kind" (.str (S wName)) []).length ≤ 1 := Nat.le_refl _
    have l2 := fun v => Nat.le_trans (putF_len "word" v (putF "kind" (.str (S wName)) [])) (Nat.succ_le_succ l1)
    refine ⟨_, rfl, _, rfl, p, C, dx, _, rfl, upd_same, T.cl, T.n3, Nat.lt_of_le_of_lt (l2 _) (by decide), ?_⟩
    rw [upd_upd]
    have l3 := fun v u => Nat.le_trans (putF_len "step" u _) (Nat.succ_le_succ (l2 v))
    refine ⟨_, rfl, _, rfl, p, C, dx, _, rfl, upd_same, T.cl, T.n4, Nat.lt_of_le_of_lt (l3 _ _) (by decide), ?_⟩
    rw [upd_upd]
    have l4 := fun v u z => Nat.le_trans (putF_len "parts" z _) (Nat.succ_le_succ (l3 v u))
    -- names
    refine ⟨_, rfl, rfl, _, rfl, ?_⟩
    rw [decide_eq_true (show V.str (S wName) = V.str (Str.ofString "name") by rw [name_eq])]
    refine iteT ⟨_, rfl, by show 1 ≤ sizeLine; decide, fun p1 h1 => ?_⟩
    have n1 : p1 ≠ p := fun z => by rw [z, upd_same] at h1; cases h1
    have h1' : H p1 = none := by rw [upd_ne n1] at h1; exact h1
    refine ⟨_, rfl, p, C, dx, _, rfl, by rw [upd_ne n1.symm]; exact upd_same, T.cl, T.n5, Nat.lt_of_le_of_lt (l4 _ _ _) (by decide), ?_⟩
    have l5 := fun v u z y => Nat.le_trans (putF_len "names" y _) (Nat.succ_le_succ (l4 v u z))
    generalize hF4 : putF "parts" (V.ref p0) (putF "step" V.non (putF "word" (V.str (S l)) (putF "kind" (V.str (S wName)) []))) = F4 at *
    have hL4 : F4.length ≤ 4 := by rw [← hF4]; exact l4 _ _ _
    clear l1 l2 l3 l4 l5
    have kb5 : KB p H (upd (upd (upd H p (.ins C dx F4)) p1 (.tup [V.str (S l)])) p (.ins C dx (putF "names" (V.ref p1) F4))) := fun b o hb z => by
      rw [upd_ne hb, upd_ne (ne_of_none z h1'), upd_ne hb]
      exact z
    have hp5 : (upd (upd (upd H p (.ins C dx F4)) p1 (.tup [V.str (S l)])) p (.ins C dx (putF "names" (V.ref p1) F4))) p = _ := upd_same
    have h15 : (upd (upd (upd H p (.ins C dx F4)) p1 (.tup [V.str (S l)])) p (.ins C dx (putF "names" (V.ref p1) F4))) p1 = some (.tup [V.str (S l)]) := by rw [upd_ne n1, upd_same]
    generalize upd (upd (upd H p (.ins C dx F4)) p1 (.tup [V.str (S l)])) p (.ins C dx (putF "names" (V.ref p1) F4)) = H5 at *
    have h05 := kb5 _ _ n0 hp0
    have hL5 : (putF "names" (V.ref p1) F4).length ≤ 5 := Nat.le_trans (putF_len _ _ _) (Nat.succ_le_succ hL4)
    -- steps
    refine ⟨_, rfl, _, rfl, p0, rfl, h05, fun p2 H6 hn2 h26 s6 => ?_⟩
    have n2 : p2 ≠ p := (ne_of_none hp5 hn2).symm
    refine ⟨_, rfl, p, C, dx, _, rfl, s6 _ _ hp5, T.cl, T.n6, Nat.lt_of_le_of_lt hL5 (by decide), ?_⟩
    have hL6 : (putF "steps" (V.ref p2) (putF "names" (V.ref p1) F4)).length ≤ 6 := Nat.le_trans (putF_len _ _ _) (Nat.succ_le_succ hL5)
    have kb7 : KB p H5 (upd H6 p (.ins C dx (putF "steps" (V.ref p2) (putF "names" (V.ref p1) F4)))) := fun b o hb z => by
      rw [upd_ne hb]
      exact s6 _ _ z
    have hp7 : (upd H6 p (.ins C dx (putF "steps" (V.ref p2) (putF "names" (V.ref p1) F4)))) p = _ := upd_same
    have h27 : (upd H6 p (.ins C dx (putF "steps" (V.ref p2) (putF "names" (V.ref p1) F4)))) p2 = some (.tup []) := by rw [upd_ne n2]; exact h26
    generalize upd H6 p (.ins C dx (putF "steps" (V.ref p2) (putF "names" (V.ref p1) F4))) = H7 at *
    have h17 := kb7 _ _ n1 h15
    have h07 := kb7 _ _ n0 h05
    -- marks
    refine ⟨_, rfl, by show 1 ≤ sizeLine; decide, fun p3 h3 => ?_⟩
    have n3 : p3 ≠ p := (ne_of_none hp7 h3).symm
    have s8 := same_upd (o := .tup [V.str (S wName)]) h3
    have h38 : (upd H7 p3 (.tup [V.str (S wName)])) p3 = some (.tup [V.str (S wName)]) := upd_same
    generalize upd H7 p3 (.tup [V.str (S wName)]) = H8 at *
    refine ⟨_, rfl, p0, rfl, ⟨_, SqT.of (s8 _ _ h07)⟩, fun D hD => ?_⟩
    refine lc_it (walk_tup (K := K) (a := p0) (xs := [])) (fun j H2 => H2 = upd H8 D (.lst [])) rfl (fun j H2 _ e => ?_) (fun j x H2 H3 hj => absurd hj (Nat.not_lt_zero _)) (fun H2 e => ?_)
    · rw [e]
      exact SqT.of (same_upd hD _ _ (s8 _ _ h07))
    subst e
    have s9 := same_upd (o := .lst []) hD
    refine ⟨D, [], rfl, SqL.of upd_same, _, _, rfl, rfl, .inl ⟨p3, _, rfl, rfl, SqT.of (s9 _ _ h38), ?_⟩⟩
    generalize upd H8 D (.lst []) = H9 at *
    have s79 : Same H7 H9 := s8.trans s9
    refine ⟨_, rfl, p, C, dx, _, rfl, s79 _ _ hp7, T.cl, T.n7, Nat.lt_of_le_of_lt hL6 (by decide), ?_⟩
    have hL7 : (putF "marks" (V.ref p3) (putF "steps" (V.ref p2) (putF "names" (V.ref p1) F4))).length ≤ 7 := Nat.le_trans (putF_len _ _ _) (Nat.succ_le_succ hL6)
    refine ⟨_, rfl, _, rfl, _, rfl, _, rfl, l, _, _, rfl, _, rfl, p, C, dx, _, rfl, upd_same, T.cl, T.n8, Nat.lt_of_le_of_lt hL7 (by decide), ?_⟩
    rw [upd_upd]
    have fin : ∀ b o, b ≠ p → H9 b = some o → (upd H9 p (.ins C dx (putF "text" (V.str (S l)) (putF "marks" (V.ref p3) (putF "steps" (V.ref p2) (putF "names" (V.ref p1) F4)))))) b = some o := fun b o hb z => by rw [upd_ne hb]; exact z
    refine q _ ⟨dx, p0, p1, p2, p3, ?_, fin _ _ n0 (s79 _ _ h07), fin _ _ n1 (s79 _ _ h17), fin _ _ n2 (s79 _ _ h27), fin _ _ n3 (s9 _ _ h38)⟩ fun b o hb z => fin _ _ hb (s79 _ _ (kb7 _ _ hb (kb5 _ _ hb z)))
    rw [upd_same, ← hF4, exF_mk]
abbrev s_named : Stmt := topS 23
theorem sc_named : FnScope ["word"] ["word"] (defScope s_named) := ⟨rfl, rfl, rfl, by decide +kernel, rfl, by decide +kernel, by decide +kernel⟩
def spNamed (K : PySem.W.Frag) (C : Addr) : Sp := fun vs H Q _ => ∃ (l : List Nat), vs = [.str (S l)] ∧ nmB l = true ∧ l.length ≤ 1000 ∧ ∀ (p : Addr) (H' : Hp), H p = none → ExN C H' p l → Same H H' → Q (.ref p) H'
theorem ok_named {k : Nat} {C : Addr} (F : Df K mg "named" s_named ["word"]) (Gis_name : C8.Cal P w K mg base (k + 1) "is_name" (spIsN K nameB) []) (GExpr : C8.Mak P w K mg base k "Expr" C (spExI0 C) []) : C8.Cal P w K mg base (k + 2) "named" (spNamed K C) [] := by
  refine F.cal sc_named (fun vs H Q E h => ?_) (fun f cdv A outer s H vs Q E hr h => ?_)
  · obtain ⟨l, rfl, _⟩ := h
    rfl
  · obtain ⟨l, rfl, hn, hl, q⟩ := h
    have hExpr : k + 1 ≤ k + 1 := Nat.le_refl _
    refine ⟨_, (pss_cons (ps_if (pt_not (pt_val (C8.pe_c Gis_name hr (Nat.le_refl _) rfl (pa_cons (pv 0) pa_nil)))) (pss_one ps_never) pss_nil)
      (pss_one (ps_ret (C8.pe_mk GExpr hr hExpr rfl (pa_cons pe_str (pa_cons (pv 0) (pa_cons pe_non (pa_cons (pe_tup pa_nil) pa_nil)))))))), ?_⟩
    refine ⟨_, rfl, _, some l, rfl, ⟨rfl, hl⟩, fun H1 s1 => ⟨_, rfl, ?_⟩⟩
    rw [show nameB (some l) = true from hn]
    refine iteF ⟨_, rfl, Nat.zero_le _, fun p0 h0 p dx hp hdx hne => ⟨p, dx, p0, l, ?_, upd_same, ?_, fun H2 h2 k2 => ⟨rfl, q p H2 ?_ h2 fun b o z => ?_⟩⟩⟩
    · rw [name_eq]
      rfl
    · have z0 : (upd H1 p0 (.tup [])) p0 = some (.tup []) := upd_same
      rw [upd_ne (ne_of_none z0 hp), upd_ne (ne_of_none z0 hdx)]
      exact z0
    · exact s1.free ((same_upd h0).free hp)
    · have z1 := same_upd (o := .tup []) h0 _ _ (s1 _ _ z)
      refine k2 _ _ (ne_of_none z1 hp) ?_
      rw [upd_ne (ne_of_none z1 hp), upd_ne (ne_of_none z1 hdx)]
      exact z1
end
end KW

/-! ## classes with a star parameter; a trait up, a chain of one step -/
namespace KW
open PySem PySem.Spec PyProof.Rows L2
/-- the promise of a star def, from its body's -/
def spSt (n : Nat) (sp : Sp) : Sp := fun vs H Q E => ∃ ws rest, vs = ws ++ rest ∧ ws.length = n ∧ rest.length ≤ sizeLine ∧ ∀ p, H p = none → sp (ws ++ [V.ref p]) (upd H p (.tup rest)) Q E
structure MakR (P : Program) (w : World) (K : PySem.W.Frag) (mg : Str → Option Value) (base : Heap) (k : Nat) (x : Str) (C : Addr) (sp : Sp) : Prop where
  ex : ∃ f, Mk K C f ∧ FnR P w K mg base CX0 k f sp ∧ mg x = some (.ref C)
structure Ds (K : PySem.W.Frag) (mg : Str → Option Value) (C : Addr) (x qual : Str) (st : Stmt) (ps : List Str) (pv : Str) : Prop where
  ex : ∃ f fd, Mk K C f ∧ mg x = some (.ref C) ∧ Fun K "__init__" qual st f fd ∧ ∀ us rest : List Value, us.length = ps.length → bindArgs fd ⟨us ++ rest, []⟩ = (newTuple rest >>= fun t => pure (ps.zip us ++ [(pv, t)]))
section
variable {P : Program} {w : World} {K : PySem.W.Frag} {mg : Str → Option Value} {base : Heap}
theorem makRMono {j k : Nat} {x : Str} {C : Addr} {sp : Sp} (c : MakR P w K mg base j x C sp) (h : j ≤ k) : MakR P w K mg base k x C sp := by
  obtain ⟨f, M, F, r⟩ := c.ex
  exact ⟨f, M, F.mono h, r⟩
theorem Ds.mak {C : Addr} {x qual pv : Str} {st : Stmt} {N ps : List Str} {k : Nat} {sp : Sp} (F : Ds K mg C x qual st ps pv) (Sc : FnScope N (ps ++ [pv]) (defScope st))
    (hbody : ∀ (f : Addr) (cdv : Value) (A : Around) (outer : List Env) (s : Shared) (H : Hp) (vs : List V) (Q : VK) (E : XK), Room k (A.deeper (envOfC qual (defScope st) s.heap.objs.size f cdv)) → sp vs H Q E →
      ∃ t, PSs (cxOf CX0 P w K mg base N qual (defScope st) f cdv A outer s H E).nox (defBody st) t ∧ t { nx := fun _ H' => Q .non H', rt := Q } (start N vs) H) : MakR P w K mg base (k + 1) x C (spSt ps.length sp) := by
  obtain ⟨f, fd, M, hm, F, hb⟩ := F.ex
  obtain ⟨oc, od, kV, doc, pm, an, cdv, ct, osl, rfl, lk, hcd⟩ := F.ex
  refine ⟨f, M, StX.fn_star lk hcd Sc StX.cxUp_none hb fun A outer s H vs Q E hr hsp => ?_, hm⟩
  obtain ⟨t, h, q⟩ := hbody f cdv A outer s H vs Q E hr hsp
  exact ⟨t, h.nox, q⟩
end
theorem pe_mkR {X : Cx} {k j : Nat} {x : Str} {C : Addr} {sp : Sp} {p pos : Pos} {e : Expr} {es : List Expr} {t : TA} (c : MakR X.prog X.w X.K X.mg X.base k x C sp) (hr : Room j X.A) (hk : k + 1 ≤ j) (hg : Gl X x) (ha : PA X (e :: es) t)
    (hdb : (x == ("__debug__" : Str)) = false := by decide) (he : starEach (e :: es) X.env = (false, eval e X.env) :: starEach es X.env := by rfl) (hpl : (backTo pos (starEach es X.env)).any (·.1) = false := by rfl) :
    PE X (.Call (.Name x p) (e :: es) [] pos) (StX.tMakeR C sp E0 t) := by
  obtain ⟨f, M, F, hm⟩ := c.ex
  exact StX.pe_makeR M F (hr.mono hk) hg hm pass0 ha hdb he hpl
/-- what isinstance asks of an own class's instances -/
structure IsC (K : PySem.W.Frag) (C : Addr) : Prop where
  cl : Cls K C
  ha : PySem.W.findIn K (.ref C) "__class__" = some (some (.builtin "object.__class__"))
  hn : PySem.W.specialIn K (.builtin "object.__class__") "__get__" = some (some (.builtin "getset_descriptor.__get__"))
  ht : PySem.W.takesIn K (.builtin "object.__class__") = some true
  hm : PySem.W.mroIn K C (.type "object") = some true
  ns : PySem.W.kitOne K (.ref C) (.type "str") = some false
theorem IsC.ty {K : PySem.W.Frag} {C : Addr} (T : IsC K C) {H : Hp} {a dx : Addr} {fs : List (Str × V)} (e : H a = some (.ins C dx fs)) : TyX K H (.ref a) (.ref C) := .base (.ins e T.cl T.ha T.hn T.ht T.hm)
abbrev wUp : List Nat := [117, 112]
theorem up_eq : (Str.ofString "up") = S wUp := by decide +kernel
abbrev wPlus : List Nat := [43]
theorem plus_eq : (Str.ofString "+") = S wPlus := by decide +kernel
theorem kit_self (K : PySem.W.Frag) (C : Addr) : PySem.W.kitOne K (.ref C) (.ref C) = some true := by
  unfold PySem.W.kitOne
  exact if_pos (by simp)
section
variable {P : Program} {w : World} {K : PySem.W.Frag} {mg : Str → Option Value} {base : Heap}
abbrev s_Chain___init__ : Stmt := inClass (topS 30) 0
theorem sc_Chain___init__ : FnScope ["self", "steps", "step"] ["self", "steps"] (defScope s_Chain___init__) := ⟨rfl, rfl, rfl, by decide +kernel, rfl, by decide +kernel, by decide +kernel⟩
def chF (q : Addr) : List (Str × V) := [("steps", .ref q)]
/-- a chain of one step -/
def Ch1 (C CS : Addr) (H : Hp) (p : Addr) (n : List Nat) : Prop := ∃ dx q r, H p = some (.ins C dx (chF q)) ∧ H q = some (.tup [.ref r]) ∧ StAt CS H r n wPlus
def spChI (C CS : Addr) : Sp := fun vs H Q _ => ∃ (p dx q r : Addr) (n : List Nat), vs = [.ref p, .ref q] ∧ H p = some (.ins C dx []) ∧ H q = some (.tup [.ref r]) ∧ StAt CS H r n wPlus ∧ ∀ H', Ch1 C CS H' p n → KB p H H' → Q .non H'
theorem ok_ChI {k : Nat} {C CS : Addr} (B : Bi mg) (cl : Cls K C) (n1 : NoAttr K C "steps") (T : StC K CS) (IS : IsC K CS) (hStep : mg "Step" = some (.ref CS)) (F : Ds K mg C "Chain" "Chain.__init__" s_Chain___init__ ["self"] "steps") : MakR P w K mg base (k + 1) "Chain" C (spSt 1 (spChI C CS)) := by
  refine F.mak sc_Chain___init__ (fun f cdv A outer s H vs Q E hr h => ?_)
  obtain ⟨p, dx, q, r, n, rfl, hp, hq, hst, qq⟩ := h
  obtain ⟨dr, hr'⟩ := id hst
  refine ⟨_, (pss_cons (ps_for PassesOwn.never rfl (kk_iTup K rfl (pv 1)) (pg_name (i := 2) sc_Chain___init__.nd rfl (Or.inl rfl)) (pss_one (ps_if (PW.pt (pw_or (pt_not (pt_val (pe_callB (kk_isi K rfl) rfl B.isinstance (by decide +kernel) (pa_cons (pv 2) (pa_cons (pe_gref rfl hStep) pa_nil))))) (pw_or1 (pt_cmpR op_ne (pe_callB (kk_len K rfl) rfl B.len PySem.boot_len (pa_cons (kk_fld K rfl (pv 2) rfl) pa_nil)) pe_int (nomark _))))) (pss_one ps_never) pss_nil)))
      (pss_one (ps_fld (pv 0) (pv 1) rfl))), ?_⟩
  refine ⟨_, rfl, q, rfl, ⟨_, SqT.of hq⟩, for_tup (K := K) (a := q) (xs := [.ref r]) (fun i σ H' => (∃ v, σ = [some (.ref p), some (.ref q), v]) ∧ H = H') ⟨⟨none, rfl⟩, rfl⟩ (fun i σ H' _ h => by rw [← h.2]; exact SqT.of hq) ?_ ?_⟩
  · rintro i x σ H' hx ⟨⟨v, rfl⟩, rfl⟩
    have ex : x = V.ref r := by
      cases i with
      | zero => exact (Option.some.inj hx).symm
      | succ j => simp at hx
    subst ex
    refine ⟨_, rfl, _, _, _, _, true, rfl, .own _, IS.ty hr', kit_self K CS, _, rfl, iteF ?_⟩
    refine ⟨_, rfl, r, CS, dr, _, _, rfl, hr', T.cl, T.nW, stF_ways _ _, _, _, rfl, ⟨by rw [slen]; decide, rfl⟩, rfl, _, rfl, ?_⟩
    rw [slen]
    exact iteF ⟨⟨_, rfl⟩, rfl⟩
  · rintro σ H' ⟨⟨v, rfl⟩, rfl⟩
    have nq : q ≠ p := ne_of hq hp (by intro z; cases z)
    have nr : r ≠ p := fun z => by
      rw [z, hp] at hr'
      have := Option.some.inj hr'
      cases this
    refine ⟨_, rfl, _, rfl, p, C, dx, [], rfl, hp, cl, n1, by decide, qq _ ⟨dx, q, r, upd_same, by rw [upd_ne nq]; exact hq, dr, by rw [upd_ne nr]; exact hr'⟩ fun b o hb z => by rw [upd_ne hb]; exact z⟩
end
end KW

/-! ## a trait up -/
namespace KW
open PySem PySem.Spec PyProof.Rows L2
/-- the table of traits' words -/
structure CoC (K : PySem.W.Frag) (w : World) (mg : Str → Option Value) : Prop where
  ex : ∃ d es n t, mg "COUNTS" = some (.ref d) ∧ KDict K w d es n ∧ PySem.W.nsIn K d "up" = some (some (.int 1 t))
section
variable {P : Program} {w : World} {K : PySem.W.Frag} {mg : Str → Option Value} {base : Heap}
abbrev s_ways_fit : Stmt := topS 34
theorem sc_ways_fit : FnScope ["word", "ways"] ["word", "ways"] (defScope s_ways_fit) := ⟨rfl, rfl, rfl, by decide +kernel, rfl, by decide +kernel, by decide +kernel⟩
def spWF0 : Sp := fun vs H Q _ => ∃ (q : Addr), vs = [.str (S wUp), .ref q] ∧ H q = some (.lst [.str (S wPlus)]) ∧ ∀ H', Same H H' → Q (.bl true) H'
theorem ok_ways_fit0 {k : Nat} (B : Bi mg) (F : Df K mg "ways_fit" s_ways_fit ["word", "ways"]) : C8.Cal P w K mg base (k + 1) "ways_fit" spWF0 [] := by
  refine F.cal sc_ways_fit (fun vs H Q E h => ?_) (fun f cdv A outer s H vs Q E hr h => ?_)
  · obtain ⟨q, rfl, _⟩ := h
    rfl
  · obtain ⟨q, rfl, hq, qq⟩ := h
    refine ⟨_, (pss_cons (ps_if (pt_cmpR (kk_in K rfl) (pv 0) (pe_tup (pa_cons pe_str (pa_cons pe_str (pa_cons pe_str pa_nil)))) rfl) (pss_one (ps_ret (pe_cmpR op_eq (pe_ix (kk_ixL K rfl) (pv 1) pe_int (fun _ _ => rfl)) pe_str (nomark _)))) pss_nil)
      (pss_cons (ps_if (pt_cmpR op_eq (pv 0) pe_str (nomark _)) (pss_one (ps_ret (pe_cmpR op_eq (pe_ix (kk_ixL K rfl) (pv 1) pe_int (fun _ _ => rfl)) pe_str (nomark _)))) pss_nil)
      (pss_cons (ps_if (pt_cmpR op_eq (pv 0) pe_str (nomark _)) (pss_one (ps_ret (pe_and (pe_cmpR op_eq (pe_callB (kk_len K rfl) rfl B.len PySem.boot_len (pa_cons (pe_ix (kk_ixL K rfl) (pv 1) pe_int (fun _ _ => rfl)) pa_nil)) pe_int (nomark _)) (pe_one (pe_cmpR op_eq (pe_ix ix_str (pe_ix (kk_ixL K rfl) (pv 1) pe_int (fun _ _ => rfl)) pe_int (fun _ _ => rfl)) (pe_ix ix_str (pe_ix (kk_ixL K rfl) (pv 1) pe_int (fun _ _ => rfl)) pe_int (fun _ _ => rfl)) (nomark _)))))) pss_nil)
      (pss_cons (ps_if (pt_cmpR op_eq (pv 0) pe_str (nomark _)) (pss_one (ps_ret (pe_cmpR op_eq (pe_ix (kk_ixL K rfl) (pv 1) pe_int (fun _ _ => rfl)) (pe_ix (kk_ixL K rfl) (pv 1) pe_int (fun _ _ => rfl)) (nomark _)))) pss_nil)
      (pss_one (ps_ret (pe_and (pe_cmpR op_eq (pe_ix (kk_ixL K rfl) (pv 1) pe_int (fun _ _ => rfl)) pe_str (nomark _)) (pe_one (pe_cmpR op_eq (pe_ix (kk_ixL K rfl) (pv 1) pe_int (fun _ _ => rfl)) pe_str (nomark _)))))))))), ?_⟩
    refine ⟨_, rfl, by show 3 ≤ sizeLine; decide, fun t ht => ?_⟩
    refine ⟨t, _, rfl, .inr (SqT.of upd_same), rfl, rfl, true, by congr 1, iteT ?_⟩
    refine ⟨_, rfl, q, _, 0, _, rfl, rfl, SqL.of (same_upd ht _ _ hq), atI_nat (j := 0) rfl, rfl, ?_⟩
    rw [plus_eq, decide_eq_true rfl]
    exact qq _ (same_upd ht)
abbrev s_Trait___init__ : Stmt := inClass (topS 35) 0
theorem sc_Trait___init__ : FnScope ["self", "word", "steps", "step"] ["self", "word", "steps"] (defScope s_Trait___init__) := ⟨rfl, rfl, rfl, by decide +kernel, rfl, by decide +kernel, by decide +kernel⟩
def trF (q : Addr) : List (Str × V) := [("word", .str (S wUp)), ("steps", .ref q)]
theorem trF_mk (q : Addr) : putF "steps" (.ref q) (putF "word" (.str (S wUp)) []) = trF q := by
  show (if ("word" : Str) = "steps" then _ else (("word" : Str), V.str (S wUp)) :: putF "steps" (.ref q) []) = _
  rw [if_neg (by decide +kernel)]
  rfl
/-- the trait up of one step -/
def Tr1 (C CS : Addr) (H : Hp) (p : Addr) (n : List Nat) : Prop := ∃ dx q r, H p = some (.ins C dx (trF q)) ∧ H q = some (.tup [.ref r]) ∧ StAt CS H r n wPlus
def spTrI (C CS : Addr) : Sp := fun vs H Q _ => ∃ (p dx q r : Addr) (n : List Nat), vs = [.ref p, .str (S wUp), .ref q] ∧ H p = some (.ins C dx []) ∧ H q = some (.tup [.ref r]) ∧ StAt CS H r n wPlus ∧ ∀ H', Tr1 C CS H' p n → KB p H H' → Q .non H'
theorem ok_TrI {k : Nat} {C CS : Addr} (B : Bi mg) (CO : CoC K w mg) (cl : Cls K C) (n1 : NoAttr K C "word") (n2 : NoAttr K C "steps") (T : StC K CS) (IS : IsC K CS) (hStep : mg "Step" = some (.ref CS)) (F : Ds K mg C "Trait" "Trait.__init__" s_Trait___init__ ["self", "word"] "steps")
    (Gways_fit : C8.Cal P w K mg base k "ways_fit" spWF0 []) : MakR P w K mg base (k + 1) "Trait" C (spSt 2 (spTrI C CS)) := by
  refine F.mak sc_Trait___init__ (fun f cdv A outer s H vs Q E hr h => ?_)
  obtain ⟨p, dx, q, r, n, rfl, hp, hq, hst, qq⟩ := h
  obtain ⟨dr, hr'⟩ := id hst
  obtain ⟨d, es, nn, tt, hCOUNTS, KD, hup⟩ := CO.ex
  refine ⟨_, (pss_cons (ps_if (PW.pt (pw_or (pt_not (pt_val (pe_callB (kk_isi K rfl) rfl B.isinstance (by decide +kernel) (pa_cons (pv 1) (pa_cons (kt_str rfl B.ty_str) pa_nil))))) (pw_or1 (pt_cmpR (op_notIn_kd KD) (pv 1) (pe_gref rfl hCOUNTS) rfl)))) (pss_one ps_never) pss_nil)
      (pss_cons (ps_if (PW.pt (pw_or (pt_cmpR op_ne (pe_callB (kk_len K rfl) rfl B.len PySem.boot_len (pa_cons (pv 2) pa_nil)) (pe_ix ix_kdict (pe_gref rfl hCOUNTS) (pv 1) (fun _ _ => rfl)) (nomark _)) (pw_or1 (pt_not (pt_val (pe_callB (kk_all K rfl rfl) rfl B.all (by decide +kernel) (pa_cons (pe_lc (own := [("step", 3)]) (g := gName 3) (tt := tYes) rfl sc_Trait___init__.nd (kk_iTup K rfl (pv 2)) (blkOk_by (own := [("step", 3)]) (N := ["self", "word", "steps", "step"]) (sc := defScope s_Trait___init__) (by decide +kernel)) (fun _ _ _ _ _ => (pg_name (i := 3) sc_Trait___init__.nd rfl (Or.inl rfl))) (fun _ _ _ _ _ => pts_nil) (fun _ _ _ _ _ => (pe_callB (kk_isi K rfl) rfl B.isinstance (by decide +kernel) (pa_cons (pv 3) (pa_cons (pe_gref rfl hStep) pa_nil))))) pa_nil))))))) (pss_one ps_never) pss_nil)
      (pss_cons (ps_if (PW.pt (pw_and (pt_cmpR op_eq (pe_callB (kk_len K rfl) rfl B.len PySem.boot_len (pa_cons (pv 2) pa_nil)) pe_int (nomark _)) (pw_and1 pt_never))) (pss_one ps_never) pss_nil)
      (pss_cons (ps_if (pt_not (pt_val (C8.pe_c Gways_fit hr (Nat.le_refl _) rfl (pa_cons (pv 1) (pa_cons (pe_lc (own := [("step", 3)]) (g := gName 3) (tt := tYes) rfl sc_Trait___init__.nd (kk_iTup K rfl (pv 2)) (blkOk_by (own := [("step", 3)]) (N := ["self", "word", "steps", "step"]) (sc := defScope s_Trait___init__) (by decide +kernel)) (fun _ _ _ _ _ => (pg_name (i := 3) sc_Trait___init__.nd rfl (Or.inl rfl))) (fun _ _ _ _ _ => pts_nil) (fun _ _ _ _ _ => (kk_fld K rfl (pv 3) rfl))) pa_nil))))) (pss_one ps_never) pss_nil)
      (pss_cons (ps_fld (pv 0) (pv 1) rfl)
      (pss_one (ps_fld (pv 0) (pv 2) rfl))))))), ?_⟩
  have nq : q ≠ p := ne_of hq hp (by intro z; cases z)
  refine ⟨_, rfl, _, _, .type "str", _, true, rfl, .ty _, .base (.str _), kit_str K, _, rfl, iteF ?_⟩
  have hup' : PySem.W.nsIn K d (S wUp) = some (some (.int 1 tt)) := by rw [← up_eq]; exact hup
  refine ⟨_, rfl, S wUp, some (.int 1 tt), rfl, rfl, hup', _, rfl, iteF ?_⟩
  refine ⟨_, rfl, _, _, rfl, .inr ⟨_, SqT.of hq, rfl⟩, _, rfl, d, S wUp, .int 1, rfl, rfl, ⟨es, nn, _, KD.at_, KD.lit, hup', ⟨tt, rfl⟩⟩, rfl, _, rfl, ?_⟩
  rw [decide_eq_true (show V.int (([V.ref r].length : Nat) : Int) = V.int 1 from rfl)]
  refine iteF ⟨_, rfl, q, rfl, ⟨_, SqT.of hq⟩, fun D hD => ?_⟩
  refine lc_it (walk_tup (K := K) (a := q) (xs := [.ref r])) (fun j H2 => H2 = upd H D (.lst (List.replicate j (V.bl true)))) rfl (fun j H2 _ e => by rw [e]; exact SqT.of (same_upd hD _ _ hq)) ?_ ?_
  · rintro j x H2 H3 hj e ⟨rfl, hx⟩
    subst e
    have j0 : j = 0 := by simpa using hj
    subst j0
    have ex : x = V.ref r := (Option.some.inj hx).symm
    subst ex
    refine ⟨rfl, yesT ?_⟩
    refine ⟨_, rfl, _, _, _, _, true, rfl, .own _, IS.ty (same_upd hD _ _ hr'), kit_self K CS, _, upd_same, by decide, ?_⟩
    rw [upd_upd]
    rfl
  rintro H2 rfl
  refine ⟨D, [true], rfl, SqL.of upd_same, _, rfl, iteF ?_⟩
  have s1 := same_upd (o := .lst (List.replicate 1 (V.bl true))) hD
  have hp1 := s1 _ _ hp
  have hq1 := s1 _ _ hq
  have hr1 := s1 _ _ hr'
  show tSeq _ _ _ _ (upd H D (.lst (List.replicate 1 (V.bl true))))
  generalize upd H D (.lst (List.replicate 1 (V.bl true))) = H1 at *
  refine ⟨_, rfl, _, _, rfl, .inr ⟨_, SqT.of hq1, rfl⟩, rfl, _, rfl, ?_⟩
  rw [decide_eq_false (show ¬ V.int (([V.ref r].length : Nat) : Int) = V.int 2 from fun e => absurd (show (1 : Int) = 2 from V.int.inj e) (by decide))]
  refine iteF (iteF ⟨_, rfl, _, rfl, q, rfl, ⟨_, SqT.of hq1⟩, fun D2 hD2 => ?_⟩)
  refine lc_it (walk_tup (K := K) (a := q) (xs := [.ref r])) (fun j H2 => H2 = upd H1 D2 (.lst (List.replicate j (V.str (S wPlus))))) rfl (fun j H2 _ e => by rw [e]; exact SqT.of (same_upd hD2 _ _ hq1)) ?_ ?_
  · rintro j x H2 H3 hj e ⟨rfl, hx⟩
    subst e
    have j0 : j = 0 := by simpa using hj
    subst j0
    have ex : x = V.ref r := (Option.some.inj hx).symm
    subst ex
    refine ⟨rfl, yesT ?_⟩
    refine ⟨_, rfl, r, CS, dr, _, _, rfl, same_upd hD2 _ _ hr1, T.cl, T.nW, stF_ways _ _, _, upd_same, by decide, ?_⟩
    rw [upd_upd]
    rfl
  rintro H2 rfl
  have s2 := same_upd (o := .lst (List.replicate 1 (V.str (S wPlus)))) hD2
  refine ⟨D2, rfl, upd_same, fun H3 s3 => ⟨_, rfl, iteF ?_⟩⟩
  have s23 := s2.trans s3
  refine ⟨_, rfl, _, rfl, p, C, dx, [], rfl, s23 _ _ hp1, cl, n1, by decide, _, rfl, _, rfl, p, C, dx, _, rfl, upd_same, cl, n2, by show 1 < 1000; decide, ?_⟩
  have nr : r ≠ p := fun z => by
    rw [z, hp] at hr'
    have := Option.some.inj hr'
    cases this
  refine qq _ ⟨dx, q, r, Eq.trans upd_same (congrArg (fun z => some (HO.ins C dx z)) (trF_mk q)), by rw [upd_ne nq, upd_ne nq]; exact s23 _ _ hq1, dr, by rw [upd_ne nr, upd_ne nr]; exact s23 _ _ hr1⟩ fun b o hb z => ?_
  rw [upd_ne hb, upd_ne hb]
  exact s23 _ _ (s1 _ _ z)
end
end KW

/-! ## a text cut and joined -/
namespace KW
open PySem PySem.Spec PyProof.Rows L2
/-- what was cut joins again -/
theorem spl_joins {S : List Nat} (hS : S ≠ []) : ∀ (n : Nat) (acc y : List Nat), y.length ≤ n → TL.joinL S (TL.spl S 0 acc y) = acc ++ y
  | _, acc, [], _ => by
    rw [TL.spl_nil, List.append_nil]
    rfl
  | 0, _, _ :: _, h => absurd h (by simp)
  | n + 1, acc, c :: r, h => by
    have hr : r.length ≤ n := by simpa using h
    cases hp : TL.pre S (c :: r) with
    | false =>
      rw [TL.spl_miss hp, spl_joins hS n (acc ++ [c]) r hr]
      simp
    | true =>
      rw [TL.spl_hit hp, TL.spl_pass]
      have ih := spl_joins hS n [] (r.drop (S.length - 1)) (by rw [List.length_drop]; omega)
      have hne : TL.spl S 0 [] (r.drop (S.length - 1)) ≠ [] := spl_ne _ _ _ _
      have e1 : List.take S.length (c :: r) = S := eq_of_beq hp
      have e2 : List.drop S.length (c :: r) = r.drop (S.length - 1) := by
        cases S with
        | nil => exact absurd rfl hS
        | cons s S' => rfl
      have e3 := List.take_append_drop S.length (c :: r)
      rw [e1, e2] at e3
      cases hq : TL.spl S 0 [] (r.drop (S.length - 1)) with
      | nil => exact absurd hq hne
      | cons q qs =>
        rw [hq] at ih
        show acc ++ (S ++ TL.joinL S (q :: qs)) = _
        rw [ih, List.nil_append, e3]
where spl_ne : ∀ (S : List Nat) (k : Nat) (acc l : List Nat), TL.spl S k acc l ≠ []
  | S, k, acc, [] => by rw [TL.spl_nil]; simp
  | S, 0, acc, c :: r => by
    cases hp : TL.pre S (c :: r) with
    | false => rw [TL.spl_miss hp]; exact spl_ne S 0 _ r
    | true => rw [TL.spl_hit hp]; simp
  | S, k + 1, acc, c :: r => spl_ne S k acc r
end KW

/-! ## k12: changed texts, the plain part -/
namespace KW
open PySem PySem.Spec PyProof.Rows L2
def Prn (l : List Nat) : Prop := ∀ c ∈ l, 32 ≤ c ∧ c ≤ 126
/-- a text of printable signs, of at most m signs and k lines -/
structure Tx (m k : Nat) (x : List Nat) : Prop where
  chr : ∀ c ∈ x, c = 10 ∨ (32 ≤ c ∧ c ≤ 126)
  len : x.length ≤ m
  row : x.count 10 < k
def tot (ls : List (List Nat)) : Nat := (ls.map (fun l : List Nat => l.length)).sum
theorem tot_app (a b : List (List Nat)) : tot (a ++ b) = tot a + tot b := by
  unfold tot
  rw [List.map_append, List.sum_append]
theorem tot_cons (a : List Nat) (b : List (List Nat)) : tot (a :: b) = a.length + tot b := by
  unfold tot
  rw [List.map_cons, List.sum_cons]
theorem tot_nil : tot [] = 0 := rfl
theorem pre10 (c : Nat) (r : List Nat) : TL.pre [10] (c :: r) = (c == 10) := by
  unfold TL.pre
  show ([c] == [10]) = (c == 10)
  rw [Bool.eq_iff_iff]
  simp
theorem spl_rows : ∀ (x acc : List Nat), (TL.spl [10] 0 acc x).length = x.count 10 + 1
  | [], acc => by rw [TL.spl_nil]; rfl
  | c :: r, acc => by
    cases h : (c == 10) with
    | true =>
      rw [TL.spl_hit (by rw [pre10]; exact h)]
      show (TL.spl [10] 0 [] r).length + 1 = _
      rw [spl_rows r [], List.count_cons, h]
      rfl
    | false =>
      rw [TL.spl_miss (by rw [pre10]; exact h), spl_rows r _, List.count_cons, h]
      rfl
theorem spl_signs : ∀ (x acc : List Nat), 10 ∉ acc → ∀ l ∈ TL.spl [10] 0 acc x, 10 ∉ l ∧ ∀ c ∈ l, c ∈ acc ∨ c ∈ x
  | [], acc, h, l, hl => by
    rw [TL.spl_nil] at hl
    have e : l = acc := by simpa using hl
    subst e
    exact ⟨h, fun c hc => .inl hc⟩
  | c :: r, acc, h, l, hl => by
    cases hc : (c == 10) with
    | true =>
      rw [TL.spl_hit (by rw [pre10]; exact hc)] at hl
      rcases List.mem_cons.mp hl with e | hl
      · subst e
        exact ⟨h, fun c hc => .inl hc⟩
      · obtain ⟨h1, h2⟩ := spl_signs r [] (by simp) l hl
        exact ⟨h1, fun d hd => .inr (List.mem_cons_of_mem _ ((h2 d hd).resolve_left (by simp)))⟩
    | false =>
      rw [TL.spl_miss (by rw [pre10]; exact hc)] at hl
      have hne : c ≠ 10 := by simpa using hc
      obtain ⟨h1, h2⟩ := spl_signs r (acc ++ [c]) (by simp; exact ⟨h, fun e => hne e.symm⟩) l hl
      refine ⟨h1, fun d hd => ?_⟩
      rcases h2 d hd with z | z
      · rcases List.mem_append.mp z with z | z
        · exact .inl z
        · exact .inr (by simp at z; simp [z])
      · exact .inr (List.mem_cons_of_mem _ z)
theorem join_len : ∀ ls : List (List Nat), ls ≠ [] → (TL.joinL [10] ls).length + 1 = tot ls + ls.length
  | [], h => absurd rfl h
  | [l], _ => by
    show l.length + 1 = _
    rw [tot_cons, tot_nil]
    rfl
  | l :: m :: r, _ => by
    show (l ++ ([10] ++ TL.joinL [10] (m :: r))).length + 1 = _
    have ih := join_len (m :: r) (by simp)
    rw [tot_cons, List.length_append, List.length_append, List.length_cons (a := l)]
    simp only [List.length_cons, List.length_nil] at ih ⊢
    omega
theorem join_row : ∀ ls : List (List Nat), (∀ l ∈ ls, 10 ∉ l) → (TL.joinL [10] ls).count 10 ≤ ls.length - 1
  | [], _ => by simp [TL.joinL]
  | [l], h => by
    show l.count 10 ≤ 0
    rw [List.count_eq_zero_of_not_mem (h l (List.mem_singleton.mpr rfl))]
    exact Nat.le_refl _
  | l :: m :: r, h => by
    show (l ++ ([10] ++ TL.joinL [10] (m :: r))).count 10 ≤ _
    have ih := join_row (m :: r) fun z hz => h z (List.mem_cons_of_mem _ hz)
    rw [List.count_append, List.count_append, List.count_eq_zero_of_not_mem (h l (List.mem_cons_self ..))]
    simp only [List.length_cons, List.count_cons, List.count_nil] at ih ⊢
    simp
    omega
theorem join_chr : ∀ (ls : List (List Nat)) (c : Nat), c ∈ TL.joinL [10] ls → c = 10 ∨ ∃ l ∈ ls, c ∈ l
  | [], c, h => by simp [TL.joinL] at h
  | [l], c, h => .inr ⟨l, List.mem_singleton.mpr rfl, h⟩
  | l :: m :: r, c, h => by
    have h' : c ∈ l ++ ([10] ++ TL.joinL [10] (m :: r)) := h
    rcases List.mem_append.mp h' with h | h
    · exact .inr ⟨l, List.mem_cons_self .., h⟩
    · rcases List.mem_append.mp h with h | h
      · exact .inl (by simpa using h)
      · rcases join_chr (m :: r) c h with h | ⟨z, hz, hc⟩
        · exact .inl h
        · exact .inr ⟨z, List.mem_cons_of_mem _ hz, hc⟩
theorem Prn.no10 {l : List Nat} (h : Prn l) : 10 ∉ l := fun hm => by
  have := h 10 hm
  omega
/-- rows joined -/
theorem tx_rows {m k : Nat} {ls : List (List Nat)} (h : ∀ l ∈ ls, Prn l) (h1 : tot ls + ls.length ≤ m + 1) (h2 : ls.length ≤ k) (h3 : 0 < k) : Tx m k (TL.joinL [10] ls) := by
  refine ⟨fun c hc => ?_, ?_, ?_⟩
  · rcases join_chr ls c hc with e | ⟨l, hl, hc⟩
    · exact .inl e
    · exact .inr (h l hl c hc)
  · cases ls with
    | nil => exact Nat.zero_le _
    | cons l r =>
      have := join_len (l :: r) (by simp)
      omega
  · have := join_row ls fun l hl => (h l hl).no10
    omega
/-- a text cut into its rows -/
theorem Tx.rows {m k : Nat} {x : List Nat} (h : Tx m k x) : (∀ l ∈ TL.spl [10] 0 [] x, Prn l) ∧ tot (TL.spl [10] 0 [] x) + (TL.spl [10] 0 [] x).length ≤ m + 1 ∧ (TL.spl [10] 0 [] x).length ≤ k ∧ 0 < (TL.spl [10] 0 [] x).length := by
  have hr := spl_rows x []
  have hne : TL.spl [10] 0 [] x ≠ [] := fun e => by rw [e] at hr; simp at hr
  have hj := join_len _ hne
  rw [spl_joins (by decide) x.length [] x (Nat.le_refl _), List.nil_append] at hj
  have h1 := h.len
  have h2 := h.row
  refine ⟨fun l hl c hc => ?_, by omega, by omega, by omega⟩
  obtain ⟨n1, n2⟩ := spl_signs x [] (by simp) l hl
  have hx := (n2 c hc).resolve_left (by simp)
  rcases h.chr c hx with e | e
  · exact absurd (e ▸ hc) n1
  · exact e
theorem Tx.mono {m m' k k' : Nat} {x : List Nat} (h : Tx m k x) (h1 : m ≤ m') (h2 : k ≤ k') : Tx m' k' x := ⟨h.chr, Nat.le_trans h.len h1, Nat.lt_of_lt_of_le h.row h2⟩
/-- parts of a text -/
theorem tx_parts {m k : Nat} {x a b : List Nat} (h : Tx m k x) (ha : ∀ c ∈ a, c ∈ x) (hb : ∀ c ∈ b, c = 10 ∨ (32 ≤ c ∧ c ≤ 126)) {m' k' : Nat} (hl : (a ++ b).length ≤ m') (hc : (a ++ b).count 10 < k') : Tx m' k' (a ++ b) :=
  ⟨fun c hm => (List.mem_append.mp hm).elim (fun z => h.chr c (ha c z)) (hb c), hl, hc⟩
theorem count_cut (x : List Nat) (i : Nat) : (x.take i).count 10 + (x.drop i).count 10 = x.count 10 := by
  rw [← List.count_append, List.take_append_drop]
theorem count_drop1 (x : List Nat) (i : Nat) : (x.drop (i + 1)).count 10 ≤ (x.drop i).count 10 := by
  rw [← List.drop_drop]
  exact (List.drop_sublist 1 (x.drop i)).count_le 10
theorem count_take1 (x : List Nat) (i : Nat) : (x.take (i + 1)).count 10 ≤ (x.take i).count 10 + 1 := by
  by_cases h : i < x.length
  · rw [List.take_succ_eq_append_getElem h, List.count_append]
    have : [x[i]].count 10 ≤ 1 := List.count_le_length
    omega
  · rw [List.take_of_length_le (by omega), List.take_of_length_le (by omega)]
    omega
/-- bent in one of four ways -/
theorem tx_bent0 {m k i c : Nat} {x : List Nat} (h : Tx m k x) (hc : c = 10 ∨ (32 ≤ c ∧ c ≤ 126)) : Tx (m + 1) (k + 1) (x.take i ++ [c] ++ x.drop i) := by
  have h1 := h.len
  have h2 := h.row
  have h3 := count_cut x i
  refine ⟨fun d hd => ?_, ?_, ?_⟩
  · rcases List.mem_append.mp hd with hd | hd
    · rcases List.mem_append.mp hd with hd | hd
      · exact h.chr d (List.mem_of_mem_take hd)
      · have e : d = c := by simpa using hd
        rw [e]; exact hc
    · exact h.chr d (List.mem_of_mem_drop hd)
  · simp only [List.length_append, List.length_take, List.length_drop, List.length_cons, List.length_nil]
    omega
  · have h4 : [c].count 10 ≤ 1 := List.count_le_length
    rw [List.count_append, List.count_append]
    omega
theorem tx_bent1 {m k i c : Nat} {x : List Nat} (h : Tx m k x) (hc : c = 10 ∨ (32 ≤ c ∧ c ≤ 126)) : Tx (m + 1) (k + 1) (x.take i ++ [c] ++ x.drop (i + 1)) := by
  have h1 := h.len
  have h2 := h.row
  have h3 := count_cut x i
  have h5 := count_drop1 x i
  refine ⟨fun d hd => ?_, ?_, ?_⟩
  · rcases List.mem_append.mp hd with hd | hd
    · rcases List.mem_append.mp hd with hd | hd
      · exact h.chr d (List.mem_of_mem_take hd)
      · have e : d = c := by simpa using hd
        rw [e]; exact hc
    · exact h.chr d (List.mem_of_mem_drop hd)
  · simp only [List.length_append, List.length_take, List.length_drop, List.length_cons, List.length_nil]
    omega
  · have h4 : [c].count 10 ≤ 1 := List.count_le_length
    rw [List.count_append, List.count_append]
    omega
theorem tx_bent2 {m k i : Nat} {x : List Nat} (h : Tx m k x) : Tx (m + 1) (k + 1) (x.take i ++ x.drop (i + 1)) := by
  have h1 := h.len
  have h2 := h.row
  have h3 := count_cut x i
  have h5 := count_drop1 x i
  refine ⟨fun d hd => ?_, ?_, ?_⟩
  · rcases List.mem_append.mp hd with hd | hd
    · exact h.chr d (List.mem_of_mem_take hd)
    · exact h.chr d (List.mem_of_mem_drop hd)
  · simp only [List.length_append, List.length_take, List.length_drop]
    omega
  · rw [List.count_append]
    omega
theorem tx_bent3 {m k i : Nat} {x : List Nat} (h : Tx m k x) : Tx (m + 1) (k + 1) (x.take (i + 1) ++ x.drop i) := by
  have h1 := h.len
  have h2 := h.row
  have h3 := count_cut x i
  have h5 := count_take1 x i
  refine ⟨fun d hd => ?_, ?_, ?_⟩
  · rcases List.mem_append.mp hd with hd | hd
    · exact h.chr d (List.mem_of_mem_take hd)
    · exact h.chr d (List.mem_of_mem_drop hd)
  · simp only [List.length_append, List.length_take, List.length_drop]
    omega
  · rw [List.count_append]
    omega
/-- slices of rows -/
theorem cut_to (xs : List V) (i : Nat) : cutV xs none (some (i : Int)) = xs.take i := by
  unfold cutV
  rw [HT.sIx_nat, HT.sIx_none, List.drop_zero, Nat.sub_zero]
  by_cases h : i ≤ xs.length
  · rw [Nat.min_eq_left h]
  · rw [Nat.min_eq_right (by omega), List.take_of_length_le (by omega), List.take_of_length_le (by omega)]
theorem cut_from (xs : List V) (i : Nat) : cutV xs (some (i : Int)) none = xs.drop i := by
  unfold cutV
  rw [HT.sIx_nat, HT.sIx_none]
  by_cases h : i ≤ xs.length
  · rw [Nat.min_eq_left h, List.take_of_length_le (by rw [List.length_drop]; omega)]
  · rw [Nat.min_eq_right (by omega), List.drop_eq_nil_of_le (Nat.le_refl _), List.drop_eq_nil_of_le (by omega)]
    simp
theorem cut_mid (xs : List V) (i : Nat) : cutV xs (some (i : Int)) (some ((i : Int) + 1)) = (xs.drop i).take 1 := by
  unfold cutV
  have e : ((i : Int) + 1) = ((i + 1 : Nat) : Int) := by omega
  rw [e, HT.sIx_nat, HT.sIx_nat]
  by_cases h : i < xs.length
  · rw [Nat.min_eq_left (by omega), Nat.min_eq_left (by omega), show i + 1 - i = 1 by omega]
  · rw [Nat.min_eq_right (by omega), Nat.min_eq_right (by omega), List.drop_eq_nil_of_le (Nat.le_refl _), List.drop_eq_nil_of_le (by omega)]
    simp
section
variable {X : Cx}
theorem op_repS : OpR X (binaryOp .Mult) (fun x y H Q => ∃ (i : Str) (k : Int), x = .str i ∧ y = .int k ∧ MulOk i k ∧ Q (.str (Txt.mul i k)) H) := by
  intro pins s σ H x y v u Q I rx ry h
  obtain ⟨i, k, rfl, rfl, ok, q⟩ := h
  obtain ⟨t, rfl⟩ := rx
  obtain ⟨t', rfl⟩ := ry
  exact SB.mul ok fun t' k' => ⟨.str (Txt.mul i k), H, I.tok _, ⟨_, rfl⟩, q⟩
end
end KW

/-! ## _law_sign, _law_bent -/
namespace KW
open PySem PySem.Spec PyProof.Rows L2
section
variable {P : Program} {w : World} {K : PySem.W.Frag} {mg : Str → Option Value} {base : Heap}
abbrev s__law_sign : Stmt := topS 43
theorem sc__law_sign : FnScope ["_law_feed_here", "_law_signs"] ["_law_feed_here"] (defScope s__law_sign) := ⟨rfl, rfl, rfl, by decide +kernel, rfl, by decide +kernel, by decide +kernel⟩
def spSign : Sp := fun vs H Q _ => ∃ (a : Addr), vs = [.ref a] ∧ Fd H a ∧ ∀ (c : Nat) (H' : Hp), (c = 10 ∨ (32 ≤ c ∧ c ≤ 126)) → Fd H' a → KB a H H' → Q (.str (S [c])) H'
theorem ok_sign {k : Nat} (B : Bi mg) (F : Df K mg "_law_sign" s__law_sign ["_law_feed_here"]) (G_law_pick : C8.Cal P w K mg base k "_law_pick" (spPick K) []) : C8.Cal P w K mg base (k + 1) "_law_sign" spSign [] := by
  refine F.cal sc__law_sign (fun vs H Q E h => ?_) (fun f cdv A outer s H vs Q E hr h => ?_)
  · obtain ⟨a, rfl, _⟩ := h
    rfl
  · obtain ⟨a, rfl, f0, q⟩ := h
    refine ⟨_, (pss_cons (ps_set (i := 1) sc__law_sign.nd rfl (Or.inl rfl) pe_str)
      (pss_cons (ps_set (i := 1) sc__law_sign.nd rfl (Or.inl rfl) (pe_op op_add_str (pv 1) pe_str))
      (pss_one (ps_ret (C8.pe_c G_law_pick hr (Nat.le_refl _) rfl (pa_cons (pv 0) (pa_cons (pv 1) pa_nil))))))), ?_⟩
    refine ⟨_, rfl, _, _, rfl, rfl, by decide +kernel, _, rfl, _, rfl, a, _, rfl, f0, .inl ⟨_, rfl, by decide +kernel, by decide +kernel, fun c H1 hc f1 k1 => ?_⟩⟩
    refine q c H1 ?_ f1 k1
    revert hc
    revert c
    decide +kernel
abbrev s__law_bent : Stmt := topS 44
theorem sc__law_bent : FnScope ["_law_feed_here", "_law_text", "_law_at", "_law_way", "_law_sign_here"] ["_law_feed_here", "_law_text"] (defScope s__law_bent) := ⟨rfl, rfl, rfl, by decide +kernel, rfl, by decide +kernel, by decide +kernel⟩
def spBent : Sp := fun vs H Q _ => ∃ (a : Addr) (x : List Nat) (m k : Nat), vs = [.ref a, .str (S x)] ∧ Fd H a ∧ Tx m k x ∧ m ≤ 60000 ∧ ∀ (y : List Nat) (H' : Hp), Tx (m + 1) (k + 1) y → Fd H' a → KB a H H' → Q (.str (S y)) H'
theorem ok_bent {k : Nat} (B : Bi mg) (F : Df K mg "_law_bent" s__law_bent ["_law_feed_here", "_law_text"]) (G_law_draw : C8.Cal P w K mg base k "_law_draw" spDraw []) (G_law_sign : C8.Cal P w K mg base k "_law_sign" spSign []) : C8.Cal P w K mg base (k + 1) "_law_bent" spBent [] := by
  refine F.cal sc__law_bent (fun vs H Q E h => ?_) (fun f cdv A outer s H vs Q E hr h => ?_)
  · obtain ⟨a, x, m, k, rfl, _⟩ := h
    rfl
  · obtain ⟨a, x, m, kk, rfl, f0, hx, hm, q⟩ := h
    refine ⟨_, (pss_cons (ps_par3 rfl sc__law_bent.nd (i := 2) (j := 3) (l := 4) rfl rfl rfl  (by decide) (by decide) (by decide) rfl rfl rfl  (pa_cons (C8.pe_c G_law_draw hr (Nat.le_refl _) rfl (pa_cons (pv 0) (pa_cons (pe_op op_add (pe_callB (kk_len K rfl) rfl B.len PySem.boot_len (pa_cons (pv 1) pa_nil)) pe_int) pa_nil))) (pa_cons (C8.pe_c G_law_draw hr (Nat.le_refl _) rfl (pa_cons (pv 0) (pa_cons pe_int pa_nil))) (pa_cons (C8.pe_c G_law_sign hr (Nat.le_refl _) rfl (pa_cons (pv 0) pa_nil)) pa_nil))) (by rfl))
      (pss_cons (ps_if (pt_cmpR op_eq (pv 3) pe_int (nomark _)) (pss_one (ps_ret (pe_op op_add_str (pe_op op_add_str (pe_slice C8.sl_txt (pv 1) po_none (po_some (pv 2))) (pv 4)) (pe_slice C8.sl_txt (pv 1) (po_some (pv 2)) po_none)))) pss_nil)
      (pss_cons (ps_if (pt_cmpR op_eq (pv 3) pe_int (nomark _)) (pss_one (ps_ret (pe_op op_add_str (pe_op op_add_str (pe_slice C8.sl_txt (pv 1) po_none (po_some (pv 2))) (pv 4)) (pe_slice C8.sl_txt (pv 1) (po_some (pe_op op_add (pv 2) pe_int)) po_none)))) pss_nil)
      (pss_cons (ps_if (pt_cmpR op_eq (pv 3) pe_int (nomark _)) (pss_one (ps_ret (pe_op op_add_str (pe_slice C8.sl_txt (pv 1) po_none (po_some (pv 2))) (pe_slice C8.sl_txt (pv 1) (po_some (pe_op op_add (pv 2) pe_int)) po_none)))) pss_nil)
      (pss_one (ps_ret (pe_op op_add_str (pe_slice C8.sl_txt (pv 1) po_none (po_some (pe_op op_add (pv 2) pe_int))) (pe_slice C8.sl_txt (pv 1) (po_some (pv 2)) po_none)))))))), ?_⟩
    have hlen := hx.len
    have big : (S x).length ≤ sizeLine := Nat.le_trans (by rw [slen]; exact Nat.le_trans hlen hm) (show 60000 ≤ sizeLine by decide)
    have small : ∀ z : List Nat, z.length ≤ 200000 → ∀ y : List Nat, y.length ≤ 200000 → (S z).length + (S y).length ≤ sizeLine := fun z hz y hy => Nat.le_trans (by rw [slen, slen]; omega) (show 400000 ≤ sizeLine by decide)
    have lt : ∀ i, (x.take i).length ≤ 60000 := fun i => by rw [List.length_take]; omega
    have ld : ∀ i, (x.drop i).length ≤ 60000 := fun i => by rw [List.length_drop]; omega
    refine ⟨_, rfl, _, rfl, _, _, rfl, ⟨big, rfl⟩, _, _, rfl, rfl, a, _, rfl, f0, by omega, by rw [slen]; omega, fun r H1 r0 r1 f1 k1 => ?_⟩
    obtain ⟨r, rfl⟩ : ∃ e : Nat, r = (e : Int) := ⟨r.toNat, by omega⟩
    refine ⟨_, rfl, a, _, rfl, f1, by decide, by decide, fun wy H2 w0 w1 f2 k2 => ?_⟩
    refine ⟨_, rfl, a, rfl, f2, fun c H3 hc f3 k3 => ⟨_, _, _, rfl, ?_⟩⟩
    have k4 := (k1.trans k2).trans k3
    have er : ∀ j : Nat, ((j : Int) + 1) = ((j + 1 : Nat) : Int) := fun j => by omega
    refine ⟨_, rfl, rfl, _, rfl, ite2 (fun h => ?_) (fun h => ?_)⟩
    · refine ⟨_, rfl, _, rfl, _, rfl, S x, rfl, big, ?_⟩
      rw [SX.slice_to (by omega), Int.toNat_natCast]
      refine ⟨_, rfl, _, _, rfl, rfl, small _ (Nat.le_trans (lt r) (by decide)) [c] (by simp), _, rfl, _, rfl, _, rfl, S x, rfl, big, ?_⟩
      rw [SX.slice_from (by omega), Int.toNat_natCast]
      refine ⟨_, _, rfl, rfl, ?_, ?_⟩
      · rw [cat]
        have := lt r
        exact small _ (by rw [List.length_append]; simp; omega) _ (Nat.le_trans (ld r) (by decide))
      rw [cat, cat]
      exact q _ _ (tx_bent0 hx hc) f3 k4
    refine ⟨_, rfl, rfl, _, rfl, ite2 (fun h => ?_) (fun h => ?_)⟩
    · refine ⟨_, rfl, _, rfl, _, rfl, S x, rfl, big, ?_⟩
      rw [SX.slice_to (by omega), Int.toNat_natCast]
      refine ⟨_, rfl, _, _, rfl, rfl, small _ (Nat.le_trans (lt r) (by decide)) [c] (by simp), _, rfl, _, rfl, _, _, rfl, rfl, _, rfl, S x, rfl, big, ?_⟩
      rw [er, SX.slice_from (by omega), Int.toNat_natCast]
      refine ⟨_, _, rfl, rfl, ?_, ?_⟩
      · rw [cat]
        have := lt r
        exact small _ (by rw [List.length_append]; simp; omega) _ (Nat.le_trans (ld _) (by decide))
      rw [cat, cat]
      exact q _ _ (tx_bent1 hx hc) f3 k4
    refine ⟨_, rfl, rfl, _, rfl, ite2 (fun h => ?_) (fun h => ?_)⟩
    · refine ⟨_, rfl, _, rfl, _, rfl, S x, rfl, big, ?_⟩
      rw [SX.slice_to (by omega), Int.toNat_natCast]
      refine ⟨_, rfl, _, rfl, _, _, rfl, rfl, _, rfl, S x, rfl, big, ?_⟩
      rw [er, SX.slice_from (by omega), Int.toNat_natCast]
      refine ⟨_, _, rfl, rfl, small _ (Nat.le_trans (lt r) (by decide)) _ (Nat.le_trans (ld _) (by decide)), ?_⟩
      rw [cat]
      exact q _ _ (tx_bent2 hx) f3 k4
    · refine ⟨_, rfl, _, rfl, _, _, rfl, rfl, _, rfl, S x, rfl, big, ?_⟩
      rw [er, SX.slice_to (by omega), Int.toNat_natCast]
      refine ⟨_, rfl, _, rfl, _, rfl, S x, rfl, big, ?_⟩
      rw [SX.slice_from (by omega), Int.toNat_natCast]
      refine ⟨_, _, rfl, rfl, small _ (Nat.le_trans (lt _) (by decide)) _ (Nat.le_trans (ld _) (by decide)), ?_⟩
      rw [cat]
      exact q _ _ (tx_bent3 hx) f3 k4
end
end KW

/-! ## _law_near_name, _law_ways -/
namespace KW
open PySem PySem.Spec PyProof.Rows L2
/-- a short text of plain signs -/
structure Sh (l : List Nat) : Prop where
  chr : ∀ c ∈ l, c ≤ 126
  len : l.length ≤ 10
theorem Nm.sh {l : List Nat} (h : Nm l) : Sh l := ⟨fun c hc => by have := h.1 c hc; omega, Nat.le_trans h.2.2.1 (by decide)⟩
theorem Tx.sh {m k : Nat} {l : List Nat} (h : Tx m k l) (hm : m ≤ 10) : Sh l := ⟨fun c hc => by have := h.chr c hc; omega, Nat.le_trans h.len hm⟩
def nears : List (List Nat) := ["if", "else", "end", "ends", "els", "still", "lesser", "", "Abc", "a1"].map fun s => s.toList.map Char.toNat
theorem nears_sh : ∀ l ∈ nears, (∀ c ∈ l, c ≤ 126) ∧ l.length ≤ 10 := by decide +kernel
theorem nears_eq : [V.str (Str.ofString "if"), V.str (Str.ofString "else"), V.str (Str.ofString "end"), V.str (Str.ofString "ends"), V.str (Str.ofString "els"), V.str (Str.ofString "still"), V.str (Str.ofString "lesser"), V.str (Str.ofString ""), V.str (Str.ofString "Abc"), V.str (Str.ofString "a1")] = LS nears := by decide +kernel
theorem nm_tx {l : List Nat} (h : Nm l) : Tx 4 1 l := ⟨fun c hc => by have := h.1 c hc; omega, h.2.2.1, by
  rw [List.count_eq_zero_of_not_mem (fun hm => by have := h.1 10 hm; omega)]
  decide⟩
theorem join_one (cs : List Nat) : Txt.join (Str.ofString "") (cs.map fun c => S [c]) = S cs := by
  have e := SX.join_S [] (cs.map fun c => [c])
  rw [joinL_single, List.map_map] at e
  exact e
theorem sum_one (cs : List Nat) (h : cs.length ≤ 100) : ((cs.map fun c => S [c]).map (·.length)).sum + (cs.map fun c => S [c]).length * (Str.ofString "").length ≤ 16777216 := by
  rw [sum_ones, List.length_map]
  show cs.length + cs.length * 0 ≤ _
  omega
section
variable {P : Program} {w : World} {K : PySem.W.Frag} {mg : Str → Option Value} {base : Heap}
abbrev s__law_near_name : Stmt := topS 45
theorem sc__law_near_name : FnScope ["_law_feed_here", "_law_letters", "_law_way", "_law_k"] ["_law_feed_here"] (defScope s__law_near_name) := ⟨rfl, rfl, rfl, by decide +kernel, rfl, by decide +kernel, by decide +kernel⟩
def spNear : Sp := fun vs H Q _ => ∃ (a : Addr), vs = [.ref a] ∧ Fd H a ∧ ∀ (l : List Nat) (H' : Hp), Sh l → Fd H' a → KB a H H' → Q (.str (S l)) H'
theorem ok_near_name {k : Nat} (B : Bi mg) (F : Df K mg "_law_near_name" s__law_near_name ["_law_feed_here"]) (G_law_draw : C8.Cal P w K mg base k "_law_draw" spDraw []) (G_law_pick : C8.Cal P w K mg base k "_law_pick" (spPick K) [])
    (G_law_bent : C8.Cal P w K mg base k "_law_bent" spBent []) (G_law_word : C8.Cal P w K mg base k "_law_word" spWord []) : C8.Cal P w K mg base (k + 1) "_law_near_name" spNear [] := by
  refine F.cal sc__law_near_name (fun vs H Q E h => ?_) (fun f cdv A outer s H vs Q E hr h => ?_)
  · obtain ⟨a, rfl, _⟩ := h
    rfl
  · obtain ⟨a, rfl, f0, q⟩ := h
    refine ⟨_, (pss_cons (ps_set (i := 1) sc__law_near_name.nd rfl (Or.inr rfl) pe_str)
      (pss_cons (ps_set (i := 2) sc__law_near_name.nd rfl (Or.inl rfl) (C8.pe_c G_law_draw hr (Nat.le_refl _) rfl (pa_cons (pv 0) (pa_cons pe_int pa_nil))))
      (pss_cons (ps_if (pt_cmpR op_eq (pv 2) pe_int (nomark _)) (pss_one (ps_ret (C8.pe_c G_law_pick hr (Nat.le_refl _) rfl (pa_cons (pv 0) (pa_cons (pe_lst (pa_cons pe_str (pa_cons pe_str (pa_cons pe_str (pa_cons pe_str (pa_cons pe_str (pa_cons pe_str (pa_cons pe_str (pa_cons pe_str (pa_cons pe_str (pa_cons pe_str pa_nil))))))))))) pa_nil))))) pss_nil)
      (pss_cons (ps_if (pt_cmpR op_eq (pv 2) pe_int (nomark _)) (pss_one (ps_ret (kk_bm K rfl PySem.F.plainAttrs_str PySem.F.slot_str_join PySem.F.type_str_join (kk_join K rfl) pe_str (pa_cons (pe_lc (own := [("_law_k", 3)]) (g := gName 3) (tt := tYes) rfl sc__law_near_name.nd (pi_range1 rfl B.range (pa_cons (C8.pe_c G_law_draw hr (Nat.le_refl _) rfl (pa_cons (pv 0) (pa_cons pe_int pa_nil))) pa_nil)) (blkOk_by (own := [("_law_k", 3)]) (N := ["_law_feed_here", "_law_letters", "_law_way", "_law_k"]) (sc := defScope s__law_near_name) (by decide +kernel)) (fun _ _ _ _ _ => (pg_name (i := 3) sc__law_near_name.nd rfl (Or.inl rfl))) (fun _ _ _ _ _ => pts_nil) (fun _ _ _ _ _ => (C8.pe_c G_law_pick hr (Nat.le_refl _) rfl (pa_cons (pv 0) (pa_cons (pv 1) pa_nil))))) pa_nil)))) pss_nil)
      (pss_cons (ps_if (pt_cmpR op_eq (pv 2) pe_int (nomark _)) (pss_one (ps_ret (C8.pe_c G_law_bent hr (Nat.le_refl _) rfl (pa_cons (pv 0) (pa_cons (C8.pe_c G_law_word hr (Nat.le_refl _) rfl (pa_cons (pv 0) pa_nil)) pa_nil))))) pss_nil)
      (pss_one (ps_ret (C8.pe_c G_law_word hr (Nat.le_refl _) rfl (pa_cons (pv 0) pa_nil))))))))), ?_⟩
    refine ⟨_, rfl, a, _, rfl, f0, by decide, by decide, fun wy H1 w0 w1 f1 k1 => ?_⟩
    refine ⟨_, rfl, rfl, _, rfl, ite2 (fun h => ?_) (fun h => ?_)⟩
    · refine ⟨_, rfl, by show 10 ≤ sizeLine; decide, fun g hg => ?_⟩
      rw [nears_eq]
      refine ⟨a, _, rfl, f1.new hg, .inr ⟨g, _, rfl, f1.ne hg, .inl (SqL.of upd_same), by decide +kernel, by rw [show (LS nears).length = nears.length from List.length_map ..]; decide, fun v H2 hv f2 k2 => ?_⟩⟩
      obtain ⟨l, hl, rfl⟩ := List.mem_map.mp hv
      exact q l H2 ⟨(nears_sh l hl).1, (nears_sh l hl).2⟩ f2 ((k1.new hg).trans k2)
    refine ⟨_, rfl, rfl, _, rfl, ite2 (fun h => ?_) (fun h => ?_)⟩
    · refine ⟨rfl, _, rfl, a, _, rfl, f1, by decide, by decide, fun r H2 r0 r1 f2 k2 => ⟨_, rfl, by omega, by omega, fun D hD => ?_⟩⟩
      have hDa : D ≠ a := f2.ne hD
      have k12 := k1.trans k2
      have hD0 : H D = none := k12.free hDa hD
      refine lc_range (lo := 0) (fun i H3 => ∃ cs : List Nat, cs.length = i ∧ Low cs ∧ H3 D = some (.lst (cs.map fun c => V.str (S [c]))) ∧ Fd H3 a ∧ KB a H H3) ⟨[], rfl, fun _ h => by simp at h, upd_same, f2.new hD, k12.new hD⟩ (fun i H3 hi hP => ?_) (fun H3 hP => ?_)
      · obtain ⟨cs, hl, hlow, hDc, f3, k3⟩ := hP
        refine ⟨rfl, yesT ?_⟩
        refine ⟨_, rfl, _, rfl, a, _, rfl, f3, .inl ⟨_, rfl, by rw [abc_tl]; decide, by decide, fun c H4 hc f4 k4 => ?_⟩⟩
        rw [abc_tl] at hc
        have hD4 := k4 D _ hDa hDc
        refine ⟨_, hD4, by rw [List.length_map]; exact Nat.lt_of_lt_of_le (show cs.length < 100 by omega) (by decide), cs ++ [c], by simp [hl], fun d hd => ?_, ?_, f4.upd hDa.symm, (k3.trans k4).upd0 hD0⟩
        · rw [List.mem_append, List.mem_singleton] at hd
          rcases hd with hd | rfl
          · exact hlow d hd
          · exact low_abc _ hc
        · rw [upd_same, List.map_append]
          rfl
      · obtain ⟨cs, hl, hlow, hDc, f3, k3⟩ := hP
        refine ⟨_, _, cs.map fun c => S [c], rfl, rfl, .inl (SqL.of (by rw [hDc, List.map_map]; rfl)), sum_one cs (by omega), ?_⟩
        rw [join_one]
        exact q cs H3 ⟨fun c hc => by have := hlow c hc; omega, by omega⟩ f3 k3
    refine ⟨_, rfl, rfl, _, rfl, ite2 (fun h => ?_) (fun h => ?_)⟩
    · refine ⟨_, rfl, _, rfl, a, rfl, f1, fun l H2 hl f2 k2 => ⟨a, l, 4, 1, rfl, f2, nm_tx hl, by decide, fun y H3 hy f3 k3 => q y H3 (hy.sh (by decide)) f3 ((k1.trans k2).trans k3)⟩⟩
    · exact ⟨_, rfl, a, rfl, f1, fun l H2 hl f2 k2 => q l H2 hl.sh f2 (k1.trans k2)⟩
abbrev s__law_ways : Stmt := topS 47
theorem sc__law_ways : FnScope ["_law_feed_here", "_law_k"] ["_law_feed_here"] (defScope s__law_ways) := ⟨rfl, rfl, rfl, by decide +kernel, rfl, by decide +kernel, by decide +kernel⟩
/-- ways -/
def Wy (l : List Nat) : Prop := (∀ c ∈ l, c ∈ pmq) ∧ 1 ≤ l.length ∧ l.length ≤ 3
theorem Wy.b {l : List Nat} (h : Wy l) : wyB l = true := by
  unfold wyB
  rw [decide_eq_true h.2.1, decide_eq_true h.2.2]
  simpa using h.1
theorem Nm.b {l : List Nat} (h : Nm l) : nmB l = true := by
  unfold nmB
  rw [decide_eq_true h.2.1, decide_eq_true h.2.2.1]
  have h1 : (l.all fun c => decide (c ∈ abc)) = true := by
    rw [List.all_eq_true]
    intro c hc
    have := h.1 c hc
    simp
    omega
  have h2 : [wIf, wElse, wEnd].contains l = false := by
    simp only [List.contains_eq_mem, decide_eq_false_iff_not, List.mem_cons, List.not_mem_nil, or_false, not_or]
    exact ⟨h.2.2.2.1, h.2.2.2.2.1, h.2.2.2.2.2⟩
  rw [h1, h2]
  rfl
def spWays : Sp := fun vs H Q _ => ∃ (a : Addr), vs = [.ref a] ∧ Fd H a ∧ ∀ (l : List Nat) (H' : Hp), Wy l → Fd H' a → KB a H H' → Q (.str (S l)) H'
theorem ok_ways {k : Nat} (B : Bi mg) (F : Df K mg "_law_ways" s__law_ways ["_law_feed_here"]) (G_law_draw : C8.Cal P w K mg base k "_law_draw" spDraw []) (G_law_pick : C8.Cal P w K mg base k "_law_pick" (spPick K) []) : C8.Cal P w K mg base (k + 1) "_law_ways" spWays [] := by
  refine F.cal sc__law_ways (fun vs H Q E h => ?_) (fun f cdv A outer s H vs Q E hr h => ?_)
  · obtain ⟨a, rfl, _⟩ := h
    rfl
  · obtain ⟨a, rfl, f0, q⟩ := h
    refine ⟨_, (pss_one (ps_ret (kk_bm K rfl PySem.F.plainAttrs_str PySem.F.slot_str_join PySem.F.type_str_join (kk_join K rfl) pe_str (pa_cons (pe_lc (own := [("_law_k", 1)]) (g := gName 1) (tt := tYes) rfl sc__law_ways.nd (pi_range1 rfl B.range (pa_cons (pe_op op_add pe_int (C8.pe_c G_law_draw hr (Nat.le_refl _) rfl (pa_cons (pv 0) (pa_cons pe_int pa_nil)))) pa_nil)) (blkOk_by (own := [("_law_k", 1)]) (N := ["_law_feed_here", "_law_k"]) (sc := defScope s__law_ways) (by decide +kernel)) (fun _ _ _ _ _ => (pg_name (i := 1) sc__law_ways.nd rfl (Or.inl rfl))) (fun _ _ _ _ _ => pts_nil) (fun _ _ _ _ _ => (C8.pe_c G_law_pick hr (Nat.le_refl _) rfl (pa_cons (pv 0) (pa_cons pe_str pa_nil))))) pa_nil)))), ?_⟩
    refine ⟨rfl, _, rfl, a, _, rfl, f0, by decide, by decide, fun r H1 r0 r1 f1 k1 => ⟨_, _, rfl, rfl, _, rfl, by omega, by omega, fun D hD => ?_⟩⟩
    have hDa : D ≠ a := f1.ne hD
    have hD0 : H D = none := k1.free hDa hD
    refine lc_range (lo := 0) (fun i H3 => ∃ cs : List Nat, cs.length = i ∧ (∀ c ∈ cs, c ∈ pmq) ∧ H3 D = some (.lst (cs.map fun c => V.str (S [c]))) ∧ Fd H3 a ∧ KB a H H3) ⟨[], rfl, fun _ h => by simp at h, upd_same, f1.new hD, k1.new hD⟩ (fun i H3 hi hP => ?_) (fun H3 hP => ?_)
    · obtain ⟨cs, hl, hlow, hDc, f3, k3⟩ := hP
      refine ⟨rfl, yesT ?_⟩
      refine ⟨_, rfl, a, _, rfl, f3, .inl ⟨_, rfl, by rw [pmq_tl]; decide, by decide +kernel, fun c H4 hc f4 k4 => ?_⟩⟩
      rw [pmq_tl] at hc
      have hD4 := k4 D _ hDa hDc
      refine ⟨_, hD4, by rw [List.length_map]; exact Nat.lt_of_lt_of_le (show cs.length < 100 by omega) (by decide), cs ++ [c], by simp [hl], fun d hd => ?_, ?_, f4.upd hDa.symm, (k3.trans k4).upd0 hD0⟩
      · rw [List.mem_append, List.mem_singleton] at hd
        rcases hd with hd | rfl
        · exact hlow d hd
        · exact hc
      · rw [upd_same, List.map_append]
        rfl
    · obtain ⟨cs, hl, hlow, hDc, f3, k3⟩ := hP
      refine ⟨_, _, cs.map fun c => S [c], rfl, rfl, .inl (SqL.of (by rw [hDc, List.map_map]; rfl)), sum_one cs (by omega), ?_⟩
      rw [join_one]
      exact q cs H3 ⟨hlow, by omega, by omega⟩ f3 k3
end
end KW

/-! ## _law_any -/
namespace KW
open PySem PySem.Spec PyProof.Rows L2
/-- any of the law's values; its text, if it is one -/
inductive AvAt (CS CE CT CC : Addr) (H : Hp) : V → Option (List Nat) → Prop where
  | txt {l : List Nat} : Sh l → AvAt CS CE CT CC H (.str (S l)) (some l)
  | int (i : Int) : AvAt CS CE CT CC H (.int i) none
  | bl (b : Bool) : AvAt CS CE CT CC H (.bl b) none
  | non : AvAt CS CE CT CC H .non none
  | lst {p : Addr} {xs : List V} : H p = some (.lst xs) → AvAt CS CE CT CC H (.ref p) none
  | tup {p : Addr} {xs : List V} : H p = some (.tup xs) → AvAt CS CE CT CC H (.ref p) none
  | stp {p : Addr} {n u : List Nat} : StAt CS H p n u → nmB n = true → wyB u = true → AvAt CS CE CT CC H (.ref p) none
  | nam {p : Addr} {l : List Nat} : ExN CE H p l → nmB l = true → AvAt CS CE CT CC H (.ref p) none
  | trt {p dx : Addr} {fs : List (Str × V)} : H p = some (.ins CT dx fs) → AvAt CS CE CT CC H (.ref p) none
  | chn {p dx : Addr} {fs : List (Str × V)} : H p = some (.ins CC dx fs) → AvAt CS CE CT CC H (.ref p) none
theorem ExN.mono {C p : Addr} {H H' : Hp} {l : List Nat} (h : ExN C H p l) (s : Same H H') : ExN C H' p l := by
  obtain ⟨dx, p0, p1, p2, p3, h, h0, h1, h2, h3⟩ := h
  exact ⟨dx, p0, p1, p2, p3, s _ _ h, s _ _ h0, s _ _ h1, s _ _ h2, s _ _ h3⟩
theorem Fd.neI {H : Hp} {a p C dx : Addr} {fs : List (Str × V)} (f : Fd H a) (h : H p = some (.ins C dx fs)) : p ≠ a := by
  obtain ⟨c, d, e⟩ := f
  exact ne_of h e (by intro z; cases z)
theorem ExN.hid {C p a : Addr} {H : Hp} {l : List Nat} (f : Fd H a) (h : ExN C H p l) : ExN C (KW.hid a H) p l := by
  obtain ⟨dx, p0, p1, p2, p3, h, h0, h1, h2, h3⟩ := h
  exact ⟨dx, p0, p1, p2, p3, hid_of (f.neI h) h, hid_of (f.neT h0) h0, hid_of (f.neT h1) h1, hid_of (f.neT h2) h2, hid_of (f.neT h3) h3⟩
theorem StAt.hid {C p a : Addr} {H : Hp} {n u : List Nat} (f : Fd H a) (h : StAt C H p n u) : StAt C (KW.hid a H) p n u := by
  obtain ⟨dx, h⟩ := h
  exact ⟨dx, hid_of (f.neI h) h⟩
theorem AvAt.mono {CS CE CT CC : Addr} {H H' : Hp} {v : V} {o : Option (List Nat)} (h : AvAt CS CE CT CC H v o) (s : Same H H') : AvAt CS CE CT CC H' v o := by
  cases h with
  | txt h => exact .txt h
  | int i => exact .int i
  | bl b => exact .bl b
  | non => exact .non
  | lst h => exact .lst (s _ _ h)
  | tup h => exact .tup (s _ _ h)
  | stp h a b => exact .stp (h.mono s) a b
  | nam h a => exact .nam (h.mono s) a
  | trt h => exact .trt (s _ _ h)
  | chn h => exact .chn (s _ _ h)
/-- what the four classes say of their instances -/
structure OwC (K : PySem.W.Frag) (CS CE CT CC : Addr) : Prop where
  s : IsC K CS
  e : IsC K CE
  t : IsC K CT
  c : IsC K CC
theorem kitS : ∀ t ∈ tyNames, kitB t "str" = some (decide (t = "str")) := by decide +kernel
theorem kit_no {K : PySem.W.Frag} {t : String} (h : t ∈ tyNames) (h2 : t ≠ "str") : PySem.W.kitOne K (.type t) (.type "str") = some false := by
  have e := kitS t h
  rw [decide_eq_false h2] at e
  exact kit_ty e
theorem AvAt.tx {K : PySem.W.Frag} {CS CE CT CC : Addr} {H : Hp} {v : V} {o : Option (List Nat)} (T : OwC K CS CE CT CC) (h : AvAt CS CE CT CC H v o) : TxV K H v o := by
  cases h with
  | txt h => exact ⟨rfl, Nat.le_trans h.len (by decide)⟩
  | int i => exact ⟨_, .base (.int i), kit_no (by decide) (by decide)⟩
  | bl b => exact ⟨_, .base (.bl b), kit_no (by decide) (by decide)⟩
  | non => exact ⟨_, .base .non, kit_no (by decide) (by decide)⟩
  | lst h => exact ⟨_, .base (.lst h), kit_no (by decide) (by decide)⟩
  | tup h => exact ⟨_, .base (.tup h), kit_no (by decide) (by decide)⟩
  | stp h a b =>
    obtain ⟨dx, h⟩ := h
    exact ⟨_, T.s.ty h, T.s.ns⟩
  | nam h a =>
    obtain ⟨dx, _, _, _, _, h, _⟩ := h
    exact ⟨_, T.e.ty h, T.e.ns⟩
  | trt h => exact ⟨_, T.t.ty h, T.t.ns⟩
  | chn h => exact ⟨_, T.c.ty h, T.c.ns⟩
theorem AvAt.sh {CS CE CT CC : Addr} {H : Hp} {v : V} {l : List Nat} (h : AvAt CS CE CT CC H v (some l)) : v = .str (S l) ∧ Sh l := by
  cases h with
  | txt h => exact ⟨rfl, h⟩
section
variable {P : Program} {w : World} {K : PySem.W.Frag} {mg : Str → Option Value} {base : Heap}
abbrev s__law_any : Stmt := topS 46
theorem sc__law_any : FnScope ["_law_feed_here", "_law_deep", "_law_way", "_law_some", "_law_k"] ["_law_feed_here", "_law_deep"] (defScope s__law_any) := ⟨rfl, rfl, rfl, by decide +kernel, rfl, by decide +kernel, by decide +kernel⟩
def spAny (CS CE CT CC : Addr) (n : Nat) : Sp := fun vs H Q _ => ∃ (a : Addr) (d : Nat), vs = [.ref a, .int d] ∧ Fd H a ∧ d < n ∧ ∀ (v : V) (o : Option (List Nat)) (H' : Hp), AvAt CS CE CT CC (hid a H') v o → Fd H' a → KB a H H' → Q v H'
theorem ok_any {CS CE CT CC CI : Addr} {k : Nat} (B : Bi mg) (F : Df K mg "_law_any" s__law_any ["_law_feed_here", "_law_deep"]) (G1 : C8.Cal P w K mg base (k + 1) "_law_draw" spDraw []) (G2 : C8.Cal P w K mg base (k + 1) "_law_pick" (spPick K) []) (G3 : C8.Cal P w K mg base (k + 1) "_law_near_name" spNear [])
    (G4 : C8.Cal P w K mg base (k + 1) "_law_word" spWord []) (G5 : C8.Cal P w K mg base (k + 1) "_law_ways" spWays []) (GStep : RMak P w K mg base k "Step" CS (spStI K CS CI)) (G6 : C8.Cal P w K mg base (k + 1) "named" (spNamed K CE) [])
    (GTrait : MakR P w K mg base k "Trait" CT (spSt 2 (spTrI CT CS))) (GChain : MakR P w K mg base k "Chain" CC (spSt 1 (spChI CC CS))) : ∀ n : Nat, C8.Cal P w K mg base (n + k + 1) "_law_any" (spAny CS CE CT CC n) []
  | 0 => by
      refine calMono (F.never fun vs H Q E h => ?_) (Nat.zero_le _)
      obtain ⟨a, d, _, _, h, _⟩ := h
      exact absurd h (Nat.not_lt_zero _)
  | n + 1 => by
    have hk : k + 1 ≤ n + k + 1 := by omega
    have G_law_any := ok_any B F G1 G2 G3 G4 G5 GStep G6 GTrait GChain n
    have G_law_draw := calMono G1 hk
    have G_law_pick := calMono G2 hk
    have G_law_near_name := calMono G3 hk
    have G_law_word := calMono G4 hk
    have G_law_ways := calMono G5 hk
    have Gnamed := calMono G6 hk
    have lvStep := hk
    have lvTrait := hk
    have lvChain := hk
    refine calMono (F.cal (k := n + k + 1) sc__law_any (fun vs H Q E h => ?_) (fun f cdv A outer s H vs Q E hr h => ?_)) (show n + k + 1 + 1 ≤ n + 1 + k + 1 by omega)
    · obtain ⟨a, d, rfl, _⟩ := h
      rfl
    · obtain ⟨a, d, rfl, f0, hd, q⟩ := h
      refine ⟨_, (C8.pss_cut (ps_set (i := 2) sc__law_any.nd rfl (Or.inl rfl) (C8.pe_c G_law_draw hr (Nat.le_refl _) rfl (pa_cons (pv 0) (pa_cons (pe_ifExp (pt_cmpR op_gt (pv 1) pe_int (nomark _)) pe_int pe_int) pa_nil))))
      (pss_cons (ps_if (pt_cmpR op_eq (pv 2) pe_int (nomark _)) (pss_one (ps_ret (pe_op op_sub (C8.pe_c G_law_draw hr (Nat.le_refl _) rfl (pa_cons (pv 0) (pa_cons pe_int pa_nil))) pe_int))) pss_nil)
      (pss_cons (ps_if (pt_cmpR op_eq (pv 2) pe_int (nomark _)) (pss_one (ps_ret (C8.pe_c G_law_pick hr (Nat.le_refl _) rfl (pa_cons (pv 0) (pa_cons (pe_lst (pa_cons pe_bl (pa_cons pe_bl (pa_cons pe_non (pa_cons pe_non pa_nil))))) pa_nil))))) pss_nil)
      (pss_cons (ps_if (pt_cmpR op_eq (pv 2) pe_int (nomark _)) (pss_one (ps_ret (C8.pe_c G_law_near_name hr (Nat.le_refl _) rfl (pa_cons (pv 0) pa_nil)))) pss_nil)
      (pss_cons (ps_if (pt_cmpR op_eq (pv 2) pe_int (nomark _)) (pss_one (ps_ret (kr_mk GStep hr lvStep rfl psx0 (pa_cons (C8.pe_c G_law_word hr (Nat.le_refl _) rfl (pa_cons (pv 0) pa_nil)) (pa_cons (C8.pe_c G_law_ways hr (Nat.le_refl _) rfl (pa_cons (pv 0) pa_nil)) pa_nil))))) pss_nil)
      (pss_cons (ps_if (pt_cmpR op_eq (pv 2) pe_int (nomark _)) (pss_one (ps_ret (C8.pe_c Gnamed hr (Nat.le_refl _) rfl (pa_cons (C8.pe_c G_law_word hr (Nat.le_refl _) rfl (pa_cons (pv 0) pa_nil)) pa_nil)))) pss_nil)
      (pss_cons (ps_if (pt_cmpR op_eq (pv 2) pe_int (nomark _)) (pss_one (ps_ret (pe_mkR GTrait hr lvTrait rfl (pa_cons pe_str (pa_cons (kr_mk GStep hr lvStep rfl psx0 (pa_cons (C8.pe_c G_law_word hr (Nat.le_refl _) rfl (pa_cons (pv 0) pa_nil)) (pa_cons pe_str pa_nil))) pa_nil))))) pss_nil)
      (pss_cons (ps_if (pt_cmpR op_eq (pv 2) pe_int (nomark _)) (pss_one (ps_ret (pe_mkR GChain hr lvChain rfl (pa_cons (kr_mk GStep hr lvStep rfl psx0 (pa_cons (C8.pe_c G_law_word hr (Nat.le_refl _) rfl (pa_cons (pv 0) pa_nil)) (pa_cons pe_str pa_nil))) pa_nil)))) pss_nil)
      (pss_cons (ps_setLc (i := 3) (own := [("_law_k", 4)]) (g := gName 4) (tt := tYes) rfl sc__law_any.nd rfl rfl (sw_true rfl rfl rfl (by decide +kernel)) (pi_range1 rfl B.range (pa_cons (C8.pe_c G_law_draw hr (Nat.le_refl _) rfl (pa_cons (pv 0) (pa_cons pe_int pa_nil))) pa_nil)) (blkOk_by (own := [("_law_k", 4)]) (N := ["_law_feed_here", "_law_deep", "_law_way", "_law_some", "_law_k"]) (sc := defScope s__law_any) (by decide +kernel)) (fun _ _ _ _ _ => (pg_name (i := 4) sc__law_any.nd rfl (Or.inl rfl))) (fun _ _ _ _ _ => pts_nil) (fun _ _ _ _ _ => (C8.pe_c G_law_any hr (Nat.le_refl _) rfl (pa_cons (pv 0) (pa_cons (pe_op op_sub (pv 1) pe_int) pa_nil)))))
      (pss_one (ps_ret (pe_ifExp (pt_cmpR op_eq (pv 2) pe_int (nomark _)) (pv 3) (pe_callTy (kk_tuple_of K rfl) rfl B.ty_tuple (by decide +kernel) (pa_cons (pv 3) pa_nil)))))))))))))), ?_⟩
      refine ⟨fun σ H1 => ∃ wy : Int, σ = [some (.ref a), some (.int d), some (.int wy), none, none] ∧ 0 ≤ wy ∧ (wy < 7 ∨ (0 < d ∧ wy < 9)) ∧ Fd H1 a ∧ KB a H H1, ?_, ?_⟩
      · refine ⟨_, rfl, _, rfl, _, _, rfl, rfl, _, rfl, ite2 (fun h => ?_) (fun h => ?_)⟩
        · have hd0 : 0 < d := by have := of_decide_eq_true h; omega
          exact ⟨a, _, rfl, f0, by decide, by decide, fun r H1 r0 r1 f1 k1 => ⟨r, rfl, r0, .inr ⟨hd0, r1⟩, f1, k1⟩⟩
        · exact ⟨a, _, rfl, f0, by decide, by decide, fun r H1 r0 r1 f1 k1 => ⟨r, rfl, r0, .inl r1, f1, k1⟩⟩
      rintro σ H1 ⟨wy, rfl, w0, w1, f1, k1⟩
      refine ⟨_, rfl, rfl, _, rfl, ite2 (fun h => ?_) (fun h0 => ?_)⟩
      · exact ⟨_, rfl, a, _, rfl, f1, by decide, by decide, fun r H2 _ _ f2 k2 => ⟨_, _, rfl, rfl, q _ none H2 (.int _) f2 (k1.trans k2)⟩⟩
      refine ⟨_, rfl, rfl, _, rfl, ite2 (fun h => ?_) (fun h1 => ?_)⟩
      · refine ⟨_, rfl, by show 4 ≤ sizeLine; decide, fun g hg => ⟨a, _, rfl, f1.new hg, .inr ⟨g, _, rfl, f1.ne hg, .inl (SqL.of upd_same), by simp, by show 4 ≤ 1000; decide, fun v H2 hv f2 k2 => ?_⟩⟩⟩
        have hv' : v = .bl true ∨ v = .bl false ∨ v = .non := by
          simp only [List.mem_cons, List.not_mem_nil, or_false] at hv
          rcases hv with h | h | h | h
          · exact .inl h
          · exact .inr (.inl h)
          · exact .inr (.inr h)
          · exact .inr (.inr h)
        rcases hv' with rfl | rfl | rfl
        · exact q _ none H2 (.bl _) f2 ((k1.new hg).trans k2)
        · exact q _ none H2 (.bl _) f2 ((k1.new hg).trans k2)
        · exact q _ none H2 .non f2 ((k1.new hg).trans k2)
      refine ⟨_, rfl, rfl, _, rfl, ite2 (fun h => ?_) (fun h2 => ?_)⟩
      · exact ⟨_, rfl, a, rfl, f1, fun l H2 hl f2 k2 => q _ (some l) H2 (.txt hl) f2 (k1.trans k2)⟩
      have nl : ∀ {l : List Nat}, Nm l → l.length ≤ 1000 := fun h => Nat.le_trans h.2.2.1 (by decide)
      refine ⟨_, rfl, rfl, _, rfl, ite2 (fun h => ?_) (fun h3 => ?_)⟩
      · refine ⟨_, rfl, a, rfl, f1, fun l H2 hl f2 k2 => ⟨_, rfl, a, rfl, f2, fun u H3 hu f3 k3 => ?_⟩⟩
        refine fun x dx hx hdx hne => mk_step hl.b hu.b (nl hl) (Nat.le_trans hu.2.2 (by decide)) upd_same fun H4 h4 kb => ⟨rfl, ?_⟩
        have s4 := made_same hx hdx kb
        exact q _ none H4 (.stp (h4.hid (f3.same s4)) hl.b hu.b) (f3.same s4) (((k1.trans k2).trans k3).trans (KB.of_same s4))
      refine ⟨_, rfl, rfl, _, rfl, ite2 (fun h => ?_) (fun h4 => ?_)⟩
      · refine ⟨_, rfl, a, rfl, f1, fun l H2 hl f2 k2 => ⟨l, rfl, hl.b, nl hl, fun p H3 hp h3 s3 => ?_⟩⟩
        exact q _ none H3 (.nam (h3.hid (f2.same s3)) hl.b) (f2.same s3) ((k1.trans k2).trans (KB.of_same s3))
      refine ⟨_, rfl, rfl, _, rfl, ite2 (fun h => ?_) (fun h5 => ?_)⟩
      · refine ⟨_, rfl, a, rfl, f1, fun l H2 hl f2 k2 => ?_⟩
        rw [plus_eq]
        refine fun r dx0 hx0 hdx0 hne0 => mk_step hl.b (u := wPlus) (by decide) (nl hl) (by decide) upd_same fun H3 h3 kb0 => ⟨rfl, ?_⟩
        have s3 := made_same hx0 hdx0 kb0
        have f3 := f2.same s3
        refine fun x dx hx hdx hne => ⟨[.ref x, .str (Str.ofString "up")], [.ref r], rfl, rfl, by show 1 ≤ sizeLine; decide, fun t ht => ?_⟩
        have h3' := h3
        obtain ⟨dr, er⟩ := h3'
        have nt : t ≠ x := fun z => by rw [z, upd_same] at ht; cases ht
        have ntd : t ≠ dx := fun z => by rw [z, upd_ne hne, upd_same] at ht; cases ht
        have ht3 : H3 t = none := by rw [upd_ne nt, upd_ne ntd] at ht; exact ht
        have er4 : (upd (upd (upd H3 dx (.own x)) x (.ins CT dx [])) t (.tup [.ref r])) r = some (.ins CS dr (stF l wPlus)) := by
          rw [upd_ne (ne_of_none er ht3), upd_ne (ne_of_none er hx), upd_ne (ne_of_none er hdx)]
          exact er
        refine ⟨x, dx, t, r, l, by rw [up_eq]; rfl, by rw [upd_ne nt.symm]; exact upd_same, upd_same, ⟨dr, er4⟩, fun H4 h4 kb => ⟨rfl, ?_⟩⟩
        obtain ⟨dy, q', r', e4, _⟩ := h4
        have s34 : Same H3 H4 := fun b o z => by
          refine kb _ _ (ne_of_none z hx) ?_
          rw [upd_ne (ne_of_none z ht3), upd_ne (ne_of_none z hx), upd_ne (ne_of_none z hdx)]
          exact z
        have f4 := f3.same s34
        exact q _ none H4 (.trt (hid_of (f4.neI e4) e4)) f4 (((k1.trans k2).trans (KB.of_same s3)).trans (KB.of_same s34))
      refine ⟨_, rfl, rfl, _, rfl, ite2 (fun h => ?_) (fun h6 => ?_)⟩
      · refine ⟨_, rfl, a, rfl, f1, fun l H2 hl f2 k2 => ?_⟩
        rw [plus_eq]
        refine fun r dx0 hx0 hdx0 hne0 => mk_step hl.b (u := wPlus) (by decide) (nl hl) (by decide) upd_same fun H3 h3 kb0 => ⟨rfl, ?_⟩
        have s3 := made_same hx0 hdx0 kb0
        have f3 := f2.same s3
        refine fun x dx hx hdx hne => ⟨[.ref x], [.ref r], rfl, rfl, by show 1 ≤ sizeLine; decide, fun t ht => ?_⟩
        have h3' := h3
        obtain ⟨dr, er⟩ := h3'
        have nt : t ≠ x := fun z => by rw [z, upd_same] at ht; cases ht
        have ntd : t ≠ dx := fun z => by rw [z, upd_ne hne, upd_same] at ht; cases ht
        have ht3 : H3 t = none := by rw [upd_ne nt, upd_ne ntd] at ht; exact ht
        have er4 : (upd (upd (upd H3 dx (.own x)) x (.ins CC dx [])) t (.tup [.ref r])) r = some (.ins CS dr (stF l wPlus)) := by
          rw [upd_ne (ne_of_none er ht3), upd_ne (ne_of_none er hx), upd_ne (ne_of_none er hdx)]
          exact er
        refine ⟨x, dx, t, r, l, rfl, by rw [upd_ne nt.symm]; exact upd_same, upd_same, ⟨dr, er4⟩, fun H4 h4 kb => ⟨rfl, ?_⟩⟩
        obtain ⟨dy, q', r', e4, _⟩ := h4
        have s34 : Same H3 H4 := fun b o z => by
          refine kb _ _ (ne_of_none z hx) ?_
          rw [upd_ne (ne_of_none z ht3), upd_ne (ne_of_none z hx), upd_ne (ne_of_none z hdx)]
          exact z
        have f4 := f3.same s34
        exact q _ none H4 (.chn (hid_of (f4.neI e4) e4)) f4 (((k1.trans k2).trans (KB.of_same s3)).trans (KB.of_same s34))
      -- a list, a tuple
      have hd0 : 0 < d := by
        have e : ∀ m : Int, ¬ decide (V.int wy = V.int m) = true → wy ≠ m := fun m hm e => hm (decide_eq_true (by rw [e]))
        have a0 := e 0 h0
        have a1 := e 1 h1
        have a2 := e 2 h2
        have a3 := e 3 h3
        have a4 := e 4 h4
        have a5 := e 5 h5
        have a6 := e 6 h6
        omega
      refine ⟨_, rfl, a, _, rfl, f1, by decide, by decide, fun r H2 r0 r1 f2 k2 => ⟨_, rfl, by omega, by omega, fun D hD => ?_⟩⟩
      have hDa : D ≠ a := f2.ne hD
      have k12 := k1.trans k2
      have hD0 : H D = none := k12.free hDa hD
      refine lc_range (lo := 0) (fun i H3 => ∃ xs : List V, xs.length = i ∧ H3 D = some (.lst xs) ∧ Fd H3 a ∧ KB a H H3) ⟨[], rfl, upd_same, f2.new hD, k12.new hD⟩ (fun i H3 hi hP => ?_) (fun H3 hP => ?_)
      · obtain ⟨xs, hl, hDc, f3, k3⟩ := hP
        refine ⟨rfl, yesT ?_⟩
        refine ⟨_, rfl, _, rfl, _, _, rfl, rfl, a, d - 1, ?_, f3, by omega, fun v o H4 hv f4 k4 => ?_⟩
        · show [V.ref a, V.int ((d : Int) - 1)] = _
          rw [show ((d : Int) - 1) = ((d - 1 : Nat) : Int) by omega]
        have hD4 := k4 D _ hDa hDc
        exact ⟨_, hD4, Nat.lt_of_lt_of_le (show xs.length < 100 by omega) (by decide), xs ++ [v], by simp [hl], upd_same, f4.upd hDa.symm, (k3.trans k4).upd0 hD0⟩
      · obtain ⟨xs, hl, hDc, f3, k3⟩ := hP
        refine ⟨_, rfl, rfl, _, rfl, ite2 (fun h => ?_) (fun h => ?_)⟩
        · exact ⟨_, rfl, q _ none H3 (.lst (hid_of hDa hDc)) f3 k3⟩
        · exact ⟨_, rfl, D, xs, rfl, .inl ⟨SqL.of hDc, fun t ht => q _ none _ (.tup (hid_of (f3.ne ht) upd_same)) (f3.new ht) (k3.new ht)⟩⟩
end
end KW

/-! ## own ==, !=, len, str -/
namespace KO
open PySem PySem.Spec PySem.W PyProof.Rows
section
variable {prog : Program} {w : World} {M : Model} {A : Around} {E : Value → Shared → Prop} {s : Shared} {K : Frag} {x C f L : Addr} {h₀ : Heap} {m : Str → Option Value} {ox : Obj} {od : Option Obj} {b tb : Value}
theorem ifBound_B {name : Str} {id : String} {args : List Value} {Q : Option Value → Shared → Prop} (X : K.In s.heap) (I : InstAt s.heap x ox C od) (hs : findIn K (.ref C) name = some (some (.builtin id)))
    (hb : ∀ self, bindSpecial (.builtin id) self = pure (.builtin id, [self])) (h : wpAny M A (call (.builtin id) (.ref x :: args)) (fun v => Q (some v)) E s) : wpAny M A (callSpecialIfBound? (.ref x) name args) Q E s := by
  simp only [callSpecialIfBound?, bindSpecialIfBound?]
  refine wpAny_holding (wpAny_bind (wpAny_bind (wpAny_bind (I.type.here ((looks_findIn X hs).here ?_)))))
  refine wpAny_bind (wpAny_askSetting (wpAny_ite ?_))
  have fin : wpAny M A (call (.builtin id) ([.ref x] ++ args) >>= fun v => pure (some v)) Q E s := wpAny_bind (wpAny_mono h (fun v s' h' => wpAny_pure h') fun _ _ h' => h')
  split
  · exact wpAny_bind ((Looks.of_pure (hb _)).here (wpAny_pure (by exact fin)))
  · exact wpAny_tryCatch (wpAny_bind ((Looks.of_pure (hb _)).here (wpAny_pure (by exact fin))))
theorem objNe {Q : Value → Shared → Prop} (hu : A.in1.units < cLine) (X : K.In s.heap) (I : InstAt s.heap x ox C od) (hm : mroIn K C (.type "object") = some true) (he : findIn K (.ref C) "__eq__" = some (some (.ref f))) (hf : isFn K (.ref f) = true)
    (h : wpAny (model prog w) A.in1 (call (.ref f) [.ref x, b]) (fun v s' => ∃ r, v = .bool r ∧ Q (.bool (!r)) s') E s) : wpAny (model prog w) A (call (.builtin "object.__ne__") [.ref x, b]) Q E s := by
  refine wpAny_call (codeAny_call_builtin PySem.F.slot_object_ne.plain PySem.F.entry_object_ne (check_slot (i := "object.__ne__") (owner := "object") (n := "__ne__") (by decide +kernel) (by decide +kernel) (I.type.andThen (looks_mroIn X hm)) (PySem.F.args_object_ne_2 _ _) ?_))
  unfold Builtin.«object.__ne__»
  refine wpAny_bind (m := slotArgs "__ne__" 1 _) (wpAny_pure ?_)
  refine wpAny_bind (m := cRoomFor _ _) (wpAny_cRoomFor hu ?_)
  refine wpAny_bind (m := callSpecialIfBound? (.ref x) (Str.ofString "__eq__") _) (ifBound_K X I he hf (wpAny_mono h (fun r s' hq => ?_) fun _ _ y => y))
  obtain ⟨r, rfl, hq⟩ := hq
  refine wpAny_bind (m := truthy (.bool r)) (wpAny_truthy_bool ?_)
  exact wpAny_pure hq
theorem ne_K {Q : Value → Shared → Prop} (hu : A.units + 1 < cLine) (F : Fr h₀ L s.heap m) (X₀ : K.In h₀) (I : InstAt s.heap x ox C od) (hb : Looks (model prog w) s.heap (typeOf b) tb) (hn : notFirst K C tb = true)
    (hs : findIn K (.ref C) "__ne__" = some (some (.builtin "object.__ne__"))) (hm : mroIn K C (.type "object") = some true) (he : findIn K (.ref C) "__eq__" = some (some (.ref f))) (hf : isFn K (.ref f) = true)
    (h : wpAny (model prog w) A.in1 (call (.ref f) [.ref x, b]) (fun v s' => ∃ r, v = .bool r ∧ Q (.bool (!r)) s') E s) : wpAny (model prog w) A (richCompare .NotEq (.ref x) b) Q E s := by
  have X := X₀.keeps F.keep
  have one : wpAny (model prog w) A (tryCompare (.ref x) (cmpInfo .NotEq).2.1 b) (fun r s' => ∃ v, r = some v ∧ Q v s') E s := by
    unfold tryCompare
    refine wpAny_bind (ifBound_B X I hs PySem.F.slot_object_ne.bind (objNe hu X I hm he hf (wpAny_mono h (fun v s' hv => ?_) fun _ _ e => e)))
    obtain ⟨r, rfl, hv⟩ := hv
    exact ⟨r, rfl, wpAny_pure ⟨_, rfl, hv⟩⟩
  unfold richCompare
  simp only [oneThing_ref]
  refine wpAny_holding (wpAny_bind (wpAny_cRoomFor (Nat.lt_of_succ_lt hu) ?_))
  refine wpAny_bind (I.type.here (wpAny_bind (hb.here ?_)))
  split
  · rename_i q
    have e : subIn K tb (.ref C) = some false := by
      rcases Bool.or_eq_true_iff.mp hn with e | e
      · rw [beq_iff_eq.mp e] at q; simp at q
      · exact beq_iff_eq.mp e
    refine wpAny_bind ((looks_subIn X e).here ?_)
    simp only [Bool.false_eq_true, if_false]
    refine wpAny_bind (wpAny_mono one (fun r s' z => ?_) fun _ _ e => e)
    obtain ⟨v, rfl, hq⟩ := z
    exact wpAny_pure hq
  · refine wpAny_bind (wpAny_pure ?_)
    simp only [Bool.false_eq_true, if_false]
    refine wpAny_bind (wpAny_mono one (fun r s' z => ?_) fun _ _ e => e)
    obtain ⟨v, rfl, hq⟩ := z
    exact wpAny_pure hq
end
end KO

namespace KW
open PySem PySem.Spec PyProof.Rows L2
section
variable {X : Cx} {pins : List (Addr × Obj)} {σ : L2.St} {H : Hp} {s : Shared}
theorem ty_looks (I : Inv X pins σ H s) {y : V} {u t : Value} (r : RelV y u) (ty : TyOf X.K H y t) (hd : t ≠ .type "dict") : PySem.W.Looks (model X.prog X.w) s.heap (typeOf u) t := by
  have ref : ∀ {a : Addr} {o : Obj}, s.heap.get? a = some o → PySem.W.Looks (model X.prog X.w) s.heap (typeOf (.ref a)) o.cls := fun {a o} h A Q E s' k q => wpAny_typeOf_ref (k _ _ h) q
  cases ty with
  | non => cases (show u = Value.none from r); exact PySem.W.Looks.of_pure rfl
  | bl y => cases (show u = Value.bool y from r); exact PySem.W.Looks.of_pure rfl
  | int i => obtain ⟨t, q⟩ := (show ∃ t, u = Value.int i t from r); cases q; exact PySem.W.Looks.of_pure rfl
  | str y => obtain ⟨t, q⟩ := (show ∃ t, u = Value.str y t from r); cases q; exact PySem.W.Looks.of_pure rfl
  | flt y => obtain ⟨t, q⟩ := (show ∃ t, u = Value.float y t from r); cases q; exact PySem.W.Looks.of_pure rfl
  | @lst a xs ea =>
    cases (show u = Value.ref a from r)
    obtain ⟨_, _, n, _, h1⟩ := (show ObjOk X.prog X.w H s.heap a (.lst xs) from I.hok a _ ea)
    exact ref h1
  | @frz a ob xs ea =>
    cases (show u = Value.ref a from r)
    obtain ⟨_, _, _, n, _, h1⟩ := (show ObjOk X.prog X.w H s.heap a (.frz ob (.lst xs)) from I.hok a _ ea)
    exact ref h1
  | @tup a xs ea =>
    cases (show u = Value.ref a from r)
    obtain ⟨its, rv, ⟨o, ho, hc, _⟩, _⟩ := I.tuple (SqT.of ea)
    have := ref ho
    rw [hc] at this
    exact this
  | @dK a kvs ea => exact absurd rfl hd
  | @dT a kvs ea => exact absurd rfl hd
  | @ins a C dx fs ea cl ha hn htk hm =>
    cases (show u = Value.ref a from r)
    obtain ⟨mA, J, _⟩ := ins_get I.hok ea
    obtain ⟨od, J, _⟩ := J.look
    exact J.type
end
/-- what a class with an own == says -/
structure EqC (K : PySem.W.Frag) (C f : Addr) : Prop where
  eq : PySem.W.findIn K (.ref C) "__eq__" = some (some (.ref f))
  fn : PySem.W.isFn K (.ref f) = true
  ne : PySem.W.findIn K (.ref C) "__ne__" = some (some (.builtin "object.__ne__"))
  ob : PySem.W.mroIn K C (.type "object") = some true
structure OEq (P : Program) (w : World) (K : PySem.W.Frag) (mg : Str → Option Value) (base : Heap) (k : Nat) (C : Addr) (sp : Sp) : Prop where
  ex : ∃ f fd ps, EqC K C f ∧ FnOk P w K mg base CX0 k f fd ps sp ∧ Binds K fd ps []
def rOEq (K : PySem.W.Frag) (C : Addr) (sp : Sp) (neg : Bool) : R2 := fun x y H Q => ∃ (a dx : Addr) (fs : List (Str × V)) (t : Value), x = .ref a ∧ H a = some (.ins C dx fs) ∧ TyOf K H y t ∧ t ≠ .type "dict" ∧ PySem.W.notFirst K C t = true ∧
  sp [x, y] H (fun v H' => ∃ b, v = .bl b ∧ Q (.bl (if neg then !b else b)) H') E0
theorem op_oeq {X : Cx} {k : Nat} {C : Addr} {sp : Sp} (K : PySem.W.Frag) (hK : X.K = K) (c : OEq X.prog X.w K X.mg X.base k C sp) (hr : Room k X.A) : OpR X (compareOp .Eq) (rOEq K C sp false) := by
  subst hK
  intro pins s σ H x y v u Q I rx ry h
  obtain ⟨a, dx, fs, t, rfl, ha, ty, nd, nf, hsp⟩ := h
  obtain ⟨f, fd, ps, e, F, hb⟩ := c.ex
  cases rx
  obtain ⟨mA, J, _⟩ := ins_get I.hok ha
  obtain ⟨od, J, _⟩ := J.look
  obtain ⟨m, hF⟩ := I.fr
  show wpAny (model X.prog X.w) X.A (richCompare .Eq (.ref a) u) _ _ _
  refine PySem.W.cmp_K (op := .Eq) (tb := t) hr.units0 hF I.ok.mod.kin J (ty_looks I ry ty nd) nf e.eq e.fn ?_
  have r2 : Vals [V.ref a, y] [Value.ref a, u] := .cons rfl (.cons ry .nil)
  have hl := F.len _ _ _ _ hsp
  have bb := hb s [.ref a, u] I.kIn (by rw [List.append_nil]; exact hl)
  rw [List.append_nil] at bb
  refine wpAny_call (codeAny_mono (F.run X.A X.stack s H ⟨[.ref a, u], []⟩ [.ref a, u] [.ref a, y] _ E0 hr I.env0 bb r2 hsp) fun r s' hq => ?_)
  cases r with
  | error e => exact hq.elim
  | ok fl =>
    cases fl with
    | ret w' =>
      obtain ⟨z, H', I', rz, b, ez, q⟩ := I.after hq
      subst ez
      cases rz
      exact ⟨.bl b, H', I', rfl, q⟩
    | next => exact False.elim hq
    | brk => exact False.elim hq
    | cont => exact False.elim hq
theorem op_one {X : Cx} {k : Nat} {C : Addr} {sp : Sp} (K : PySem.W.Frag) (hK : X.K = K) (c : OEq X.prog X.w K X.mg X.base k C sp) (hr : Room (k + 1) X.A) : OpR X (compareOp .NotEq) (rOEq K C sp true) := by
  subst hK
  intro pins s σ H x y v u Q I rx ry h
  obtain ⟨a, dx, fs, t, rfl, ha, ty, nd, nf, hsp⟩ := h
  obtain ⟨f, fd, ps, e, F, hb⟩ := c.ex
  cases rx
  obtain ⟨mA, J, _⟩ := ins_get I.hok ha
  obtain ⟨od, J, _⟩ := J.look
  obtain ⟨m, hF⟩ := I.fr
  show wpAny (model X.prog X.w) X.A (richCompare .NotEq (.ref a) u) _ _ _
  refine KO.ne_K (tb := t) (by have := hr.units; omega) hF I.ok.mod.kin J (ty_looks I ry ty nd) nf e.ne e.ob e.eq e.fn ?_
  have r2 : Vals [V.ref a, y] [Value.ref a, u] := .cons rfl (.cons ry .nil)
  have hl := F.len _ _ _ _ hsp
  have bb := hb s [.ref a, u] I.kIn (by rw [List.append_nil]; exact hl)
  rw [List.append_nil] at bb
  have e0 : Env0 X.prog X.w X.K X.mg X.base X.A.in1 X.stack s H := by
    have e := I.env0
    exact ⟨e.frames, e.mod, e.bs, e.bsz, e.funs, e.frf, e.hok, e.bare⟩
  refine wpAny_call (codeAny_mono (F.run X.A.in1 X.stack s H ⟨[.ref a, u], []⟩ [.ref a, u] [.ref a, y] _ E0 hr.in1 e0 bb r2 hsp) fun r s' hq => ?_)
  cases r with
  | error e => exact hq.elim
  | ok fl =>
    cases fl with
    | ret w' =>
      obtain ⟨z, H', I', rz, b, ez, q⟩ := I.after hq
      subst ez
      cases rz
      exact ⟨b, rfl, .bl (!b), H', I', rfl, q⟩
    | next => exact False.elim hq
    | brk => exact False.elim hq
    | cont => exact False.elim hq
end KW

/-! ## len and str of own instances; Step's methods -/
namespace KW
open PySem PySem.Spec PyProof.Rows L2
/-- an own special method m of the class C -/
structure OSp (P : Program) (w : World) (K : PySem.W.Frag) (mg : Str → Option Value) (base : Heap) (k : Nat) (C : Addr) (m : Str) (sp : Sp) : Prop where
  ex : ∃ f fd ps, PySem.W.findIn K (.ref C) m = some (some (.ref f)) ∧ PySem.W.isFn K (.ref f) = true ∧ FnOk P w K mg base CX0 k f fd ps sp ∧ Binds K fd ps []
def rOLen (C : Addr) (sp : Sp) : List V → Hp → VK → Prop := fun xs H Q => ∃ (a dx : Addr) (fs : List (Str × V)), xs = [.ref a] ∧ H a = some (.ins C dx fs) ∧ sp [.ref a] H (fun v H' => ∃ n : Nat, v = .int n ∧ n < 9223372036854775808 ∧ Q (.int n) H') E0
def rOStr (C : Addr) (sp : Sp) : List V → Hp → VK → Prop := fun xs H Q => ∃ (a dx : Addr) (fs : List (Str × V)), xs = [.ref a] ∧ H a = some (.ins C dx fs) ∧ sp [.ref a] H (fun v H' => ∃ y : Str, v = .str y ∧ Q (.str y) H') E0
section
variable {X : Cx} {k : Nat} {C : Addr} {sp : Sp} (K : PySem.W.Frag) (hK : X.K = K)
include hK
theorem call_olen (c : OSp X.prog X.w K X.mg X.base k C "__len__" sp) (hr : Room (k + 1) X.A) : CallR X (.builtin "len") (rOLen C sp) := by
  subst hK
  intro pins s σ H xs us Q I r h
  obtain ⟨a, dx, fs, rfl, ha, hsp⟩ := h
  obtain ⟨f, fd, ps, e1, e2, F, hb⟩ := c.ex
  rw [Vals.ref1 r]
  obtain ⟨mA, J, _⟩ := ins_get I.hok ha
  obtain ⟨od, J, _⟩ := J.look
  obtain ⟨m, hF⟩ := I.fr
  refine PySem.W.len_K hF I.ok.mod.kin J e1 e2 ?_
  have r2 : Vals [V.ref a] [Value.ref a] := .cons rfl .nil
  have hl := F.len _ _ _ _ hsp
  have bb := hb s [.ref a] I.kIn (by rw [List.append_nil]; exact hl)
  rw [List.append_nil] at bb
  have e0 : Env0 X.prog X.w X.K X.mg X.base X.A.in1 X.stack s H := by
    have e := I.env0
    exact ⟨e.frames, e.mod, e.bs, e.bsz, e.funs, e.frf, e.hok, e.bare⟩
  refine wpAny_call (codeAny_mono (F.run X.A.in1 X.stack s H ⟨[.ref a], []⟩ [.ref a] [.ref a] _ E0 hr.in1 e0 bb r2 hsp) fun r s' hq => ?_)
  cases r with
  | error e => exact hq.elim
  | ok fl =>
    cases fl with
    | ret w' =>
      obtain ⟨z, H', I', rz, n, ez, hn, q⟩ := I.after hq
      subst ez
      obtain ⟨t, rfl⟩ := rz
      exact ⟨⟨by omega, by omega⟩, .int n, H', I'.tok _, ⟨_, rfl⟩, q⟩
    | next => exact False.elim hq
    | brk => exact False.elim hq
    | cont => exact False.elim hq
theorem call_ostr (c : OSp X.prog X.w K X.mg X.base k C "__str__" sp) (hr : Room (k + 2) X.A) : CallR X (.type "str") (rOStr C sp) := by
  subst hK
  intro pins s σ H xs us Q I r h
  obtain ⟨a, dx, fs, rfl, ha, hsp⟩ := h
  obtain ⟨f, fd, ps, e1, e2, F, hb⟩ := c.ex
  rw [Vals.ref1 r]
  obtain ⟨mA, J, _⟩ := ins_get I.hok ha
  obtain ⟨od, J, _⟩ := J.look
  have hr2 : Room k X.A.in1.in1 := hr.in1.in1
  refine PySem.W.kso_call hr2.units0 I.kIn J e1 e2 ?_
  have r2 : Vals [V.ref a] [Value.ref a] := .cons rfl .nil
  have hl := F.len _ _ _ _ hsp
  have bb := hb s [.ref a] I.kIn (by rw [List.append_nil]; exact hl)
  rw [List.append_nil] at bb
  have e0 : Env0 X.prog X.w X.K X.mg X.base X.A.in1.in1 X.stack s H := by
    have e := I.env0
    exact ⟨e.frames, e.mod, e.bs, e.bsz, e.funs, e.frf, e.hok, e.bare⟩
  refine wpAny_call (codeAny_mono (F.run X.A.in1.in1 X.stack s H ⟨[.ref a], []⟩ [.ref a] [.ref a] _ E0 hr2 e0 bb r2 hsp) fun r s' hq => ?_)
  cases r with
  | error e => exact hq.elim
  | ok fl =>
    cases fl with
    | ret w' =>
      obtain ⟨z, H', I', rz, y, ez, q⟩ := I.after hq
      subst ez
      obtain ⟨t, rfl⟩ := rz
      exact ⟨.str y, H', I', ⟨t, rfl⟩, q⟩
    | next => exact False.elim hq
    | brk => exact False.elim hq
    | cont => exact False.elim hq
end
end KW

/-! ## Step: ==, len, str -/
namespace KW
open PySem PySem.Spec PyProof.Rows L2
section
variable {P : Program} {w : World} {K : PySem.W.Frag} {mg : Str → Option Value} {base : Heap}
theorem Dm.osp {C : Addr} {m qual : Str} {st : Stmt} {N ps : List Str} {k : Nat} {sp : Sp} (F : Dm K C m qual st ps) (S : FnScope N ps (defScope st)) (len : ∀ vs H Q E, sp vs H Q E → vs.length = ps.length)
    (hbody : ∀ (f : Addr) (cdv : Value) (A : Around) (outer : List Env) (s : Shared) (H : Hp) (vs : List V) (Q : VK) (E : XK), Room k (A.deeper (envOfC qual (defScope st) s.heap.objs.size f cdv)) → sp vs H Q E →
      ∃ t, PSs (cxOf CX0 P w K mg base N qual (defScope st) f cdv A outer s H E).nox (defBody st) t ∧ t { nx := fun _ H' => Q .non H', rt := Q } (start N vs) H) : OSp P w K mg base (k + 1) C m sp := by
  obtain ⟨f, fd, c, me, F, b⟩ := F.ex
  obtain ⟨h1, h2, _⟩ := me
  exact ⟨f, fd, ps, h1, h2, F.ok S len (hbody f), b⟩
theorem OSp.oeq {k : Nat} {C : Addr} {sp : Sp} (c : OSp P w K mg base k C "__eq__" sp) (hne : PySem.W.findIn K (.ref C) "__ne__" = some (some (.builtin "object.__ne__"))) (hob : PySem.W.mroIn K C (.type "object") = some true) : OEq P w K mg base k C sp := by
  obtain ⟨f, fd, ps, h1, h2, F, b⟩ := c.ex
  exact ⟨f, fd, ps, ⟨h1, h2, hne, hob⟩, F, b⟩
theorem ospMono {j k : Nat} {C : Addr} {m : Str} {sp : Sp} (c : OSp P w K mg base j C m sp) (h : j ≤ k) : OSp P w K mg base k C m sp := by
  obtain ⟨f, fd, ps, h1, h2, F, b⟩ := c.ex
  exact ⟨f, fd, ps, h1, h2, F.mono h, b⟩
theorem oeqMono {j k : Nat} {C : Addr} {sp : Sp} (c : OEq P w K mg base j C sp) (h : j ≤ k) : OEq P w K mg base k C sp := by
  obtain ⟨f, fd, ps, h1, F, b⟩ := c.ex
  exact ⟨f, fd, ps, h1, F.mono h, b⟩
abbrev s_Step___eq__ : Stmt := inClass (topS 29) 5
theorem sc_Step___eq__ : FnScope ["self", "other"] ["self", "other"] (defScope s_Step___eq__) := ⟨rfl, rfl, rfl, by decide +kernel, rfl, by decide +kernel, by decide +kernel⟩
/-- what == of the step n u with y answers -/
def StY (K : PySem.W.Frag) (CS : Addr) (H : Hp) (n u : List Nat) (y : V) (r : Bool) : Prop :=
  (∃ (b : Addr) (n' u' : List Nat), y = .ref b ∧ StAt CS H b n' u' ∧ r = (decide (n = n') && decide (u = u'))) ∨ ∃ t, TyX K H y t ∧ PySem.W.kitOne K t (.ref CS) = some false ∧ r = false
def spStEq (K : PySem.W.Frag) (CS : Addr) : Sp := fun vs H Q _ => ∃ (a : Addr) (n u : List Nat) (y : V) (r : Bool), vs = [.ref a, y] ∧ StAt CS H a n u ∧ StY K CS H n u y r ∧ Q (.bl r) H
theorem txt_eq (a b : List Nat) : decide (V.str (S a) = V.str (S b)) = decide (a = b) := decide_eq_decide.mpr ⟨fun e => SX.S_inj (V.str.inj e), fun e => by rw [e]⟩
theorem ok_StEq {k : Nat} {CS : Addr} (B : Bi mg) (T : StC K CS) (IS : IsC K CS) (hStep : mg "Step" = some (.ref CS)) (F : Dm K CS "__eq__" "Step.__eq__" s_Step___eq__ ["self", "other"]) : OSp P w K mg base (k + 1) CS "__eq__" (spStEq K CS) := by
  refine F.osp sc_Step___eq__ (fun vs H Q E h => ?_) (fun f cdv A outer s H vs Q E hr h => ?_)
  · obtain ⟨a, n, u, y, r, rfl, _⟩ := h
    rfl
  · obtain ⟨a, n, u, y, r, rfl, ⟨dx, ha⟩, hy, q⟩ := h
    refine ⟨_, (pss_one (ps_ret (pe_and (pe_callB (kk_isi K rfl) rfl B.isinstance (by decide +kernel) (pa_cons (pv 1) (pa_cons (pe_gref rfl hStep) pa_nil))) (pe_and (pe_cmpR op_eq (kk_fld K rfl (pv 0) rfl) (kk_fld K rfl (pv 1) rfl) (nomark _)) (pe_one (pe_cmpR op_eq (kk_fld K rfl (pv 0) rfl) (kk_fld K rfl (pv 1) rfl) (nomark _))))))), ?_⟩
    rcases hy with ⟨b, n', u', rfl, ⟨db, hb⟩, rfl⟩ | ⟨t, ty, ek, rfl⟩
    · refine ⟨_, rfl, _, _, _, _, true, rfl, .own _, IS.ty hb, kit_self K CS, _, rfl, iteT ?_⟩
      refine ⟨_, rfl, a, CS, dx, _, _, rfl, ha, T.cl, T.nN, stF_name _ _, _, rfl, b, CS, db, _, _, rfl, hb, T.cl, T.nN, stF_name _ _, rfl, _, rfl, ?_⟩
      rw [txt_eq]
      cases hn : decide (n = n') with
      | false =>
        rw [hn, Bool.false_and] at q
        exact iteF q
      | true =>
        rw [hn, Bool.true_and] at q
        refine iteT ⟨_, rfl, a, CS, dx, _, _, rfl, ha, T.cl, T.nW, stF_ways _ _, _, rfl, b, CS, db, _, _, rfl, hb, T.cl, T.nW, stF_ways _ _, rfl, ?_⟩
        rw [txt_eq]
        exact q
    · exact ⟨_, rfl, _, _, t, _, false, rfl, .own _, ty, ek, _, rfl, iteF q⟩
abbrev s_Step___len__ : Stmt := inClass (topS 29) 4
theorem sc_Step___len__ : FnScope ["self"] ["self"] (defScope s_Step___len__) := ⟨rfl, rfl, rfl, by decide +kernel, rfl, by decide +kernel, by decide +kernel⟩
def spStLen (CS : Addr) : Sp := fun vs H Q _ => ∃ (a : Addr) (n u : List Nat), vs = [.ref a] ∧ StAt CS H a n u ∧ u.length ≤ 1000 ∧ Q (.int (u.length : Nat)) H
theorem ok_StLen {k : Nat} {CS : Addr} (B : Bi mg) (T : StC K CS) (F : Dm K CS "__len__" "Step.__len__" s_Step___len__ ["self"]) : OSp P w K mg base (k + 1) CS "__len__" (spStLen CS) := by
  refine F.osp sc_Step___len__ (fun vs H Q E h => ?_) (fun f cdv A outer s H vs Q E hr h => ?_)
  · obtain ⟨a, n, u, rfl, _⟩ := h
    rfl
  · obtain ⟨a, n, u, rfl, ⟨dx, ha⟩, hu, q⟩ := h
    refine ⟨_, (pss_one (ps_ret (pe_callB (kk_len K rfl) rfl B.len PySem.boot_len (pa_cons (kk_fld K rfl (pv 0) rfl) pa_nil)))), ?_⟩
    refine ⟨_, rfl, a, CS, dx, _, _, rfl, ha, T.cl, T.nW, stF_ways _ _, _, _, rfl, ⟨Nat.le_trans (m := 1000) (by rw [slen]; exact hu) (by decide), rfl⟩, ?_⟩
    rw [slen]
    exact q
abbrev s_Step___str__ : Stmt := inClass (topS 29) 6
theorem sc_Step___str__ : FnScope ["self"] ["self"] (defScope s_Step___str__) := ⟨rfl, rfl, rfl, by decide +kernel, rfl, by decide +kernel, by decide +kernel⟩
abbrev sp1 : List Nat := [32]
theorem sp1_eq : (Str.ofString " ") = S sp1 := by decide +kernel
def spStStr (CS : Addr) : Sp := fun vs H Q _ => ∃ (a : Addr) (n u : List Nat), vs = [.ref a] ∧ StAt CS H a n u ∧ n.length ≤ 1000 ∧ u.length ≤ 1000 ∧ Q (.str (S ((n ++ sp1) ++ u))) H
theorem ok_StStr {k : Nat} {CS : Addr} (T : StC K CS) (F : Dm K CS "__str__" "Step.__str__" s_Step___str__ ["self"]) : OSp P w K mg base (k + 1) CS "__str__" (spStStr CS) := by
  refine F.osp sc_Step___str__ (fun vs H Q E h => ?_) (fun f cdv A outer s H vs Q E hr h => ?_)
  · obtain ⟨a, n, u, rfl, _⟩ := h
    rfl
  · obtain ⟨a, n, u, rfl, ⟨dx, ha⟩, hn, hu, q⟩ := h
    refine ⟨_, (pss_one (ps_ret (pe_joined (PJ.cons (pe_fmt (kk_fld K rfl (pv 0) rfl)) (PJ.cons pe_str (PJ.cons (pe_fmt (kk_fld K rfl (pv 0) rfl)) PJ.nil)))))), ?_⟩
    have big : ∀ l : List Nat, l.length ≤ 10000 → (S l).length ≤ sizeLine := fun l h => Nat.le_trans (m := 10000) (by rw [slen]; exact h) (by decide)
    have e0 : ∀ l : List Nat, Str.empty ++ S l = S l := fun l => by
      rw [show Str.empty = S [] by decide +kernel, cat]
      rfl
    refine ⟨_, rfl, a, CS, dx, _, _, rfl, ha, T.cl, T.nN, stF_name _ _, .inl ⟨_, rfl, big _ (by omega), _, rfl, by rw [e0]; exact big _ (by omega), ?_⟩⟩
    rw [e0]
    refine ⟨_, rfl, by rw [sp1_eq, cat]; exact big _ (by rw [List.length_append]; simp; omega), _, rfl, a, CS, dx, _, _, rfl, ha, T.cl, T.nW, stF_ways _ _, .inl ⟨_, rfl, big _ (by omega), _, rfl, ?_, ?_⟩⟩
    · rw [sp1_eq, cat, cat]
      exact big _ (by rw [List.length_append, List.length_append]; simp; omega)
    · rw [sp1_eq, cat, cat]
      exact q
end
end KW

/-! ## _law_is_name, _law_are_ways -/
namespace KW
open PySem PySem.Spec PyProof.Rows L2
theorem sgnsP_shaped (cs : List Nat) (h : ∀ c ∈ cs, c ≤ 126) : SeqAt.shaped (.list (cs.map fun c => PyData.str (S [c]))) = true := by
  have h1 : ∀ cs : List Nat, (∀ c ∈ cs, c ≤ 126) → PyData.canLayAll0 (cs.map fun c => PyData.str (S [c])) = true := by
    intro cs
    induction cs with
    | nil => intro _; rfl
    | cons c r ih =>
      intro h
      have hc := h c (List.mem_cons_self ..)
      have hr := ih fun d hd => h d (List.mem_cons_of_mem _ hd)
      have hs : PyData.strOk (S [c]) = true := by
        unfold PyData.strOk
        rw [← Array.all_toList, List.all_eq_true]
        intro d hd
        have e : d = c := by simpa using hd
        subst e
        simp
        omega
      simp only [List.map_cons, PyData.canLayAll0, PyData.canLay0, hs, hr, Bool.and_self]
  have h2 : ∀ cs : List Nat, PyData.depthAll (cs.map fun c => PyData.str (S [c])) ≤ 1 := by
    intro cs
    induction cs with
    | nil => simp [PyData.depthAll]
    | cons c r ih => simp only [List.map_cons, PyData.depthAll, PyData.depth]; omega
  unfold SeqAt.shaped
  have h3 := h1 cs h
  have h4 := h2 cs
  rw [show PyData.canLay0 (.list (cs.map fun c => PyData.str (S [c]))) = true by simp only [PyData.canLay0, h3], Bool.true_and]
  refine decide_eq_true ?_
  simp only [PyData.depth]
  omega
theorem sgnsP_dp {K : PySem.W.Frag} {H : Hp} : ∀ cs : List Nat, DpAll K H (cs.map fun c => V.str (S [c])) (cs.map fun c => PyData.str (S [c]))
  | [] => .nil
  | c :: r => .cons (.str _) (sgnsP_dp r)
theorem sgnsP_eqv (cs : List Nat) : PyData.eqv (.list (cs.map fun c => PyData.str (S [c]))) (.list []) = decide (cs = []) := by
  cases cs with
  | nil => simp [PyData.eqv, PyData.eqvAll]
  | cons c r => simp [PyData.eqv, PyData.eqvAll]
def notLow (c : Nat) : Bool := decide (c < 97) || decide (122 < c)
theorem notLow_all (l : List Nat) : decide (l.filter notLow = []) = l.all fun c => decide (c ∈ abc) := by
  rw [Bool.eq_iff_iff, decide_eq_true_eq, List.filter_eq_nil_iff, List.all_eq_true]
  refine forall_congr' fun c => forall_congr' fun _ => ?_
  unfold notLow
  simp
  omega
section
variable {P : Program} {w : World} {K : PySem.W.Frag} {mg : Str → Option Value} {base : Heap}
abbrev s__law_is_name : Stmt := topS 42
theorem sc__law_is_name : FnScope ["_law_word_here", "_law_letter"] ["_law_word_here"] (defScope s__law_is_name) := ⟨rfl, rfl, rfl, by decide +kernel, rfl, by decide +kernel, by decide +kernel⟩
def spIsL (K : PySem.W.Frag) (f : Option (List Nat) → Bool) : Sp := fun vs H Q _ => ∃ (v : V) (o : Option (List Nat)), vs = [v] ∧ TxV K H v o ∧ (∀ l, o = some l → ∀ c ∈ l, c ≤ 126) ∧ ∀ H', Same H H' → Q (.bl (f o)) H'
theorem ok_law_is_name {k : Nat} (B : Bi mg) (F : Df K mg "_law_is_name" s__law_is_name ["_law_word_here"]) : C8.Cal P w K mg base (k + 1) "_law_is_name" (spIsL K nameB) [] := by
  refine F.cal sc__law_is_name (fun vs H Q E h => ?_) (fun f cdv A outer s H vs Q E hr h => ?_)
  · obtain ⟨v, o, rfl, _⟩ := h
    rfl
  · obtain ⟨v, o, rfl, hv, hc, q⟩ := h
    refine ⟨_, (pss_cons (ps_if (PW.pt (pw_or (pt_not (pt_val (pe_callB (kk_isi K rfl) rfl B.isinstance (by decide +kernel) (pa_cons (pv 0) (pa_cons (kt_str rfl B.ty_str) pa_nil))))) (pw_or (pt_cmpR op_lt (pe_callB (kk_len K rfl) rfl B.len PySem.boot_len (pa_cons (pv 0) pa_nil)) pe_int (nomark _)) (pw_or (pt_cmpR op_gt (pe_callB (kk_len K rfl) rfl B.len PySem.boot_len (pa_cons (pv 0) pa_nil)) pe_int (nomark _)) (pw_or1 (pt_cmpR (kk_in K rfl) (pv 0) (pe_tup (pa_cons pe_str (pa_cons pe_str (pa_cons pe_str pa_nil)))) rfl)))))) (pss_one (ps_ret pe_bl)) pss_nil)
      (pss_one (ps_ret (pe_cmpR (kk_eqD K rfl hr.units) (pe_lc (own := [("_law_letter", 1)]) (g := gName 1) rfl sc__law_is_name.nd (pi_str (pv 0)) (blkOk_by (own := [("_law_letter", 1)]) (N := ["_law_word_here", "_law_letter"]) (sc := defScope s__law_is_name) (by decide +kernel)) (fun _ _ _ _ _ => (pg_name (i := 1) sc__law_is_name.nd rfl (Or.inl rfl))) (fun _ _ _ _ _ => (pts_one (PW.pt (pw_or (pt_cmpR op_lt_str (pv 1) pe_str (nomark _)) (pw_or1 (pt_cmpR op_gt_str (pv 1) pe_str (nomark _))))))) (fun _ _ _ _ _ => (pv 1))) (pe_lst pa_nil) (nomark _))))), ?_⟩
    cases o with
    | none =>
      obtain ⟨t, ty, ek⟩ := hv
      exact ⟨_, rfl, _, _, t, _, false, rfl, .ty _, ty, ek, _, rfl, iteT (iteT (q _ fun _ _ z => z))⟩
    | some l =>
      obtain ⟨rfl, hl⟩ := hv
      have big : (S l).length ≤ sizeLine := Nat.le_trans (m := 1000) (by rw [slen]; exact hl) (by decide)
      have hch := hc l rfl
      have no : nmB l = false → Q (.bl false) H := fun e => by
        have := q H fun _ _ z => z
        rw [show nameB (some l) = false from e] at this
        exact this
      refine ⟨_, rfl, _, _, .type "str", _, true, rfl, .ty _, .base (.str _), kit_str K, _, rfl, iteF ?_⟩
      refine ⟨_, rfl, _, _, rfl, ⟨big, rfl⟩, _, _, rfl, rfl, _, rfl, ?_⟩
      rw [slen]
      by_cases h1 : 1 ≤ l.length
      case neg =>
        rw [decide_eq_true (by omega)]
        exact iteT (iteT (no (by unfold nmB; rw [decide_eq_false h1]; simp)))
      rw [decide_eq_false (by omega)]
      refine iteF ⟨_, rfl, _, _, rfl, ⟨big, rfl⟩, _, _, rfl, rfl, _, rfl, ?_⟩
      rw [slen]
      by_cases h4 : l.length ≤ 4
      case neg =>
        rw [decide_eq_true (by omega)]
        exact iteT (iteT (no (by unfold nmB; rw [decide_eq_false h4]; simp)))
      rw [decide_eq_false (by omega)]
      refine iteF ⟨_, rfl, by show 3 ≤ sizeLine; decide, fun t ht => ?_⟩
      have st := same_upd (o := .tup [V.str (Str.ofString "if"), V.str (Str.ofString "else"), V.str (Str.ofString "end")]) ht
      refine ⟨t, _, rfl, .inr (SqT.of upd_same), rfl, rfl, _, rfl, ?_⟩
      have ein : (if false = true then !inV (V.str (S l)) [V.str (Str.ofString "if"), V.str (Str.ofString "else"), V.str (Str.ofString "end")] else inV (V.str (S l)) [V.str (Str.ofString "if"), V.str (Str.ofString "else"), V.str (Str.ofString "end")]) = [wIf, wElse, wEnd].contains l := by
        rw [kept_eq]
        exact inV_LS l _
      rw [ein]
      generalize upd H t (.tup [V.str (Str.ofString "if"), V.str (Str.ofString "else"), V.str (Str.ofString "end")]) = H1 at *
      have e0 : nameB (some l) = ((l.all fun c => decide (c ∈ abc)) && !([wIf, wElse, wEnd].contains l)) := by
        show nmB l = _
        unfold nmB
        rw [decide_eq_true h1, decide_eq_true h4]
        rfl
      rw [e0] at q
      cases hk : [wIf, wElse, wEnd].contains l with
      | true =>
        rw [hk] at q
        simp only [Bool.not_true, Bool.and_false] at q
        exact iteT (q _ st)
      | false =>
        rw [hk] at q
        simp only [Bool.not_false, Bool.and_true] at q
        refine iteF ⟨_, rfl, S l, rfl, fun D hD => ?_⟩
        refine lc_txt notLow (fun c => V.str (S [c])) hD (by omega) (fun _ => rfl) (fun c _ H' R h => ?_) (fun c _ H' R h => ⟨_, rfl, h H' fun _ _ z => z⟩) fun H2 hD2 s2 => ?_
        · refine ⟨_, rfl, _, _, rfl, rfl, _, rfl, ?_⟩
          have lt1 : decide ((S [c]).cps.toList < (Str.ofString "a").cps.toList) = decide (c < 97) := by
            have ea : (Str.ofString "a").cps.toList = [97] := by decide +kernel
            rw [ea]
            refine decide_eq_decide.mpr ?_
            show [c] < [97] ↔ _
            simp [List.cons_lt_cons_iff]
          have gt1 : decide ((Str.ofString "z").cps.toList < (S [c]).cps.toList) = decide (122 < c) := by
            have ea : (Str.ofString "z").cps.toList = [122] := by decide +kernel
            rw [ea]
            refine decide_eq_decide.mpr ?_
            show [122] < [c] ↔ _
            simp [List.cons_lt_cons_iff]
          rw [lt1]
          have hh := h H' fun _ _ z => z
          unfold notLow at hh
          cases hc1 : decide (c < 97) with
          | true =>
            rw [hc1, Bool.true_or] at hh
            exact iteT hh
          | false =>
            rw [hc1, Bool.false_or] at hh
            refine iteF ⟨_, rfl, _, _, rfl, rfl, _, rfl, ?_⟩
            rw [gt1]
            exact hh
        refine ⟨by show 0 ≤ sizeLine; decide, fun p hp => ?_⟩
        refine ⟨.list ((l.filter notLow).map fun c => PyData.str (S [c])), .list [], .lst (SqL.of (same_upd hp _ _ hD2)) (sgnsP_dp _), .lst (SqL.of upd_same) .nil, sgnsP_shaped _ (fun c hc => hch c (List.mem_filter.mp hc).1), by decide, ?_⟩
        rw [sgnsP_eqv, notLow_all]
        exact q _ fun b o z => same_upd hp _ _ (s2 _ _ (st _ _ z))
abbrev s__law_are_ways : Stmt := topS 50
theorem sc__law_are_ways : FnScope ["_law_ways_here", "_law_sign_here"] ["_law_ways_here"] (defScope s__law_are_ways) := ⟨rfl, rfl, rfl, by decide +kernel, rfl, by decide +kernel, by decide +kernel⟩
def notWy (c : Nat) : Bool := !([[43], [45], [63]] : List (List Nat)).contains [c]
theorem notWy_all (l : List Nat) : decide (l.filter notWy = []) = l.all fun c => decide (c ∈ pmq) := by
  rw [Bool.eq_iff_iff, decide_eq_true_eq, List.filter_eq_nil_iff, List.all_eq_true]
  refine forall_congr' fun c => forall_congr' fun _ => ?_
  unfold notWy
  simp
  omega
theorem wys_eq : [V.str (Str.ofString "+"), V.str (Str.ofString "-"), V.str (Str.ofString "?")] = LS [[43], [45], [63]] := by decide +kernel
theorem ok_law_are_ways {k : Nat} (B : Bi mg) (F : Df K mg "_law_are_ways" s__law_are_ways ["_law_ways_here"]) : C8.Cal P w K mg base (k + 1) "_law_are_ways" (spIsL K waysB) [] := by
  refine F.cal sc__law_are_ways (fun vs H Q E h => ?_) (fun f cdv A outer s H vs Q E hr h => ?_)
  · obtain ⟨v, o, rfl, _⟩ := h
    rfl
  · obtain ⟨v, o, rfl, hv, hc, q⟩ := h
    refine ⟨_, (pss_cons (ps_if (PW.pt (pw_or (pt_not (pt_val (pe_callB (kk_isi K rfl) rfl B.isinstance (by decide +kernel) (pa_cons (pv 0) (pa_cons (kt_str rfl B.ty_str) pa_nil))))) (pw_or (pt_cmpR op_lt (pe_callB (kk_len K rfl) rfl B.len PySem.boot_len (pa_cons (pv 0) pa_nil)) pe_int (nomark _)) (pw_or1 (pt_cmpR op_gt (pe_callB (kk_len K rfl) rfl B.len PySem.boot_len (pa_cons (pv 0) pa_nil)) pe_int (nomark _)))))) (pss_one (ps_ret pe_bl)) pss_nil)
      (pss_one (ps_ret (pe_cmpR (kk_eqD K rfl hr.units) (pe_lc (own := [("_law_sign_here", 1)]) (g := gName 1) rfl sc__law_are_ways.nd (pi_str (pv 0)) (blkOk_by (own := [("_law_sign_here", 1)]) (N := ["_law_ways_here", "_law_sign_here"]) (sc := defScope s__law_are_ways) (by decide +kernel)) (fun _ _ _ _ _ => (pg_name (i := 1) sc__law_are_ways.nd rfl (Or.inl rfl))) (fun _ _ _ _ _ => (pts_one (pt_cmpR (kk_notIn K rfl) (pv 1) (pe_tup (pa_cons pe_str (pa_cons pe_str (pa_cons pe_str pa_nil)))) rfl))) (fun _ _ _ _ _ => (pv 1))) (pe_lst pa_nil) (nomark _))))), ?_⟩
    cases o with
    | none =>
      obtain ⟨t, ty, ek⟩ := hv
      exact ⟨_, rfl, _, _, t, _, false, rfl, .ty _, ty, ek, _, rfl, iteT (iteT (q _ fun _ _ z => z))⟩
    | some l =>
      obtain ⟨rfl, hl⟩ := hv
      have big : (S l).length ≤ sizeLine := Nat.le_trans (m := 1000) (by rw [slen]; exact hl) (by decide)
      have hch := hc l rfl
      have no : wyB l = false → Q (.bl false) H := fun e => by
        have := q H fun _ _ z => z
        rw [show waysB (some l) = false from e] at this
        exact this
      refine ⟨_, rfl, _, _, .type "str", _, true, rfl, .ty _, .base (.str _), kit_str K, _, rfl, iteF ?_⟩
      refine ⟨_, rfl, _, _, rfl, ⟨big, rfl⟩, _, _, rfl, rfl, _, rfl, ?_⟩
      rw [slen]
      by_cases h1 : 1 ≤ l.length
      case neg =>
        rw [decide_eq_true (by omega)]
        exact iteT (iteT (no (by unfold wyB; rw [decide_eq_false h1]; simp)))
      rw [decide_eq_false (by omega)]
      refine iteF ⟨_, rfl, _, _, rfl, ⟨big, rfl⟩, _, _, rfl, rfl, _, rfl, ?_⟩
      rw [slen]
      by_cases h4 : l.length ≤ 3
      case neg =>
        rw [decide_eq_true (by omega)]
        exact iteT (no (by unfold wyB; rw [decide_eq_false h4]; simp))
      rw [decide_eq_false (by omega)]
      have e0 : waysB (some l) = (l.all fun c => decide (c ∈ pmq)) := by
        show wyB l = _
        unfold wyB
        rw [decide_eq_true h1, decide_eq_true h4]
        rfl
      rw [e0] at q
      refine iteF ⟨_, rfl, S l, rfl, fun D hD => ?_⟩
      refine lc_txt notWy (fun c => V.str (S [c])) hD (by omega) (fun _ => rfl) (fun c _ H' R h => ?_) (fun c _ H' R h => ⟨_, rfl, h H' fun _ _ z => z⟩) fun H2 hD2 s2 => ?_
      · refine ⟨_, rfl, by show 3 ≤ sizeLine; decide, fun t ht => ⟨t, _, rfl, .inr (SqT.of upd_same), rfl, rfl, _, rfl, ?_⟩⟩
        have ein : (if true = true then !inV (V.str (S [c])) [V.str (Str.ofString "+"), V.str (Str.ofString "-"), V.str (Str.ofString "?")] else inV (V.str (S [c])) [V.str (Str.ofString "+"), V.str (Str.ofString "-"), V.str (Str.ofString "?")]) = notWy c := by
          rw [wys_eq]
          exact congrArg (!·) (inV_LS [c] _)
        rw [ein]
        exact h _ (same_upd ht)
      refine ⟨by show 0 ≤ sizeLine; decide, fun p hp => ?_⟩
      refine ⟨.list ((l.filter notWy).map fun c => PyData.str (S [c])), .list [], .lst (SqL.of (same_upd hp _ _ hD2)) (sgnsP_dp _), .lst (SqL.of upd_same) .nil, sgnsP_shaped _ (fun c hc => hch c (List.mem_filter.mp hc).1), by decide, ?_⟩
      rw [sgnsP_eqv, notWy_all]
      exact q _ fun b o z => same_upd hp _ _ (s2 _ _ z)
end
end KW

/-! ## _law_near_ways -/
namespace KW
open PySem PySem.Spec PyProof.Rows L2
section
variable {P : Program} {w : World} {K : PySem.W.Frag} {mg : Str → Option Value} {base : Heap}
abbrev s__law_near_ways : Stmt := topS 49
theorem sc__law_near_ways : FnScope ["_law_feed_here", "_law_way", "_law_found", "_law_k"] ["_law_feed_here"] (defScope s__law_near_ways) := ⟨rfl, rfl, rfl, by decide +kernel, rfl, by decide +kernel, by decide +kernel⟩
def spNW (CS CE CT CC : Addr) : Sp := fun vs H Q _ => ∃ (a : Addr), vs = [.ref a] ∧ Fd H a ∧ ∀ (v : V) (o : Option (List Nat)) (H' : Hp), AvAt CS CE CT CC (hid a H') v o → Fd H' a → KB a H H' → Q v H'
theorem pmq_tx {l : List Nat} (h : ∀ c ∈ l, c ∈ pmq) (hl : l.length ≤ 8) : Tx 8 1 l := ⟨fun c hc => by have := h c hc; simp at this; omega, hl, by
  rw [List.count_eq_zero_of_not_mem (fun hm => by have := h 10 hm; simp at this)]
  decide⟩
theorem ok_near_ways {k : Nat} {CS CE CT CC : Addr} (B : Bi mg) (F : Df K mg "_law_near_ways" s__law_near_ways ["_law_feed_here"]) (G_law_draw : C8.Cal P w K mg base k "_law_draw" spDraw []) (G_law_pick : C8.Cal P w K mg base k "_law_pick" (spPick K) [])
    (G_law_bent : C8.Cal P w K mg base k "_law_bent" spBent []) (G_law_any : C8.Cal P w K mg base k "_law_any" (spAny CS CE CT CC 3) []) : C8.Cal P w K mg base (k + 1) "_law_near_ways" (spNW CS CE CT CC) [] := by
  refine F.cal sc__law_near_ways (fun vs H Q E h => ?_) (fun f cdv A outer s H vs Q E hr h => ?_)
  · obtain ⟨a, rfl, _⟩ := h
    rfl
  · obtain ⟨a, rfl, f0, q⟩ := h
    refine ⟨_, (pss_cons (ps_set (i := 1) sc__law_near_ways.nd rfl (Or.inl rfl) (C8.pe_c G_law_draw hr (Nat.le_refl _) rfl (pa_cons (pv 0) (pa_cons pe_int pa_nil))))
      (pss_cons (ps_if (pt_cmpR op_eq (pv 1) pe_int (nomark _)) (pss_one (ps_ret (C8.pe_c G_law_any hr (Nat.le_refl _) rfl (pa_cons (pv 0) (pa_cons pe_int pa_nil))))) pss_nil)
      (pss_cons (ps_set (i := 2) sc__law_near_ways.nd rfl (Or.inl rfl) (kk_bm K rfl PySem.F.plainAttrs_str PySem.F.slot_str_join PySem.F.type_str_join (kk_join K rfl) pe_str (pa_cons (pe_lc (own := [("_law_k", 3)]) (g := gName 3) (tt := tYes) rfl sc__law_near_ways.nd (pi_range1 rfl B.range (pa_cons (C8.pe_c G_law_draw hr (Nat.le_refl _) rfl (pa_cons (pv 0) (pa_cons pe_int pa_nil))) pa_nil)) (blkOk_by (own := [("_law_k", 3)]) (N := ["_law_feed_here", "_law_way", "_law_found", "_law_k"]) (sc := defScope s__law_near_ways) (by decide +kernel)) (fun _ _ _ _ _ => (pg_name (i := 3) sc__law_near_ways.nd rfl (Or.inl rfl))) (fun _ _ _ _ _ => pts_nil) (fun _ _ _ _ _ => (C8.pe_c G_law_pick hr (Nat.le_refl _) rfl (pa_cons (pv 0) (pa_cons pe_str pa_nil))))) pa_nil)))
      (pss_one (ps_ret (pe_ifExp (pt_cmpR op_eq (pv 1) pe_int (nomark _)) (C8.pe_c G_law_bent hr (Nat.le_refl _) rfl (pa_cons (pv 0) (pa_cons (pv 2) pa_nil))) (pv 2))))))), ?_⟩
    refine ⟨_, rfl, a, _, rfl, f0, by decide, by decide, fun wy H1 w0 w1 f1 k1 => ?_⟩
    refine ⟨_, rfl, rfl, _, rfl, ite2 (fun h => ?_) (fun h => ?_)⟩
    · exact ⟨_, rfl, a, 2, rfl, f1, by decide, fun v o H2 hv f2 k2 => q v o H2 hv f2 (k1.trans k2)⟩
    refine ⟨rfl, _, rfl, a, _, rfl, f1, by decide, by decide, fun r H2 r0 r1 f2 k2 => ⟨_, rfl, by omega, by omega, fun D hD => ?_⟩⟩
    have hDa : D ≠ a := f2.ne hD
    have k12 := k1.trans k2
    have hD0 : H D = none := k12.free hDa hD
    refine lc_range (lo := 0) (fun i H3 => ∃ cs : List Nat, cs.length = i ∧ (∀ c ∈ cs, c ∈ pmq) ∧ H3 D = some (.lst (cs.map fun c => V.str (S [c]))) ∧ Fd H3 a ∧ KB a H H3) ⟨[], rfl, fun _ h => by simp at h, upd_same, f2.new hD, k12.new hD⟩ (fun i H3 hi hP => ?_) (fun H3 hP => ?_)
    · obtain ⟨cs, hl, hlow, hDc, f3, k3⟩ := hP
      refine ⟨rfl, yesT ?_⟩
      refine ⟨_, rfl, a, _, rfl, f3, .inl ⟨_, rfl, by rw [pmq_tl]; decide, by decide +kernel, fun c H4 hc f4 k4 => ?_⟩⟩
      rw [pmq_tl] at hc
      have hD4 := k4 D _ hDa hDc
      refine ⟨_, hD4, by rw [List.length_map]; exact Nat.lt_of_lt_of_le (show cs.length < 100 by omega) (by decide), cs ++ [c], by simp [hl], fun d hd => ?_, ?_, f4.upd hDa.symm, (k3.trans k4).upd0 hD0⟩
      · rw [List.mem_append, List.mem_singleton] at hd
        rcases hd with hd | rfl
        · exact hlow d hd
        · exact hc
      · rw [upd_same, List.map_append]
        rfl
    · obtain ⟨cs, hl, hlow, hDc, f3, k3⟩ := hP
      refine ⟨_, _, cs.map fun c => S [c], rfl, rfl, .inl (SqL.of (by rw [hDc, List.map_map]; rfl)), sum_one cs (by omega), ?_⟩
      rw [join_one]
      have hx : Tx 8 1 cs := pmq_tx hlow (by omega)
      refine ⟨_, rfl, rfl, _, rfl, ite2 (fun h => ?_) (fun h => ?_)⟩
      · exact ⟨_, rfl, _, rfl, a, cs, 8, 1, rfl, f3, hx, by decide, fun y H4 hy f4 k4 => q _ (some y) H4 (.txt (hy.sh (by decide))) f4 (k3.trans k4)⟩
      · exact ⟨_, rfl, q _ (some cs) H3 (.txt (hx.sh (by decide))) f3 k3⟩
end
end KW

/-! ## _law_refused: which of the program's errors it is -/
namespace KW
open PySem PySem.Spec PyProof.Rows L2 L2H
theorem lc_enum {K : PySem.W.Frag} {a : Addr} {xs : List V} {g : TG} {tt : TT} {te : TE} {vs : List Nat} {σ : L2.St} {H1 : Hp} {D : Addr} {Qd : Hp → Prop} (Pv : Nat → Hp → Prop) (h0 : Pv 0 (upd H1 D (.lst []))) (hl : ∀ i H, i ≤ xs.length → Pv i H → SqL K H a xs)
    (hs : ∀ i x H n, xs[i]? = some x → Pv i H → H n = none → g (.ref n) (wipe σ vs) (upd H n (.tup [.int (i : Nat), x])) fun σ2 H2 => wipe σ2 vs = wipe σ vs ∧ tt σ2 H2 fun b H3 =>
      if b = true then te σ2 H3 fun y H4 => ∃ acc, H4 D = some (.lst acc) ∧ acc.length < sizeLine ∧ Pv (i + 1) (upd H4 D (.lst (acc ++ [y]))) else Pv (i + 1) H3) (hd : ∀ H, Pv xs.length H → Qd H) :
    ∃ W : Nat → Nat → Hp → Prop, (∃ m, W 0 m (upd H1 D (.lst []))) ∧ ∀ i m H, W i m H →
      ((Ite K a).stop i H ∧ Qd H) ∨ ((Ite K a).go i H ∧ ∃ Nx : Hp → Prop, (∀ H', Nx H' → ∃ m', m' < m ∧ W (i + 1) m' H') ∧ ∀ x H', (Ite K a).yld i H x H' → g x (wipe σ vs) H' fun σ2 H2 => wipe σ2 vs = wipe σ vs ∧ tt σ2 H2 fun b H3 =>
        if b = true then te σ2 H3 fun y H4 => ∃ acc, H4 D = some (.lst acc) ∧ acc.length < sizeLine ∧ Nx (upd H4 D (.lst (acc ++ [y]))) else Nx H3) := by
  refine ⟨fun i m H => m = xs.length - i ∧ i ≤ xs.length ∧ Pv i H, ⟨xs.length, by simp, Nat.zero_le _, h0⟩, ?_⟩
  rintro i m H ⟨rfl, hi, p⟩
  have q := hl i H hi p
  by_cases hlt : i < xs.length
  · refine .inr ⟨⟨xs, xs[i], q, by simp [hlt]⟩, Pv (i + 1), fun H' p' => ⟨xs.length - (i + 1), by omega, rfl, hlt, p'⟩, fun x H' y => ?_⟩
    obtain ⟨T, x', rfl, hT, rfl, y⟩ := y
    exact hs i x' _ T (y xs q) p hT
  · have e : i = xs.length := by omega
    subst e
    exact .inl ⟨⟨xs, q, Nat.le_refl _⟩, hd H p⟩
/-- the errors' classes -/
structure RfN (mg : Str → Option Value) (cs : Nat → Addr) : Prop where
  InvalidStep : mg "InvalidStep" = some (.ref (cs 0))
  InvalidTrait : mg "InvalidTrait" = some (.ref (cs 1))
  InvalidExpr : mg "InvalidExpr" = some (.ref (cs 2))
  InvalidRow : mg "InvalidRow" = some (.ref (cs 3))
  InvalidText : mg "InvalidText" = some (.ref (cs 4))
  InvalidWorld : mg "InvalidWorld" = some (.ref (cs 5))
  InvalidStart : mg "InvalidStart" = some (.ref (cs 6))
  InvalidClaim : mg "InvalidClaim" = some (.ref (cs 7))
  NoName : mg "NoName" = some (.ref (cs 8))
  NoStep : mg "NoStep" = some (.ref (cs 9))
  NoRow : mg "NoRow" = some (.ref (cs 10))
  Impossible : mg "Impossible" = some (.ref (cs 11))
/-- D is the class number n -/
structure RfD (K : PySem.W.Frag) (cs : Nat → Addr) (D : Addr) (n : Nat) : Prop where
  exc : ExcC K D
  lt : n < 12
  is : ∀ i, i < 12 → PySem.W.kitOne K (.ref D) (.ref (cs i)) = some (decide (i = n))
def csOf (l : List Addr) (i : Nat) : Addr := l.getD i 0
theorem kit_of {K : PySem.W.Frag} {D C : Addr} {b : Bool} (hc : PySem.W.isClsIn K C = true) (ht : PySem.W.typeIn K (.ref C) = some (.type "type")) (hs : PySem.W.subIn K (.ref D) (.ref C) = some b) (self : PySem.W.subIn K (.ref D) (.ref D) = some true) : PySem.W.kitOne K (.ref D) (.ref C) = some b := by
  unfold PySem.W.kitOne
  by_cases h : (Value.ref D == Value.ref C) = true
  · rw [if_pos h]
    have e : Value.ref D = Value.ref C := eq_of_beq h
    rw [← e, self] at hs
    exact hs
  · rw [if_neg h]
    show (if ((PySem.W.clsIn K C).isSome && PySem.W.typeIn K (.ref C) == some (.type "type")) = true then PySem.W.subIn K (.ref D) (.ref C) else none) = some b
    have e2 : ((PySem.W.clsIn K C).isSome && PySem.W.typeIn K (.ref C) == some (.type "type")) = true := by
      rw [show (PySem.W.clsIn K C).isSome = true from hc, ht] <;> rfl
    rw [if_pos e2]
    exact hs
theorem refsVE_one (C : Addr) : PySem.HandSPX.refsVE [.ref C, .type "ValueError", .type "Exception", .type "BaseException", .type "object"] = true := by
  show PySem.HandSPX.refsVE [.type "ValueError", .type "Exception", .type "BaseException", .type "object"] = true
  decide +kernel
/-- the twelve answers -/
def rfB (n : Nat) : List V := (List.range 12).map fun i => V.bl (decide (i = n))
def rfX (n j : Nat) : List V := if n < j then [.int n] else []
theorem rfX_more {n j : Nat} : rfX n (j + 1) = if decide (j = n) = true then rfX n j ++ [.int j] else rfX n j := by
  unfold rfX
  by_cases h : j = n
  · subst h
    rw [if_pos (by omega), decide_eq_true rfl, if_pos rfl, if_neg (by omega)]
    rfl
  · rw [decide_eq_false h, if_neg Bool.false_ne_true]
    by_cases c : n < j
    · rw [if_pos c, if_pos (by omega)]
    · rw [if_neg c, if_neg (by omega)]
section
variable {P : Program} {w : World} {K : PySem.W.Frag} {mg : Str → Option Value} {base : Heap}
abbrev s__law_refused : Stmt := topS 48
theorem sc__law_refused : FnScope ["_law_e", "_law_found", "_law_at", "_law_one"] ["_law_e"] (defScope s__law_refused) := ⟨rfl, rfl, rfl, by decide +kernel, rfl, by decide +kernel, by decide +kernel⟩
def spRf (K : PySem.W.Frag) (cs : Nat → Addr) : KH.SpX := fun a c d vs H Q _ => ∃ (D dd : Addr) (fs : List (Str × V)) (n : Nat), c = .ref D ∧ d = some dd ∧ vs = [.ref a] ∧ H dd = some (.xd fs) ∧ RfD K cs D n ∧
  ∀ (l : Addr) (H' : Hp), H' l = some (.lst [.int n]) → Same H H' → Q (.ref l) H'
theorem ok_refused {k : Nat} {f : Addr} {fd : FuncData} {cs : Nat → Addr} (B : Bi mg) (RN : RfN mg cs) (F : Fun K "_law_refused" "_law_refused" s__law_refused f fd) : KH.FnX P w K mg base (k + 1) f fd ["_law_e"] (spRf K cs) := by
  refine KH.fnX_of F sc__law_refused (fun a c d vs H Q E h => ?_) (fun cdv A outer s H vs Q E p c d hot hz hr h => ?_)
  · obtain ⟨D, dd, fs, n, _, _, rfl, _⟩ := h
    rfl
  · obtain ⟨D, dd, fs, n, rfl, rfl, rfl, hdd, RD, q⟩ := h
    obtain ⟨a, oe⟩ := p
    have hf : ∃ vs, oe.data = .fields vs := ⟨_, hot.2.choose_spec.1⟩
    have EC := RD.exc
    have hp : (a, oe) ∈ (cxH CX0 P w K mg base ["_law_e", "_law_found", "_law_at", "_law_one"] "_law_refused" (defScope s__law_refused) f cdv A outer s H E (a, oe)).pn := List.mem_cons_self
    refine ⟨_, (pss_cons (ps_set (i := 1) sc__law_refused.nd rfl (Or.inl rfl) (pe_lst (pa_cons (pe_callB (KH.is_exc K rfl EC hp hz hf) rfl B.isinstance (by decide +kernel) (pa_cons (pv 0) (pa_cons (pe_gref rfl RN.InvalidStep) pa_nil))) (pa_cons (pe_callB (KH.is_exc K rfl EC hp hz hf) rfl B.isinstance (by decide +kernel) (pa_cons (pv 0) (pa_cons (pe_gref rfl RN.InvalidTrait) pa_nil))) (pa_cons (pe_callB (KH.is_exc K rfl EC hp hz hf) rfl B.isinstance (by decide +kernel) (pa_cons (pv 0) (pa_cons (pe_gref rfl RN.InvalidExpr) pa_nil))) pa_nil)))))
      (pss_cons (ps_set (i := 1) sc__law_refused.nd rfl (Or.inl rfl) (pe_op op_cat (pv 1) (pe_lst (pa_cons (pe_callB (KH.is_exc K rfl EC hp hz hf) rfl B.isinstance (by decide +kernel) (pa_cons (pv 0) (pa_cons (pe_gref rfl RN.InvalidRow) pa_nil))) (pa_cons (pe_callB (KH.is_exc K rfl EC hp hz hf) rfl B.isinstance (by decide +kernel) (pa_cons (pv 0) (pa_cons (pe_gref rfl RN.InvalidText) pa_nil))) (pa_cons (pe_callB (KH.is_exc K rfl EC hp hz hf) rfl B.isinstance (by decide +kernel) (pa_cons (pv 0) (pa_cons (pe_gref rfl RN.InvalidWorld) pa_nil))) pa_nil))))))
      (pss_cons (ps_set (i := 1) sc__law_refused.nd rfl (Or.inl rfl) (pe_op op_cat (pv 1) (pe_lst (pa_cons (pe_callB (KH.is_exc K rfl EC hp hz hf) rfl B.isinstance (by decide +kernel) (pa_cons (pv 0) (pa_cons (pe_gref rfl RN.InvalidStart) pa_nil))) (pa_cons (pe_callB (KH.is_exc K rfl EC hp hz hf) rfl B.isinstance (by decide +kernel) (pa_cons (pv 0) (pa_cons (pe_gref rfl RN.InvalidClaim) pa_nil))) (pa_cons (pe_callB (KH.is_exc K rfl EC hp hz hf) rfl B.isinstance (by decide +kernel) (pa_cons (pv 0) (pa_cons (pe_gref rfl RN.NoName) pa_nil))) pa_nil))))))
      (pss_cons (ps_set (i := 1) sc__law_refused.nd rfl (Or.inl rfl) (pe_op op_cat (pv 1) (pe_lst (pa_cons (pe_callB (KH.is_exc K rfl EC hp hz hf) rfl B.isinstance (by decide +kernel) (pa_cons (pv 0) (pa_cons (pe_gref rfl RN.NoStep) pa_nil))) (pa_cons (pe_callB (KH.is_exc K rfl EC hp hz hf) rfl B.isinstance (by decide +kernel) (pa_cons (pv 0) (pa_cons (pe_gref rfl RN.NoRow) pa_nil))) (pa_cons (pe_callB (KH.is_exc K rfl EC hp hz hf) rfl B.isinstance (by decide +kernel) (pa_cons (pv 0) (pa_cons (pe_gref rfl RN.Impossible) pa_nil))) pa_nil))))))
      (pss_one (ps_ret (KH.pe_lcH (own := [("_law_at", 2), ("_law_one", 3)]) hot hp sc__law_refused.nd (KH.pi_enumH rfl B.enumerate (pa_cons (pv 1) pa_nil)) (blkOk_by (own := [("_law_at", 2), ("_law_one", 3)]) (N := ["_law_e", "_law_found", "_law_at", "_law_one"]) (sc := defScope s__law_refused) (by decide +kernel)) (fun _ _ _ _ _ => (KH.pg_tupH K rfl (n := 2) ⟨_, hot, List.mem_cons_self⟩ (pgs_cons (pg_name (i := 2) sc__law_refused.nd rfl (Or.inl rfl)) (pgs_cons (pg_name (i := 3) sc__law_refused.nd rfl (Or.inl rfl)) pgs_nil)))) (fun _ _ _ _ _ => (pts_one (pt_val (pv 3)))) (fun _ _ _ _ _ => (pv 2))))))))), ?_⟩
    have b12 : ∀ m : Nat, m ≤ 12 → m ≤ sizeLine := fun m h => Nat.le_trans h (by decide)
    refine ⟨_, rfl, _, _, _, fs, rfl, .own _, hdd, RD.is 0 (by decide), ⟨_, rfl, _, _, _, fs, rfl, .own _, hdd, RD.is 1 (by decide), ⟨_, rfl, _, _, _, fs, rfl, .own _, hdd, RD.is 2 (by decide), ⟨b12 3 (by decide), fun l1 h1 => ?_⟩⟩⟩⟩
    have d1 : (upd H l1 (.lst [V.bl (decide (0 = n)), V.bl (decide (1 = n)), V.bl (decide (2 = n))])) dd = some (.xd fs) := same_upd h1 _ _ hdd
    have s1 : Same H (upd H l1 (.lst [V.bl (decide (0 = n)), V.bl (decide (1 = n)), V.bl (decide (2 = n))])) := same_upd h1
    have e1 : (upd H l1 (.lst [V.bl (decide (0 = n)), V.bl (decide (1 = n)), V.bl (decide (2 = n))])) l1 = some (.lst [V.bl (decide (0 = n)), V.bl (decide (1 = n)), V.bl (decide (2 = n))]) := upd_same
    generalize upd H l1 (.lst [V.bl (decide (0 = n)), V.bl (decide (1 = n)), V.bl (decide (2 = n))]) = H1 at *
    refine ⟨_, rfl, ⟨_, rfl, _, _, _, fs, rfl, .own _, d1, RD.is 3 (by decide), ⟨_, rfl, _, _, _, fs, rfl, .own _, d1, RD.is 4 (by decide), ⟨_, rfl, _, _, _, fs, rfl, .own _, d1, RD.is 5 (by decide), ⟨b12 3 (by decide), fun m1 g1 => ?_⟩⟩⟩⟩⟩
    have dd1 : (upd H1 m1 (.lst [V.bl (decide (3 = n)), V.bl (decide (4 = n)), V.bl (decide (5 = n))])) dd = some (.xd fs) := same_upd g1 _ _ d1
    have ss1 : Same H (upd H1 m1 (.lst [V.bl (decide (3 = n)), V.bl (decide (4 = n)), V.bl (decide (5 = n))])) := fun b o z => same_upd g1 _ _ (s1 b o z)
    have ee1 : (upd H1 m1 (.lst [V.bl (decide (3 = n)), V.bl (decide (4 = n)), V.bl (decide (5 = n))])) l1 = some (.lst [V.bl (decide (0 = n)), V.bl (decide (1 = n)), V.bl (decide (2 = n))]) := same_upd g1 _ _ e1
    have ff1 : (upd H1 m1 (.lst [V.bl (decide (3 = n)), V.bl (decide (4 = n)), V.bl (decide (5 = n))])) m1 = some (.lst [V.bl (decide (3 = n)), V.bl (decide (4 = n)), V.bl (decide (5 = n))]) := upd_same
    generalize (upd H1 m1 (.lst [V.bl (decide (3 = n)), V.bl (decide (4 = n)), V.bl (decide (5 = n))])) = I1 at *
    refine ⟨l1, m1, _, _, rfl, rfl, ee1, ff1, b12 6 (by decide), fun l2 h2 => ?_⟩
    have d2 : (upd I1 l2 (.lst [V.bl (decide (0 = n)), V.bl (decide (1 = n)), V.bl (decide (2 = n)), V.bl (decide (3 = n)), V.bl (decide (4 = n)), V.bl (decide (5 = n))])) dd = some (.xd fs) := same_upd h2 _ _ dd1
    have s2 : Same H (upd I1 l2 (.lst [V.bl (decide (0 = n)), V.bl (decide (1 = n)), V.bl (decide (2 = n)), V.bl (decide (3 = n)), V.bl (decide (4 = n)), V.bl (decide (5 = n))])) := fun b o z => same_upd h2 _ _ (ss1 b o z)
    have e2 : (upd I1 l2 (.lst [V.bl (decide (0 = n)), V.bl (decide (1 = n)), V.bl (decide (2 = n)), V.bl (decide (3 = n)), V.bl (decide (4 = n)), V.bl (decide (5 = n))])) l2 = some (.lst [V.bl (decide (0 = n)), V.bl (decide (1 = n)), V.bl (decide (2 = n)), V.bl (decide (3 = n)), V.bl (decide (4 = n)), V.bl (decide (5 = n))]) := upd_same
    replace e2 : (upd I1 l2 (.lst [V.bl (decide (0 = n)), V.bl (decide (1 = n)), V.bl (decide (2 = n)), V.bl (decide (3 = n)), V.bl (decide (4 = n)), V.bl (decide (5 = n))])) l2 = some (.lst [V.bl (decide (0 = n)), V.bl (decide (1 = n)), V.bl (decide (2 = n)), V.bl (decide (3 = n)), V.bl (decide (4 = n)), V.bl (decide (5 = n))]) := e2
    generalize hU : upd I1 l2 _ = H2
    rw [show (upd I1 l2 (.lst [V.bl (decide (0 = n)), V.bl (decide (1 = n)), V.bl (decide (2 = n)), V.bl (decide (3 = n)), V.bl (decide (4 = n)), V.bl (decide (5 = n))])) = H2 from hU] at d2 s2 e2
    refine ⟨_, rfl, ⟨_, rfl, _, _, _, fs, rfl, .own _, d2, RD.is 6 (by decide), ⟨_, rfl, _, _, _, fs, rfl, .own _, d2, RD.is 7 (by decide), ⟨_, rfl, _, _, _, fs, rfl, .own _, d2, RD.is 8 (by decide), ⟨b12 3 (by decide), fun m2 g2 => ?_⟩⟩⟩⟩⟩
    have dd2 : (upd H2 m2 (.lst [V.bl (decide (6 = n)), V.bl (decide (7 = n)), V.bl (decide (8 = n))])) dd = some (.xd fs) := same_upd g2 _ _ d2
    have ss2 : Same H (upd H2 m2 (.lst [V.bl (decide (6 = n)), V.bl (decide (7 = n)), V.bl (decide (8 = n))])) := fun b o z => same_upd g2 _ _ (s2 b o z)
    have ee2 : (upd H2 m2 (.lst [V.bl (decide (6 = n)), V.bl (decide (7 = n)), V.bl (decide (8 = n))])) l2 = some (.lst [V.bl (decide (0 = n)), V.bl (decide (1 = n)), V.bl (decide (2 = n)), V.bl (decide (3 = n)), V.bl (decide (4 = n)), V.bl (decide (5 = n))]) := same_upd g2 _ _ e2
    have ff2 : (upd H2 m2 (.lst [V.bl (decide (6 = n)), V.bl (decide (7 = n)), V.bl (decide (8 = n))])) m2 = some (.lst [V.bl (decide (6 = n)), V.bl (decide (7 = n)), V.bl (decide (8 = n))]) := upd_same
    generalize (upd H2 m2 (.lst [V.bl (decide (6 = n)), V.bl (decide (7 = n)), V.bl (decide (8 = n))])) = I2 at *
    refine ⟨l2, m2, _, _, rfl, rfl, ee2, ff2, b12 9 (by decide), fun l3 h3 => ?_⟩
    have d3 : (upd I2 l3 (.lst [V.bl (decide (0 = n)), V.bl (decide (1 = n)), V.bl (decide (2 = n)), V.bl (decide (3 = n)), V.bl (decide (4 = n)), V.bl (decide (5 = n)), V.bl (decide (6 = n)), V.bl (decide (7 = n)), V.bl (decide (8 = n))])) dd = some (.xd fs) := same_upd h3 _ _ dd2
    have s3 : Same H (upd I2 l3 (.lst [V.bl (decide (0 = n)), V.bl (decide (1 = n)), V.bl (decide (2 = n)), V.bl (decide (3 = n)), V.bl (decide (4 = n)), V.bl (decide (5 = n)), V.bl (decide (6 = n)), V.bl (decide (7 = n)), V.bl (decide (8 = n))])) := fun b o z => same_upd h3 _ _ (ss2 b o z)
    have e3 : (upd I2 l3 (.lst [V.bl (decide (0 = n)), V.bl (decide (1 = n)), V.bl (decide (2 = n)), V.bl (decide (3 = n)), V.bl (decide (4 = n)), V.bl (decide (5 = n)), V.bl (decide (6 = n)), V.bl (decide (7 = n)), V.bl (decide (8 = n))])) l3 = some (.lst [V.bl (decide (0 = n)), V.bl (decide (1 = n)), V.bl (decide (2 = n)), V.bl (decide (3 = n)), V.bl (decide (4 = n)), V.bl (decide (5 = n)), V.bl (decide (6 = n)), V.bl (decide (7 = n)), V.bl (decide (8 = n))]) := upd_same
    replace e3 : (upd I2 l3 (.lst [V.bl (decide (0 = n)), V.bl (decide (1 = n)), V.bl (decide (2 = n)), V.bl (decide (3 = n)), V.bl (decide (4 = n)), V.bl (decide (5 = n)), V.bl (decide (6 = n)), V.bl (decide (7 = n)), V.bl (decide (8 = n))])) l3 = some (.lst [V.bl (decide (0 = n)), V.bl (decide (1 = n)), V.bl (decide (2 = n)), V.bl (decide (3 = n)), V.bl (decide (4 = n)), V.bl (decide (5 = n)), V.bl (decide (6 = n)), V.bl (decide (7 = n)), V.bl (decide (8 = n))]) := e3
    generalize hU : upd I2 l3 _ = H3
    rw [show (upd I2 l3 (.lst [V.bl (decide (0 = n)), V.bl (decide (1 = n)), V.bl (decide (2 = n)), V.bl (decide (3 = n)), V.bl (decide (4 = n)), V.bl (decide (5 = n)), V.bl (decide (6 = n)), V.bl (decide (7 = n)), V.bl (decide (8 = n))])) = H3 from hU] at d3 s3 e3
    refine ⟨_, rfl, ⟨_, rfl, _, _, _, fs, rfl, .own _, d3, RD.is 9 (by decide), ⟨_, rfl, _, _, _, fs, rfl, .own _, d3, RD.is 10 (by decide), ⟨_, rfl, _, _, _, fs, rfl, .own _, d3, RD.is 11 (by decide), ⟨b12 3 (by decide), fun m3 g3 => ?_⟩⟩⟩⟩⟩
    have dd3 : (upd H3 m3 (.lst [V.bl (decide (9 = n)), V.bl (decide (10 = n)), V.bl (decide (11 = n))])) dd = some (.xd fs) := same_upd g3 _ _ d3
    have ss3 : Same H (upd H3 m3 (.lst [V.bl (decide (9 = n)), V.bl (decide (10 = n)), V.bl (decide (11 = n))])) := fun b o z => same_upd g3 _ _ (s3 b o z)
    have ee3 : (upd H3 m3 (.lst [V.bl (decide (9 = n)), V.bl (decide (10 = n)), V.bl (decide (11 = n))])) l3 = some (.lst [V.bl (decide (0 = n)), V.bl (decide (1 = n)), V.bl (decide (2 = n)), V.bl (decide (3 = n)), V.bl (decide (4 = n)), V.bl (decide (5 = n)), V.bl (decide (6 = n)), V.bl (decide (7 = n)), V.bl (decide (8 = n))]) := same_upd g3 _ _ e3
    have ff3 : (upd H3 m3 (.lst [V.bl (decide (9 = n)), V.bl (decide (10 = n)), V.bl (decide (11 = n))])) m3 = some (.lst [V.bl (decide (9 = n)), V.bl (decide (10 = n)), V.bl (decide (11 = n))]) := upd_same
    generalize (upd H3 m3 (.lst [V.bl (decide (9 = n)), V.bl (decide (10 = n)), V.bl (decide (11 = n))])) = I3 at *
    refine ⟨l3, m3, _, _, rfl, rfl, ee3, ff3, b12 12 (by decide), fun l4 h4 => ?_⟩
    have d4 : (upd I3 l4 (.lst [V.bl (decide (0 = n)), V.bl (decide (1 = n)), V.bl (decide (2 = n)), V.bl (decide (3 = n)), V.bl (decide (4 = n)), V.bl (decide (5 = n)), V.bl (decide (6 = n)), V.bl (decide (7 = n)), V.bl (decide (8 = n)), V.bl (decide (9 = n)), V.bl (decide (10 = n)), V.bl (decide (11 = n))])) dd = some (.xd fs) := same_upd h4 _ _ dd3
    have s4 : Same H (upd I3 l4 (.lst [V.bl (decide (0 = n)), V.bl (decide (1 = n)), V.bl (decide (2 = n)), V.bl (decide (3 = n)), V.bl (decide (4 = n)), V.bl (decide (5 = n)), V.bl (decide (6 = n)), V.bl (decide (7 = n)), V.bl (decide (8 = n)), V.bl (decide (9 = n)), V.bl (decide (10 = n)), V.bl (decide (11 = n))])) := fun b o z => same_upd h4 _ _ (ss3 b o z)
    have e4 : (upd I3 l4 (.lst [V.bl (decide (0 = n)), V.bl (decide (1 = n)), V.bl (decide (2 = n)), V.bl (decide (3 = n)), V.bl (decide (4 = n)), V.bl (decide (5 = n)), V.bl (decide (6 = n)), V.bl (decide (7 = n)), V.bl (decide (8 = n)), V.bl (decide (9 = n)), V.bl (decide (10 = n)), V.bl (decide (11 = n))])) l4 = some (.lst [V.bl (decide (0 = n)), V.bl (decide (1 = n)), V.bl (decide (2 = n)), V.bl (decide (3 = n)), V.bl (decide (4 = n)), V.bl (decide (5 = n)), V.bl (decide (6 = n)), V.bl (decide (7 = n)), V.bl (decide (8 = n)), V.bl (decide (9 = n)), V.bl (decide (10 = n)), V.bl (decide (11 = n))]) := upd_same
    replace e4 : (upd I3 l4 (.lst [V.bl (decide (0 = n)), V.bl (decide (1 = n)), V.bl (decide (2 = n)), V.bl (decide (3 = n)), V.bl (decide (4 = n)), V.bl (decide (5 = n)), V.bl (decide (6 = n)), V.bl (decide (7 = n)), V.bl (decide (8 = n)), V.bl (decide (9 = n)), V.bl (decide (10 = n)), V.bl (decide (11 = n))])) l4 = some (.lst (rfB n)) := e4
    generalize hU : upd I3 l4 _ = H4
    rw [show (upd I3 l4 (.lst [V.bl (decide (0 = n)), V.bl (decide (1 = n)), V.bl (decide (2 = n)), V.bl (decide (3 = n)), V.bl (decide (4 = n)), V.bl (decide (5 = n)), V.bl (decide (6 = n)), V.bl (decide (7 = n)), V.bl (decide (8 = n)), V.bl (decide (9 = n)), V.bl (decide (10 = n)), V.bl (decide (11 = n))])) = H4 from hU] at d4 s4 e4
    clear hU
    refine ⟨_, rfl, l4, _, rfl, SqL.of e4, fun D' hD => ?_⟩
    refine lc_enum (K := K) (a := l4) (xs := rfB n) (fun j H' => H' D' = some (.lst (rfX n j)) ∧ Same H4 H') ⟨upd_same, same_upd hD⟩ (fun i H' _ h => h.2.seq (SqL.of e4)) ?_ ?_
    · rintro i x H' t hx ⟨hD', sm⟩ ht
      have hi : i < 12 := by
        have := (List.getElem?_eq_some_iff.mp hx).1
        simpa [rfB] using this
      have ex : x = V.bl (decide (i = n)) := by
        unfold rfB at hx
        rw [List.getElem?_map, List.getElem?_range hi] at hx
        exact (Option.some.inj hx).symm
      subst ex
      have hDt : (upd H' t (.tup [.int (i : Nat), V.bl (decide (i = n))])) D' = some (.lst (rfX n i)) := same_upd ht _ _ hD'
      refine ⟨t, _, rfl, .inl (.inl upd_same), rfl, _, _, rfl, _, _, rfl, rfl, rfl, _, rfl, _, rfl, ?_⟩
      have more := rfX_more (n := n) (j := i)
      cases hd : decide (i = n) with
      | false =>
        rw [hd, if_neg Bool.false_ne_true] at more
        rw [hd] at hDt
        refine iteF ?_
        rw [more]
        exact ⟨hDt, fun b o z => same_upd ht _ _ (sm b o z)⟩
      | true =>
        rw [hd, if_pos rfl] at more
        rw [hd] at hDt
        refine iteT ?_
        rw [more]
        refine ⟨_, rfl, _, hDt, ?_, upd_same, fun b o z => ?_⟩
        · refine b12 _ ?_
          unfold rfX
          split <;> simp
        · have z' := sm b o z
          rw [upd_ne (ne_of_none z hD)]
          exact same_upd ht _ _ z'
    · rintro H' ⟨hD', sm⟩
      refine q D' H' ?_ fun b o z => sm b o (s4 b o z)
      rw [hD']
      show some (HO.lst (rfX n 12)) = _
      unfold rfX
      rw [if_pos RD.lt]
end
end KW

/-! ## k02: _law_told -/
namespace KW
open PySem PySem.Spec PyProof.Rows L2 L2H
theorem made_sameE {H1 H' : Hp} {p dx C : Addr} (hp : H1 p = none) (hdx : H1 dx = none) (kb : KB p (upd (upd H1 dx (.own p)) p (.ins C dx [])) H') : Same H1 H' := fun b o z => by
  refine kb _ _ (ne_of_none z hp) ?_
  rw [upd_ne (ne_of_none z hp), upd_ne (ne_of_none z hdx)]
  exact z
section
variable {P : Program} {w : World} {K : PySem.W.Frag} {mg : Str → Option Value} {base : Heap}
abbrev s__law_told : Stmt := topS 51
theorem sc__law_told : FnScope ["_law_name", "_law_ways_here", "_law_found", "_law_e"] ["_law_name", "_law_ways_here"] (defScope s__law_told) := ⟨rfl, rfl, rfl, by decide +kernel, rfl, by decide +kernel, by decide +kernel⟩
/-- what is told of a name and ways -/
def stTold (n u : Option (List Nat)) : Option (List Nat) := if nameB n = false then some wName else if waysB u = false then some [119, 97, 121, 115] else none
theorem ways_eq : (Str.ofString "ways") = S [119, 97, 121, 115] := by decide +kernel
def spTold2 (K : PySem.W.Frag) (CS : Addr) : Sp := fun vs H Q _ => ∃ (vn vw : V) (n u : Option (List Nat)), vs = [vn, vw] ∧ TxV K H vn n ∧ TxV K H vw u ∧
  (∀ x, stTold n u = some x → ∀ (q : Addr) (H' : Hp), H' q = some (.tup [.str "refused", .str (S x)]) → Same H H' → Q (.ref q) H') ∧
  ∀ n' u', n = some n' → u = some u' → nmB n' = true → wyB u' = true → ∀ (p : Addr) (H' : Hp), StAt CS H' p n' u' → Same H H' → Q (.ref p) H'
theorem ok_told2 {CS CI CW fR : Addr} {fdR : FuncData} {cs : Nat → Addr} {k : Nat} (B : Bi mg) (F : Df K mg "_law_told" s__law_told ["_law_name", "_law_ways_here"]) (TI : ErC K mg "InvalidStep" "word" CI) (RD : RfD K cs CI 0)
    (GS : RMak P w K mg base k "Step" CS (spStI K CS CI)) (FX : KH.FnX P w K mg base (k + 1) fR fdR ["_law_e"] (spRf K cs)) (mR : mg "_law_refused" = some (.ref fR)) (kR : PySem.W.keepIn K (.ref fR) = true) (bR : Binds K fdR ["_law_e"] [])
    (mW : mg "WaysError" = some (.ref CW)) (xe : PySem.W.exmOne K (.ref CI) (.ref CW) = some true) : C8.Cal P w K mg base (k + 2) "_law_told" (spTold2 K CS) [] := by
  refine F.cal sc__law_told (fun vs H Q E h => ?_) (fun f cdv A outer s H vs Q E hr h => ?_)
  · obtain ⟨vn, vw, n, u, rfl, _⟩ := h
    rfl
  · obtain ⟨vn, vw, n, u, rfl, hn, hu, eq, q⟩ := h
    obtain ⟨fS, fdS, psS, MS, FS, mS, bS⟩ := GS.ex
    refine ⟨_, pss_cons (ps_set (i := 2) sc__law_told.nd rfl (Or.inl rfl) pe_str)
      (pss_cons (L2N.ps_try_as (i := 3) (x := "WaysError") (c := .ref CW)
          (tb := fun W => tAsg (tMakeS CS (spStI K CS CI) (L2.WE W) (tCons (tVar 0) (tCons (tVar 1) tNil))) (gName 2))
          (ts := fun a cls d => tIfS (tTest (tOp (rEqD K) (KH.tCallX (spRf K cs) a cls d (tCons (tVar 3) tNil)) (tLst (tCons (tC (.int 0)) tNil)))) (tAsg (tTup (tCons (tC (.str "refused")) (tCons (tXf a cls d CI "word" (tVar 3)) tNil))) (gName 2)) tNext)
          (Wout := fun _ _ _ _ => False) rfl rfl sc__law_told.nd rfl rfl ⟨rfl, by decide, Or.inl mW⟩ takes0N
          (fun W pn xe tk _ => pss_one (ps_set (i := 2) sc__law_told.nd rfl (Or.inl rfl) (by exact (pe_makeS MS FS hr rfl mS bS (fun σ => L2N.passAt tk σ) (by exact (pa_cons (pv 0) (pa_cons (pv 1) pa_nil)))))))
          (fun a oe cls d pn hz hf => pss_one (ps_if (pt_cmpR (kk_eqD K rfl hr.units) (KH.pe_callX FX ⟨hr.dp, hr.un⟩ ⟨rfl, hf.choose, hf.choose_spec, hz.2.2 _ hf.choose_spec⟩ List.mem_cons_self ⟨hz.1, hz.2.1⟩ rfl mR kR bR (by exact (pa_cons (pv 3) pa_nil))) (pe_lst (pa_cons pe_int pa_nil)) (nomark _))
            (pss_one (ps_set (i := 2) sc__law_told.nd rfl (Or.inl rfl) (by exact (pe_tup (pa_cons pe_str (pa_cons (pe_xf (cls := cls) (d := d) TI.xf TI.no ⟨hz.1, hz.2.1⟩ hf (pv 3)) pa_nil)))))) pss_nil)))
      (pss_one (ps_ret (pv 2)))), ?_⟩
    refine ⟨_, rfl, _, rfl, fun p dx hp hdx hne => ⟨p, dx, vn, vw, n, u, rfl, upd_same, hn.mono ?_, hu.mono ?_, fun bn => ?_, fun bn bu => ?_, fun n' u' en eu b1 b2 H1 h1 kb => ?_⟩⟩
    · exact fun b o z => by rw [upd_ne (ne_of_none z hp), upd_ne (ne_of_none z hdx)]; exact z
    · exact fun b o z => by rw [upd_ne (ne_of_none z hp), upd_ne (ne_of_none z hdx)]; exact z
    · intro d H1 hd hd' kb
      have sm := made_sameE hp hdx kb
      refine ⟨true, xe, fun _ a ha => ?_, fun z => nomatch z⟩
      refine ⟨_, rfl, CI, d, _, 0, rfl, rfl, rfl, hd', RD, fun l H2 hl s2 => ⟨by show 1 ≤ sizeLine; decide, fun c0 hc0 => ?_⟩⟩
      refine ⟨.list [.int 0], .list [.int 0], .lst (SqL.of (same_upd hc0 _ _ hl)) (.cons (.int _) .nil), .lst (SqL.of upd_same) (.cons (.int _) .nil), rfl, rfl, _, rfl, ?_⟩
      rw [show PyData.eqv (.list [.int 0]) (.list [.int 0]) = true by decide +kernel]
      refine iteT ⟨_, rfl, rfl, rfl, d, _, .str (S wName), rfl, same_upd hc0 _ _ (s2 _ _ hd'), ?_, by show 2 ≤ sizeLine; decide, fun c hc => ?_⟩
      · rw [name_eq]
        simp [List.lookup]
      refine ⟨_, rfl, eq wName ?_ c _ upd_same fun b o z => same_upd hc _ _ (same_upd hc0 _ _ (s2 _ _ (sm _ _ z)))⟩
      unfold stTold
      rw [if_pos bn]
    · intro d H1 hd hd' kb
      have sm := made_sameE hp hdx kb
      refine ⟨true, xe, fun _ a ha => ?_, fun z => nomatch z⟩
      refine ⟨_, rfl, CI, d, _, 0, rfl, rfl, rfl, hd', RD, fun l H2 hl s2 => ⟨by show 1 ≤ sizeLine; decide, fun c0 hc0 => ?_⟩⟩
      refine ⟨.list [.int 0], .list [.int 0], .lst (SqL.of (same_upd hc0 _ _ hl)) (.cons (.int _) .nil), .lst (SqL.of upd_same) (.cons (.int _) .nil), rfl, rfl, _, rfl, ?_⟩
      rw [show PyData.eqv (.list [.int 0]) (.list [.int 0]) = true by decide +kernel]
      refine iteT ⟨_, rfl, rfl, rfl, d, _, .str (S [119, 97, 121, 115]), rfl, same_upd hc0 _ _ (s2 _ _ hd'), ?_, by show 2 ≤ sizeLine; decide, fun c hc => ?_⟩
      · rw [ways_eq]
        simp [List.lookup]
      refine ⟨_, rfl, eq [119, 97, 121, 115] ?_ c _ upd_same fun b o z => same_upd hc _ _ (same_upd hc0 _ _ (s2 _ _ (sm _ _ z)))⟩
      unfold stTold
      rw [if_neg (by rw [bn]; decide), if_pos bu]
    · exact ⟨rfl, _, rfl, q n' u' en eu b1 b2 p H1 h1 (made_sameE hp hdx kb)⟩
end
end KW

/-! ## k02: _law_right -/
namespace KW
open PySem PySem.Spec PyProof.Rows L2
/-- the built-in types are no steps -/
structure StN (K : PySem.W.Frag) (CS : Addr) : Prop where
  sub : ∀ T ∈ tyNames, PySem.W.subIn K (.type T) (.ref CS) = some false
  ic : PySem.W.isClsIn K CS = true
  ty : PySem.W.typeIn K (.ref CS) = some (.type "type")
theorem StN.nf {K : PySem.W.Frag} {CS : Addr} (N : StN K CS) {T : String} (h : T ∈ tyNames) : PySem.W.notFirst K CS (.type T) = true := by
  unfold PySem.W.notFirst
  rw [N.sub T h]
  simp
theorem StN.kit {K : PySem.W.Frag} {CS : Addr} (N : StN K CS) {T : String} (h : T ∈ tyNames) : PySem.W.kitOne K (.type T) (.ref CS) = some false := by
  unfold PySem.W.kitOne
  rw [if_neg (by simp)]
  show (if ((PySem.W.clsIn K CS).isSome && PySem.W.typeIn K (.ref CS) == some (.type "type")) = true then PySem.W.subIn K (.type T) (.ref CS) else none) = some false
  have e2 : ((PySem.W.clsIn K CS).isSome && PySem.W.typeIn K (.ref CS) == some (.type "type")) = true := by
    rw [show (PySem.W.clsIn K CS).isSome = true from N.ic, N.ty] <;> rfl
  rw [if_pos e2]
  exact N.sub T h
theorem nf_self (K : PySem.W.Frag) (CS : Addr) : PySem.W.notFirst K CS (.ref CS) = true := by simp [PySem.W.notFirst]
/-- y, and what == of the step with it answers -/
def OneY (K : PySem.W.Frag) (CS : Addr) (H : Hp) (n u : List Nat) (y : V) (r : Bool) : Prop := StY K CS H n u y r ∧ ∃ t, TyOf K H y t ∧ t ≠ .type "dict" ∧ PySem.W.notFirst K CS t = true
theorem one_st {K : PySem.W.Frag} {CS b : Addr} {H : Hp} {n u n' u' : List Nat} (IS : IsC K CS) (h : StAt CS H b n' u') : OneY K CS H n u (.ref b) (decide (n = n') && decide (u = u')) := by
  obtain ⟨dx, e⟩ := id h
  exact ⟨.inl ⟨b, n', u', rfl, h, rfl⟩, _, .ins e IS.cl IS.ha IS.hn IS.ht IS.hm, (fun z => nomatch z), nf_self K CS⟩
theorem one_ty {K : PySem.W.Frag} {CS : Addr} {H : Hp} {n u : List Nat} {y : V} {T : String} (N : StN K CS) (h : TyOf K H y (.type T)) (hT : T ∈ tyNames) (hd : T ≠ "dict") : OneY K CS H n u y false :=
  ⟨.inr ⟨_, .base h, N.kit hT, rfl⟩, _, h, (fun z => hd (Value.type.inj z)), N.nf hT⟩
theorem oeq_of {K : PySem.W.Frag} {CS p : Addr} {H : Hp} {n u : List Nat} {y : V} {r neg : Bool} {Q : VK} (st : StAt CS H p n u) (o : OneY K CS H n u y r) (q : Q (.bl (if neg then !r else r)) H) : rOEq K CS (spStEq K CS) neg (.ref p) y H Q := by
  obtain ⟨dx, hp⟩ := id st
  obtain ⟨sty, t, ty, nd, nf⟩ := o
  exact ⟨p, dx, _, t, rfl, hp, ty, nd, nf, p, n, u, y, r, rfl, st, sty, r, rfl, q⟩
theorem strOk_of {l : List Nat} (h : ∀ c ∈ l, c ≤ 126) : PyData.strOk (S l) = true := by
  unfold PyData.strOk
  rw [← Array.all_toList, List.all_eq_true]
  intro d hd
  have := h d hd
  simp
  omega
theorem nmB_chr {l : List Nat} (h : nmB l = true) : (∀ c ∈ l, c ≤ 126) ∧ l.length ≤ 4 ∧ 1 ≤ l.length := by
  unfold nmB at h
  simp only [Bool.and_eq_true, decide_eq_true_eq, List.all_eq_true] at h
  refine ⟨fun c hc => ?_, h.1.1.2, h.1.1.1⟩
  have := h.1.2 c hc
  simp at this
  omega
theorem wyB_chr {l : List Nat} (h : wyB l = true) : (∀ c ∈ l, c ≤ 126) ∧ l.length ≤ 3 := by
  unfold wyB at h
  simp only [Bool.and_eq_true, decide_eq_true_eq, List.all_eq_true] at h
  refine ⟨fun c hc => ?_, h.1.2⟩
  have := h.2 c hc
  simp at this
  omega
abbrev wA : List Nat := [97]
abbrev wB : List Nat := [98]
abbrev wMinus : List Nat := [45]
theorem wA_eq : (Str.ofString "a") = S wA := by decide +kernel
theorem wB_eq : (Str.ofString "b") = S wB := by decide +kernel
theorem wMinus_eq : (Str.ofString "-") = S wMinus := by decide +kernel
section
variable {P : Program} {w : World} {K : PySem.W.Frag} {mg : Str → Option Value} {base : Heap}
abbrev s__law_right : Stmt := topS 52
theorem sc__law_right : FnScope ["_law_step", "_law_name", "_law_ways_here", "_law_other", "_law_third", "_law_one"] ["_law_step", "_law_name", "_law_ways_here"] (defScope s__law_right) := ⟨rfl, rfl, rfl, by decide +kernel, rfl, by decide +kernel, by decide +kernel⟩
def spRight (CS : Addr) : Sp := fun vs H Q _ => ∃ (p : Addr) (n u : List Nat), vs = [.ref p, .str (S n), .str (S u)] ∧ StAt CS H p n u ∧ nmB n = true ∧ wyB u = true ∧ ∀ H', Same H H' → Q (.bl true) H'
theorem ok_right {k : Nat} {CS CI : Addr} (B : Bi mg) (T : StC K CS) (IS : IsC K CS) (N : StN K CS) (hStep : mg "Step" = some (.ref CS)) (F : Df K mg "_law_right" s__law_right ["_law_step", "_law_name", "_law_ways_here"])
    (G_law_same : C8.Cal P w K mg base (k + 2) "_law_same" (spSame K 30) []) (GStep : RMak P w K mg base k "Step" CS (spStI K CS CI)) (OEStep : OEq P w K mg base k CS (spStEq K CS)) (OLStep : OSp P w K mg base k CS "__len__" (spStLen CS)) (OSStep : OSp P w K mg base k CS "__str__" (spStStr CS)) :
    C8.Cal P w K mg base (k + 3) "_law_right" (spRight CS) [] := by
  have lvStep : k + 1 ≤ k + 2 := by omega
  refine F.cal sc__law_right (fun vs H Q E h => ?_) (fun f cdv A outer s H vs Q E hr h => ?_)
  · obtain ⟨p, n, u, rfl, _⟩ := h
    rfl
  · obtain ⟨p, n, u, rfl, hst, hn, hu, q⟩ := h
    refine ⟨_, (pss_cons (ps_if (PW.pt (pw_or (pt_not (pt_val (pe_callB (kk_isi K rfl) rfl B.isinstance (by decide +kernel) (pa_cons (pv 0) (pa_cons (pe_gref rfl hStep) pa_nil))))) (pw_or1 (pt_not (pt_val (C8.pe_c G_law_same hr (Nat.le_refl _) rfl (pa_cons (pe_lst (pa_cons (kk_fld K rfl (pv 0) rfl) (pa_cons (kk_fld K rfl (pv 0) rfl) pa_nil))) (pa_cons (pe_lst (pa_cons (pv 1) (pa_cons (pv 2) pa_nil))) pa_nil)))))))) (pss_one (ps_ret pe_bl)) pss_nil)
      (C8.pss_cut (ps_if (PW.pt (pw_or (pt_not (pt_val (C8.pe_c G_law_same hr (Nat.le_refl _) rfl (pa_cons (pe_callB (call_olen K rfl OLStep (hr.mono (by omega))) rfl B.len PySem.boot_len (pa_cons (pv 0) pa_nil)) (pa_cons (pe_callB (kk_len K rfl) rfl B.len PySem.boot_len (pa_cons (pv 2) pa_nil)) pa_nil))))) (pw_or1 (pt_cmpR op_ne (pe_callTy (call_ostr K rfl OSStep (hr.mono (by omega))) rfl B.ty_str (by decide +kernel) (pa_cons (pv 0) pa_nil)) (pe_op op_add_str (pe_op op_add_str (pv 1) pe_str) (pv 2)) (nomark _))))) (pss_one (ps_ret pe_bl)) pss_nil)
      (pss_cons (ps_if (PW.pt (pw_or (pt_cmpR (op_one K rfl OEStep (hr.mono (by omega))) (pv 0) (kr_mk GStep hr lvStep rfl psx0 (pa_cons (pv 1) (pa_cons (pv 2) pa_nil))) (nomark _)) (pw_or1 (pt_not (pt_cmpR (op_oeq K rfl OEStep (hr.mono (by omega))) (pv 0) (kr_mk GStep hr lvStep rfl psx0 (pa_cons (pv 1) (pa_cons (pv 2) pa_nil))) (nomark _)))))) (pss_one (ps_ret pe_bl)) pss_nil)
      (C8.pss_cut (ps_set (i := 3) sc__law_right.nd rfl (Or.inl rfl) (pe_ifExp (pt_cmpR op_eq (pv 1) pe_str (nomark _)) pe_str pe_str))
      (C8.pss_cut (ps_set (i := 4) sc__law_right.nd rfl (Or.inl rfl) (kr_mk GStep hr lvStep rfl psx0 (pa_cons (pv 1) (pa_cons (pe_ifExp (pt_cmpR op_eq (pv 2) pe_str (nomark _)) pe_str pe_str) pa_nil))))
      (pss_cons (ps_for PassesOwn.never rfl (kk_iList K rfl (pe_lst (pa_cons (kr_mk GStep hr lvStep rfl psx0 (pa_cons (pv 3) (pa_cons (pv 2) pa_nil))) (pa_cons (pv 4) (pa_cons (pv 1) (pa_cons (pe_tup (pa_cons (pv 1) (pa_cons (pv 2) pa_nil))) (pa_cons pe_non (pa_cons (pe_callTy (call_ostr K rfl OSStep (hr.mono (by omega))) rfl B.ty_str (by decide +kernel) (pa_cons (pv 0) pa_nil)) pa_nil)))))))) (pg_name (i := 5) sc__law_right.nd rfl (Or.inl rfl)) (pss_one (ps_if (PW.pt (pw_or (pt_cmpR (op_oeq K rfl OEStep (hr.mono (by omega))) (pv 0) (pv 5) (nomark _)) (pw_or1 (pt_not (pt_cmpR (op_one K rfl OEStep (hr.mono (by omega))) (pv 0) (pv 5) (nomark _)))))) (pss_one (ps_ret pe_bl)) pss_nil)))
      (pss_one (ps_ret pe_bl)))))))), ?_⟩
    obtain ⟨dx, hp⟩ := id hst
    obtain ⟨cn, ln, ln1⟩ := nmB_chr hn
    obtain ⟨cu, lu⟩ := wyB_chr hu
    have two' : ∀ (x y : V), [x, y].length ≤ sizeLine := fun _ _ => by show 2 ≤ sizeLine; decide
    have lay : PyData.canLay0 (.list [.str (S n), .str (S u)]) = true := by
      simp only [PyData.canLay0, PyData.canLayAll0, strOk_of cn, strOk_of cu, Bool.and_self]
    have dep : PyData.depth (.list [.str (S n), .str (S u)]) < 30 := by simp [PyData.depth, PyData.depthAll]
    have siz : KW.sizeD (.list [.str (S n), .str (S u)]) ≤ 100000 := by simp [KW.sizeD, sizeAll]
    have bign : (S n).length ≤ sizeLine := Nat.le_trans (m := 1000) (by rw [slen]; omega) (by decide)
    have bigu : (S u).length ≤ sizeLine := Nat.le_trans (m := 1000) (by rw [slen]; omega) (by decide)
    refine ⟨_, rfl, _, _, _, _, true, rfl, .own _, IS.ty hp, kit_self K CS, _, rfl, iteF ?_⟩
    refine ⟨_, rfl, p, CS, dx, _, _, rfl, hp, T.cl, T.nN, stF_name _ _, _, rfl, p, CS, dx, _, _, rfl, hp, T.cl, T.nW, stF_ways _ _, two' _ _, fun l1 h1 => ⟨_, rfl, _, rfl, two' _ _, fun l2 h2 => ?_⟩⟩
    refine ⟨.ref l1, .ref l2, .list [.str (S n), .str (S u)], rfl, .lst (SqL.of (same_upd h2 _ _ upd_same)) (.cons (.str _) (.cons (.str _) .nil)), .lst (SqL.of upd_same) (.cons (.str _) (.cons (.str _) .nil)), lay, dep, by decide, siz, fun H1 s1 => ⟨true, rfl, iteF ?_⟩⟩
    have sH1 : Same H H1 := fun b o z => s1 _ _ (same_upd h2 _ _ (same_upd h1 _ _ z))
    have st1 := hst.mono sH1
    refine ⟨fun σ H' => σ = [some (.ref p), some (.str (S n)), some (.str (S u)), none, none, none] ∧ Same H H', ?_, ?_⟩
    · obtain ⟨d1, hp1⟩ := id st1
      refine ⟨_, rfl, p, d1, _, rfl, hp1, ⟨p, n, u, rfl, st1, by omega, u.length, rfl, by omega, ?_⟩⟩
      refine ⟨_, rfl, _, _, rfl, ⟨bigu, rfl⟩, .int u.length, .int u.length, .int u.length, by rw [slen]; rfl, .int _, .int _, rfl, by simp [PyData.depth], by decide, by simp [KW.sizeD], fun H2 s2 => ⟨true, rfl, iteF ?_⟩⟩
      obtain ⟨d2, hp2⟩ := id (st1.mono s2)
      refine ⟨_, rfl, p, d2, _, rfl, hp2, ⟨p, n, u, rfl, st1.mono s2, by omega, by omega, _, rfl, ?_⟩⟩
      refine ⟨_, rfl, _, _, rfl, rfl, ?_, _, rfl, _, _, rfl, rfl, ?_, rfl, _, rfl, ?_⟩
      · rw [sp1_eq, slen, slen]
        exact Nat.le_trans (m := 1000) (by simp; omega) (by decide)
      · rw [sp1_eq, cat, slen, slen]
        exact Nat.le_trans (m := 1000) (by simp; omega) (by decide)
      · rw [sp1_eq, cat, cat, decide_eq_true rfl]
        exact iteF ⟨rfl, sH1.trans s2⟩
    rintro σ H2 ⟨rfl, sH2⟩
    have st2 := hst.mono sH2
    have ln' : n.length ≤ 1000 := by omega
    have lu' : u.length ≤ 1000 := by omega
    refine ⟨_, rfl, _, rfl, _, rfl, fun x1 dx1 hx1 hdx1 hne1 => mk_step hn hu ln' lu' upd_same fun H3 h3 kb3 => ⟨rfl, ?_⟩⟩
    have s3 := made_same hx1 hdx1 kb3
    have st3 := st2.mono s3
    have same : (decide (n = n) && decide (u = u)) = true := by simp
    refine oeq_of st3 (one_st IS h3) ?_
    rw [same]
    refine ⟨_, rfl, iteF ?_⟩
    refine ⟨_, rfl, _, rfl, _, rfl, fun x2 dx2 hx2 hdx2 hne2 => mk_step hn hu ln' lu' upd_same fun H4 h4 kb4 => ⟨rfl, ?_⟩⟩
    have s4 := made_same hx2 hdx2 kb4
    have st4 := st3.mono s4
    refine oeq_of st4 (one_st IS h4) ?_
    rw [same]
    refine ⟨_, rfl, iteF ?_⟩
    have sH4 : Same H H4 := (sH2.trans s3).trans s4
    -- other
    refine ⟨fun σ H' => ∃ o : List Nat, σ = [some (.ref p), some (.str (S n)), some (.str (S u)), some (.str (S o)), none, none] ∧ nmB o = true ∧ n ≠ o ∧ o.length ≤ 1000 ∧ H4 = H', ?_, ?_⟩
    · refine ⟨_, rfl, rfl, _, rfl, ite2 (fun h => ?_) (fun h => ?_)⟩
      · have e : n = wA := SX.S_inj ((V.str.inj (of_decide_eq_true h)).trans wA_eq)
        rw [wB_eq]
        exact ⟨wB, rfl, by decide, by rw [e]; decide, by decide, rfl⟩
      · rw [wA_eq]
        exact ⟨wA, rfl, by decide, fun e => h (decide_eq_true (by rw [e, wA_eq])), by decide, rfl⟩
    rintro σ H5 ⟨o, rfl, ho, hno, lo, rfl⟩
    -- third
    refine ⟨fun σ H' => ∃ (r : Addr) (u' : List Nat), σ = [some (.ref p), some (.str (S n)), some (.str (S u)), some (.str (S o)), some (.ref r), none] ∧ StAt CS H' r n u' ∧ u ≠ u' ∧ Same H4 H', ?_, ?_⟩
    · refine ⟨_, rfl, _, rfl, rfl, _, rfl, ite2 (fun h => ?_) (fun h => ?_)⟩
      · have e : u = wPlus := SX.S_inj ((V.str.inj (of_decide_eq_true h)).trans plus_eq)
        rw [wMinus_eq]
        refine fun x3 dx3 hx3 hdx3 hne3 => mk_step (u := wMinus) hn (by decide) ln' (by decide) upd_same fun H6 h6 kb6 => ⟨rfl, ?_⟩
        exact ⟨x3, wMinus, rfl, h6, by rw [e]; decide, made_same hx3 hdx3 kb6⟩
      · rw [plus_eq]
        refine fun x3 dx3 hx3 hdx3 hne3 => mk_step (u := wPlus) hn (by decide) ln' (by decide) upd_same fun H6 h6 kb6 => ⟨rfl, ?_⟩
        exact ⟨x3, wPlus, rfl, h6, fun e => h (decide_eq_true (by rw [e, plus_eq])), made_same hx3 hdx3 kb6⟩
    rintro σ H6 ⟨r, u', rfl, st6, huu, s6⟩
    -- the six others
    refine ⟨_, rfl, _, rfl, fun x7 dx7 hx7 hdx7 hne7 => mk_step ho hu lo lu' upd_same fun H7 h7 kb7 => ⟨rfl, ?_⟩⟩
    have s7 := made_same hx7 hdx7 kb7
    refine ⟨_, rfl, _, rfl, _, rfl, _, rfl, two' _ _, fun t8 h8 => ?_⟩
    have s8 := same_upd (o := .tup [V.str (S n), V.str (S u)]) h8
    have ht8 : (upd H7 t8 (.tup [V.str (S n), V.str (S u)])) t8 = some (.tup [V.str (S n), V.str (S u)]) := upd_same
    generalize upd H7 t8 (.tup [V.str (S n), V.str (S u)]) = H8 at *
    have sH8 : Same H H8 := ((sH4.trans s6).trans s7).trans s8
    have st8 := hst.mono sH8
    obtain ⟨d8, hp8⟩ := id st8
    refine ⟨_, rfl, p, d8, _, rfl, hp8, ⟨p, n, u, rfl, st8, ln', lu', _, rfl, by show 6 ≤ sizeLine; decide, fun l9 h9 => ?_⟩⟩
    have s9 := same_upd (o := .lst [V.ref x7, V.ref r, V.str (S n), V.ref t8, V.non, V.str (S ((n ++ sp1) ++ u))]) h9
    have hl9 : (upd H8 l9 (.lst [V.ref x7, V.ref r, V.str (S n), V.ref t8, V.non, V.str (S ((n ++ sp1) ++ u))])) l9 = some (.lst [V.ref x7, V.ref r, V.str (S n), V.ref t8, V.non, V.str (S ((n ++ sp1) ++ u))]) := upd_same
    generalize upd H8 l9 (.lst [V.ref x7, V.ref r, V.str (S n), V.ref t8, V.non, V.str (S ((n ++ sp1) ++ u))]) = H9 at *
    have sH9 := sH8.trans s9
    have st9 := hst.mono sH9
    have all : ∀ y ∈ [V.ref x7, V.ref r, V.str (S n), V.ref t8, V.non, V.str (S ((n ++ sp1) ++ u))], OneY K CS H9 n u y false := by
      intro y hy
      have e1 : (decide (n = o) && decide (u = u)) = false := by rw [decide_eq_false hno]; rfl
      have e2 : (decide (n = n) && decide (u = u')) = false := by rw [decide_eq_false huu, Bool.and_false]
      simp only [List.mem_cons, List.not_mem_nil, or_false] at hy
      rcases hy with rfl | rfl | rfl | rfl | rfl | rfl
      · rw [← e1]
        exact one_st IS ((h7.mono s8).mono s9)
      · rw [← e2]
        exact one_st IS (((st6.mono s7).mono s8).mono s9)
      · exact one_ty N (.str _) (by decide) (by decide)
      · exact one_ty N (.tup (s9 _ _ ht8)) (by decide) (by decide)
      · exact one_ty N .non (by decide) (by decide)
      · exact one_ty N (.str _) (by decide) (by decide)
    refine ⟨l9, rfl, ⟨_, SqL.of hl9⟩, for_list (K := K) (a := l9) (xs := [V.ref x7, V.ref r, V.str (S n), V.ref t8, V.non, V.str (S ((n ++ sp1) ++ u))]) (fun i σ H' => (∃ v, σ = [some (.ref p), some (.str (S n)), some (.str (S u)), some (.str (S o)), some (.ref r), v]) ∧ H9 = H') ⟨⟨_, rfl⟩, rfl⟩ (fun i σ H' _ h => by rw [← h.2]; exact SqL.of hl9) ?_ ?_⟩
    · rintro i y σ H' hy ⟨⟨v, rfl⟩, rfl⟩
      have hone := all y (List.mem_of_getElem? hy)
      refine ⟨_, rfl, _, rfl, oeq_of st9 hone ⟨_, rfl, iteF ⟨_, rfl, _, rfl, oeq_of st9 hone ⟨_, rfl, iteF ?_⟩⟩⟩⟩
      exact ⟨⟨_, rfl⟩, rfl⟩
    · rintro σ H' ⟨⟨v, rfl⟩, rfl⟩
      exact q _ sH9
end
end KW

/-! ## k02: the law -/
namespace KW
open PySem PySem.Spec PyProof.Rows L2
theorem cutV_len (xs : List V) (lo hi : Option Int) : (cutV xs lo hi).length ≤ xs.length := by
  unfold cutV
  rw [List.length_take, List.length_drop]
  omega
theorem KB.same {p : Addr} {H H1 H2 : Hp} (k : KB p H1 H2) (hp : H p = none) (s : Same H H1) : Same H H2 := fun b o e => k b o (ne_of_none e hp) (s b o e)
/-- what is due: nothing, or a word that refuses -/
def DueAt (H : Hp) (v : V) : Option (List Nat) → Prop
  | none => v = .non
  | some x => ∃ q : Addr, v = .ref q ∧ H q = some (.tup [.str "refused", .str (S x)])
theorem DueAt.mono {H H' : Hp} {v : V} {o : Option (List Nat)} (h : DueAt H v o) (s : Same H H') : DueAt H' v o := by
  cases o with
  | none => exact h
  | some x =>
    obtain ⟨q, rfl, h⟩ := h
    exact ⟨q, rfl, s _ _ h⟩
section
variable {P : Program} {w : World} {K : PySem.W.Frag} {mg : Str → Option Value} {base : Heap}
abbrev s_law : Stmt := topS 53
theorem sc_law : FnScope ["_law_script", "_law_k", "_law_feed_here", "_law_turn", "_law_name", "_law_ways_here", "_law_due", "_law_found"] ["_law_script"] (defScope s_law) := ⟨rfl, rfl, rfl, by decide +kernel, rfl, by decide +kernel, by decide +kernel⟩
def spLaw (K : PySem.W.Frag) : Sp := fun vs H Q _ => ∃ (a : Addr) (ns : List Int), vs = [.ref a] ∧ SqL K H a (ns.map V.int) ∧ ns.length ≤ 63 ∧ ∀ H', Q (.bl true) H'
theorem ok_law {k : Nat} {f CS CE CT CC : Addr} {fd : FuncData} (B : Bi mg) (T4 : OwC K CS CE CT CC) (F : Fun K "law" "law" s_law f fd) (G_law_feed : C8.Cal P w K mg base k "_law_feed" (spFeed K) []) (G_law_draw : C8.Cal P w K mg base k "_law_draw" spDraw [])
    (G_law_any : C8.Cal P w K mg base k "_law_any" (spAny CS CE CT CC 3) []) (G_law_near_name : C8.Cal P w K mg base k "_law_near_name" spNear []) (G_law_near_ways : C8.Cal P w K mg base k "_law_near_ways" (spNW CS CE CT CC) [])
    (G_law_are_ways : C8.Cal P w K mg base k "_law_are_ways" (spIsL K waysB) []) (G_law_is_name : C8.Cal P w K mg base k "_law_is_name" (spIsL K nameB) []) (G_law_told : C8.Cal P w K mg base k "_law_told" (spTold2 K CS) []) (G_law_same : C8.Cal P w K mg base k "_law_same" (spSame K 30) [])
    (G_law_right : C8.Cal P w K mg base k "_law_right" (spRight CS) []) : FnOk P w K mg base CX0 (k + 1) f fd ["_law_script"] (spLaw K) := by
  refine F.ok sc_law (fun vs H Q E h => ?_) (fun cdv A outer s H vs Q E hr h => ?_)
  · obtain ⟨a, ns, rfl, _⟩ := h
    rfl
  · obtain ⟨a, ns, rfl, hS, hlen, q⟩ := h
    refine ⟨_, (pss_cons (ps_for PassesOwn.never rfl (pi_range1 rfl B.range (pa_cons (pe_op op_add pe_int (pe_callB (kk_len K rfl) rfl B.len PySem.boot_len (pa_cons (pe_slice (kk_slL K rfl) (pv 0) po_none (po_some pe_int)) pa_nil))) pa_nil)) (pg_name (i := 1) sc_law.nd rfl (Or.inl rfl)) (pss_cons (ps_set (i := 2) sc_law.nd rfl (Or.inl rfl) (C8.pe_c G_law_feed hr (Nat.le_refl _) rfl (pa_cons (pv 0) (pa_cons (pv 1) pa_nil))))
      (pss_one (ps_for PassesOwn.never rfl (pi_range1 rfl B.range (pa_cons pe_int pa_nil)) (pg_name (i := 3) sc_law.nd rfl (Or.inl rfl)) (C8.pss_cut (ps_set (i := 4) sc_law.nd rfl (Or.inl rfl) (pe_ifExp (pt_cmpR op_eq (C8.pe_c G_law_draw hr (Nat.le_refl _) rfl (pa_cons (pv 2) (pa_cons pe_int pa_nil))) pe_int (nomark _)) (C8.pe_c G_law_any hr (Nat.le_refl _) rfl (pa_cons (pv 2) (pa_cons pe_int pa_nil))) (C8.pe_c G_law_near_name hr (Nat.le_refl _) rfl (pa_cons (pv 2) pa_nil))))
      (pss_cons (ps_set (i := 5) sc_law.nd rfl (Or.inl rfl) (C8.pe_c G_law_near_ways hr (Nat.le_refl _) rfl (pa_cons (pv 2) pa_nil)))
      (pss_cons (ps_set (i := 6) sc_law.nd rfl (Or.inl rfl) pe_non)
      (C8.pss_cut (ps_if (pt_not (pt_val (C8.pe_c G_law_are_ways hr (Nat.le_refl _) rfl (pa_cons (pv 5) pa_nil)))) (pss_one (ps_set (i := 6) sc_law.nd rfl (Or.inl rfl) (pe_tup (pa_cons pe_str (pa_cons pe_str pa_nil))))) pss_nil)
      (C8.pss_cut (ps_if (pt_not (pt_val (C8.pe_c G_law_is_name hr (Nat.le_refl _) rfl (pa_cons (pv 4) pa_nil)))) (pss_one (ps_set (i := 6) sc_law.nd rfl (Or.inl rfl) (pe_tup (pa_cons pe_str (pa_cons pe_str pa_nil))))) pss_nil)
      (pss_cons (ps_set (i := 7) sc_law.nd rfl (Or.inl rfl) (C8.pe_c G_law_told hr (Nat.le_refl _) rfl (pa_cons (pv 4) (pa_cons (pv 5) pa_nil))))
      (pss_cons (ps_if (PW.pt (pw_and (pt_cmpR op_notN (pv 6) pe_non (nomark _)) (pw_and1 (pt_not (pt_val (C8.pe_c G_law_same hr (Nat.le_refl _) rfl (pa_cons (pv 7) (pa_cons (pv 6) pa_nil)))))))) (pss_one (ps_ret pe_bl)) pss_nil)
      (pss_one (ps_if (PW.pt (pw_and (pt_cmpR op_isN (pv 6) pe_non (nomark _)) (pw_and1 (pt_not (pt_val (C8.pe_c G_law_right hr (Nat.le_refl _) rfl (pa_cons (pv 7) (pa_cons (pv 4) (pa_cons (pv 5) pa_nil))))))))) (pss_one (ps_ret pe_bl)) pss_nil)))))))))))))
      (pss_one (ps_ret pe_bl))), ?_⟩
    have hlm : (ns.map V.int).length ≤ 63 := by rw [List.length_map]; exact hlen
    refine ⟨_, rfl, 3, rfl, a, _, rfl, hS, fun c hc => ?_⟩
    have sc := same_upd (o := .lst (cutV (ns.map V.int) none (some 3))) hc
    have hcl : (cutV (ns.map V.int) none (some 3)).length ≤ 63 := Nat.le_trans (cutV_len _ _ _) hlm
    refine ⟨_, _, rfl, .inl ⟨_, SqL.of upd_same, rfl⟩, _, _, rfl, rfl, _, rfl, by omega, by omega, ?_⟩
    refine for_range (lo := 0) (fun i σ H2 => ∃ (v1 v2 v3 v4 v5 v6 v7 : Option V), σ = [some (.ref a), v1, v2, v3, v4, v5, v6, v7] ∧ Same H H2) ?_ ?_ ?_
    · exact ⟨none, none, none, none, none, none, none, rfl, sc⟩
    · rintro i σ H2 hi ⟨v1, v2, v3, v4, v5, v6, v7, rfl, sH2⟩
      refine ⟨_, rfl, _, rfl, a, ns, _, rfl, sH2.seq hS, by omega, fun p H3 hp s3 f3 => ?_⟩
      have hpH : H p = none := sH2.free hp
      have sH3 : Same H H3 := sH2.trans s3
      refine ⟨_, rfl, by decide, by decide, ?_⟩
      refine for_range (lo := 0) (n := 4) (fun j σ H4 => ∃ (u3 u4 u5 u6 u7 : Option V), σ = [some (.ref a), some (.int (0 + i)), some (.ref p), u3, u4, u5, u6, u7] ∧ Fd H4 p ∧ Same H H4) ?_ ?_ ?_
      · exact ⟨_, _, _, _, _, rfl, f3, sH3⟩
      · rintro j σ H4 hj ⟨u3, u4, u5, u6, u7, rfl, f4, sH4⟩
        -- the name
        refine ⟨fun σ H5 => ∃ (vn : V) (n : Option (List Nat)), σ = [some (.ref a), some (.int (0 + i)), some (.ref p), some (.int (0 + j)), some vn, u5, u6, u7] ∧ AvAt CS CE CT CC (hid p H5) vn n ∧ Fd H5 p ∧ Same H H5, ?_, ?_⟩
        · refine ⟨_, rfl, p, 4, rfl, f4, by decide, by decide, fun r H5 r0 r1 f5 k5 => ⟨rfl, _, rfl, ite2 (fun h => ?_) (fun h => ?_)⟩⟩
          · exact ⟨_, rfl, p, 2, rfl, f5, by decide, fun v o H6 hv f6 k6 => ⟨v, o, rfl, hv, f6, k6.same hpH (k5.same hpH sH4)⟩⟩
          · exact ⟨_, rfl, p, rfl, f5, fun l H6 hl f6 k6 => ⟨_, some l, rfl, .txt hl, f6, k6.same hpH (k5.same hpH sH4)⟩⟩
        rintro σ H5 ⟨vn, n, rfl, hvn, f5, sH5⟩
        -- the ways
        refine ⟨_, rfl, p, rfl, f5, fun vw u H6 hvw f6 k6 => ?_⟩
        have sH6 := k6.same hpH sH5
        have an := (hvn.mono (hid_kb k6)).mono hid_same
        have au := hvw.mono hid_same
        have chr : ∀ {v : V} {o : Option (List Nat)}, AvAt CS CE CT CC H6 v o → ∀ l, o = some l → ∀ c ∈ l, c ≤ 126 := fun h l e => by
          subst e
          exact h.sh.2.chr
        -- due
        refine ⟨fun σ H7 => ∃ dv : V, σ = [some (.ref a), some (.int (0 + i)), some (.ref p), some (.int (0 + j)), some vn, some vw, some dv, u7] ∧ DueAt H7 dv (if waysB u = false then some [119, 97, 121, 115] else none) ∧ Same H6 H7, ?_, ?_⟩
        · refine ⟨_, rfl, vw, u, rfl, au.tx T4, chr au, fun H7 s7 => ⟨_, rfl, ?_⟩⟩
          cases bu : waysB u with
          | true => exact iteF ⟨_, rfl, by rw [if_neg (by decide)]; rfl, s7⟩
          | false =>
            refine iteT ⟨by show 2 ≤ sizeLine; decide, fun t ht => ⟨_, rfl, ?_, s7.trans (same_upd ht)⟩⟩
            rw [if_pos rfl, ways_eq]
            exact ⟨t, rfl, upd_same⟩
        rintro σ H7 ⟨d1, rfl, hd1, s7⟩
        refine ⟨fun σ H8 => ∃ dv : V, σ = [some (.ref a), some (.int (0 + i)), some (.ref p), some (.int (0 + j)), some vn, some vw, some dv, u7] ∧ DueAt H8 dv (stTold n u) ∧ Same H6 H8, ?_, ?_⟩
        · refine ⟨_, rfl, vn, n, rfl, (an.mono s7).tx T4, chr an, fun H8 s8 => ⟨_, rfl, ?_⟩⟩
          cases bn : nameB n with
          | true =>
            refine iteF ⟨_, rfl, ?_, s7.trans s8⟩
            unfold stTold
            rw [if_neg (by rw [bn]; decide)]
            exact hd1.mono s8
          | false =>
            refine iteT ⟨by show 2 ≤ sizeLine; decide, fun t ht => ⟨_, rfl, ?_, (s7.trans s8).trans (same_upd ht)⟩⟩
            unfold stTold
            rw [if_pos bn, name_eq]
            exact ⟨t, rfl, upd_same⟩
        rintro σ H8 ⟨dv, rfl, hdv, s8⟩
        have an8 := an.mono s8
        have au8 := au.mono s8
        have back : ∀ {H9 : Hp}, Same H8 H9 → Fd H9 p ∧ Same H H9 := fun s9 => ⟨(f6.same s8).same s9, (sH6.trans s8).trans s9⟩
        refine ⟨_, rfl, _, rfl, vn, vw, n, u, rfl, an8.tx T4, au8.tx T4, fun x ex q9 H9 h9 s9 => ?_, fun n' u' en eu b1 b2 p9 H9 h9 s9 => ?_⟩
        · -- refused
          rw [ex] at hdv
          obtain ⟨qd, rfl, hqd⟩ := hdv
          have hx : ∀ c ∈ x, c ≤ 126 := by
            unfold stTold at ex
            split at ex
            · cases ex
              decide
            · split at ex
              · cases ex
                decide
              · cases ex
          have dp : ∀ {v : Addr}, H9 v = some (.tup [.str "refused", .str (S x)]) → Dp K H9 (.ref v) (.tuple [.str "refused", .str (S x)]) := fun h => .tup (SqT.of h) (.cons (.str _) (.cons (.str _) .nil))
          refine ⟨_, rfl, rfl, _, rfl, iteT ?_⟩
          refine ⟨_, rfl, _, rfl, _, _, .tuple [.str "refused", .str (S x)], rfl, dp h9, dp (s9 _ _ hqd), ?_, by simp [PyData.depth, PyData.depthAll], by decide, by simp [KW.sizeD, sizeAll], fun H10 s10 => ⟨true, rfl, iteF ?_⟩⟩
          · have e : PyData.strOk (Str.ofString "refused") = true := by decide +kernel
            simp only [PyData.canLay0, PyData.canLayAll0, strOk_of hx, e, Bool.and_self]
          refine ⟨_, rfl, rfl, _, rfl, iteF (iteF ?_)⟩
          exact ⟨_, _, _, _, _, rfl, back (s9.trans s10)⟩
        · -- a step
          subst en
          subst eu
          have e : stTold (some n') (some u') = none := by
            unfold stTold
            rw [if_neg (by rw [show nameB (some n') = true from b1]; decide), if_neg (by rw [show waysB (some u') = true from b2]; decide)]
          rw [e] at hdv
          obtain rfl : dv = .non := hdv
          obtain ⟨rfl, _⟩ := an8.sh
          obtain ⟨rfl, _⟩ := au8.sh
          refine ⟨_, rfl, rfl, _, rfl, iteF (iteF ?_)⟩
          refine ⟨_, rfl, rfl, _, rfl, iteT ⟨_, rfl, _, rfl, _, rfl, p9, n', u', rfl, h9, b1, b2, fun H10 s10 => ⟨true, rfl, iteF ?_⟩⟩⟩
          exact ⟨_, _, _, _, _, rfl, back (s9.trans s10)⟩
      · rintro σ H4 ⟨u3, u4, u5, u6, u7, rfl, f4, sH4⟩
        exact ⟨_, _, _, _, _, _, _, rfl, sH4⟩
    · rintro σ H2 ⟨v1, v2, v3, v4, v5, v6, v7, rfl, sH2⟩
      exact q _
end
end KW

/-! ## the end -/
namespace KW
open PySem PySem.Spec PyProof.Rows L2
theorem ks_of {K : PySem.W.Frag} {C : Addr} (h : PySem.W.subIn K (.ref C) (.type "str") = some false) : PySem.W.kitOne K (.ref C) (.type "str") = some false := by
  unfold PySem.W.kitOne
  rw [if_neg (by simp)]
  show (if PySem.W.kitMeta "str" = true then PySem.W.subIn K (.ref C) (.type "str") else none) = some false
  rw [if_pos (by decide +kernel), h]
theorem all_mk {l : PySem.W.OpenLaw} {w : World} {K : PySem.W.Frag} {h : Heap} {mg : Str → Option Value} {fa : Addr} (X : K.In h) (G : h.Ns mainGlobals mg) (hfa : mg "law" = some (.ref fa))
    {od__law_feed an__law_feed : Option Addr} {sl__law_feed : Array (Option Value)} {oc__law_feed kV__law_feed dc__law_feed pm__law_feed cd__law_feed ct__law_feed : Value} {f__law_feed : Addr}
    {od__law_draw an__law_draw : Option Addr} {sl__law_draw : Array (Option Value)} {oc__law_draw kV__law_draw dc__law_draw pm__law_draw cd__law_draw ct__law_draw : Value} {f__law_draw : Addr}
    {od__law_pick an__law_pick : Option Addr} {sl__law_pick : Array (Option Value)} {oc__law_pick kV__law_pick dc__law_pick pm__law_pick cd__law_pick ct__law_pick : Value} {f__law_pick : Addr}
    {od__law_word an__law_word : Option Addr} {sl__law_word : Array (Option Value)} {oc__law_word kV__law_word dc__law_word pm__law_word cd__law_word ct__law_word : Value} {f__law_word : Addr}
    {od__law_same an__law_same : Option Addr} {sl__law_same : Array (Option Value)} {oc__law_same kV__law_same dc__law_same pm__law_same cd__law_same ct__law_same : Value} {f__law_same : Addr}
    {od_is_name an_is_name : Option Addr} {sl_is_name : Array (Option Value)} {oc_is_name kV_is_name dc_is_name pm_is_name cd_is_name ct_is_name : Value} {f_is_name : Addr}
    {od_are_ways an_are_ways : Option Addr} {sl_are_ways : Array (Option Value)} {oc_are_ways kV_are_ways dc_are_ways pm_are_ways cd_are_ways ct_are_ways : Value} {f_are_ways : Addr}
    {od_all_steps an_all_steps : Option Addr} {sl_all_steps : Array (Option Value)} {oc_all_steps kV_all_steps dc_all_steps pm_all_steps cd_all_steps ct_all_steps : Value} {f_all_steps : Addr}
    {od_text_of an_text_of : Option Addr} {sl_text_of : Array (Option Value)} {oc_text_of kV_text_of dc_text_of pm_text_of cd_text_of ct_text_of : Value} {f_text_of : Addr}
    {od_all_names an_all_names : Option Addr} {sl_all_names : Array (Option Value)} {oc_all_names kV_all_names dc_all_names pm_all_names cd_all_names ct_all_names : Value} {f_all_names : Addr}
    {od_named an_named : Option Addr} {sl_named : Array (Option Value)} {oc_named kV_named dc_named pm_named cd_named ct_named : Value} {f_named : Addr}
    {od_ways_fit an_ways_fit : Option Addr} {sl_ways_fit : Array (Option Value)} {oc_ways_fit kV_ways_fit dc_ways_fit pm_ways_fit cd_ways_fit ct_ways_fit : Value} {f_ways_fit : Addr}
    {od__law_near_name an__law_near_name : Option Addr} {sl__law_near_name : Array (Option Value)} {oc__law_near_name kV__law_near_name dc__law_near_name pm__law_near_name cd__law_near_name ct__law_near_name : Value} {f__law_near_name : Addr}
    {od__law_ways an__law_ways : Option Addr} {sl__law_ways : Array (Option Value)} {oc__law_ways kV__law_ways dc__law_ways pm__law_ways cd__law_ways ct__law_ways : Value} {f__law_ways : Addr}
    {od__law_any an__law_any : Option Addr} {sl__law_any : Array (Option Value)} {oc__law_any kV__law_any dc__law_any pm__law_any cd__law_any ct__law_any : Value} {f__law_any : Addr}
    {od__law_near_ways an__law_near_ways : Option Addr} {sl__law_near_ways : Array (Option Value)} {oc__law_near_ways kV__law_near_ways dc__law_near_ways pm__law_near_ways cd__law_near_ways ct__law_near_ways : Value} {f__law_near_ways : Addr}
    {od__law_sign an__law_sign : Option Addr} {sl__law_sign : Array (Option Value)} {oc__law_sign kV__law_sign dc__law_sign pm__law_sign cd__law_sign ct__law_sign : Value} {f__law_sign : Addr}
    {od__law_bent an__law_bent : Option Addr} {sl__law_bent : Array (Option Value)} {oc__law_bent kV__law_bent dc__law_bent pm__law_bent cd__law_bent ct__law_bent : Value} {f__law_bent : Addr}
    {od__law_is_name an__law_is_name : Option Addr} {sl__law_is_name : Array (Option Value)} {oc__law_is_name kV__law_is_name dc__law_is_name pm__law_is_name cd__law_is_name ct__law_is_name : Value} {f__law_is_name : Addr}
    {od__law_are_ways an__law_are_ways : Option Addr} {sl__law_are_ways : Array (Option Value)} {oc__law_are_ways kV__law_are_ways dc__law_are_ways pm__law_are_ways cd__law_are_ways ct__law_are_ways : Value} {f__law_are_ways : Addr}
    {od__law_refused an__law_refused : Option Addr} {sl__law_refused : Array (Option Value)} {oc__law_refused kV__law_refused dc__law_refused pm__law_refused cd__law_refused ct__law_refused : Value} {f__law_refused : Addr}
    {od__law_told an__law_told : Option Addr} {sl__law_told : Array (Option Value)} {oc__law_told kV__law_told dc__law_told pm__law_told cd__law_told ct__law_told : Value} {f__law_told : Addr}
    {od__law_right an__law_right : Option Addr} {sl__law_right : Array (Option Value)} {oc__law_right kV__law_right dc__law_right pm__law_right cd__law_right ct__law_right : Value} {f__law_right : Addr}
    {C_Step : Addr}
    {od_Step___init__ an_Step___init__ : Option Addr} {sl_Step___init__ : Array (Option Value)} {oc_Step___init__ kV_Step___init__ dc_Step___init__ pm_Step___init__ cd_Step___init__ ct_Step___init__ : Value} {f_Step___init__ : Addr}
    {od_Step___eq__ an_Step___eq__ : Option Addr} {sl_Step___eq__ : Array (Option Value)} {oc_Step___eq__ kV_Step___eq__ dc_Step___eq__ pm_Step___eq__ cd_Step___eq__ ct_Step___eq__ : Value} {f_Step___eq__ : Addr}
    {od_Step___len__ an_Step___len__ : Option Addr} {sl_Step___len__ : Array (Option Value)} {oc_Step___len__ kV_Step___len__ dc_Step___len__ pm_Step___len__ cd_Step___len__ ct_Step___len__ : Value} {f_Step___len__ : Addr}
    {od_Step___str__ an_Step___str__ : Option Addr} {sl_Step___str__ : Array (Option Value)} {oc_Step___str__ kV_Step___str__ dc_Step___str__ pm_Step___str__ cd_Step___str__ ct_Step___str__ : Value} {f_Step___str__ : Addr}
    {C_Expr : Addr}
    {od_Expr___init__ an_Expr___init__ : Option Addr} {sl_Expr___init__ : Array (Option Value)} {oc_Expr___init__ kV_Expr___init__ dc_Expr___init__ pm_Expr___init__ cd_Expr___init__ ct_Expr___init__ : Value} {f_Expr___init__ : Addr}
    {C_Trait : Addr}
    {od_Trait___init__ an_Trait___init__ : Option Addr} {sl_Trait___init__ : Array (Option Value)} {oc_Trait___init__ kV_Trait___init__ dc_Trait___init__ pm_Trait___init__ cd_Trait___init__ ct_Trait___init__ : Value} {f_Trait___init__ : Addr}
    {C_Chain : Addr}
    {od_Chain___init__ an_Chain___init__ : Option Addr} {sl_Chain___init__ : Array (Option Value)} {oc_Chain___init__ kV_Chain___init__ dc_Chain___init__ pm_Chain___init__ cd_Chain___init__ ct_Chain___init__ : Value} {f_Chain___init__ : Addr}
    {C_WaysError : Addr}
    {C_InvalidStep : Addr}
    {C_InvalidTrait : Addr}
    {C_InvalidExpr : Addr}
    {C_InvalidRow : Addr}
    {C_InvalidText : Addr}
    {C_InvalidWorld : Addr}
    {C_InvalidStart : Addr}
    {C_InvalidClaim : Addr}
    {C_NoName : Addr}
    {C_NoStep : Addr}
    {C_NoRow : Addr}
    {C_Impossible : Addr}
    {nm_InvalidStep qn_InvalidStep : Str} {N_InvalidStep : Addr} {bs_InvalidStep : List Value} {sn_InvalidStep : List Str} {su_InvalidStep : List Value} {ab_InvalidStep : Bool} {co_InvalidStep : Option Bool} {dd_InvalidStep : Option Addr} {m0_InvalidStep m1_InvalidStep m2_InvalidStep m3_InvalidStep m5_InvalidStep : Option Value}
    {od_InvalidStep___init__ an_InvalidStep___init__ : Option Addr} {sl_InvalidStep___init__ : Array (Option Value)} {oc_InvalidStep___init__ kV_InvalidStep___init__ dc_InvalidStep___init__ pm_InvalidStep___init__ cd_InvalidStep___init__ ct_InvalidStep___init__ : Value} {f_InvalidStep___init__ : Addr}
    {t_LETTERS t_WAYS t_kw1 t_kw2 t_kw3 : Tok} {a_KW : Addr} {dd_KW : Option Addr} {nn_KW : Nat} {sl_KW : Array (Option Value)}
    {d_CO : Addr} {es_CO : Array DictEntry} {n_CO : Nat} {t_CO : Tok}
    {od_law an_law : Option Addr} {sl_law : Array (Option Value)} {oc_law kV_law dc_law pm_law cd_law ct_law : Value} {f_law : Addr}
    (a__law_feed : PySem.W.nsIn K mainGlobals "_law_feed" = some (some (.ref f__law_feed)))
    (l__law_feed : K.lookup f__law_feed = some ⟨oc__law_feed, od__law_feed, .func (PySem.W.fnOf "_law_feed" "_law_feed" (defArgs s__law_feed) (defBody s__law_feed) (defScope s__law_feed) .none kV__law_feed dc__law_feed pm__law_feed an__law_feed cd__law_feed ct__law_feed), sl__law_feed⟩)
    (c__law_feed : PySem.W.codeIn K cd__law_feed "_law_feed" = true)
    (k__law_feed : PySem.W.keepIn K (.ref f__law_feed) = true)
    (a__law_draw : PySem.W.nsIn K mainGlobals "_law_draw" = some (some (.ref f__law_draw)))
    (l__law_draw : K.lookup f__law_draw = some ⟨oc__law_draw, od__law_draw, .func (PySem.W.fnOf "_law_draw" "_law_draw" (defArgs s__law_draw) (defBody s__law_draw) (defScope s__law_draw) .none kV__law_draw dc__law_draw pm__law_draw an__law_draw cd__law_draw ct__law_draw), sl__law_draw⟩)
    (c__law_draw : PySem.W.codeIn K cd__law_draw "_law_draw" = true)
    (k__law_draw : PySem.W.keepIn K (.ref f__law_draw) = true)
    (a__law_pick : PySem.W.nsIn K mainGlobals "_law_pick" = some (some (.ref f__law_pick)))
    (l__law_pick : K.lookup f__law_pick = some ⟨oc__law_pick, od__law_pick, .func (PySem.W.fnOf "_law_pick" "_law_pick" (defArgs s__law_pick) (defBody s__law_pick) (defScope s__law_pick) .none kV__law_pick dc__law_pick pm__law_pick an__law_pick cd__law_pick ct__law_pick), sl__law_pick⟩)
    (c__law_pick : PySem.W.codeIn K cd__law_pick "_law_pick" = true)
    (k__law_pick : PySem.W.keepIn K (.ref f__law_pick) = true)
    (a__law_word : PySem.W.nsIn K mainGlobals "_law_word" = some (some (.ref f__law_word)))
    (l__law_word : K.lookup f__law_word = some ⟨oc__law_word, od__law_word, .func (PySem.W.fnOf "_law_word" "_law_word" (defArgs s__law_word) (defBody s__law_word) (defScope s__law_word) .none kV__law_word dc__law_word pm__law_word an__law_word cd__law_word ct__law_word), sl__law_word⟩)
    (c__law_word : PySem.W.codeIn K cd__law_word "_law_word" = true)
    (k__law_word : PySem.W.keepIn K (.ref f__law_word) = true)
    (a__law_same : PySem.W.nsIn K mainGlobals "_law_same" = some (some (.ref f__law_same)))
    (l__law_same : K.lookup f__law_same = some ⟨oc__law_same, od__law_same, .func (PySem.W.fnOf "_law_same" "_law_same" (defArgs s__law_same) (defBody s__law_same) (defScope s__law_same) .none kV__law_same dc__law_same pm__law_same an__law_same cd__law_same ct__law_same), sl__law_same⟩)
    (c__law_same : PySem.W.codeIn K cd__law_same "_law_same" = true)
    (k__law_same : PySem.W.keepIn K (.ref f__law_same) = true)
    (a_is_name : PySem.W.nsIn K mainGlobals "is_name" = some (some (.ref f_is_name)))
    (l_is_name : K.lookup f_is_name = some ⟨oc_is_name, od_is_name, .func (PySem.W.fnOf "is_name" "is_name" (defArgs s_is_name) (defBody s_is_name) (defScope s_is_name) .none kV_is_name dc_is_name pm_is_name an_is_name cd_is_name ct_is_name), sl_is_name⟩)
    (c_is_name : PySem.W.codeIn K cd_is_name "is_name" = true)
    (k_is_name : PySem.W.keepIn K (.ref f_is_name) = true)
    (a_are_ways : PySem.W.nsIn K mainGlobals "are_ways" = some (some (.ref f_are_ways)))
    (l_are_ways : K.lookup f_are_ways = some ⟨oc_are_ways, od_are_ways, .func (PySem.W.fnOf "are_ways" "are_ways" (defArgs s_are_ways) (defBody s_are_ways) (defScope s_are_ways) .none kV_are_ways dc_are_ways pm_are_ways an_are_ways cd_are_ways ct_are_ways), sl_are_ways⟩)
    (c_are_ways : PySem.W.codeIn K cd_are_ways "are_ways" = true)
    (k_are_ways : PySem.W.keepIn K (.ref f_are_ways) = true)
    (a_all_steps : PySem.W.nsIn K mainGlobals "all_steps" = some (some (.ref f_all_steps)))
    (l_all_steps : K.lookup f_all_steps = some ⟨oc_all_steps, od_all_steps, .func (PySem.W.fnOf "all_steps" "all_steps" (defArgs s_all_steps) (defBody s_all_steps) (defScope s_all_steps) .none kV_all_steps dc_all_steps pm_all_steps an_all_steps cd_all_steps ct_all_steps), sl_all_steps⟩)
    (c_all_steps : PySem.W.codeIn K cd_all_steps "all_steps" = true)
    (k_all_steps : PySem.W.keepIn K (.ref f_all_steps) = true)
    (a_text_of : PySem.W.nsIn K mainGlobals "text_of" = some (some (.ref f_text_of)))
    (l_text_of : K.lookup f_text_of = some ⟨oc_text_of, od_text_of, .func (PySem.W.fnOf "text_of" "text_of" (defArgs s_text_of) (defBody s_text_of) (defScope s_text_of) .none kV_text_of dc_text_of pm_text_of an_text_of cd_text_of ct_text_of), sl_text_of⟩)
    (c_text_of : PySem.W.codeIn K cd_text_of "text_of" = true)
    (k_text_of : PySem.W.keepIn K (.ref f_text_of) = true)
    (a_all_names : PySem.W.nsIn K mainGlobals "all_names" = some (some (.ref f_all_names)))
    (l_all_names : K.lookup f_all_names = some ⟨oc_all_names, od_all_names, .func (PySem.W.fnOf "all_names" "all_names" (defArgs s_all_names) (defBody s_all_names) (defScope s_all_names) .none kV_all_names dc_all_names pm_all_names an_all_names cd_all_names ct_all_names), sl_all_names⟩)
    (c_all_names : PySem.W.codeIn K cd_all_names "all_names" = true)
    (k_all_names : PySem.W.keepIn K (.ref f_all_names) = true)
    (a_named : PySem.W.nsIn K mainGlobals "named" = some (some (.ref f_named)))
    (l_named : K.lookup f_named = some ⟨oc_named, od_named, .func (PySem.W.fnOf "named" "named" (defArgs s_named) (defBody s_named) (defScope s_named) .none kV_named dc_named pm_named an_named cd_named ct_named), sl_named⟩)
    (c_named : PySem.W.codeIn K cd_named "named" = true)
    (k_named : PySem.W.keepIn K (.ref f_named) = true)
    (a_ways_fit : PySem.W.nsIn K mainGlobals "ways_fit" = some (some (.ref f_ways_fit)))
    (l_ways_fit : K.lookup f_ways_fit = some ⟨oc_ways_fit, od_ways_fit, .func (PySem.W.fnOf "ways_fit" "ways_fit" (defArgs s_ways_fit) (defBody s_ways_fit) (defScope s_ways_fit) .none kV_ways_fit dc_ways_fit pm_ways_fit an_ways_fit cd_ways_fit ct_ways_fit), sl_ways_fit⟩)
    (c_ways_fit : PySem.W.codeIn K cd_ways_fit "ways_fit" = true)
    (k_ways_fit : PySem.W.keepIn K (.ref f_ways_fit) = true)
    (a__law_near_name : PySem.W.nsIn K mainGlobals "_law_near_name" = some (some (.ref f__law_near_name)))
    (l__law_near_name : K.lookup f__law_near_name = some ⟨oc__law_near_name, od__law_near_name, .func (PySem.W.fnOf "_law_near_name" "_law_near_name" (defArgs s__law_near_name) (defBody s__law_near_name) (defScope s__law_near_name) .none kV__law_near_name dc__law_near_name pm__law_near_name an__law_near_name cd__law_near_name ct__law_near_name), sl__law_near_name⟩)
    (c__law_near_name : PySem.W.codeIn K cd__law_near_name "_law_near_name" = true)
    (k__law_near_name : PySem.W.keepIn K (.ref f__law_near_name) = true)
    (a__law_ways : PySem.W.nsIn K mainGlobals "_law_ways" = some (some (.ref f__law_ways)))
    (l__law_ways : K.lookup f__law_ways = some ⟨oc__law_ways, od__law_ways, .func (PySem.W.fnOf "_law_ways" "_law_ways" (defArgs s__law_ways) (defBody s__law_ways) (defScope s__law_ways) .none kV__law_ways dc__law_ways pm__law_ways an__law_ways cd__law_ways ct__law_ways), sl__law_ways⟩)
    (c__law_ways : PySem.W.codeIn K cd__law_ways "_law_ways" = true)
    (k__law_ways : PySem.W.keepIn K (.ref f__law_ways) = true)
    (a__law_any : PySem.W.nsIn K mainGlobals "_law_any" = some (some (.ref f__law_any)))
    (l__law_any : K.lookup f__law_any = some ⟨oc__law_any, od__law_any, .func (PySem.W.fnOf "_law_any" "_law_any" (defArgs s__law_any) (defBody s__law_any) (defScope s__law_any) .none kV__law_any dc__law_any pm__law_any an__law_any cd__law_any ct__law_any), sl__law_any⟩)
    (c__law_any : PySem.W.codeIn K cd__law_any "_law_any" = true)
    (k__law_any : PySem.W.keepIn K (.ref f__law_any) = true)
    (a__law_near_ways : PySem.W.nsIn K mainGlobals "_law_near_ways" = some (some (.ref f__law_near_ways)))
    (l__law_near_ways : K.lookup f__law_near_ways = some ⟨oc__law_near_ways, od__law_near_ways, .func (PySem.W.fnOf "_law_near_ways" "_law_near_ways" (defArgs s__law_near_ways) (defBody s__law_near_ways) (defScope s__law_near_ways) .none kV__law_near_ways dc__law_near_ways pm__law_near_ways an__law_near_ways cd__law_near_ways ct__law_near_ways), sl__law_near_ways⟩)
    (c__law_near_ways : PySem.W.codeIn K cd__law_near_ways "_law_near_ways" = true)
    (k__law_near_ways : PySem.W.keepIn K (.ref f__law_near_ways) = true)
    (a__law_sign : PySem.W.nsIn K mainGlobals "_law_sign" = some (some (.ref f__law_sign)))
    (l__law_sign : K.lookup f__law_sign = some ⟨oc__law_sign, od__law_sign, .func (PySem.W.fnOf "_law_sign" "_law_sign" (defArgs s__law_sign) (defBody s__law_sign) (defScope s__law_sign) .none kV__law_sign dc__law_sign pm__law_sign an__law_sign cd__law_sign ct__law_sign), sl__law_sign⟩)
    (c__law_sign : PySem.W.codeIn K cd__law_sign "_law_sign" = true)
    (k__law_sign : PySem.W.keepIn K (.ref f__law_sign) = true)
    (a__law_bent : PySem.W.nsIn K mainGlobals "_law_bent" = some (some (.ref f__law_bent)))
    (l__law_bent : K.lookup f__law_bent = some ⟨oc__law_bent, od__law_bent, .func (PySem.W.fnOf "_law_bent" "_law_bent" (defArgs s__law_bent) (defBody s__law_bent) (defScope s__law_bent) .none kV__law_bent dc__law_bent pm__law_bent an__law_bent cd__law_bent ct__law_bent), sl__law_bent⟩)
    (c__law_bent : PySem.W.codeIn K cd__law_bent "_law_bent" = true)
    (k__law_bent : PySem.W.keepIn K (.ref f__law_bent) = true)
    (a__law_is_name : PySem.W.nsIn K mainGlobals "_law_is_name" = some (some (.ref f__law_is_name)))
    (l__law_is_name : K.lookup f__law_is_name = some ⟨oc__law_is_name, od__law_is_name, .func (PySem.W.fnOf "_law_is_name" "_law_is_name" (defArgs s__law_is_name) (defBody s__law_is_name) (defScope s__law_is_name) .none kV__law_is_name dc__law_is_name pm__law_is_name an__law_is_name cd__law_is_name ct__law_is_name), sl__law_is_name⟩)
    (c__law_is_name : PySem.W.codeIn K cd__law_is_name "_law_is_name" = true)
    (k__law_is_name : PySem.W.keepIn K (.ref f__law_is_name) = true)
    (a__law_are_ways : PySem.W.nsIn K mainGlobals "_law_are_ways" = some (some (.ref f__law_are_ways)))
    (l__law_are_ways : K.lookup f__law_are_ways = some ⟨oc__law_are_ways, od__law_are_ways, .func (PySem.W.fnOf "_law_are_ways" "_law_are_ways" (defArgs s__law_are_ways) (defBody s__law_are_ways) (defScope s__law_are_ways) .none kV__law_are_ways dc__law_are_ways pm__law_are_ways an__law_are_ways cd__law_are_ways ct__law_are_ways), sl__law_are_ways⟩)
    (c__law_are_ways : PySem.W.codeIn K cd__law_are_ways "_law_are_ways" = true)
    (k__law_are_ways : PySem.W.keepIn K (.ref f__law_are_ways) = true)
    (a__law_refused : PySem.W.nsIn K mainGlobals "_law_refused" = some (some (.ref f__law_refused)))
    (l__law_refused : K.lookup f__law_refused = some ⟨oc__law_refused, od__law_refused, .func (PySem.W.fnOf "_law_refused" "_law_refused" (defArgs s__law_refused) (defBody s__law_refused) (defScope s__law_refused) .none kV__law_refused dc__law_refused pm__law_refused an__law_refused cd__law_refused ct__law_refused), sl__law_refused⟩)
    (c__law_refused : PySem.W.codeIn K cd__law_refused "_law_refused" = true)
    (k__law_refused : PySem.W.keepIn K (.ref f__law_refused) = true)
    (a__law_told : PySem.W.nsIn K mainGlobals "_law_told" = some (some (.ref f__law_told)))
    (l__law_told : K.lookup f__law_told = some ⟨oc__law_told, od__law_told, .func (PySem.W.fnOf "_law_told" "_law_told" (defArgs s__law_told) (defBody s__law_told) (defScope s__law_told) .none kV__law_told dc__law_told pm__law_told an__law_told cd__law_told ct__law_told), sl__law_told⟩)
    (c__law_told : PySem.W.codeIn K cd__law_told "_law_told" = true)
    (k__law_told : PySem.W.keepIn K (.ref f__law_told) = true)
    (a__law_right : PySem.W.nsIn K mainGlobals "_law_right" = some (some (.ref f__law_right)))
    (l__law_right : K.lookup f__law_right = some ⟨oc__law_right, od__law_right, .func (PySem.W.fnOf "_law_right" "_law_right" (defArgs s__law_right) (defBody s__law_right) (defScope s__law_right) .none kV__law_right dc__law_right pm__law_right an__law_right cd__law_right ct__law_right), sl__law_right⟩)
    (c__law_right : PySem.W.codeIn K cd__law_right "_law_right" = true)
    (k__law_right : PySem.W.keepIn K (.ref f__law_right) = true)
    (a_Step : PySem.W.nsIn K mainGlobals "Step" = some (some (.ref C_Step)))
    (pg_Step : PySem.W.plainGet K C_Step Str.empty = true) (hd_Step : PySem.W.hasDictIn K C_Step = true) (po_Step : PySem.W.plainOver K C_Step = true) (sa_Step : PySem.W.findIn K (.ref C_Step) "__setattr__" = some (some (.builtin "object.__setattr__"))) (mk_Step : PySem.W.makesIn K C_Step = true) (kc_Step : PySem.W.keepIn K (.ref C_Step) = true)
    (ca_Step : PySem.W.findIn K (.ref C_Step) "__class__" = some (some (.builtin "object.__class__"))) (mo_Step : PySem.W.mroIn K C_Step (.type "object") = some true) (ks_Step : PySem.W.subIn K (.ref C_Step) (.type "str") = some false)
    (ne_Step : PySem.W.findIn K (.ref C_Step) "__ne__" = some (some (.builtin "object.__ne__"))) (ic_Step : PySem.W.isClsIn K C_Step = true) (tt_Step : PySem.W.typeIn K (.ref C_Step) = some (.type "type"))
    (su_Step_NoneType : PySem.W.subIn K (.type "NoneType") (.ref C_Step) = some false)
    (su_Step_bool : PySem.W.subIn K (.type "bool") (.ref C_Step) = some false)
    (su_Step_int : PySem.W.subIn K (.type "int") (.ref C_Step) = some false)
    (su_Step_str : PySem.W.subIn K (.type "str") (.ref C_Step) = some false)
    (su_Step_list : PySem.W.subIn K (.type "list") (.ref C_Step) = some false)
    (su_Step_tuple : PySem.W.subIn K (.type "tuple") (.ref C_Step) = some false)
    (su_Step_dict : PySem.W.subIn K (.type "dict") (.ref C_Step) = some false)
    (n_Step_name : PySem.W.findIn K (.ref C_Step) "name" = some none)
    (n_Step_ways : PySem.W.findIn K (.ref C_Step) "ways" = some none)
    (a_Step___init__ : PySem.W.findIn K (.ref C_Step) "__init__" = some (some (.ref f_Step___init__)))
    (i_Step___init__ : PySem.W.isFn K (.ref f_Step___init__) = true)
    (l_Step___init__ : K.lookup f_Step___init__ = some ⟨oc_Step___init__, od_Step___init__, .func (PySem.W.fnOf "__init__" "Step.__init__" (defArgs s_Step___init__) (defBody s_Step___init__) (defScope s_Step___init__) .none kV_Step___init__ dc_Step___init__ pm_Step___init__ an_Step___init__ cd_Step___init__ ct_Step___init__), sl_Step___init__⟩)
    (c_Step___init__ : PySem.W.codeIn K cd_Step___init__ "Step.__init__" = true)
    (k_Step___init__ : PySem.W.keepIn K (.ref f_Step___init__) = true)
    (a_Step___eq__ : PySem.W.findIn K (.ref C_Step) "__eq__" = some (some (.ref f_Step___eq__)))
    (i_Step___eq__ : PySem.W.isFn K (.ref f_Step___eq__) = true)
    (l_Step___eq__ : K.lookup f_Step___eq__ = some ⟨oc_Step___eq__, od_Step___eq__, .func (PySem.W.fnOf "__eq__" "Step.__eq__" (defArgs s_Step___eq__) (defBody s_Step___eq__) (defScope s_Step___eq__) .none kV_Step___eq__ dc_Step___eq__ pm_Step___eq__ an_Step___eq__ cd_Step___eq__ ct_Step___eq__), sl_Step___eq__⟩)
    (c_Step___eq__ : PySem.W.codeIn K cd_Step___eq__ "Step.__eq__" = true)
    (k_Step___eq__ : PySem.W.keepIn K (.ref f_Step___eq__) = true)
    (a_Step___len__ : PySem.W.findIn K (.ref C_Step) "__len__" = some (some (.ref f_Step___len__)))
    (i_Step___len__ : PySem.W.isFn K (.ref f_Step___len__) = true)
    (l_Step___len__ : K.lookup f_Step___len__ = some ⟨oc_Step___len__, od_Step___len__, .func (PySem.W.fnOf "__len__" "Step.__len__" (defArgs s_Step___len__) (defBody s_Step___len__) (defScope s_Step___len__) .none kV_Step___len__ dc_Step___len__ pm_Step___len__ an_Step___len__ cd_Step___len__ ct_Step___len__), sl_Step___len__⟩)
    (c_Step___len__ : PySem.W.codeIn K cd_Step___len__ "Step.__len__" = true)
    (k_Step___len__ : PySem.W.keepIn K (.ref f_Step___len__) = true)
    (a_Step___str__ : PySem.W.findIn K (.ref C_Step) "__str__" = some (some (.ref f_Step___str__)))
    (i_Step___str__ : PySem.W.isFn K (.ref f_Step___str__) = true)
    (l_Step___str__ : K.lookup f_Step___str__ = some ⟨oc_Step___str__, od_Step___str__, .func (PySem.W.fnOf "__str__" "Step.__str__" (defArgs s_Step___str__) (defBody s_Step___str__) (defScope s_Step___str__) .none kV_Step___str__ dc_Step___str__ pm_Step___str__ an_Step___str__ cd_Step___str__ ct_Step___str__), sl_Step___str__⟩)
    (c_Step___str__ : PySem.W.codeIn K cd_Step___str__ "Step.__str__" = true)
    (k_Step___str__ : PySem.W.keepIn K (.ref f_Step___str__) = true)
    (a_Expr : PySem.W.nsIn K mainGlobals "Expr" = some (some (.ref C_Expr)))
    (pg_Expr : PySem.W.plainGet K C_Expr Str.empty = true) (hd_Expr : PySem.W.hasDictIn K C_Expr = true) (po_Expr : PySem.W.plainOver K C_Expr = true) (sa_Expr : PySem.W.findIn K (.ref C_Expr) "__setattr__" = some (some (.builtin "object.__setattr__"))) (mk_Expr : PySem.W.makesIn K C_Expr = true) (kc_Expr : PySem.W.keepIn K (.ref C_Expr) = true)
    (ca_Expr : PySem.W.findIn K (.ref C_Expr) "__class__" = some (some (.builtin "object.__class__"))) (mo_Expr : PySem.W.mroIn K C_Expr (.type "object") = some true) (ks_Expr : PySem.W.subIn K (.ref C_Expr) (.type "str") = some false)
    (n_Expr_kind : PySem.W.findIn K (.ref C_Expr) "kind" = some none)
    (n_Expr_word : PySem.W.findIn K (.ref C_Expr) "word" = some none)
    (n_Expr_step : PySem.W.findIn K (.ref C_Expr) "step" = some none)
    (n_Expr_parts : PySem.W.findIn K (.ref C_Expr) "parts" = some none)
    (n_Expr_names : PySem.W.findIn K (.ref C_Expr) "names" = some none)
    (n_Expr_steps : PySem.W.findIn K (.ref C_Expr) "steps" = some none)
    (n_Expr_marks : PySem.W.findIn K (.ref C_Expr) "marks" = some none)
    (n_Expr_text : PySem.W.findIn K (.ref C_Expr) "text" = some none)
    (a_Expr___init__ : PySem.W.findIn K (.ref C_Expr) "__init__" = some (some (.ref f_Expr___init__)))
    (i_Expr___init__ : PySem.W.isFn K (.ref f_Expr___init__) = true)
    (l_Expr___init__ : K.lookup f_Expr___init__ = some ⟨oc_Expr___init__, od_Expr___init__, .func (PySem.W.fnOf "__init__" "Expr.__init__" (defArgs s_Expr___init__) (defBody s_Expr___init__) (defScope s_Expr___init__) .none kV_Expr___init__ dc_Expr___init__ pm_Expr___init__ an_Expr___init__ cd_Expr___init__ ct_Expr___init__), sl_Expr___init__⟩)
    (c_Expr___init__ : PySem.W.codeIn K cd_Expr___init__ "Expr.__init__" = true)
    (k_Expr___init__ : PySem.W.keepIn K (.ref f_Expr___init__) = true)
    (a_Trait : PySem.W.nsIn K mainGlobals "Trait" = some (some (.ref C_Trait)))
    (pg_Trait : PySem.W.plainGet K C_Trait Str.empty = true) (hd_Trait : PySem.W.hasDictIn K C_Trait = true) (po_Trait : PySem.W.plainOver K C_Trait = true) (sa_Trait : PySem.W.findIn K (.ref C_Trait) "__setattr__" = some (some (.builtin "object.__setattr__"))) (mk_Trait : PySem.W.makesIn K C_Trait = true) (kc_Trait : PySem.W.keepIn K (.ref C_Trait) = true)
    (ca_Trait : PySem.W.findIn K (.ref C_Trait) "__class__" = some (some (.builtin "object.__class__"))) (mo_Trait : PySem.W.mroIn K C_Trait (.type "object") = some true) (ks_Trait : PySem.W.subIn K (.ref C_Trait) (.type "str") = some false)
    (n_Trait_word : PySem.W.findIn K (.ref C_Trait) "word" = some none)
    (n_Trait_steps : PySem.W.findIn K (.ref C_Trait) "steps" = some none)
    (a_Trait___init__ : PySem.W.findIn K (.ref C_Trait) "__init__" = some (some (.ref f_Trait___init__)))
    (i_Trait___init__ : PySem.W.isFn K (.ref f_Trait___init__) = true)
    (l_Trait___init__ : K.lookup f_Trait___init__ = some ⟨oc_Trait___init__, od_Trait___init__, .func (PySem.W.fnOf "__init__" "Trait.__init__" (defArgs s_Trait___init__) (defBody s_Trait___init__) (defScope s_Trait___init__) .none kV_Trait___init__ dc_Trait___init__ pm_Trait___init__ an_Trait___init__ cd_Trait___init__ ct_Trait___init__), sl_Trait___init__⟩)
    (c_Trait___init__ : PySem.W.codeIn K cd_Trait___init__ "Trait.__init__" = true)
    (k_Trait___init__ : PySem.W.keepIn K (.ref f_Trait___init__) = true)
    (a_Chain : PySem.W.nsIn K mainGlobals "Chain" = some (some (.ref C_Chain)))
    (pg_Chain : PySem.W.plainGet K C_Chain Str.empty = true) (hd_Chain : PySem.W.hasDictIn K C_Chain = true) (po_Chain : PySem.W.plainOver K C_Chain = true) (sa_Chain : PySem.W.findIn K (.ref C_Chain) "__setattr__" = some (some (.builtin "object.__setattr__"))) (mk_Chain : PySem.W.makesIn K C_Chain = true) (kc_Chain : PySem.W.keepIn K (.ref C_Chain) = true)
    (ca_Chain : PySem.W.findIn K (.ref C_Chain) "__class__" = some (some (.builtin "object.__class__"))) (mo_Chain : PySem.W.mroIn K C_Chain (.type "object") = some true) (ks_Chain : PySem.W.subIn K (.ref C_Chain) (.type "str") = some false)
    (n_Chain_steps : PySem.W.findIn K (.ref C_Chain) "steps" = some none)
    (a_Chain___init__ : PySem.W.findIn K (.ref C_Chain) "__init__" = some (some (.ref f_Chain___init__)))
    (i_Chain___init__ : PySem.W.isFn K (.ref f_Chain___init__) = true)
    (l_Chain___init__ : K.lookup f_Chain___init__ = some ⟨oc_Chain___init__, od_Chain___init__, .func (PySem.W.fnOf "__init__" "Chain.__init__" (defArgs s_Chain___init__) (defBody s_Chain___init__) (defScope s_Chain___init__) .none kV_Chain___init__ dc_Chain___init__ pm_Chain___init__ an_Chain___init__ cd_Chain___init__ ct_Chain___init__), sl_Chain___init__⟩)
    (c_Chain___init__ : PySem.W.codeIn K cd_Chain___init__ "Chain.__init__" = true)
    (k_Chain___init__ : PySem.W.keepIn K (.ref f_Chain___init__) = true)
    (a_WaysError : PySem.W.nsIn K mainGlobals "WaysError" = some (some (.ref C_WaysError))) (ic_WaysError : PySem.W.isClsIn K C_WaysError = true) (ty_WaysError : PySem.W.typeIn K (.ref C_WaysError) = some (.type "type"))
    (a_InvalidStep : PySem.W.nsIn K mainGlobals "InvalidStep" = some (some (.ref C_InvalidStep))) (ic_InvalidStep : PySem.W.isClsIn K C_InvalidStep = true) (ty_InvalidStep : PySem.W.typeIn K (.ref C_InvalidStep) = some (.type "type"))
    (a_InvalidTrait : PySem.W.nsIn K mainGlobals "InvalidTrait" = some (some (.ref C_InvalidTrait))) (ic_InvalidTrait : PySem.W.isClsIn K C_InvalidTrait = true) (ty_InvalidTrait : PySem.W.typeIn K (.ref C_InvalidTrait) = some (.type "type"))
    (a_InvalidExpr : PySem.W.nsIn K mainGlobals "InvalidExpr" = some (some (.ref C_InvalidExpr))) (ic_InvalidExpr : PySem.W.isClsIn K C_InvalidExpr = true) (ty_InvalidExpr : PySem.W.typeIn K (.ref C_InvalidExpr) = some (.type "type"))
    (a_InvalidRow : PySem.W.nsIn K mainGlobals "InvalidRow" = some (some (.ref C_InvalidRow))) (ic_InvalidRow : PySem.W.isClsIn K C_InvalidRow = true) (ty_InvalidRow : PySem.W.typeIn K (.ref C_InvalidRow) = some (.type "type"))
    (a_InvalidText : PySem.W.nsIn K mainGlobals "InvalidText" = some (some (.ref C_InvalidText))) (ic_InvalidText : PySem.W.isClsIn K C_InvalidText = true) (ty_InvalidText : PySem.W.typeIn K (.ref C_InvalidText) = some (.type "type"))
    (a_InvalidWorld : PySem.W.nsIn K mainGlobals "InvalidWorld" = some (some (.ref C_InvalidWorld))) (ic_InvalidWorld : PySem.W.isClsIn K C_InvalidWorld = true) (ty_InvalidWorld : PySem.W.typeIn K (.ref C_InvalidWorld) = some (.type "type"))
    (a_InvalidStart : PySem.W.nsIn K mainGlobals "InvalidStart" = some (some (.ref C_InvalidStart))) (ic_InvalidStart : PySem.W.isClsIn K C_InvalidStart = true) (ty_InvalidStart : PySem.W.typeIn K (.ref C_InvalidStart) = some (.type "type"))
    (a_InvalidClaim : PySem.W.nsIn K mainGlobals "InvalidClaim" = some (some (.ref C_InvalidClaim))) (ic_InvalidClaim : PySem.W.isClsIn K C_InvalidClaim = true) (ty_InvalidClaim : PySem.W.typeIn K (.ref C_InvalidClaim) = some (.type "type"))
    (a_NoName : PySem.W.nsIn K mainGlobals "NoName" = some (some (.ref C_NoName))) (ic_NoName : PySem.W.isClsIn K C_NoName = true) (ty_NoName : PySem.W.typeIn K (.ref C_NoName) = some (.type "type"))
    (a_NoStep : PySem.W.nsIn K mainGlobals "NoStep" = some (some (.ref C_NoStep))) (ic_NoStep : PySem.W.isClsIn K C_NoStep = true) (ty_NoStep : PySem.W.typeIn K (.ref C_NoStep) = some (.type "type"))
    (a_NoRow : PySem.W.nsIn K mainGlobals "NoRow" = some (some (.ref C_NoRow))) (ic_NoRow : PySem.W.isClsIn K C_NoRow = true) (ty_NoRow : PySem.W.typeIn K (.ref C_NoRow) = some (.type "type"))
    (a_Impossible : PySem.W.nsIn K mainGlobals "Impossible" = some (some (.ref C_Impossible))) (ic_Impossible : PySem.W.isClsIn K C_Impossible = true) (ty_Impossible : PySem.W.typeIn K (.ref C_Impossible) = some (.type "type"))
    (ex_WaysError : PySem.W.subIn K (.ref C_WaysError) (.type "BaseException") = some true) (hd_WaysError : PySem.W.hasDictIn K C_WaysError = true)
    (sg_cls : PySem.W.specialIn K (.builtin "object.__class__") "__get__" = some (some (.builtin "getset_descriptor.__get__"))) (tk_cls : PySem.W.takesIn K (.builtin "object.__class__") = some true)
    (x_InvalidStep : K.lookup C_InvalidStep = some (excClassObj nm_InvalidStep qn_InvalidStep C_InvalidStep N_InvalidStep bs_InvalidStep [.ref C_WaysError, .type "ValueError", .type "Exception", .type "BaseException", .type "object"] true sn_InvalidStep su_InvalidStep ab_InvalidStep co_InvalidStep dd_InvalidStep m0_InvalidStep m1_InvalidStep m2_InvalidStep m3_InvalidStep m5_InvalidStep "ValueError.__new__"))
    (sa_InvalidStep : PySem.W.findIn K (.ref C_InvalidStep) "__setattr__" = some (some (.builtin "object.__setattr__"))) (ga_InvalidStep : PySem.W.findIn K (.ref C_InvalidStep) "__getattribute__" = some (some (.builtin "BaseException.__getattribute__"))) (gg_InvalidStep : PySem.W.findIn K (.ref C_InvalidStep) "__getattr__" = some none) (no_InvalidStep : PySem.W.findIn K (.ref C_InvalidStep) "word" = some none)
    (ex_InvalidStep : PySem.W.subIn K (.ref C_InvalidStep) (.type "BaseException") = some true) (hd_InvalidStep : PySem.W.hasDictIn K C_InvalidStep = true) (kc_InvalidStep : PySem.W.keepIn K (.ref C_InvalidStep) = true) (cc_InvalidStep : PySem.W.findIn K (.ref C_InvalidStep) "__class__" = some (some (.builtin "object.__class__"))) (mr_InvalidStep : PySem.W.mroIn K C_InvalidStep (.type "object") = some true) (sw_InvalidStep : PySem.W.subIn K (.ref C_InvalidStep) (.ref C_WaysError) = some true)
    (s_InvalidStep_InvalidStep : PySem.W.subIn K (.ref C_InvalidStep) (.ref C_InvalidStep) = some true)
    (s_InvalidStep_InvalidTrait : PySem.W.subIn K (.ref C_InvalidStep) (.ref C_InvalidTrait) = some false)
    (s_InvalidStep_InvalidExpr : PySem.W.subIn K (.ref C_InvalidStep) (.ref C_InvalidExpr) = some false)
    (s_InvalidStep_InvalidRow : PySem.W.subIn K (.ref C_InvalidStep) (.ref C_InvalidRow) = some false)
    (s_InvalidStep_InvalidText : PySem.W.subIn K (.ref C_InvalidStep) (.ref C_InvalidText) = some false)
    (s_InvalidStep_InvalidWorld : PySem.W.subIn K (.ref C_InvalidStep) (.ref C_InvalidWorld) = some false)
    (s_InvalidStep_InvalidStart : PySem.W.subIn K (.ref C_InvalidStep) (.ref C_InvalidStart) = some false)
    (s_InvalidStep_InvalidClaim : PySem.W.subIn K (.ref C_InvalidStep) (.ref C_InvalidClaim) = some false)
    (s_InvalidStep_NoName : PySem.W.subIn K (.ref C_InvalidStep) (.ref C_NoName) = some false)
    (s_InvalidStep_NoStep : PySem.W.subIn K (.ref C_InvalidStep) (.ref C_NoStep) = some false)
    (s_InvalidStep_NoRow : PySem.W.subIn K (.ref C_InvalidStep) (.ref C_NoRow) = some false)
    (s_InvalidStep_Impossible : PySem.W.subIn K (.ref C_InvalidStep) (.ref C_Impossible) = some false)
    (a_InvalidStep___init__ : PySem.W.findIn K (.ref C_InvalidStep) "__init__" = some (some (.ref f_InvalidStep___init__))) (t_InvalidStep___init__ : PySem.W.typeIn K (.ref f_InvalidStep___init__) = some (.type "function"))
    (l_InvalidStep___init__ : K.lookup f_InvalidStep___init__ = some ⟨oc_InvalidStep___init__, od_InvalidStep___init__, .func (PySem.W.fnOf "__init__" "InvalidStep.__init__" (defArgs s_InvalidStep___init__) (defBody s_InvalidStep___init__) (defScope s_InvalidStep___init__) .none kV_InvalidStep___init__ dc_InvalidStep___init__ pm_InvalidStep___init__ an_InvalidStep___init__ cd_InvalidStep___init__ ct_InvalidStep___init__), sl_InvalidStep___init__⟩)
    (c_InvalidStep___init__ : PySem.W.codeIn K cd_InvalidStep___init__ "InvalidStep.__init__" = true)
    (k_InvalidStep___init__ : PySem.W.keepIn K (.ref f_InvalidStep___init__) = true)
    (m_LETTERS : PySem.W.nsIn K mainGlobals "LETTERS" = some (some (.str (Str.ofString "abcdefghijklmnopqrstuvwxyz") t_LETTERS)))
    (m_WAYS : PySem.W.nsIn K mainGlobals "WAYS" = some (some (.str (Str.ofString "+-?") t_WAYS)))
    (m_KW : PySem.W.nsIn K mainGlobals "KEPT_WORDS" = some (some (.ref a_KW)))
    (lk_KW : K.lookup a_KW = some ⟨.type "tuple", dd_KW, .seq #[.str (Str.ofString "if") t_kw1, .str (Str.ofString "else") t_kw2, .str (Str.ofString "end") t_kw3] nn_KW, sl_KW⟩)
    (m_CO : PySem.W.nsIn K mainGlobals "COUNTS" = some (some (.ref d_CO)))
    (lk_CO : K.lookup d_CO = some ⟨.type "dict", none, .dict es_CO n_CO, #[]⟩)
    (kl_CO : PySem.W.KeysLit w.params es_CO.toList)
    (lo_CO : (d_CO == sysModules) = false)
    (up_CO : PySem.W.nsIn K d_CO "up" = some (some (.int 1 t_CO)))
    (z_len : PySem.W.nsIn K mainGlobals "len" = some none)
    (z_range : PySem.W.nsIn K mainGlobals "range" = some none)
    (z_abs : PySem.W.nsIn K mainGlobals "abs" = some none)
    (z_isinstance : PySem.W.nsIn K mainGlobals "isinstance" = some none)
    (z_all : PySem.W.nsIn K mainGlobals "all" = some none)
    (z_zip : PySem.W.nsIn K mainGlobals "zip" = some none)
    (z_enumerate : PySem.W.nsIn K mainGlobals "enumerate" = some none)
    (z_min : PySem.W.nsIn K mainGlobals "min" = some none)
    (z_int : PySem.W.nsIn K mainGlobals "int" = some none)
    (z_str : PySem.W.nsIn K mainGlobals "str" = some none)
    (z_list : PySem.W.nsIn K mainGlobals "list" = some none)
    (z_tuple : PySem.W.nsIn K mainGlobals "tuple" = some none)
    (z_bool : PySem.W.nsIn K mainGlobals "bool" = some none)
    (z_sorted : PySem.W.nsIn K mainGlobals "sorted" = some none)
    (z_sum : PySem.W.nsIn K mainGlobals "sum" = some none)
    (a_law : PySem.W.nsIn K mainGlobals "law" = some (some (.ref f_law)))
    (l_law : K.lookup f_law = some ⟨oc_law, od_law, .func (PySem.W.fnOf "law" "law" (defArgs s_law) (defBody s_law) (defScope s_law) .none kV_law dc_law pm_law an_law cd_law ct_law), sl_law⟩)
    (c_law : PySem.W.codeIn K cd_law "law" = true)
    (k_law : PySem.W.keepIn K (.ref f_law) = true) :
    ∃ fd : FuncData, (∀ (s : Shared) (v : Value), BindsTo s fd ⟨[v], []⟩ [("_law_script", v)]) ∧ ∀ base : Heap, K.In base → base.Ns mainGlobals mg → FnOk l.prog w K mg base CX0 33 fa fd ["_law_script"] (spLaw K) := by
  have e := hfa.symm.trans (PySem.W.mg_of X G a_law)
  cases e
  have B : Bi mg := { len := PySem.W.mg_none_of X G z_len, range := PySem.W.mg_none_of X G z_range, abs := PySem.W.mg_none_of X G z_abs, isinstance := PySem.W.mg_none_of X G z_isinstance, all := PySem.W.mg_none_of X G z_all, zip := PySem.W.mg_none_of X G z_zip, enumerate := PySem.W.mg_none_of X G z_enumerate, min := PySem.W.mg_none_of X G z_min, ty_int := PySem.W.mg_none_of X G z_int, ty_str := PySem.W.mg_none_of X G z_str, ty_list := PySem.W.mg_none_of X G z_list, ty_tuple := PySem.W.mg_none_of X G z_tuple, ty_bool := PySem.W.mg_none_of X G z_bool }
  have F__law_feed := fun_mk (st := s__law_feed) l__law_feed c__law_feed k__law_feed
  have D__law_feed : Df K mg "_law_feed" s__law_feed ["_law_script", "_law_k"] := ⟨_, _, F__law_feed, PySem.W.mg_of X G a__law_feed, k__law_feed, F__law_feed.binds (ps := ["_law_script", "_law_k"]) fun _ _ _ _ _ _ us hl => match us, hl with | [_, _], _ => rfl⟩
  have F__law_draw := fun_mk (st := s__law_draw) l__law_draw c__law_draw k__law_draw
  have D__law_draw : Df K mg "_law_draw" s__law_draw ["_law_feed_here", "_law_many"] := ⟨_, _, F__law_draw, PySem.W.mg_of X G a__law_draw, k__law_draw, F__law_draw.binds (ps := ["_law_feed_here", "_law_many"]) fun _ _ _ _ _ _ us hl => match us, hl with | [_, _], _ => rfl⟩
  have F__law_pick := fun_mk (st := s__law_pick) l__law_pick c__law_pick k__law_pick
  have D__law_pick : Df K mg "_law_pick" s__law_pick ["_law_feed_here", "_law_items"] := ⟨_, _, F__law_pick, PySem.W.mg_of X G a__law_pick, k__law_pick, F__law_pick.binds (ps := ["_law_feed_here", "_law_items"]) fun _ _ _ _ _ _ us hl => match us, hl with | [_, _], _ => rfl⟩
  have F__law_word := fun_mk (st := s__law_word) l__law_word c__law_word k__law_word
  have D__law_word : Df K mg "_law_word" s__law_word ["_law_feed_here"] := ⟨_, _, F__law_word, PySem.W.mg_of X G a__law_word, k__law_word, F__law_word.binds (ps := ["_law_feed_here"]) fun _ _ _ _ _ _ us hl => match us, hl with | [_], _ => rfl⟩
  have F__law_same := fun_mk (st := s__law_same) l__law_same c__law_same k__law_same
  have D__law_same : Df K mg "_law_same" s__law_same ["_law_found", "_law_due"] := ⟨_, _, F__law_same, PySem.W.mg_of X G a__law_same, k__law_same, F__law_same.binds (ps := ["_law_found", "_law_due"]) fun _ _ _ _ _ _ us hl => match us, hl with | [_, _], _ => rfl⟩
  have F_is_name := fun_mk (st := s_is_name) l_is_name c_is_name k_is_name
  have D_is_name : Df K mg "is_name" s_is_name ["word"] := ⟨_, _, F_is_name, PySem.W.mg_of X G a_is_name, k_is_name, F_is_name.binds (ps := ["word"]) fun _ _ _ _ _ _ us hl => match us, hl with | [_], _ => rfl⟩
  have F_are_ways := fun_mk (st := s_are_ways) l_are_ways c_are_ways k_are_ways
  have D_are_ways : Df K mg "are_ways" s_are_ways ["ways"] := ⟨_, _, F_are_ways, PySem.W.mg_of X G a_are_ways, k_are_ways, F_are_ways.binds (ps := ["ways"]) fun _ _ _ _ _ _ us hl => match us, hl with | [_], _ => rfl⟩
  have F_all_steps := fun_mk (st := s_all_steps) l_all_steps c_all_steps k_all_steps
  have D_all_steps : Df K mg "all_steps" s_all_steps ["step", "parts"] := ⟨_, _, F_all_steps, PySem.W.mg_of X G a_all_steps, k_all_steps, F_all_steps.binds (ps := ["step", "parts"]) fun _ _ _ _ _ _ us hl => match us, hl with | [_, _], _ => rfl⟩
  have F_text_of := fun_mk (st := s_text_of) l_text_of c_text_of k_text_of
  have D_text_of : Df K mg "text_of" s_text_of ["kind", "word", "step", "parts"] := ⟨_, _, F_text_of, PySem.W.mg_of X G a_text_of, k_text_of, F_text_of.binds (ps := ["kind", "word", "step", "parts"]) fun _ _ _ _ _ _ us hl => match us, hl with | [_, _, _, _], _ => rfl⟩
  have F_all_names := fun_mk (st := s_all_names) l_all_names c_all_names k_all_names
  have D_all_names : Df K mg "all_names" s_all_names ["parts"] := ⟨_, _, F_all_names, PySem.W.mg_of X G a_all_names, k_all_names, F_all_names.binds (ps := ["parts"]) fun _ _ _ _ _ _ us hl => match us, hl with | [_], _ => rfl⟩
  have F_named := fun_mk (st := s_named) l_named c_named k_named
  have D_named : Df K mg "named" s_named ["word"] := ⟨_, _, F_named, PySem.W.mg_of X G a_named, k_named, F_named.binds (ps := ["word"]) fun _ _ _ _ _ _ us hl => match us, hl with | [_], _ => rfl⟩
  have F_ways_fit := fun_mk (st := s_ways_fit) l_ways_fit c_ways_fit k_ways_fit
  have D_ways_fit : Df K mg "ways_fit" s_ways_fit ["word", "ways"] := ⟨_, _, F_ways_fit, PySem.W.mg_of X G a_ways_fit, k_ways_fit, F_ways_fit.binds (ps := ["word", "ways"]) fun _ _ _ _ _ _ us hl => match us, hl with | [_, _], _ => rfl⟩
  have F__law_near_name := fun_mk (st := s__law_near_name) l__law_near_name c__law_near_name k__law_near_name
  have D__law_near_name : Df K mg "_law_near_name" s__law_near_name ["_law_feed_here"] := ⟨_, _, F__law_near_name, PySem.W.mg_of X G a__law_near_name, k__law_near_name, F__law_near_name.binds (ps := ["_law_feed_here"]) fun _ _ _ _ _ _ us hl => match us, hl with | [_], _ => rfl⟩
  have F__law_ways := fun_mk (st := s__law_ways) l__law_ways c__law_ways k__law_ways
  have D__law_ways : Df K mg "_law_ways" s__law_ways ["_law_feed_here"] := ⟨_, _, F__law_ways, PySem.W.mg_of X G a__law_ways, k__law_ways, F__law_ways.binds (ps := ["_law_feed_here"]) fun _ _ _ _ _ _ us hl => match us, hl with | [_], _ => rfl⟩
  have F__law_any := fun_mk (st := s__law_any) l__law_any c__law_any k__law_any
  have D__law_any : Df K mg "_law_any" s__law_any ["_law_feed_here", "_law_deep"] := ⟨_, _, F__law_any, PySem.W.mg_of X G a__law_any, k__law_any, F__law_any.binds (ps := ["_law_feed_here", "_law_deep"]) fun _ _ _ _ _ _ us hl => match us, hl with | [_, _], _ => rfl⟩
  have F__law_near_ways := fun_mk (st := s__law_near_ways) l__law_near_ways c__law_near_ways k__law_near_ways
  have D__law_near_ways : Df K mg "_law_near_ways" s__law_near_ways ["_law_feed_here"] := ⟨_, _, F__law_near_ways, PySem.W.mg_of X G a__law_near_ways, k__law_near_ways, F__law_near_ways.binds (ps := ["_law_feed_here"]) fun _ _ _ _ _ _ us hl => match us, hl with | [_], _ => rfl⟩
  have F__law_sign := fun_mk (st := s__law_sign) l__law_sign c__law_sign k__law_sign
  have D__law_sign : Df K mg "_law_sign" s__law_sign ["_law_feed_here"] := ⟨_, _, F__law_sign, PySem.W.mg_of X G a__law_sign, k__law_sign, F__law_sign.binds (ps := ["_law_feed_here"]) fun _ _ _ _ _ _ us hl => match us, hl with | [_], _ => rfl⟩
  have F__law_bent := fun_mk (st := s__law_bent) l__law_bent c__law_bent k__law_bent
  have D__law_bent : Df K mg "_law_bent" s__law_bent ["_law_feed_here", "_law_text"] := ⟨_, _, F__law_bent, PySem.W.mg_of X G a__law_bent, k__law_bent, F__law_bent.binds (ps := ["_law_feed_here", "_law_text"]) fun _ _ _ _ _ _ us hl => match us, hl with | [_, _], _ => rfl⟩
  have F__law_is_name := fun_mk (st := s__law_is_name) l__law_is_name c__law_is_name k__law_is_name
  have D__law_is_name : Df K mg "_law_is_name" s__law_is_name ["_law_word_here"] := ⟨_, _, F__law_is_name, PySem.W.mg_of X G a__law_is_name, k__law_is_name, F__law_is_name.binds (ps := ["_law_word_here"]) fun _ _ _ _ _ _ us hl => match us, hl with | [_], _ => rfl⟩
  have F__law_are_ways := fun_mk (st := s__law_are_ways) l__law_are_ways c__law_are_ways k__law_are_ways
  have D__law_are_ways : Df K mg "_law_are_ways" s__law_are_ways ["_law_ways_here"] := ⟨_, _, F__law_are_ways, PySem.W.mg_of X G a__law_are_ways, k__law_are_ways, F__law_are_ways.binds (ps := ["_law_ways_here"]) fun _ _ _ _ _ _ us hl => match us, hl with | [_], _ => rfl⟩
  have F__law_refused := fun_mk (st := s__law_refused) l__law_refused c__law_refused k__law_refused
  have D__law_refused : Df K mg "_law_refused" s__law_refused ["_law_e"] := ⟨_, _, F__law_refused, PySem.W.mg_of X G a__law_refused, k__law_refused, F__law_refused.binds (ps := ["_law_e"]) fun _ _ _ _ _ _ us hl => match us, hl with | [_], _ => rfl⟩
  have F__law_told := fun_mk (st := s__law_told) l__law_told c__law_told k__law_told
  have D__law_told : Df K mg "_law_told" s__law_told ["_law_name", "_law_ways_here"] := ⟨_, _, F__law_told, PySem.W.mg_of X G a__law_told, k__law_told, F__law_told.binds (ps := ["_law_name", "_law_ways_here"]) fun _ _ _ _ _ _ us hl => match us, hl with | [_, _], _ => rfl⟩
  have F__law_right := fun_mk (st := s__law_right) l__law_right c__law_right k__law_right
  have D__law_right : Df K mg "_law_right" s__law_right ["_law_step", "_law_name", "_law_ways_here"] := ⟨_, _, F__law_right, PySem.W.mg_of X G a__law_right, k__law_right, F__law_right.binds (ps := ["_law_step", "_law_name", "_law_ways_here"]) fun _ _ _ _ _ _ us hl => match us, hl with | [_, _, _], _ => rfl⟩
  have cl_Step : Cls K C_Step := ⟨pg_Step, hd_Step, po_Step, sa_Step⟩
  have IS_Step : IsC K C_Step := ⟨cl_Step, ca_Step, sg_cls, tk_cls, mo_Step, ks_of ks_Step⟩
  have F_Step___init__ := fun_mk (st := s_Step___init__) l_Step___init__ c_Step___init__ k_Step___init__
  have D_Step___init__ : Dc K mg C_Step "Step" "Step.__init__" s_Step___init__ ["self", "name", "ways"] := ⟨_, _, ⟨mk_Step, a_Step___init__, i_Step___init__, kc_Step⟩, PySem.W.mg_of X G a_Step, F_Step___init__, F_Step___init__.binds (ps := ["self", "name", "ways"]) fun _ _ _ _ _ _ us hl => match us, hl with | [_, _, _], _ => rfl⟩
  have F_Step___eq__ := fun_mk (st := s_Step___eq__) l_Step___eq__ c_Step___eq__ k_Step___eq__
  have D_Step___eq__ : Dm K C_Step "__eq__" "Step.__eq__" s_Step___eq__ ["self", "other"] := ⟨_, _, cl_Step, ⟨a_Step___eq__, i_Step___eq__, k_Step___eq__⟩, F_Step___eq__, F_Step___eq__.binds (ps := ["self", "other"]) fun _ _ _ _ _ _ us hl => match us, hl with | [_, _], _ => rfl⟩
  have F_Step___len__ := fun_mk (st := s_Step___len__) l_Step___len__ c_Step___len__ k_Step___len__
  have D_Step___len__ : Dm K C_Step "__len__" "Step.__len__" s_Step___len__ ["self"] := ⟨_, _, cl_Step, ⟨a_Step___len__, i_Step___len__, k_Step___len__⟩, F_Step___len__, F_Step___len__.binds (ps := ["self"]) fun _ _ _ _ _ _ us hl => match us, hl with | [_], _ => rfl⟩
  have F_Step___str__ := fun_mk (st := s_Step___str__) l_Step___str__ c_Step___str__ k_Step___str__
  have D_Step___str__ : Dm K C_Step "__str__" "Step.__str__" s_Step___str__ ["self"] := ⟨_, _, cl_Step, ⟨a_Step___str__, i_Step___str__, k_Step___str__⟩, F_Step___str__, F_Step___str__.binds (ps := ["self"]) fun _ _ _ _ _ _ us hl => match us, hl with | [_], _ => rfl⟩
  have cl_Expr : Cls K C_Expr := ⟨pg_Expr, hd_Expr, po_Expr, sa_Expr⟩
  have IS_Expr : IsC K C_Expr := ⟨cl_Expr, ca_Expr, sg_cls, tk_cls, mo_Expr, ks_of ks_Expr⟩
  have F_Expr___init__ := fun_mk (st := s_Expr___init__) l_Expr___init__ c_Expr___init__ k_Expr___init__
  have D_Expr___init__ : Dc K mg C_Expr "Expr" "Expr.__init__" s_Expr___init__ ["self", "kind", "word", "step", "parts"] := ⟨_, _, ⟨mk_Expr, a_Expr___init__, i_Expr___init__, kc_Expr⟩, PySem.W.mg_of X G a_Expr, F_Expr___init__, F_Expr___init__.binds (ps := ["self", "kind", "word", "step", "parts"]) fun _ _ _ _ _ _ us hl => match us, hl with | [_, _, _, _, _], _ => rfl⟩
  have cl_Trait : Cls K C_Trait := ⟨pg_Trait, hd_Trait, po_Trait, sa_Trait⟩
  have IS_Trait : IsC K C_Trait := ⟨cl_Trait, ca_Trait, sg_cls, tk_cls, mo_Trait, ks_of ks_Trait⟩
  have F_Trait___init__ := fun_mk (st := s_Trait___init__) l_Trait___init__ c_Trait___init__ k_Trait___init__
  have D_Trait___init__ : Ds K mg C_Trait "Trait" "Trait.__init__" s_Trait___init__ ["self", "word"] "steps" := ⟨_, _, ⟨mk_Trait, a_Trait___init__, i_Trait___init__, kc_Trait⟩, PySem.W.mg_of X G a_Trait, F_Trait___init__, StX.bind_star2 (B := fun z => bindArgs _ ⟨z, []⟩) (fun _ _ => rfl) (fun _ _ _ _ => rfl)⟩
  have cl_Chain : Cls K C_Chain := ⟨pg_Chain, hd_Chain, po_Chain, sa_Chain⟩
  have IS_Chain : IsC K C_Chain := ⟨cl_Chain, ca_Chain, sg_cls, tk_cls, mo_Chain, ks_of ks_Chain⟩
  have F_Chain___init__ := fun_mk (st := s_Chain___init__) l_Chain___init__ c_Chain___init__ k_Chain___init__
  have D_Chain___init__ : Ds K mg C_Chain "Chain" "Chain.__init__" s_Chain___init__ ["self"] "steps" := ⟨_, _, ⟨mk_Chain, a_Chain___init__, i_Chain___init__, kc_Chain⟩, PySem.W.mg_of X G a_Chain, F_Chain___init__, StX.bind_star1 (B := fun z => bindArgs _ ⟨z, []⟩) (fun _ => rfl) (fun _ _ _ => rfl)⟩
  have RN : RfN mg (csOf [C_InvalidStep, C_InvalidTrait, C_InvalidExpr, C_InvalidRow, C_InvalidText, C_InvalidWorld, C_InvalidStart, C_InvalidClaim, C_NoName, C_NoStep, C_NoRow, C_Impossible]) := ⟨PySem.W.mg_of X G a_InvalidStep, PySem.W.mg_of X G a_InvalidTrait, PySem.W.mg_of X G a_InvalidExpr, PySem.W.mg_of X G a_InvalidRow, PySem.W.mg_of X G a_InvalidText, PySem.W.mg_of X G a_InvalidWorld, PySem.W.mg_of X G a_InvalidStart, PySem.W.mg_of X G a_InvalidClaim, PySem.W.mg_of X G a_NoName, PySem.W.mg_of X G a_NoStep, PySem.W.mg_of X G a_NoRow, PySem.W.mg_of X G a_Impossible⟩
  have F_InvalidStep___init__ := fun_mk (st := s_InvalidStep___init__) l_InvalidStep___init__ c_InvalidStep___init__ k_InvalidStep___init__
  have EC_InvalidStep : L2.ExcC K C_InvalidStep := ⟨ga_InvalidStep, gg_InvalidStep, ex_InvalidStep, hd_InvalidStep, cc_InvalidStep, sg_cls, tk_cls, mr_InvalidStep⟩
  have T_InvalidStep : ErC K mg "InvalidStep" "word" C_InvalidStep := ⟨⟨⟨_, _, _, _, _, _, _, _, _, _, _, _, _, _, _, x_InvalidStep, refsVE_one _⟩, sa_InvalidStep, ex_InvalidStep, ty_InvalidStep, kc_InvalidStep⟩, EC_InvalidStep, no_InvalidStep, PySem.W.mg_of X G a_InvalidStep⟩
  have RD_InvalidStep : RfD K (csOf [C_InvalidStep, C_InvalidTrait, C_InvalidExpr, C_InvalidRow, C_InvalidText, C_InvalidWorld, C_InvalidStart, C_InvalidClaim, C_NoName, C_NoStep, C_NoRow, C_Impossible]) C_InvalidStep 0 := ⟨EC_InvalidStep, by decide, fun i hi => match i, hi with | 0, _ => kit_of ic_InvalidStep ty_InvalidStep s_InvalidStep_InvalidStep s_InvalidStep_InvalidStep | 1, _ => kit_of ic_InvalidTrait ty_InvalidTrait s_InvalidStep_InvalidTrait s_InvalidStep_InvalidStep | 2, _ => kit_of ic_InvalidExpr ty_InvalidExpr s_InvalidStep_InvalidExpr s_InvalidStep_InvalidStep | 3, _ => kit_of ic_InvalidRow ty_InvalidRow s_InvalidStep_InvalidRow s_InvalidStep_InvalidStep | 4, _ => kit_of ic_InvalidText ty_InvalidText s_InvalidStep_InvalidText s_InvalidStep_InvalidStep | 5, _ => kit_of ic_InvalidWorld ty_InvalidWorld s_InvalidStep_InvalidWorld s_InvalidStep_InvalidStep | 6, _ => kit_of ic_InvalidStart ty_InvalidStart s_InvalidStep_InvalidStart s_InvalidStep_InvalidStep | 7, _ => kit_of ic_InvalidClaim ty_InvalidClaim s_InvalidStep_InvalidClaim s_InvalidStep_InvalidStep | 8, _ => kit_of ic_NoName ty_NoName s_InvalidStep_NoName s_InvalidStep_InvalidStep | 9, _ => kit_of ic_NoStep ty_NoStep s_InvalidStep_NoStep s_InvalidStep_InvalidStep | 10, _ => kit_of ic_NoRow ty_NoRow s_InvalidStep_NoRow s_InvalidStep_InvalidStep | 11, _ => kit_of ic_Impossible ty_Impossible s_InvalidStep_Impossible s_InvalidStep_InvalidStep⟩
  have XE_InvalidStep : PySem.W.exmOne K (.ref C_InvalidStep) (.ref C_WaysError) = some true := PySem.W.exm_ref ex_WaysError hd_WaysError ty_WaysError sw_InvalidStep
  have bI_InvalidStep := F_InvalidStep___init__.binds (ps := ["self", "word"]) fun _ _ _ _ _ _ us hl => match us, hl with | [_, _], _ => rfl
  have F_law := fun_mk (st := s_law) l_law c_law k_law
  refine ⟨PySem.W.fnOf "law" "law" (defArgs s_law) (defBody s_law) (defScope s_law) .none kV_law dc_law pm_law an_law cd_law ct_law, fun s v => .of_eq rfl, fun base _ _ => ?_⟩
  have g_feed : C8.Cal l.prog w K mg base 1 "_law_feed" (spFeed K) [] := ok_feed (k := 0) B D__law_feed
  have g_draw : C8.Cal l.prog w K mg base 1 "_law_draw" spDraw [] := ok_draw (k := 0) B D__law_draw
  have g_pick : C8.Cal l.prog w K mg base 2 "_law_pick" (spPick K) [] := ok_pick B D__law_pick g_draw
  have g_word : C8.Cal l.prog w K mg base 3 "_law_word" spWord [] := ok_word B D__law_word (calMono g_draw (by decide)) g_pick
  have NW : NwC K mg := ⟨⟨_, PySem.W.mg_of X G m_LETTERS⟩, ⟨_, PySem.W.mg_of X G m_WAYS⟩, ⟨_, PySem.W.mg_of X G m_KW, fun H => .inr ⟨_, _, _, lk_KW, rfl, rfl, by show 3 ≤ sizeLine; decide, by rw [← kept_eq]; exact .cons ⟨_, rfl⟩ (.cons ⟨_, rfl⟩ (.cons ⟨_, rfl⟩ .nil))⟩⟩⟩
  have CO : CoC K w mg := ⟨⟨_, _, _, _, PySem.W.mg_of X G m_CO, ⟨lk_CO, kl_CO, lo_CO⟩, up_CO⟩⟩
  have B2 : Bi2 mg := ⟨PySem.W.mg_none_of X G z_sorted, PySem.W.mg_none_of X G z_sum⟩
  have T : StC K C_Step := ⟨cl_Step, n_Step_name, n_Step_ways⟩
  have TE : ExC K C_Expr := ⟨cl_Expr, n_Expr_kind, n_Expr_word, n_Expr_step, n_Expr_parts, n_Expr_names, n_Expr_steps, n_Expr_marks, n_Expr_text⟩
  have hStep := PySem.W.mg_of X G a_Step
  have EI : ErI l.prog w K mg base "word" C_InvalidStep := ok_InvalidStep T_InvalidStep a_InvalidStep___init__ t_InvalidStep___init__ F_InvalidStep___init__ bI_InvalidStep
  have T4 : OwC K C_Step C_Expr C_Trait C_Chain := ⟨IS_Step, IS_Expr, IS_Trait, IS_Chain⟩
  have g_same : C8.Cal l.prog w K mg base 30 "_law_same" (spSame K 30) [] := ok_same B D__law_same 30
  have g_isn : C8.Cal l.prog w K mg base 1 "is_name" (spIsN K nameB) [] := ok_is_name (k := 0) B NW D_is_name
  have g_arw : C8.Cal l.prog w K mg base 1 "are_ways" (spIsN K waysB) [] := ok_are_ways (k := 0) B NW D_are_ways
  have g_St : RMak l.prog w K mg base 3 "Step" C_Step (spStI K C_Step C_InvalidStep) := ok_StI (k := 0) T T_InvalidStep EI D_Step___init__ (calMono g_isn (by decide)) (calMono g_arw (by decide))
  have g_as : C8.Cal l.prog w K mg base 1 "all_steps" (spAS0 K) [] := ok_all_steps0 (k := 0) B B2 D_all_steps
  have g_tx : C8.Cal l.prog w K mg base 1 "text_of" spTx0 [] := ok_text_of0 (k := 0) D_text_of
  have g_an : C8.Cal l.prog w K mg base 1 "all_names" (fun _ _ _ _ => False) [] := calMono (D_all_names.never fun _ _ _ _ h => h) (Nat.zero_le _)
  have g_Ex : C8.Mak l.prog w K mg base 2 "Expr" C_Expr (spExI0 C_Expr) [] := ok_ExI0 B B2 TE D_Expr___init__ g_an g_as g_tx
  have g_nm : C8.Cal l.prog w K mg base 4 "named" (spNamed K C_Expr) [] := ok_named D_named (calMono g_isn (by decide)) g_Ex
  have g_wf : C8.Cal l.prog w K mg base 1 "ways_fit" spWF0 [] := ok_ways_fit0 (k := 0) B D_ways_fit
  have g_Tr : MakR l.prog w K mg base 2 "Trait" C_Trait (spSt 2 (spTrI C_Trait C_Step)) := ok_TrI B CO cl_Trait n_Trait_word n_Trait_steps T IS_Step hStep D_Trait___init__ g_wf
  have g_Ch : MakR l.prog w K mg base 1 "Chain" C_Chain (spSt 1 (spChI C_Chain C_Step)) := ok_ChI (k := 0) B cl_Chain n_Chain_steps T IS_Step hStep D_Chain___init__
  have g_sign : C8.Cal l.prog w K mg base 3 "_law_sign" spSign [] := ok_sign B D__law_sign g_pick
  have g_bent : C8.Cal l.prog w K mg base 4 "_law_bent" spBent [] := ok_bent B D__law_bent (calMono g_draw (by decide)) g_sign
  have g_near := ok_near_name (k := 4) B D__law_near_name (calMono g_draw (by decide)) (calMono g_pick (by decide)) g_bent (calMono g_word (by decide))
  have g_ways := ok_ways (k := 4) B D__law_ways (calMono g_draw (by decide)) (calMono g_pick (by decide))
  have g_any := ok_any (k := 6) B D__law_any (calMono g_draw (by decide)) (calMono g_pick (by decide)) (calMono g_near (by decide)) (calMono g_word (by decide)) (calMono g_ways (by decide)) (rmakMono g_St (by decide)) (calMono g_nm (by decide)) (makRMono g_Tr (by decide)) (makRMono g_Ch (by decide)) 3
  have g_nw := ok_near_ways B D__law_near_ways (calMono g_draw (by decide)) (calMono g_pick (by decide)) (calMono g_bent (by decide)) g_any
  have g_lis : C8.Cal l.prog w K mg base 1 "_law_is_name" (spIsL K nameB) [] := ok_law_is_name (k := 0) B D__law_is_name
  have g_law : C8.Cal l.prog w K mg base 1 "_law_are_ways" (spIsL K waysB) [] := ok_law_are_ways (k := 0) B D__law_are_ways
  have g_ref := ok_refused (P := l.prog) (w := w) (base := base) (k := 3) B RN F__law_refused
  have g_told : C8.Cal l.prog w K mg base 5 "_law_told" (spTold2 K C_Step) [] := ok_told2 B D__law_told T_InvalidStep RD_InvalidStep g_St g_ref (PySem.W.mg_of X G a__law_refused) k__law_refused (F__law_refused.binds (ps := ["_law_e"]) fun _ _ _ _ _ _ us hl => match us, hl with | [_], _ => rfl) (PySem.W.mg_of X G a_WaysError) XE_InvalidStep
  have N : StN K C_Step := ⟨fun T hT => by
    simp only [tyNames, List.mem_cons, List.not_mem_nil, or_false] at hT
    rcases hT with rfl | rfl | rfl | rfl | rfl | rfl | rfl <;> assumption, ic_Step, tt_Step⟩
  have o_eq := (ok_StEq (P := l.prog) (w := w) (mg := mg) (base := base) (k := 0) B T IS_Step hStep D_Step___eq__).oeq ne_Step mo_Step
  have o_len := ok_StLen (P := l.prog) (w := w) (mg := mg) (base := base) (k := 0) B T D_Step___len__
  have o_str := ok_StStr (P := l.prog) (w := w) (mg := mg) (base := base) (k := 0) T D_Step___str__
  have g_right : C8.Cal l.prog w K mg base 32 "_law_right" (spRight C_Step) [] := calMono (ok_right (k := 28) B T IS_Step N hStep D__law_right g_same (rmakMono g_St (by decide)) (oeqMono o_eq (by decide)) (ospMono o_len (by decide)) (ospMono o_str (by decide))) (by decide)
  exact ok_law B T4 F_law (calMono g_feed (by decide)) (calMono g_draw (by decide)) (calMono g_any (by decide)) (calMono g_near (by decide)) (calMono g_nw (by decide)) (calMono g_law (by decide)) (calMono g_lis (by decide)) (calMono g_told (by decide)) (calMono g_same (by decide)) (calMono g_right (by decide))
theorem walk {l : PySem.W.OpenLaw} {q : Program} {loose : List Str} {XP : (Str → Option Value) → Heap → Prop} {YP : World → Heap → Prop} {d : DefRec} {K : Params → PySem.W.Frag} (hn : l.most = some 63) (hdf : d.params.defaults = [])
    (hY : ∀ (w : World) (h : Heap), YP w h → (K w.params).In h)
    (F : ∀ (w : World) (mg : Str → Option Value) (fa : Addr) (h : Heap), (K w.params).In h → h.Ns mainGlobals mg → mg d.name = some (.ref fa) →
      ∃ fd : FuncData, (∀ (s : Shared) (u : Value), BindsTo s fd ⟨[u], []⟩ [("_law_script", u)]) ∧ ∀ base : Heap, (K w.params).In base → base.Ns mainGlobals mg → FnOk l.prog w (K w.params) mg base CX0 33 fa fd ["_law_script"] (spLaw (K w.params))) :
    PySem.W.WalkO q loose XP YP l.row.toRowW d [] (fun f vs => PySem.call f vs) :=
  L2.walk_of (n := 63) (k := 33) (x := "_law_script") (CX := fun _ => CX0) (sp := fun w => spLaw (K w.params)) hn (by decide) hdf ⟨rfl, by decide, by decide⟩ hY F (fun _ _ a ns hl _ hS => ⟨a, ns, rfl, hS, hl, fun _ => rfl⟩) fun _ _ _ _ _ z => z
end KW
open PySem PySem.W PyProof.Rows
set_option maxRecDepth 100000 in
set_option maxHeartbeats 0 in
theorem PySem.Challenge.cw_knownways_k02_steps_and_their_ways_holds : PySem.Challenge.rw_knownways_k02_steps_and_their_ways.Holds := by
  w_on; o_law; k_head; (case hw => w_witness2)
  k_fill
  refine KW.walk (l := PySem.Challenge.rw_knownways_k02_steps_and_their_ways) rfl rfl (fun w h Y => PySem.W.kIn_of Y) ?F
  case F =>
    intro w mg fa h KX G hmg
    refine' KW.all_mk KX G hmg ?a__law_feed ?l__law_feed ?c__law_feed ?k__law_feed ?a__law_draw ?l__law_draw ?c__law_draw ?k__law_draw ?a__law_pick ?l__law_pick ?c__law_pick ?k__law_pick ?a__law_word ?l__law_word ?c__law_word ?k__law_word ?a__law_same ?l__law_same ?c__law_same ?k__law_same ?a_is_name ?l_is_name ?c_is_name ?k_is_name ?a_are_ways ?l_are_ways ?c_are_ways ?k_are_ways ?a_all_steps ?l_all_steps ?c_all_steps ?k_all_steps ?a_text_of ?l_text_of ?c_text_of ?k_text_of ?a_all_names ?l_all_names ?c_all_names ?k_all_names ?a_named ?l_named ?c_named ?k_named ?a_ways_fit ?l_ways_fit ?c_ways_fit ?k_ways_fit ?a__law_near_name ?l__law_near_name ?c__law_near_name ?k__law_near_name ?a__law_ways ?l__law_ways ?c__law_ways ?k__law_ways ?a__law_any ?l__law_any ?c__law_any ?k__law_any ?a__law_near_ways ?l__law_near_ways ?c__law_near_ways ?k__law_near_ways ?a__law_sign ?l__law_sign ?c__law_sign ?k__law_sign ?a__law_bent ?l__law_bent ?c__law_bent ?k__law_bent ?a__law_is_name ?l__law_is_name ?c__law_is_name ?k__law_is_name ?a__law_are_ways ?l__law_are_ways ?c__law_are_ways ?k__law_are_ways ?a__law_refused ?l__law_refused ?c__law_refused ?k__law_refused ?a__law_told ?l__law_told ?c__law_told ?k__law_told ?a__law_right ?l__law_right ?c__law_right ?k__law_right ?a_Step ?pg_Step ?hd_Step ?po_Step ?sa_Step ?mk_Step ?kc_Step ?ca_Step ?mo_Step ?ks_Step ?ne_Step ?ic_Step ?tt_Step ?su_Step_NoneType ?su_Step_bool ?su_Step_int ?su_Step_str ?su_Step_list ?su_Step_tuple ?su_Step_dict ?n_Step_name ?n_Step_ways ?a_Step___init__ ?i_Step___init__ ?l_Step___init__ ?c_Step___init__ ?k_Step___init__ ?a_Step___eq__ ?i_Step___eq__ ?l_Step___eq__ ?c_Step___eq__ ?k_Step___eq__ ?a_Step___len__ ?i_Step___len__ ?l_Step___len__ ?c_Step___len__ ?k_Step___len__ ?a_Step___str__ ?i_Step___str__ ?l_Step___str__ ?c_Step___str__ ?k_Step___str__ ?a_Expr ?pg_Expr ?hd_Expr ?po_Expr ?sa_Expr ?mk_Expr ?kc_Expr ?ca_Expr ?mo_Expr ?ks_Expr ?n_Expr_kind ?n_Expr_word ?n_Expr_step ?n_Expr_parts ?n_Expr_names ?n_Expr_steps ?n_Expr_marks ?n_Expr_text ?a_Expr___init__ ?i_Expr___init__ ?l_Expr___init__ ?c_Expr___init__ ?k_Expr___init__ ?a_Trait ?pg_Trait ?hd_Trait ?po_Trait ?sa_Trait ?mk_Trait ?kc_Trait ?ca_Trait ?mo_Trait ?ks_Trait ?n_Trait_word ?n_Trait_steps ?a_Trait___init__ ?i_Trait___init__ ?l_Trait___init__ ?c_Trait___init__ ?k_Trait___init__ ?a_Chain ?pg_Chain ?hd_Chain ?po_Chain ?sa_Chain ?mk_Chain ?kc_Chain ?ca_Chain ?mo_Chain ?ks_Chain ?n_Chain_steps ?a_Chain___init__ ?i_Chain___init__ ?l_Chain___init__ ?c_Chain___init__ ?k_Chain___init__ ?a_WaysError ?ic_WaysError ?ty_WaysError ?a_InvalidStep ?ic_InvalidStep ?ty_InvalidStep ?a_InvalidTrait ?ic_InvalidTrait ?ty_InvalidTrait ?a_InvalidExpr ?ic_InvalidExpr ?ty_InvalidExpr ?a_InvalidRow ?ic_InvalidRow ?ty_InvalidRow ?a_InvalidText ?ic_InvalidText ?ty_InvalidText ?a_InvalidWorld ?ic_InvalidWorld ?ty_InvalidWorld ?a_InvalidStart ?ic_InvalidStart ?ty_InvalidStart ?a_InvalidClaim ?ic_InvalidClaim ?ty_InvalidClaim ?a_NoName ?ic_NoName ?ty_NoName ?a_NoStep ?ic_NoStep ?ty_NoStep ?a_NoRow ?ic_NoRow ?ty_NoRow ?a_Impossible ?ic_Impossible ?ty_Impossible ?ex_WaysError ?hd_WaysError ?sg_cls ?tk_cls ?x_InvalidStep ?sa_InvalidStep ?ga_InvalidStep ?gg_InvalidStep ?no_InvalidStep ?ex_InvalidStep ?hd_InvalidStep ?kc_InvalidStep ?cc_InvalidStep ?mr_InvalidStep ?sw_InvalidStep ?s_InvalidStep_InvalidStep ?s_InvalidStep_InvalidTrait ?s_InvalidStep_InvalidExpr ?s_InvalidStep_InvalidRow ?s_InvalidStep_InvalidText ?s_InvalidStep_InvalidWorld ?s_InvalidStep_InvalidStart ?s_InvalidStep_InvalidClaim ?s_InvalidStep_NoName ?s_InvalidStep_NoStep ?s_InvalidStep_NoRow ?s_InvalidStep_Impossible ?a_InvalidStep___init__ ?t_InvalidStep___init__ ?l_InvalidStep___init__ ?c_InvalidStep___init__ ?k_InvalidStep___init__ ?m_LETTERS ?m_WAYS ?m_KW ?lk_KW ?m_CO ?lk_CO ?kl_CO ?lo_CO ?up_CO ?z_len ?z_range ?z_abs ?z_isinstance ?z_all ?z_zip ?z_enumerate ?z_min ?z_int ?z_str ?z_list ?z_tuple ?z_bool ?z_sorted ?z_sum ?a_law ?l_law ?c_law ?k_law
    (case a__law_feed => k_is)
    (case l__law_feed => k_is)
    (case c__law_feed => k_is)
    (case k__law_feed => k_is)
    (case a__law_draw => k_is)
    (case l__law_draw => k_is)
    (case c__law_draw => k_is)
    (case k__law_draw => k_is)
    (case a__law_pick => k_is)
    (case l__law_pick => k_is)
    (case c__law_pick => k_is)
    (case k__law_pick => k_is)
    (case a__law_word => k_is)
    (case l__law_word => k_is)
    (case c__law_word => k_is)
    (case k__law_word => k_is)
    (case a__law_same => k_is)
    (case l__law_same => k_is)
    (case c__law_same => k_is)
    (case k__law_same => k_is)
    (case a_is_name => k_is)
    (case l_is_name => k_is)
    (case c_is_name => k_is)
    (case k_is_name => k_is)
    (case a_are_ways => k_is)
    (case l_are_ways => k_is)
    (case c_are_ways => k_is)
    (case k_are_ways => k_is)
    (case a_all_steps => k_is)
    (case l_all_steps => k_is)
    (case c_all_steps => k_is)
    (case k_all_steps => k_is)
    (case a_text_of => k_is)
    (case l_text_of => k_is)
    (case c_text_of => k_is)
    (case k_text_of => k_is)
    (case a_all_names => k_is)
    (case l_all_names => k_is)
    (case c_all_names => k_is)
    (case k_all_names => k_is)
    (case a_named => k_is)
    (case l_named => k_is)
    (case c_named => k_is)
    (case k_named => k_is)
    (case a_ways_fit => k_is)
    (case l_ways_fit => k_is)
    (case c_ways_fit => k_is)
    (case k_ways_fit => k_is)
    (case a__law_near_name => k_is)
    (case l__law_near_name => k_is)
    (case c__law_near_name => k_is)
    (case k__law_near_name => k_is)
    (case a__law_ways => k_is)
    (case l__law_ways => k_is)
    (case c__law_ways => k_is)
    (case k__law_ways => k_is)
    (case a__law_any => k_is)
    (case l__law_any => k_is)
    (case c__law_any => k_is)
    (case k__law_any => k_is)
    (case a__law_near_ways => k_is)
    (case l__law_near_ways => k_is)
    (case c__law_near_ways => k_is)
    (case k__law_near_ways => k_is)
    (case a__law_sign => k_is)
    (case l__law_sign => k_is)
    (case c__law_sign => k_is)
    (case k__law_sign => k_is)
    (case a__law_bent => k_is)
    (case l__law_bent => k_is)
    (case c__law_bent => k_is)
    (case k__law_bent => k_is)
    (case a__law_is_name => k_is)
    (case l__law_is_name => k_is)
    (case c__law_is_name => k_is)
    (case k__law_is_name => k_is)
    (case a__law_are_ways => k_is)
    (case l__law_are_ways => k_is)
    (case c__law_are_ways => k_is)
    (case k__law_are_ways => k_is)
    (case a__law_refused => k_is)
    (case l__law_refused => k_is)
    (case c__law_refused => k_is)
    (case k__law_refused => k_is)
    (case a__law_told => k_is)
    (case l__law_told => k_is)
    (case c__law_told => k_is)
    (case k__law_told => k_is)
    (case a__law_right => k_is)
    (case l__law_right => k_is)
    (case c__law_right => k_is)
    (case k__law_right => k_is)
    (case a_Step => k_is)
    (case pg_Step => k_is)
    (case hd_Step => k_is)
    (case po_Step => k_is)
    (case sa_Step => k_is)
    (case mk_Step => k_is)
    (case kc_Step => k_is)
    (case ca_Step => k_is)
    (case mo_Step => k_is)
    (case ks_Step => k_is)
    (case ne_Step => k_is)
    (case ic_Step => k_is)
    (case tt_Step => k_is)
    (case su_Step_NoneType => k_is)
    (case su_Step_bool => k_is)
    (case su_Step_int => k_is)
    (case su_Step_str => k_is)
    (case su_Step_list => k_is)
    (case su_Step_tuple => k_is)
    (case su_Step_dict => k_is)
    (case n_Step_name => k_is)
    (case n_Step_ways => k_is)
    (case a_Step___init__ => k_is)
    (case i_Step___init__ => k_is)
    (case l_Step___init__ => k_is)
    (case c_Step___init__ => k_is)
    (case k_Step___init__ => k_is)
    (case a_Step___eq__ => k_is)
    (case i_Step___eq__ => k_is)
    (case l_Step___eq__ => k_is)
    (case c_Step___eq__ => k_is)
    (case k_Step___eq__ => k_is)
    (case a_Step___len__ => k_is)
    (case i_Step___len__ => k_is)
    (case l_Step___len__ => k_is)
    (case c_Step___len__ => k_is)
    (case k_Step___len__ => k_is)
    (case a_Step___str__ => k_is)
    (case i_Step___str__ => k_is)
    (case l_Step___str__ => k_is)
    (case c_Step___str__ => k_is)
    (case k_Step___str__ => k_is)
    (case a_Expr => k_is)
    (case pg_Expr => k_is)
    (case hd_Expr => k_is)
    (case po_Expr => k_is)
    (case sa_Expr => k_is)
    (case mk_Expr => k_is)
    (case kc_Expr => k_is)
    (case ca_Expr => k_is)
    (case mo_Expr => k_is)
    (case ks_Expr => k_is)
    (case n_Expr_kind => k_is)
    (case n_Expr_word => k_is)
    (case n_Expr_step => k_is)
    (case n_Expr_parts => k_is)
    (case n_Expr_names => k_is)
    (case n_Expr_steps => k_is)
    (case n_Expr_marks => k_is)
    (case n_Expr_text => k_is)
    (case a_Expr___init__ => k_is)
    (case i_Expr___init__ => k_is)
    (case l_Expr___init__ => k_is)
    (case c_Expr___init__ => k_is)
    (case k_Expr___init__ => k_is)
    (case a_Trait => k_is)
    (case pg_Trait => k_is)
    (case hd_Trait => k_is)
    (case po_Trait => k_is)
    (case sa_Trait => k_is)
    (case mk_Trait => k_is)
    (case kc_Trait => k_is)
    (case ca_Trait => k_is)
    (case mo_Trait => k_is)
    (case ks_Trait => k_is)
    (case n_Trait_word => k_is)
    (case n_Trait_steps => k_is)
    (case a_Trait___init__ => k_is)
    (case i_Trait___init__ => k_is)
    (case l_Trait___init__ => k_is)
    (case c_Trait___init__ => k_is)
    (case k_Trait___init__ => k_is)
    (case a_Chain => k_is)
    (case pg_Chain => k_is)
    (case hd_Chain => k_is)
    (case po_Chain => k_is)
    (case sa_Chain => k_is)
    (case mk_Chain => k_is)
    (case kc_Chain => k_is)
    (case ca_Chain => k_is)
    (case mo_Chain => k_is)
    (case ks_Chain => k_is)
    (case n_Chain_steps => k_is)
    (case a_Chain___init__ => k_is)
    (case i_Chain___init__ => k_is)
    (case l_Chain___init__ => k_is)
    (case c_Chain___init__ => k_is)
    (case k_Chain___init__ => k_is)
    (case a_WaysError => k_is)
    (case ic_WaysError => k_is)
    (case ty_WaysError => k_is)
    (case a_InvalidStep => k_is)
    (case ic_InvalidStep => k_is)
    (case ty_InvalidStep => k_is)
    (case a_InvalidTrait => k_is)
    (case ic_InvalidTrait => k_is)
    (case ty_InvalidTrait => k_is)
    (case a_InvalidExpr => k_is)
    (case ic_InvalidExpr => k_is)
    (case ty_InvalidExpr => k_is)
    (case a_InvalidRow => k_is)
    (case ic_InvalidRow => k_is)
    (case ty_InvalidRow => k_is)
    (case a_InvalidText => k_is)
    (case ic_InvalidText => k_is)
    (case ty_InvalidText => k_is)
    (case a_InvalidWorld => k_is)
    (case ic_InvalidWorld => k_is)
    (case ty_InvalidWorld => k_is)
    (case a_InvalidStart => k_is)
    (case ic_InvalidStart => k_is)
    (case ty_InvalidStart => k_is)
    (case a_InvalidClaim => k_is)
    (case ic_InvalidClaim => k_is)
    (case ty_InvalidClaim => k_is)
    (case a_NoName => k_is)
    (case ic_NoName => k_is)
    (case ty_NoName => k_is)
    (case a_NoStep => k_is)
    (case ic_NoStep => k_is)
    (case ty_NoStep => k_is)
    (case a_NoRow => k_is)
    (case ic_NoRow => k_is)
    (case ty_NoRow => k_is)
    (case a_Impossible => k_is)
    (case ic_Impossible => k_is)
    (case ty_Impossible => k_is)
    (case ex_WaysError => k_is)
    (case hd_WaysError => k_is)
    (case sg_cls => k_is)
    (case tk_cls => k_is)
    (case x_InvalidStep => k_is)
    (case sa_InvalidStep => k_is)
    (case ga_InvalidStep => k_is)
    (case gg_InvalidStep => k_is)
    (case no_InvalidStep => k_is)
    (case ex_InvalidStep => k_is)
    (case hd_InvalidStep => k_is)
    (case kc_InvalidStep => k_is)
    (case cc_InvalidStep => k_is)
    (case mr_InvalidStep => k_is)
    (case sw_InvalidStep => k_is)
    (case s_InvalidStep_InvalidStep => k_is)
    (case s_InvalidStep_InvalidTrait => k_is)
    (case s_InvalidStep_InvalidExpr => k_is)
    (case s_InvalidStep_InvalidRow => k_is)
    (case s_InvalidStep_InvalidText => k_is)
    (case s_InvalidStep_InvalidWorld => k_is)
    (case s_InvalidStep_InvalidStart => k_is)
    (case s_InvalidStep_InvalidClaim => k_is)
    (case s_InvalidStep_NoName => k_is)
    (case s_InvalidStep_NoStep => k_is)
    (case s_InvalidStep_NoRow => k_is)
    (case s_InvalidStep_Impossible => k_is)
    (case a_InvalidStep___init__ => k_is)
    (case t_InvalidStep___init__ => k_is)
    (case l_InvalidStep___init__ => k_is)
    (case c_InvalidStep___init__ => k_is)
    (case k_InvalidStep___init__ => k_is)
    (case m_LETTERS => k_is)
    (case m_WAYS => k_is)
    (case m_KW => k_is)
    (case lk_KW => k_is)
    (case m_CO => k_is)
    (case lk_CO => k_is)
    (case kl_CO => exact ⟨⟨_, _, rfl, rfl⟩, ⟨_, _, rfl, rfl⟩, ⟨_, _, rfl, rfl⟩, ⟨_, _, rfl, rfl⟩, ⟨_, _, rfl, rfl⟩, ⟨_, _, rfl, rfl⟩, ⟨_, _, rfl, rfl⟩, trivial⟩)
    (case lo_CO => exact rfl)
    (case up_CO => k_is)
    (case z_len => k_is)
    (case z_range => k_is)
    (case z_abs => k_is)
    (case z_isinstance => k_is)
    (case z_all => k_is)
    (case z_zip => k_is)
    (case z_enumerate => k_is)
    (case z_min => k_is)
    (case z_int => k_is)
    (case z_str => k_is)
    (case z_list => k_is)
    (case z_tuple => k_is)
    (case z_bool => k_is)
    (case z_sorted => k_is)
    (case z_sum => k_is)
    (case a_law => k_is)
    (case l_law => k_is)
    (case c_law => k_is)
    (case k_law => k_is)
