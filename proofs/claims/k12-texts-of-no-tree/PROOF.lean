import PyProof.Rows.All
import Wide.All
import OpenK.AllK
import Wide.FinOn
import HandS.ForMost
import HandS.Codes
import HandS.Wide
import HandS.IsInst
import HandS.NoneIn
import HandS.TupAny
import HandS.Walk
import HandS.Zip
import HandS.Flow
import PyProof.Rows.ListStrD
import HandS.HotCalls
import HandS.ExcInit
import HandS.ExcCtx
import HandS.ExcField
import HandS.ExcIs
import KE.KExcIs
import HandS.Style
import PySem.Challenge.RW_knownways_k12_texts_of_no_tree
set_option Elab.async false
set_option linter.all false
set_option maxRecDepth 100000
set_option maxHeartbeats 4000000
/-! ## generic: heaps, feeds, builtins -/
namespace KW
open PySem PySem.Spec PyProof.Rows L2

/-- the built-in names that the module leaves alone -/
structure Bi (mg : Str → Option Value) : Prop where
  len : mg "len" = none
  range : mg "range" = none
  abs : mg "abs" = none
  isinstance : mg "isinstance" = none
  all : mg "all" = none
  zip : mg "zip" = none
  enumerate : mg "enumerate" = none
  min : mg "min" = none
  ty_int : mg "int" = none
  ty_str : mg "str" = none
  ty_list : mg "list" = none
  ty_tuple : mg "tuple" = none
  ty_bool : mg "bool" = none

/-! ### the rules with the written part named -/
section
variable {X : Cx} (K : PySem.W.Frag) (hK : X.K = K)
include hK
theorem kk_len : CallR X (.builtin "len") (fun xs H Q => ∃ x n, xs = [x] ∧ LenV K x H n ∧ Q (.int n) H) := by subst hK; exact call_len
theorem kk_list_of : CallR X (.type "list") (fun xs H Q => ∃ p ys, xs = [.ref p] ∧ (SqL K H p ys ∨ SqT K H p ys) ∧ ∀ l, H l = none → Q (.ref l) (upd H l (.lst ys))) := by subst hK; exact call_list_of
theorem kk_tuple_of : CallR X (.type "tuple") (fun xs H Q => ∃ p ys, xs = [.ref p] ∧ ((SqL K H p ys ∧ ∀ l, H l = none → Q (.ref l) (upd H l (.tup ys))) ∨ (SqT K H p ys ∧ Q (.ref p) H))) := by subst hK; exact call_tuple_of
theorem kk_all (hc : X.calm = true) : CallR X (.builtin "all") (rAll K) := by subst hK; exact cr_all hc
theorem kk_isi : CallR X (.builtin "isinstance") (rIsi K) := by subst hK; exact call_isi
theorem kk_isiT : CallR X (.builtin "isinstance") (rIsiT K) := by subst hK; exact call_isiT
theorem kk_ixL : IxR X (rIxL K) := by subst hK; exact ix_list
theorem kk_ixT : IxR X (rIxT K) := by subst hK; exact ix_tup
theorem kk_ix : IxR X (rIx K) := by subst hK; exact ix_seq
theorem kk_slL : SlR X (rSlL K) := by subst hK; exact sl_list
theorem kk_slA : SlR X (rSlA K) := by subst hK; exact sl_tupA
theorem kk_in : OpR X (compareOp .In) (rIn K false) := by subst hK; exact op_in_seq
theorem kk_notIn : OpR X (compareOp .NotIn) (rIn K true) := by subst hK; exact op_notIn_seq
theorem kk_catA : OpR X (binaryOp .Add) (rCatA K) := by subst hK; exact op_catA
theorem kk_eqD (hu : X.A.units + 64 < cLine) : OpR X (compareOp .Eq) (rEqD K) := by subst hK; exact op_eqD hu
theorem kk_neD (hu : X.A.units + 64 < cLine) : OpR X (compareOp .NotEq) (rNeD K) := by subst hK; exact op_neD hu
theorem kk_join : MtR X "str.join" (fun x xs H Q => ∃ a p, ∃ ys : List Str, x = .str a ∧ xs = [.ref p] ∧ (SqL K H p (ys.map V.str) ∨ SqT K H p (ys.map V.str)) ∧
    (ys.map (·.length)).sum + ys.length * a.length ≤ 16777216 ∧ Q (.str (Txt.join a ys)) H) := by subst hK; exact mt_join
theorem kk_fld {e : Expr} {f : Str} {pos : Pos} {ta : TE} (he : PE X e ta) (hb : attributeBase e f X.env (eval e X.env) = eval e X.env) : PE X (.Attribute e f pos) (tFld K ta f) := by subst hK; exact pe_fld he hb
theorem kk_bm {T : String} {name : Str} {id : String} {o e : Expr} {es : List Expr} {apos cpos : Pos} {r : V → List V → Hp → VK → Prop} {to : TE} {t : TA} (pa : PlainAttrs T) (slot : Slot T name id) (hty : typeOf (.builtin id) = pure (.type "method_descriptor")) (hm : MtR X id r) (ho : PE X o to) (ha : PA X (e :: es) t)
    (hbase : attributeBase o name X.env (eval o X.env) = eval o X.env := by rfl)
    (hfew : ((backTo cpos (starEach (e :: es) X.env)).all (fun x => !x.1) && (backToKw cpos (keywordEach [] X.env)).all (fun x => x.1.isSome)
      && decide ((e :: es).length + ([] : List Keyword).length + (if ([] : List Keyword).isEmpty then 0 else 1) < 30)) = true := by rfl)
    (hline : (apos.endLine == cpos.line) = true := by rfl) (hs : starEach (e :: es) X.env = (false, eval e X.env) :: starEach es X.env := by rfl) (hplain : (backTo cpos (starEach es X.env)).any (·.1) = false := by rfl) :
    PE X (.Call (.Attribute o name apos) (e :: es) [] cpos) (tBM K T r to t) := by subst hK; exact pe_bm pa slot hty hm ho ha hbase hfew hline hs hplain
theorem kk_gtup {es : List Expr} {k : Nat} {pos : Pos} {t : TGs} {n : Nat} (hc : X.calm = true) (h : PGs X es t) (hn : (assignEach es X.env).length = n := by rfl) (hst : (assignEach es X.env).findIdx? (·.1) = none := by rfl) : PG X (.Tuple es k pos) (gTup K n t) := by subst hK; exact pg_tup hc h hn hst
theorem kk_iList {tg l : Expr} {tl : TE} (hl : PE X l tl) : PI X tg l (iList K tl) := by subst hK; exact pi_list hl
theorem kk_iTup {tg l : Expr} {tl : TE} (hl : PE X l tl) : PI X tg l (iTup K tl) := by subst hK; exact pi_tup hl
end

theorem kt_tuple {X : Cx} {pos : Pos} (hg : Gl X "tuple") (hm : X.mg "tuple" = none) : PE X (.Name "tuple" pos) (tC (.ty "tuple")) := pe_bltn (u := .type "tuple") hg hm (by decide +kernel) rfl
theorem kt_list {X : Cx} {pos : Pos} (hg : Gl X "list") (hm : X.mg "list" = none) : PE X (.Name "list" pos) (tC (.ty "list")) := pe_bltn (u := .type "list") hg hm (by decide +kernel) rfl
theorem kt_bool {X : Cx} {pos : Pos} (hg : Gl X "bool") (hm : X.mg "bool" = none) : PE X (.Name "bool" pos) (tC (.ty "bool")) := pe_bltn (u := .type "bool") hg hm (by decide +kernel) rfl
theorem kt_str {X : Cx} {pos : Pos} (hg : Gl X "str") (hm : X.mg "str" = none) : PE X (.Name "str" pos) (tC (.ty "str")) := pe_bltn (u := .type "str") hg hm (by decide +kernel) rfl
theorem kt_int {X : Cx} {pos : Pos} (hg : Gl X "int") (hm : X.mg "int" = none) : PE X (.Name "int" pos) (tC (.ty "int")) := pe_bltn (u := .type "int") hg hm (by decide +kernel) rfl

/-- all but what stands at a is as it was -/
def KB (a : Addr) (H H' : Hp) : Prop := ∀ b o, b ≠ a → H b = some o → H' b = some o
theorem KB.refl (a : Addr) (H : Hp) : KB a H H := fun _ _ _ h => h
theorem KB.trans {a : Addr} {H H1 H2 : Hp} (x : KB a H H1) (y : KB a H1 H2) : KB a H H2 := fun b o n h => y b o n (x b o n h)
theorem KB.of_same {a : Addr} {H H' : Hp} (s : Same H H') : KB a H H' := fun b o _ h => s b o h
theorem same_upd {H : Hp} {p : Addr} {o : HO} (h : H p = none) : Same H (upd H p o) := fun b x e => by
  rw [upd_ne (ne_of_none e h)]
  exact e
theorem KB.new {a p : Addr} {H H' : Hp} {o : HO} (x : KB a H H') (h : H' p = none) : KB a H (upd H' p o) := x.trans (KB.of_same (same_upd h))
theorem KB.upd {a : Addr} {H H' : Hp} {o : HO} (x : KB a H H') : KB a H (L2.upd H' a o) := fun b u n h => by
  rw [upd_ne n]
  exact x b u n h
theorem KB.seq {K : PySem.W.Frag} {a p : Addr} {H H' : Hp} {xs : List V} (e : KB a H H') (n : p ≠ a) (h : SqL K H p xs) : SqL K H' p xs := by
  rcases h with (h | ⟨o, h⟩) | h
  · exact .inl (.inl (e _ _ n h))
  · exact .inl (.inr ⟨o, e _ _ n h⟩)
  · exact .inr h
theorem KB.tup {K : PySem.W.Frag} {a p : Addr} {H H' : Hp} {xs : List V} (e : KB a H H') (n : p ≠ a) (h : SqT K H p xs) : SqT K H' p xs := by
  rcases h with (h | ⟨o, h⟩) | h
  · exact .inl (.inl (e _ _ n h))
  · exact .inl (.inr ⟨o, e _ _ n h⟩)
  · exact .inr h
theorem Same.tup {K : PySem.W.Frag} {a : Addr} {H H' : Hp} {xs : List V} (e : Same H H') (h : SqT K H a xs) : SqT K H' a xs := by
  rcases h with (h | ⟨o, h⟩) | h
  · exact .inl (.inl (e _ _ h))
  · exact .inl (.inr ⟨o, e _ _ h⟩)
  · exact .inr h
/-- the heap without what stands at a -/
def hid (a : Addr) (H : Hp) : Hp := fun b => if b = a then none else H b
theorem hid_ne {a b : Addr} {H : Hp} (h : b ≠ a) : hid a H b = H b := if_neg h
theorem hid_same {a : Addr} {H : Hp} : Same (hid a H) H := fun b o h => by
  by_cases e : b = a
  · rw [e] at h
    unfold hid at h
    rw [if_pos rfl] at h
    cases h
  · rw [hid_ne e] at h
    exact h
theorem hid_kb {a : Addr} {H H' : Hp} (k : KB a H H') : Same (hid a H) (hid a H') := fun b o h => by
  by_cases e : b = a
  · rw [e] at h
    unfold hid at h
    rw [if_pos rfl] at h
    cases h
  · rw [hid_ne e] at h ⊢
    exact k b o e h
theorem hid_of {a b : Addr} {H : Hp} {o : HO} (h : b ≠ a) (e : H b = some o) : hid a H b = some o := by
  rw [hid_ne h]
  exact e

/-- a feed stands at a -/
def Fd (H : Hp) (a : Addr) : Prop := ∃ c d : Int, H a = some (.lst [.int c, .int d])
theorem Fd.new {H : Hp} {a p : Addr} {o : HO} (f : Fd H a) (h : H p = none) : Fd (upd H p o) a := by
  obtain ⟨c, d, e⟩ := f
  exact ⟨c, d, same_upd h _ _ e⟩
theorem Fd.same {H H' : Hp} {a : Addr} (f : Fd H a) (h : Same H H') : Fd H' a := by
  obtain ⟨c, d, e⟩ := f
  exact ⟨c, d, h _ _ e⟩
theorem Fd.ne {H : Hp} {a p : Addr} (f : Fd H a) (h : H p = none) : p ≠ a := by
  obtain ⟨c, d, e⟩ := f
  exact (ne_of_none e h).symm
theorem Fd.neT {H : Hp} {a p : Addr} {xs : List V} (f : Fd H a) (h : H p = some (.tup xs)) : p ≠ a := by
  obtain ⟨c, d, e⟩ := f
  exact ne_of h e (by intro z; cases z)

theorem calMono {P : Program} {w : World} {K : PySem.W.Frag} {mg : Str → Option Value} {base : Heap} {j k : Nat} {x : Str} {sp : Sp} {dvs : List V} (c : C8.Cal P w K mg base j x sp dvs) (h : j ≤ k) : C8.Cal P w K mg base k x sp dvs := by
  obtain ⟨f, fd, ps, ds, F, r⟩ := c.ex
  exact ⟨f, fd, ps, ds, F.mono h, r⟩
theorem metMono {P : Program} {w : World} {K : PySem.W.Frag} {mg : Str → Option Value} {base : Heap} {j k : Nat} {C : Addr} {x : Str} {sp : Sp} {dvs : List V} (c : C8.Met P w K mg base j C x sp dvs) (h : j ≤ k) : C8.Met P w K mg base k C x sp dvs := by
  obtain ⟨f, fd, ps, ds, c1, m, F, r⟩ := c.ex
  exact ⟨f, fd, ps, ds, c1, m, F.mono h, r⟩
theorem makMono {P : Program} {w : World} {K : PySem.W.Frag} {mg : Str → Option Value} {base : Heap} {j k : Nat} {C : Addr} {x : Str} {sp : Sp} {dvs : List V} (c : C8.Mak P w K mg base j x C sp dvs) (h : j ≤ k) : C8.Mak P w K mg base k x C sp dvs := by
  obtain ⟨f, fd, ps, ds, M, F, r⟩ := c.ex
  exact ⟨f, fd, ps, ds, M, F.mono h, r⟩
theorem calImp {P : Program} {w : World} {K : PySem.W.Frag} {mg : Str → Option Value} {base : Heap} {k : Nat} {x : Str} {sp sp' : Sp} {dvs : List V} (c : C8.Cal P w K mg base k x sp dvs) (h : ∀ vs H Q E, sp' vs H Q E → sp vs H Q E) : C8.Cal P w K mg base k x sp' dvs := by
  obtain ⟨f, fd, ps, ds, F, r⟩ := c.ex
  exact ⟨f, fd, ps, ds, F.imp h, r⟩

/-- a def of the module as it stands behind the top: its place, its name, how it binds -/
structure Df (K : PySem.W.Frag) (mg : Str → Option Value) (x : Str) (st : Stmt) (ps : List Str) : Prop where
  ex : ∃ f fd, Fun K x x st f fd ∧ mg x = some (.ref f) ∧ PySem.W.keepIn K (.ref f) = true ∧ Binds K fd ps []
theorem Df.cal {P : Program} {w : World} {K : PySem.W.Frag} {mg : Str → Option Value} {base : Heap} {x : Str} {st : Stmt} {N ps : List Str} {k : Nat} {sp : Sp} (F : Df K mg x st ps) (S : FnScope N ps (defScope st)) (len : ∀ vs H Q E, sp vs H Q E → vs.length = ps.length)
    (hbody : ∀ (f : Addr) (cdv : Value) (A : Around) (outer : List Env) (s : Shared) (H : Hp) (vs : List V) (Q : VK) (E : XK), Room k (A.deeper (envOfC x (defScope st) s.heap.objs.size f cdv)) → sp vs H Q E →
      ∃ t, PSs (cxOf CX0 P w K mg base N x (defScope st) f cdv A outer s H E).nox (defBody st) t ∧ t { nx := fun _ H' => Q .non H', rt := Q } (start N vs) H) : C8.Cal P w K mg base (k + 1) x sp [] := by
  obtain ⟨f, fd, F, hm, kp, b⟩ := F.ex
  exact ⟨f, fd, ps, [], F.ok S len (hbody f), hm, kp, b, .nil⟩

/-- a promise that is never asked -/
theorem Df.never {P : Program} {w : World} {K : PySem.W.Frag} {mg : Str → Option Value} {base : Heap} {x : Str} {st : Stmt} {ps : List Str} {sp : Sp} (F : Df K mg x st ps) (h : ∀ vs H Q E, ¬ sp vs H Q E) : C8.Cal P w K mg base 0 x sp [] := by
  obtain ⟨f, fd, F, hm, kp, b⟩ := F.ex
  exact ⟨f, fd, ps, [], ⟨fun vs H Q E q => (h _ _ _ _ q).elim, fun A outer s H args us vs Q E hr he hb hv hs => (h _ _ _ _ hs).elim⟩, hm, kp, b, .nil⟩
/-- a method of the class at C -/
structure Dm (K : PySem.W.Frag) (C : Addr) (m qual : Str) (st : Stmt) (ps : List Str) : Prop where
  ex : ∃ f fd, Cls K C ∧ Meth K C m f ∧ Fun K m qual st f fd ∧ Binds K fd ps []
theorem Dm.met {P : Program} {w : World} {K : PySem.W.Frag} {mg : Str → Option Value} {base : Heap} {C : Addr} {m qual : Str} {st : Stmt} {N ps : List Str} {k : Nat} {sp : Sp} (F : Dm K C m qual st ps) (S : FnScope N ps (defScope st)) (len : ∀ vs H Q E, sp vs H Q E → vs.length = ps.length)
    (hbody : ∀ (f : Addr) (cdv : Value) (A : Around) (outer : List Env) (s : Shared) (H : Hp) (vs : List V) (Q : VK) (E : XK), Room k (A.deeper (envOfC qual (defScope st) s.heap.objs.size f cdv)) → sp vs H Q E →
      ∃ t, PSs (cxOf CX0 P w K mg base N qual (defScope st) f cdv A outer s H E).nox (defBody st) t ∧ t { nx := fun _ H' => Q .non H', rt := Q } (start N vs) H) : C8.Met P w K mg base (k + 1) C m sp [] := by
  obtain ⟨f, fd, c, me, F, b⟩ := F.ex
  exact ⟨f, fd, ps, [], c, me, F.ok S len (hbody f), b, .nil⟩
theorem Dm.never {P : Program} {w : World} {K : PySem.W.Frag} {mg : Str → Option Value} {base : Heap} {C : Addr} {m qual : Str} {st : Stmt} {ps : List Str} {sp : Sp} (F : Dm K C m qual st ps) (h : ∀ vs H Q E, ¬ sp vs H Q E) : C8.Met P w K mg base 0 C m sp [] := by
  obtain ⟨f, fd, c, me, F, b⟩ := F.ex
  exact ⟨f, fd, ps, [], c, me, ⟨fun vs H Q E q => (h _ _ _ _ q).elim, fun A outer s H args us vs Q E hr he hb hv hs => (h _ _ _ _ hs).elim⟩, b, .nil⟩
/-- a class of the module, with its __init__ -/
structure Dc (K : PySem.W.Frag) (mg : Str → Option Value) (C : Addr) (x qual : Str) (st : Stmt) (ps : List Str) : Prop where
  ex : ∃ f fd, Mk K C f ∧ mg x = some (.ref C) ∧ Fun K "__init__" qual st f fd ∧ Binds K fd ps []
theorem Dc.mak {P : Program} {w : World} {K : PySem.W.Frag} {mg : Str → Option Value} {base : Heap} {C : Addr} {x qual : Str} {st : Stmt} {N ps : List Str} {k : Nat} {sp : Sp} (F : Dc K mg C x qual st ps) (S : FnScope N ps (defScope st)) (len : ∀ vs H Q E, sp vs H Q E → vs.length = ps.length)
    (hbody : ∀ (f : Addr) (cdv : Value) (A : Around) (outer : List Env) (s : Shared) (H : Hp) (vs : List V) (Q : VK) (E : XK), Room k (A.deeper (envOfC qual (defScope st) s.heap.objs.size f cdv)) → sp vs H Q E →
      ∃ t, PSs (cxOf CX0 P w K mg base N qual (defScope st) f cdv A outer s H E).nox (defBody st) t ∧ t { nx := fun _ H' => Q .non H', rt := Q } (start N vs) H) : C8.Mak P w K mg base (k + 1) x C sp [] := by
  obtain ⟨f, fd, M, hm, F, b⟩ := F.ex
  exact ⟨f, fd, ps, [], M, F.ok S len (hbody f), hm, b, .nil⟩

theorem vals_of : ∀ {xs : List V} {us : List Value}, xs.length = us.length → (∀ (i : Nat) x u, xs[i]? = some x → us[i]? = some u → RelV x u) → Vals xs us
  | [], [], _, _ => .nil
  | [], _ :: _, h, _ => by simp at h
  | _ :: _, [], h, _ => by simp at h
  | x :: xs, u :: us, h, p => .cons (p 0 x u rfl rfl) (vals_of (by simpa using h) fun i y v a b => p (i + 1) y v (by simpa using a) (by simpa using b))
/-- list(text): its signs -/
theorem call_list_txt {X : Cx} : CallR X (.type "list") (fun xs H Q => ∃ z : Str, xs = [.str z] ∧ z.length ≤ sizeLine ∧ X.A.handled = none ∧ ∀ l, H l = none → Q (.ref l) (upd H l (.lst (z.cps.toList.map fun c => V.str ⟨#[c]⟩)))) := by
  intro pins s σ H xs us Q I r h
  obtain ⟨z, rfl, hz, hh, q⟩ := h
  obtain ⟨u, rfl, rx⟩ := vals1 r
  obtain ⟨t, rfl⟩ := rx
  refine call_list_str hh z t (hn := hz) fun h' tk acc' c' hk hS' hacc => ?_
  refine ⟨.ref s.heap.objs.size, _, I.laid (t' := tk) hk (Nat.le_refl _) (show ObjOk X.prog X.w _ h' _ (.lst (z.cps.toList.map fun c => V.str ⟨#[c]⟩)) from ⟨by simpa [Str.length] using hz, acc'.toList, c', ?_, by simpa using hS'⟩), rfl, q _ (I.hok.fresh (Nat.le_refl _))⟩
  refine vals_of (by simp [hacc.1]) fun i x u hx hu => ?_
  obtain ⟨c, t', hc, rfl⟩ := hacc.2 i u (by simpa using hu)
  rw [List.getElem?_map] at hx
  have hc' : z.cps.toList[i]? = some c := by simpa using hc
  rw [hc'] at hx
  cases hx
  exact ⟨_, rfl⟩

theorem yesT {σ : L2.St} {H : Hp} {X Y : Hp → Prop} (h : X H) : tYes σ H (fun b H3 => if b = true then X H3 else Y H3) := by
  show (if true = true then X H else Y H)
  rw [if_pos rfl]
  exact h
/-! ### a comprehension whose element is reckoned from the item alone -/
theorem lc_pure {K : PySem.W.Frag} {a D : Addr} {xs : List V} {i : Nat} {te : TE} {vs : List Nat} {σ : L2.St} {H1 : Hp} {Qd : Hp → Prop} (g : V → V) (ha : SqL K H1 a xs) (hD : H1 D = none) (hsz : xs.length ≤ sizeLine)
    (hw : ∀ x, wipe ((wipe σ vs).set i (some x)) vs = wipe σ vs)
    (he : ∀ x ∈ xs, ∀ (acc : List V) (Qv : VK), Qv (g x) (upd H1 D (.lst acc)) → te ((wipe σ vs).set i (some x)) (upd H1 D (.lst acc)) Qv)
    (hd : Qd (upd H1 D (.lst (xs.map g)))) :
    ∃ W : Nat → Nat → Hp → Prop, (∃ m, W 0 m (upd H1 D (.lst []))) ∧ ∀ j m H, W j m H →
      ((Itl K a).stop j H ∧ Qd H) ∨ ((Itl K a).go j H ∧ ∃ Nx : Hp → Prop, (∀ H', Nx H' → ∃ m', m' < m ∧ W (j + 1) m' H') ∧ ∀ x H', (Itl K a).yld j H x H' → gName i x (wipe σ vs) H' fun σ2 H2 => wipe σ2 vs = wipe σ vs ∧ tYes σ2 H2 fun b H3 =>
        if b = true then te σ2 H3 fun y H4 => ∃ acc, H4 D = some (.lst acc) ∧ acc.length < sizeLine ∧ Nx (upd H4 D (.lst (acc ++ [y]))) else Nx H3) := by
  refine lc_list (K := K) (a := a) (xs := xs) (fun j H => H = upd H1 D (.lst ((xs.take j).map g))) rfl (fun j H _ e => ?_) (fun j x H hx e => ?_) (fun H e => ?_)
  · rw [e]
    exact (same_upd hD).seq ha
  · subst e
    refine ⟨hw x, yesT ?_⟩
    obtain ⟨hj, ex⟩ := List.getElem?_eq_some_iff.mp hx
    refine he x (by rw [← ex]; exact List.getElem_mem hj) _ _ ⟨_, upd_same, ?_, ?_⟩
    · rw [List.length_map, List.length_take]
      omega
    · rw [upd_upd, List.take_succ_eq_append_getElem hj, List.map_append, ex]
      rfl
  · rw [e, List.take_length]
    exact hd
end KW

/-! ## the law's feed: _law_feed, _law_draw, _law_pick -/
namespace KW
open PySem PySem.Spec PyProof.Rows L2
def topS (i : Nat) : Stmt := PySem.Challenge.pw_knownways_k12_texts_of_no_tree.main.body.getD i (.Pass ⟨0, 0, 0, 0⟩)
theorem at_ofN {α : Type} {xs : List α} {z : Int} {v : α} (e : z = (z.toNat : Int)) (h : xs[z.toNat]? = some v) : atI xs z = some v := by
  rw [e]
  exact atI_nat h
section
variable {P : Program} {w : World} {K : PySem.W.Frag} {mg : Str → Option Value} {base : Heap}
abbrev s__law_feed : Stmt := topS 21
theorem sc__law_feed : FnScope ["_law_script", "_law_k", "_law_cell"] ["_law_script", "_law_k"] (defScope s__law_feed) := ⟨rfl, rfl, rfl, by decide +kernel, rfl, by decide +kernel, by decide +kernel⟩
def spFeed (K : PySem.W.Frag) : Sp := fun vs H Q _ => ∃ (a : Addr) (ns : List Int) (k : Int), vs = [.ref a, .int k] ∧ SqL K H a (ns.map V.int) ∧ 0 ≤ k ∧
  ∀ (p : Addr) (H' : Hp), H p = none → Same H H' → Fd H' p → Q (.ref p) H'
theorem ok_feed {k : Nat} (B : Bi mg) (F : Df K mg "_law_feed" s__law_feed ["_law_script", "_law_k"]) : C8.Cal P w K mg base (k + 1) "_law_feed" (spFeed K) [] := by
  refine F.cal sc__law_feed (fun vs H Q E h => ?_) (fun f cdv A outer s H vs Q E hr h => ?_)
  · obtain ⟨a, ns, k, rfl, _⟩ := h
    rfl
  · obtain ⟨a, ns, k, rfl, hS, hk, q⟩ := h
    refine ⟨_, (pss_cons (ps_set (i := 2) sc__law_feed.nd rfl (Or.inl rfl) (pe_op op_add (pe_op op_mul pe_int (pv 1)) pe_int))
      (C8.pss_cut (ps_if (pt_cmpR op_lt (pv 1) (pe_callB (kk_len K rfl) rfl B.len PySem.boot_len (pa_cons (pv 0) pa_nil)) (nomark _)) (pss_one (ps_set (i := 2) sc__law_feed.nd rfl (Or.inl rfl) (pe_ix (kk_ixL K rfl) (pv 0) (pv 1) (fun _ _ => rfl)))) (pss_one (ps_if (pt_cmpR op_gt (pe_callB (kk_len K rfl) rfl B.len PySem.boot_len (pa_cons (pv 0) pa_nil)) pe_int (nomark _)) (pss_one (ps_set (i := 2) sc__law_feed.nd rfl (Or.inl rfl) (pe_op op_add (pv 2) (pe_op op_mul (pe_op op_mod (pe_callB call_abs rfl B.abs (by decide +kernel) (pa_cons (pe_ix (kk_ixL K rfl) (pv 0) (pe_op op_mod (pe_callTy call_int1 rfl B.ty_int (by decide +kernel) (pa_cons (pv 1) pa_nil)) (pe_callB (kk_len K rfl) rfl B.len PySem.boot_len (pa_cons (pv 0) pa_nil))) (fun _ _ => rfl)) pa_nil)) pe_int) pe_int)))) pss_nil)))
      (C8.pss_cut (ps_if (pt_cmpR op_lt (pv 2) pe_int (nomark _)) (pss_one (ps_set (i := 2) sc__law_feed.nd rfl (Or.inl rfl) (pe_op op_sub pe_int (pe_op op_mul pe_int (pv 2))))) pss_nil)
      (pss_one (ps_ret (pe_lst (pa_cons (pe_ifExp (pt_cmpR op_ge (pv 2) (pe_op op_pow pe_int pe_int) (nomark _)) (pv 2) pe_int) (pa_cons (pe_op op_add (pe_op op_add (pe_op op_mod (pe_callTy call_int1 rfl B.ty_int (by decide +kernel) (pa_cons (pv 2) pa_nil)) pe_int) (pe_op op_mul pe_int (pv 1))) pe_int) pa_nil)))))))), ?_⟩
    have hL : (List.map V.int ns).length = ns.length := List.length_map _
    have at_ : ∀ (i : Int), 0 ≤ i → i < (ns.length : Int) → ∃ z : Int, atI (ns.map V.int) i = some (.int z) := fun i h0 h1 => by
      obtain ⟨j, rfl⟩ : ∃ j : Nat, i = (j : Int) := ⟨i.toNat, by omega⟩
      have hj : j < ns.length := by omega
      exact ⟨ns[j], atI_nat (by rw [List.getElem?_map, List.getElem?_eq_getElem hj]; rfl)⟩
    refine ⟨_, rfl, _, _, rfl, rfl, .inl ⟨by decide, by decide⟩, _, _, rfl, rfl, fun σ H' => ∃ c : Int, σ = [some (.ref a), some (.int k), some (.int c)] ∧ H = H', ?_, ?_⟩
    · refine ⟨_, rfl, _, rfl, _, _, rfl, .inl ⟨_, hS, rfl⟩, _, _, rfl, rfl, _, rfl, ?_⟩
      refine ite2 (fun h0 => ?_) (fun h0 => ?_)
      · obtain ⟨z, hz⟩ := at_ k hk (by simpa using h0)
        exact ⟨_, rfl, _, rfl, a, _, k, _, rfl, rfl, hS, hz, z, rfl, rfl⟩
      · refine ⟨_, rfl, _, _, rfl, .inl ⟨_, hS, rfl⟩, _, _, rfl, rfl, _, rfl, ?_⟩
        refine ite2 (fun h1 => ?_) (fun h1 => ?_)
        · have h2 : (0 : Int) < (ns.length : Int) := by simpa using h1
          obtain ⟨z, hz⟩ := at_ (k % ((ns.map V.int).length : Nat)) (Int.emod_nonneg _ (by rw [hL]; omega)) (by rw [hL]; exact Int.emod_lt_of_pos _ h2)
          refine ⟨_, rfl, _, rfl, _, rfl, .inl ⟨_, rfl, _, rfl, _, _, rfl, .inl ⟨_, hS, rfl⟩, _, _, rfl, rfl, (by rw [hL]; exact h2), a, _, _, _, rfl, rfl, hS, hz, _, rfl, _, _, rfl, rfl, (by show (0 : Int) < 1000003; decide), _, _, rfl, rfl, .inr ⟨by decide, by decide⟩, _, _, rfl, rfl, _, rfl, rfl⟩⟩
        · exact ⟨_, rfl, rfl⟩
    · rintro σ H' ⟨c, rfl, rfl⟩
      refine ⟨fun σ H' => ∃ c : Int, σ = [some (.ref a), some (.int k), some (.int c)] ∧ H = H', ?_, ?_⟩
      · refine ⟨_, rfl, _, _, rfl, rfl, _, rfl, ?_⟩
        refine ite2 (fun h1 => ?_) (fun h1 => ?_)
        · exact ⟨_, rfl, _, _, rfl, rfl, .inl ⟨by decide, by decide⟩, _, _, rfl, rfl, _, rfl, rfl⟩
        · exact ⟨_, rfl, rfl⟩
      · rintro σ H' ⟨c, rfl, rfl⟩
        have fin : ∀ z : Int, (tCons (tOp (rI0 fun i j => V.int (i + j)) (tOp (rI0 fun i j => V.int (i + j)) (tOp (rI (fun _ j => 0 < j) fun i j => V.int (i % j)) (tCB (fun xs H Q => (∃ i, xs = [V.int i] ∧ Q (V.int i) H) ∨ ∃ k, xs = [V.bl k] ∧ Q (V.int (if k = true then 1 else 0)) H) (tCons (tVar 2) tNil)) (tC (V.int 1000003))) (tOp (rI CMul fun i j => V.int (i * j)) (tC (V.int 13)) (tVar 1))) (tC (V.int 1))) tNil)
            [some (.ref a), some (.int k), some (.int c)] H (fun xs H2 => (V.int z :: xs).length ≤ sizeLine ∧ ∀ p, H2 p = none → Q (.ref p) (upd H2 p (.lst (V.int z :: xs)))) := fun z => by
          refine ⟨_, rfl, .inl ⟨_, rfl, _, _, rfl, rfl, (by show (0 : Int) < 1000003; decide), _, rfl, _, _, rfl, rfl, .inl ⟨by decide, by decide⟩, _, _, rfl, rfl, _, _, rfl, rfl, (by show 2 ≤ sizeLine; decide), fun p hp => ?_⟩⟩
          exact q p _ hp (same_upd hp) ⟨_, _, upd_same⟩
        refine ⟨_, rfl, _, _, rfl, rfl, ⟨by decide, by decide, by decide⟩, _, _, rfl, rfl, _, rfl, ?_⟩
        refine ite2 (fun h1 => ?_) (fun h1 => ?_)
        · exact ⟨_, rfl, fin c⟩
        · exact fin 0
abbrev s__law_draw : Stmt := topS 22
theorem sc__law_draw : FnScope ["_law_feed_here", "_law_many", "_law_digit"] ["_law_feed_here", "_law_many"] (defScope s__law_draw) := ⟨rfl, rfl, rfl, by decide +kernel, rfl, by decide +kernel, by decide +kernel⟩
def spDraw : Sp := fun vs H Q _ => ∃ (a : Addr) (m : Int), vs = [.ref a, .int m] ∧ Fd H a ∧ 0 < m ∧ m < 1073741824 ∧
  ∀ (r : Int) (H' : Hp), 0 ≤ r → r < m → Fd H' a → KB a H H' → Q (.int r) H'
theorem ok_draw {k : Nat} (B : Bi mg) (F : Df K mg "_law_draw" s__law_draw ["_law_feed_here", "_law_many"]) : C8.Cal P w K mg base (k + 1) "_law_draw" spDraw [] := by
  refine F.cal sc__law_draw (fun vs H Q E h => ?_) (fun f cdv A outer s H vs Q E hr h => ?_)
  · obtain ⟨a, m, rfl, _⟩ := h
    rfl
  · obtain ⟨a, m, rfl, ⟨c, d, hF⟩, m0, m1, q⟩ := h
    refine ⟨_, (pss_cons (ps_if (pt_cmpR op_gt (pe_ix (kk_ixL K rfl) (pv 0) pe_int (fun _ _ => rfl)) pe_int (nomark _)) (pss_cons (ps_set (i := 2) sc__law_draw.nd rfl (Or.inl rfl) (pe_op op_mod (pe_callTy call_int1 rfl B.ty_int (by decide +kernel) (pa_cons (pe_ix (kk_ixL K rfl) (pv 0) pe_int (fun _ _ => rfl)) pa_nil)) (pv 1)))
      (pss_cons (ps_asg (pe_op op_fdivW (pe_ix (kk_ixL K rfl) (pv 0) pe_int (fun _ _ => rfl)) (pv 1)) (pg_sub (pv 0) pe_int set_list))
      (pss_one (ps_ret (pv 2))))) pss_nil)
      (pss_cons (ps_asg (pe_op op_mod (pe_callTy call_int1 rfl B.ty_int (by decide +kernel) (pa_cons (pe_op op_add (pe_op op_mul (pe_ix (kk_ixL K rfl) (pv 0) pe_int (fun _ _ => rfl)) pe_int) pe_int) pa_nil)) pe_int) (pg_sub (pv 0) pe_int set_list))
      (pss_one (ps_ret (pe_op op_mod (pe_callTy call_int1 rfl B.ty_int (by decide +kernel) (pa_cons (pe_op op_fdivW (pe_ix (kk_ixL K rfl) (pv 0) pe_int (fun _ _ => rfl)) pe_int) pa_nil)) (pv 1)))))), ?_⟩
    refine ⟨_, rfl, a, _, 0, _, rfl, rfl, SqL.of hF, rfl, _, _, rfl, rfl, _, rfl, ?_⟩
    refine ite2 (fun h0 => ?_) (fun h0 => ?_)
    · refine ⟨_, rfl, a, _, 0, _, rfl, rfl, SqL.of hF, rfl, .inl ⟨_, rfl, _, rfl, _, _, rfl, rfl, m0, ?_⟩⟩
      refine ⟨_, rfl, a, _, 0, _, rfl, rfl, SqL.of hF, rfl, _, rfl, _, _, rfl, rfl, wide_div m0 (b := 31) (by omega) (by decide) (by decide), _, rfl, a, _, _, 0, rfl, rfl, hF, rfl, ?_⟩
      refine ⟨_, rfl, q _ _ (Int.emod_nonneg _ (by omega)) (Int.emod_lt_of_pos _ m0) ⟨_, _, upd_same⟩ (KB.refl _ _).upd⟩
    · refine ⟨_, rfl, a, _, 1, _, rfl, rfl, SqL.of hF, rfl, _, _, rfl, rfl, .inr ⟨by decide, by decide⟩, _, _, rfl, rfl, .inl ⟨_, rfl, _, _, rfl, rfl, (by show (0 : Int) < 2147483647; decide), _, rfl, a, _, _, 1, rfl, rfl, hF, rfl, ?_⟩⟩
      refine ⟨_, rfl, a, _, 1, _, rfl, rfl, SqL.of upd_same, rfl, _, _, rfl, rfl, wide_div (b := 7) (by decide) (by decide) (by decide) (by decide), .inl ⟨_, rfl, _, rfl, _, _, rfl, rfl, m0, ?_⟩⟩
      exact q _ _ (Int.emod_nonneg _ (by omega)) (Int.emod_lt_of_pos _ m0) ⟨_, _, upd_same⟩ (KB.refl _ _).upd

abbrev s__law_pick : Stmt := topS 23
theorem sc__law_pick : FnScope ["_law_feed_here", "_law_items"] ["_law_feed_here", "_law_items"] (defScope s__law_pick) := ⟨rfl, rfl, rfl, by decide +kernel, rfl, by decide +kernel, by decide +kernel⟩
def spPick (K : PySem.W.Frag) : Sp := fun vs H Q _ => ∃ (a : Addr) (x : V), vs = [.ref a, x] ∧ Fd H a ∧
  ((∃ z : Str, x = .str z ∧ z.cps.toList ≠ [] ∧ z.length ≤ 1000 ∧ ∀ (c : Nat) (H' : Hp), c ∈ z.cps.toList → Fd H' a → KB a H H' → Q (.str ⟨#[c]⟩) H') ∨
   (∃ (p : Addr) (xs : List V), x = .ref p ∧ p ≠ a ∧ (SqL K H p xs ∨ SqT K H p xs) ∧ xs ≠ [] ∧ xs.length ≤ 1000 ∧ ∀ (v : V) (H' : Hp), v ∈ xs → Fd H' a → KB a H H' → Q v H'))
theorem ok_pick {k : Nat} (B : Bi mg) (F : Df K mg "_law_pick" s__law_pick ["_law_feed_here", "_law_items"]) (G_law_draw : C8.Cal P w K mg base k "_law_draw" spDraw []) : C8.Cal P w K mg base (k + 1) "_law_pick" (spPick K) [] := by
  refine F.cal sc__law_pick (fun vs H Q E h => ?_) (fun f cdv A outer s H vs Q E hr h => ?_)
  · obtain ⟨a, x, rfl, _⟩ := h
    rfl
  · obtain ⟨a, x, rfl, hF, h⟩ := h
    refine ⟨_, (pss_one (ps_ret (pe_ix (kk_ix K rfl) (pv 1) (C8.pe_c G_law_draw hr (Nat.le_refl _) rfl (pa_cons (pv 0) (pa_cons (pe_callB (kk_len K rfl) rfl B.len PySem.boot_len (pa_cons (pv 1) pa_nil)) pa_nil))) (fun _ _ => rfl)))), ?_⟩
    rcases h with ⟨z, rfl, hz, hl, q⟩ | ⟨p, xs, rfl, hp, hS, hx, hl, q⟩
    · have h0 : 0 < z.cps.toList.length := List.length_pos_iff.mpr hz
      have hzl : z.length = z.cps.toList.length := by simp [Str.length]
      refine ⟨_, rfl, _, rfl, _, rfl, _, z.length, rfl, ⟨Nat.le_trans hl (by decide), rfl⟩, a, _, rfl, hF, by omega, by omega, fun r H' r0 r1 f' kb => ?_⟩
      have hr : r.toNat < z.cps.toList.length := by omega
      refine .inr (.inr ⟨z, r, z.cps.toList[r.toNat], rfl, rfl, Nat.le_trans hl (by decide), at_ofN (by omega) (List.getElem?_eq_getElem hr), ?_⟩)
      exact q _ _ (List.getElem_mem hr) f' kb
    · have h0 : 0 < xs.length := List.length_pos_iff.mpr hx
      have lv : LenV K (.ref p) H xs.length := hS.elim (fun h => .inl ⟨xs, h, rfl⟩) (fun h => .inr ⟨xs, h, rfl⟩)
      refine ⟨_, rfl, _, rfl, _, rfl, _, xs.length, rfl, lv, a, _, rfl, hF, by omega, by omega, fun r H' r0 r1 f' kb => ?_⟩
      have hr : r.toNat < xs.length := by omega
      rcases hS with hS | hS
      · exact .inl ⟨p, xs, r, xs[r.toNat], rfl, rfl, kb.seq hp hS, at_ofN (by omega) (List.getElem?_eq_getElem hr), q _ _ (List.getElem_mem hr) f' kb⟩
      · exact .inr (.inl ⟨p, xs, r, xs[r.toNat], rfl, rfl, kb.tup hp hS, at_ofN (by omega) (List.getElem?_eq_getElem hr), q _ _ (List.getElem_mem hr) f' kb⟩)
end
end KW

/-! ## names: _law_word, _law_words -/
namespace KW
open PySem PySem.Spec PyProof.Rows L2
abbrev S : List Nat → Str := SX.S
/-- a row of texts as values -/
abbrev LS (ls : List (List Nat)) : List V := ls.map fun l => V.str (S l)
abbrev wIf : List Nat := [105, 102]
abbrev wElse : List Nat := [101, 108, 115, 101]
abbrev wEnd : List Nat := [101, 110, 100]
/-- small letters -/
def Low (l : List Nat) : Prop := ∀ c ∈ l, 97 ≤ c ∧ c ≤ 122
/-- a name -/
def Nm (l : List Nat) : Prop := Low l ∧ 1 ≤ l.length ∧ l.length ≤ 4 ∧ l ≠ wIf ∧ l ≠ wElse ∧ l ≠ wEnd
abbrev abc : List Nat := [97, 98, 99, 100, 101, 102, 103, 104, 105, 106, 107, 108, 109, 110, 111, 112, 113, 114, 115, 116, 117, 118, 119, 120, 121, 122]
theorem abc_eq : (Str.ofString "abcdefghijklmnopqrstuvwxyz") = S abc := by decide +kernel
theorem low_abc : Low abc := by unfold Low; decide
theorem abc_tl : (Str.ofString "abcdefghijklmnopqrstuvwxyz").cps.toList = abc := by rw [abc_eq]
theorem nm_one {c : Nat} (h : c ∈ abc) : Nm [c] := ⟨fun d hd => by
  rw [List.mem_singleton] at hd
  subst hd
  exact low_abc _ h, by simp, by simp, by simp, by simp, by simp⟩
theorem joinL_single : ∀ cs : List Nat, TL.joinL [] (cs.map fun c => [c]) = cs
  | [] => rfl
  | [_] => rfl
  | c :: d :: r => by
    show [c] ++ ([] ++ TL.joinL [] ((d :: r).map fun c => [c])) = c :: d :: r
    rw [joinL_single (d :: r)]
    rfl
theorem sgn_eq (c : Nat) : (⟨#[c]⟩ : Str) = S [c] := rfl
theorem sum_ones : ∀ cs : List Nat, ((cs.map fun c => S [c]).map (·.length)).sum = cs.length
  | [] => rfl
  | c :: r => by
    have ih := sum_ones r
    rw [List.map_cons, List.map_cons, List.sum_cons, ih, List.length_cons]
    show 1 + _ = _
    omega
theorem KB.upd0 {a p : Addr} {H H' : Hp} {o : HO} (x : KB a H H') (h : H p = none) : KB a H (L2.upd H' p o) := fun b u n e => by
  rw [upd_ne (ne_of_none e h)]
  exact x b u n e
theorem Fd.upd {H : Hp} {a p : Addr} {o : HO} (f : Fd H a) (h : a ≠ p) : Fd (L2.upd H p o) a := by
  obtain ⟨c, d, e⟩ := f
  exact ⟨c, d, by rw [upd_ne h]; exact e⟩
/-- what is new behind a draw was new ahead of it -/
theorem KB.free {a p : Addr} {H H' : Hp} (k : KB a H H') (n : p ≠ a) (h : H' p = none) : H p = none := by
  cases e : H p with
  | none => rfl
  | some o => rw [k p o n e] at h; cases h
section
variable {P : Program} {w : World} {K : PySem.W.Frag} {mg : Str → Option Value} {base : Heap}
abbrev s__law_word : Stmt := topS 25
theorem sc__law_word : FnScope ["_law_feed_here", "_law_letters", "_law_word_here", "_law_k"] ["_law_feed_here"] (defScope s__law_word) := ⟨rfl, rfl, rfl, by decide +kernel, rfl, by decide +kernel, by decide +kernel⟩
def spWord : Sp := fun vs H Q _ => ∃ (a : Addr), vs = [.ref a] ∧ Fd H a ∧ ∀ (l : List Nat) (H' : Hp), Nm l → Fd H' a → KB a H H' → Q (.str (S l)) H'
theorem ok_word {k : Nat} (B : Bi mg) (F : Df K mg "_law_word" s__law_word ["_law_feed_here"]) (G_law_draw : C8.Cal P w K mg base k "_law_draw" spDraw []) (G_law_pick : C8.Cal P w K mg base k "_law_pick" (spPick K) []) :
    C8.Cal P w K mg base (k + 1) "_law_word" spWord [] := by
  refine F.cal sc__law_word (fun vs H Q E h => ?_) (fun f cdv A outer s H vs Q E hr h => ?_)
  · obtain ⟨a, rfl, _⟩ := h
    rfl
  · obtain ⟨a, rfl, hF, q⟩ := h
    refine ⟨_, (pss_cons (ps_set (i := 1) sc__law_word.nd rfl (Or.inr rfl) pe_str)
      (pss_cons (ps_set (i := 2) sc__law_word.nd rfl (Or.inl rfl) (kk_bm K rfl PySem.F.plainAttrs_str PySem.F.slot_str_join PySem.F.type_str_join (kk_join K rfl) pe_str (pa_cons (pe_lc (own := [("_law_k", 3)]) (g := gName 3) (tt := tYes) rfl sc__law_word.nd (pi_range1 rfl B.range (pa_cons (pe_op op_add pe_int (C8.pe_c G_law_draw hr (Nat.le_refl _) rfl (pa_cons (pv 0) (pa_cons pe_int pa_nil)))) pa_nil)) (blkOk_by (own := [("_law_k", 3)]) (N := ["_law_feed_here", "_law_letters", "_law_word_here", "_law_k"]) (sc := defScope s__law_word) (by decide +kernel)) (fun _ _ _ _ _ => (pg_name (i := 3) sc__law_word.nd rfl (Or.inl rfl))) (fun _ _ _ _ _ => pts_nil) (fun _ _ _ _ _ => (C8.pe_c G_law_pick hr (Nat.le_refl _) rfl (pa_cons (pv 0) (pa_cons (pv 1) pa_nil))))) pa_nil)))
      (pss_one (ps_ret (pe_ifExp (pt_cmpR (kk_in K rfl) (pv 2) (pe_tup (pa_cons pe_str (pa_cons pe_str (pa_cons pe_str pa_nil)))) rfl) pe_str (pv 2)))))), ?_⟩
    refine ⟨rfl, _, rfl, a, _, rfl, hF, by decide, by decide, fun r H1 r0 r1 f1 k1 => ⟨_, _, rfl, rfl, _, rfl, by omega, by omega, fun D hD => ?_⟩⟩
    have hDa : D ≠ a := f1.ne hD
    have hD0 : H D = none := k1.free hDa hD
    refine lc_range (lo := 0) (fun i H2 => ∃ cs : List Nat, cs.length = i ∧ Low cs ∧ H2 D = some (.lst (cs.map fun c => V.str (S [c]))) ∧ Fd H2 a ∧ KB a H H2) ⟨[], rfl, fun _ h => by simp at h, upd_same, f1.new hD, k1.new hD⟩ (fun i H2 hi hP => ?_) (fun H2 hP => ?_)
    · obtain ⟨cs, hl, hlow, hDc, f2, k2⟩ := hP
      refine ⟨rfl, yesT ?_⟩
      refine ⟨_, rfl, _, rfl, a, _, rfl, f2, .inl ⟨_, rfl, by rw [abc_tl]; decide, by decide, fun c H3 hc f3 k3 => ?_⟩⟩
      rw [abc_tl] at hc
      have hD3 := k3 D _ hDa hDc
      refine ⟨_, hD3, by rw [List.length_map]; exact Nat.lt_of_lt_of_le (show cs.length < 100 by omega) (by decide), cs ++ [c], by simp [hl], fun d hd => ?_, ?_, f3.upd hDa.symm, (k2.trans k3).upd0 hD0⟩
      · rw [List.mem_append, List.mem_singleton] at hd
        rcases hd with hd | rfl
        · exact hlow d hd
        · exact low_abc _ hc
      · rw [upd_same, List.map_append]
        rfl
    · obtain ⟨cs, hl, hlow, hDc, f2, k2⟩ := hP
      have hlen : 1 ≤ cs.length ∧ cs.length ≤ 4 := by omega
      refine ⟨_, _, cs.map fun c => S [c], rfl, rfl, .inl (SqL.of (by rw [hDc, List.map_map]; rfl)), ?_, ?_⟩
      · rw [sum_ones, List.length_map]
        show cs.length + cs.length * 0 ≤ _
        omega
      have ej : Txt.join (Str.ofString "") (cs.map fun c => S [c]) = S cs := by
        have e := SX.join_S [] (cs.map fun c => [c])
        rw [joinL_single, List.map_map] at e
        exact e
      rw [ej]
      refine ⟨_, rfl, (by show 3 ≤ sizeLine; decide), fun p hp => ?_⟩
      have f3 := f2.new (o := .tup [V.str (Str.ofString "if"), V.str (Str.ofString "else"), V.str (Str.ofString "end")]) hp
      have k3 := k2.new (o := .tup [V.str (Str.ofString "if"), V.str (Str.ofString "else"), V.str (Str.ofString "end")]) hp
      refine ⟨p, _, rfl, .inr (SqT.of upd_same), rfl, rfl, _, rfl, ite2 (fun h => ?_) (fun h => ?_)⟩
      · exact q [113] _ (nm_one (by decide)) f3 k3
      · refine ⟨_, rfl, q cs _ ⟨hlow, hlen.1, hlen.2, ?_, ?_, ?_⟩ f3 k3⟩
        all_goals (rintro rfl; exact h (by decide +kernel))
abbrev s__law_words : Stmt := topS 26
theorem sc__law_words : FnScope ["_law_feed_here", "_law_many", "_law_found", "_law_k", "_law_some", "_law_word_here"] ["_law_feed_here", "_law_many"] (defScope s__law_words) := ⟨rfl, rfl, rfl, by decide +kernel, rfl, by decide +kernel, by decide +kernel⟩
def spWords : Sp := fun vs H Q _ => ∃ (a : Addr) (m : Nat), vs = [.ref a, .int m] ∧ Fd H a ∧ m ≤ 26 ∧
  ∀ (p : Addr) (ls : List (List Nat)) (H' : Hp), H p = none → ls.length = m → (∀ l ∈ ls, Nm l) → ls.Nodup → H' p = some (.lst (LS ls)) → Fd H' a → KB a H H' → Q (.ref p) H'
theorem len_ne {α : Type} [BEq α] [LawfulBEq α] (x : α) {M : List α} (h : M.Nodup) : M.length ≤ (M.filter fun y => y != x).length + 1 := by
  rw [← h.erase_eq_filter, List.length_erase]
  split <;> omega
theorem len_out {α : Type} [BEq α] [LawfulBEq α] {M : List α} (h : M.Nodup) : ∀ f : List α, M.length ≤ (M.filter fun y => !f.contains y).length + f.length
  | [] => by
    rw [List.filter_eq_self.mpr (by intro _ _; rfl)]
    exact Nat.le_refl _
  | x :: r => by
    have e : (M.filter fun y => !(x :: r).contains y) = (M.filter fun y => !r.contains y).filter fun y => y != x := by
      rw [List.filter_filter]
      refine List.filter_congr fun y _ => ?_
      rw [List.contains_cons, Bool.not_or]
      rfl
    have i := len_out h r
    have j := len_ne x (h.filter (fun y => !r.contains y))
    rw [e, List.length_cons]
    omega
theorem inV_LS (x : List Nat) : ∀ ls : List (List Nat), inV (V.str (S x)) (LS ls) = ls.contains x
  | [] => rfl
  | y :: r => by
    have ih := inV_LS x r
    show ((S y == S x) || inV (V.str (S x)) (LS r)) = _
    rw [ih, SX.S_beq, List.contains_cons, BEq.comm]
theorem LS_snoc (ls : List (List Nat)) (y : List Nat) : LS ls ++ [V.str (S y)] = LS (ls ++ [y]) := by
  rw [LS, LS, List.map_append]
  rfl
theorem flat_LS (ls : List (List Nat)) : (LS ls).all flatV = true := by
  rw [List.all_eq_true]
  intro v hv
  obtain ⟨l, _, rfl⟩ := List.mem_map.mp hv
  rfl
theorem take_more {α : Type} {l : List α} {i : Nat} {x : α} (h : l[i]? = some x) : l.take (i + 1) = l.take i ++ [x] := by
  obtain ⟨hi, e⟩ := List.getElem?_eq_some_iff.mp h
  rw [List.take_succ_eq_append_getElem hi, e]
theorem LS_get {ls : List (List Nat)} {i : Nat} {v : V} (h : (LS ls)[i]? = some v) : ∃ l, ls[i]? = some l ∧ v = V.str (S l) := by
  rw [List.getElem?_map] at h
  cases e : ls[i]? with
  | none => rw [e] at h; cases h
  | some l => rw [e] at h; exact ⟨l, rfl, (Option.some.inj h).symm⟩
theorem ok_words {k : Nat} (B : Bi mg) (F : Df K mg "_law_words" s__law_words ["_law_feed_here", "_law_many"]) (G_law_word : C8.Cal P w K mg base k "_law_word" spWord []) :
    C8.Cal P w K mg base (k + 1) "_law_words" spWords [] := by
  refine F.cal sc__law_words (fun vs H Q E h => ?_) (fun f cdv A outer s H vs Q E hr h => ?_)
  · obtain ⟨a, m, rfl, _⟩ := h
    rfl
  · obtain ⟨a, m, rfl, hF, hm, q⟩ := h
    refine ⟨_, (pss_cons (ps_set (i := 2) sc__law_words.nd rfl (Or.inr rfl) (pe_lst pa_nil))
      (pss_cons (ps_for PassesOwn.never rfl (pi_range1 rfl B.range (pa_cons (pv 1) pa_nil)) (pg_name (i := 3) sc__law_words.nd rfl (Or.inl rfl)) (pss_cons (ps_set (i := 4) sc__law_words.nd rfl (Or.inl rfl) (pe_op op_cat (pe_lst (pa_cons (C8.pe_c G_law_word hr (Nat.le_refl _) rfl (pa_cons (pv 0) pa_nil)) pa_nil)) (pe_callTy call_list_txt rfl B.ty_list (by decide +kernel) (pa_cons pe_str pa_nil))))
      (pss_one (ps_expr (kk_bm K rfl PySem.F.plainAttrs_list PySem.F.slot_list_append PySem.F.type_list_append mt_append (pv 2) (pa_cons (pe_ix (kk_ixL K rfl) (pe_lc (own := [("_law_word_here", 5)]) (g := gName 5) rfl sc__law_words.nd (kk_iList K rfl (pv 4)) (blkOk_by (own := [("_law_word_here", 5)]) (N := ["_law_feed_here", "_law_many", "_law_found", "_law_k", "_law_some", "_law_word_here"]) (sc := defScope s__law_words) (by decide +kernel)) (fun _ _ _ _ _ => (pg_name (i := 5) sc__law_words.nd rfl (Or.inl rfl))) (fun _ _ _ _ _ => (pts_one (pt_cmpR (kk_notIn K rfl) (pv 5) (pv 2) rfl))) (fun _ _ _ _ _ => (pv 5))) pe_int (fun _ _ => rfl)) pa_nil))))))
      (pss_one (ps_ret (pv 2))))), ?_⟩
    refine ⟨Nat.zero_le _, fun p hp => ?_⟩
    have hpa : p ≠ a := hF.ne hp
    refine ⟨_, rfl, _, rfl, by omega, by omega, ?_⟩
    refine for_range (lo := 0) (n := ((m : Int)).toNat) (fun i σ H1 => ∃ (ls : List (List Nat)) (v3 v4 : Option V), σ = [some (.ref a), some (.int m), some (.ref p), v3, v4, none] ∧ ls.length = i ∧ (∀ l ∈ ls, Nm l) ∧ ls.Nodup ∧ H1 p = some (.lst (LS ls)) ∧ Fd H1 a ∧ KB a H H1) ?_ ?_ ?_
    · exact ⟨[], none, none, rfl, rfl, by simp, by simp, upd_same, hF.new hp, (KB.refl _ _).new hp⟩
    · rintro i σ H1 hi ⟨ls, v3, v4, rfl, hl, hn, hd, hp1, f1, k1⟩
      have hi' : i < m := by simpa using hi
      -- some = [word] + list(abc)
      refine ⟨_, rfl, a, rfl, f1, fun w0 H2 hw f2 k2 => ⟨(by show 1 ≤ sizeLine; decide), fun c hc => ⟨_, rfl, (by decide), hr.hd, fun e he => ?_⟩⟩⟩
      have hca : c ≠ a := f2.ne hc
      have f3 := f2.new (o := .lst [V.str (S w0)]) hc
      have hea : e ≠ a := f3.ne he
      have hce : c ≠ e := ne_of_none upd_same he
      rw [abc_tl]
      refine ⟨c, e, _, _, rfl, rfl, by rw [upd_ne hce, upd_same], upd_same, (by show 27 ≤ sizeLine; decide), fun g hg => ?_⟩
      have f4 := f3.new (o := .lst (abc.map fun c => V.str ⟨#[c]⟩)) he
      have hga : g ≠ a := f4.ne hg
      have hp2 : H2 p = some (.lst (LS ls)) := k2 p _ hpa hp1
      have hp3 := same_upd (o := .lst [V.str (S w0)]) hc _ _ hp2
      have hp4 := same_upd (o := .lst (abc.map fun c => V.str ⟨#[c]⟩)) he _ _ hp3
      have f5 := f4.new (o := .lst ([V.str (S w0)] ++ abc.map fun c => V.str ⟨#[c]⟩)) hg
      have hp5 := same_upd (o := .lst ([V.str (S w0)] ++ abc.map fun c => V.str ⟨#[c]⟩)) hg _ _ hp4
      have k5 : KB a H (upd (upd (upd H2 c (.lst [V.str (S w0)])) e (.lst (abc.map fun c => V.str ⟨#[c]⟩))) g (.lst ([V.str (S w0)] ++ abc.map fun c => V.str ⟨#[c]⟩))) := (((k1.trans k2).new hc).new he).new hg
      have hgv : (upd (upd (upd H2 c (.lst [V.str (S w0)])) e (.lst (abc.map fun c => V.str ⟨#[c]⟩))) g (.lst ([V.str (S w0)] ++ abc.map fun c => V.str ⟨#[c]⟩))) g = some (.lst (LS (w0 :: abc.map fun c => [c]))) := by
        rw [upd_same]
        rfl
      generalize (upd (upd (upd H2 c (.lst [V.str (S w0)])) e (.lst (abc.map fun c => V.str ⟨#[c]⟩))) g (.lst ([V.str (S w0)] ++ abc.map fun c => V.str ⟨#[c]⟩))) = H5 at *
      generalize hws : (w0 :: abc.map fun c => [c]) = ws at *
      -- [.. not in found][0]
      refine ⟨_, rfl, .inl ⟨rfl, _, SqL.of hp5⟩, _, rfl, g, rfl, ⟨_, SqL.of hgv⟩, fun D hD => ?_⟩
      have hDa : D ≠ a := f5.ne hD
      have hDp : D ≠ p := (ne_of_none hp5 hD).symm
      have hDg : D ≠ g := (ne_of_none hgv hD).symm
      refine lc_list (K := K) (a := g) (xs := LS ws) (fun j H6 => H6 D = some (.lst (LS ((ws.take j).filter fun y => !ls.contains y))) ∧ (∀ b, b ≠ D → H6 b = H5 b)) ⟨upd_same, fun b hb => upd_ne hb⟩ (fun j H6 _ hj => ?_) (fun j x H6 hx hj => ?_) (fun H6 hj => ?_)
      · exact SqL.of (by rw [hj.2 g hDg.symm]; exact hgv)
      · obtain ⟨x, hx', rfl⟩ := LS_get hx
        refine ⟨rfl, ?_⟩
        have hj1 := hj.1
        refine ⟨_, rfl, _, rfl, p, _, rfl, .inl (SqL.of (by rw [hj.2 p hDp.symm]; exact hp5)), rfl, flat_LS _, _, rfl, ite2 (fun hc => ?_) (fun hc => ?_)⟩
        · have hc' : ls.contains x = false := by simpa [inV_LS] using hc
          refine ⟨_, rfl, _, hj1, ?_, ?_, fun b hb => by rw [upd_ne hb]; exact hj.2 b hb⟩
          · have h1 : ((ws.take j).filter fun y => !ls.contains y).length ≤ (ws.take j).length := List.length_filter_le _ _
            have h2 : (ws.take j).length ≤ ws.length := by rw [List.length_take]; omega
            have h3 : ws.length = 27 := by rw [← hws]; rfl
            rw [List.length_map]
            exact Nat.lt_of_le_of_lt (show _ ≤ 27 by omega) (by decide)
          · rw [upd_same, take_more hx', List.filter_append, List.filter_cons, hc']
            simp
        · have hc' : ls.contains x = true := by simpa [inV_LS] using hc
          refine ⟨?_, hj.2⟩
          rw [hj1, take_more hx', List.filter_append, List.filter_cons, hc']
          simp
      · obtain ⟨hj1, hj2⟩ := hj
        rw [List.length_map, List.take_length] at hj1
        -- it is not empty
        have hnd : (abc.map fun c => [c]).Nodup := by decide
        have hlen := len_out hnd ls
        have hal : (abc.map fun c => [c]).length = 26 := rfl
        have hnm : ∀ x ∈ ws, Nm x := by
          intro x hx
          rw [← hws] at hx
          rcases List.mem_cons.mp hx with rfl | hx
          · exact hw
          · obtain ⟨c, hc, rfl⟩ := List.mem_map.mp hx
            exact nm_one hc
        obtain ⟨y, ys, hy⟩ : ∃ y ys, (ws.filter fun y => !ls.contains y) = y :: ys := by
          cases e : ws.filter fun y => !ls.contains y with
          | cons y ys => exact ⟨y, ys, rfl⟩
          | nil =>
            exfalso
            have h1 : ((abc.map fun c => [c]).filter fun y => !ls.contains y) = [] := by
              rw [List.filter_eq_nil_iff] at e ⊢
              intro z hz
              exact e z (by rw [← hws]; exact List.mem_cons_of_mem _ hz)
            rw [h1] at hlen
            simp at hlen
            omega
        have hym : y ∈ ws.filter fun y => !ls.contains y := by rw [hy]; exact List.mem_cons_self ..
        obtain ⟨hy1, hy2⟩ := List.mem_filter.mp hym
        have hy3 : ¬ y ∈ ls := by simpa using hy2
        rw [hy] at hj1
        have hp6 : H6 p = some (.lst (LS ls)) := by rw [hj2 p hDp.symm]; exact hp5
        refine ⟨D, _, 0, _, rfl, rfl, SqL.of hj1, atI_nat (j := 0) rfl, p, _, _, rfl, rfl, hp6, ?_, ?_⟩
        · rw [List.length_map, hl]
          exact Nat.lt_of_lt_of_le (show i < 100 by omega) (by decide)
        · have f6 : Fd H6 a := by
            obtain ⟨c1, d1, e1⟩ := f5
            exact ⟨c1, d1, by rw [hj2 a hDa.symm]; exact e1⟩
          refine ⟨ls ++ [y], _, _, rfl, by simp [hl], ?_, ?_, ?_, f6.upd hpa.symm, ?_⟩
          · intro l hl'
            rw [List.mem_append, List.mem_singleton] at hl'
            rcases hl' with h | rfl
            · exact hn l h
            · exact hnm l hy1
          · rw [List.nodup_append]
            exact ⟨hd, by simp, fun u hu v hv => by rw [List.mem_singleton] at hv; rintro rfl; exact hy3 (hv ▸ hu)⟩
          · rw [upd_same]
            exact congrArg (fun z => some (HO.lst z)) (LS_snoc ls y)
          · refine KB.upd0 (fun b o hb e => ?_) hp
            have e5 := k5 b o hb e
            rw [hj2 b (ne_of_none e5 hD)]
            exact e5
    · rintro σ H1 ⟨ls, v3, v4, rfl, hl, hn, hd, hp1, f1, k1⟩
      exact ⟨_, rfl, q p ls H1 hp (by simpa using hl) hn hd hp1 f1 k1⟩
end
end KW

/-! ## _law_same, of one plain datum read twice -/
namespace KW
open PySem PySem.Spec PyProof.Rows L2
section
variable {K : PySem.W.Frag} {H H' : Hp}
mutual
theorem dp_same (s : Same H H') : ∀ (d : PyData) (v : V), Dp K H v d → Dp K H' v d
  | .none, _, h => by cases h; exact .non
  | .bool _, _, h => by cases h; exact .bl _
  | .int _, _, h => by cases h; exact .int _
  | .str _, _, h => by cases h; exact .str _
  | .list ds, _, h => by
    cases h with
    | lst hs ha => exact .lst (s.seq hs) (dpAll_same s ds _ ha)
  | .tuple ds, _, h => by
    cases h with
    | tup hs ha => exact .tup (Same.tup s hs) (dpAll_same s ds _ ha)
  | .dict _, _, h => by cases h
theorem dpAll_same (s : Same H H') : ∀ (ds : List PyData) (vs : List V), DpAll K H vs ds → DpAll K H' vs ds
  | [], _, h => by cases h; exact .nil
  | d :: ds, _, h => by
    cases h with
    | cons h1 h2 => exact .cons (dp_same s d _ h1) (dpAll_same s ds _ h2)
end
theorem dpAll_len : ∀ {vs : List V} {ds : List PyData}, DpAll K H vs ds → vs.length = ds.length
  | _, _, .nil => rfl
  | _, _, .cons _ h => by rw [List.length_cons, List.length_cons, dpAll_len h]
theorem dpAll_get : ∀ {vs : List V} {ds : List PyData} {i : Nat} {v : V}, DpAll K H vs ds → vs[i]? = some v → ∃ d, ds[i]? = some d ∧ Dp K H v d
  | _, _, _, _, .nil, h => by simp at h
  | _, _, 0, _, .cons h1 _, h => by
    simp at h
    subst h
    exact ⟨_, rfl, h1⟩
  | _, _, i + 1, v, .cons _ h2, h => by
    obtain ⟨d, e, q⟩ := dpAll_get (i := i) (v := v) h2 (by simpa using h)
    exact ⟨d, by simpa using e, q⟩
theorem tyL {a : Addr} {xs : List V} (h : SqL K H a xs) : TyX K H (.ref a) (.type "list") := by
  rcases h with (h | ⟨o, h⟩) | ⟨o, its, n, h, c, _⟩
  · exact .base (.lst h)
  · exact .base (.frz h)
  · exact .kList h c
theorem tyT {a : Addr} {xs : List V} (h : SqT K H a xs) : TyX K H (.ref a) (.type "tuple") := by
  rcases h with (h | ⟨o, h⟩) | ⟨o, its, n, h, c, _⟩
  · exact .base (.tup h)
  · exact .fTuple h
  · exact .kTuple h c
/-- the built-in type of a datum -/
def tyD : PyData → String
  | .none => "NoneType"
  | .bool _ => "bool"
  | .int _ => "int"
  | .str _ => "str"
  | .list _ => "list"
  | .tuple _ => "tuple"
  | .dict _ => "dict"
theorem dp_ty : ∀ {d : PyData} {v : V}, Dp K H v d → TyX K H v (.type (tyD d))
  | .none, _, h => by cases h; exact .base .non
  | .bool _, _, h => by cases h; exact .base (.bl _)
  | .int _, _, h => by cases h; exact .base (.int _)
  | .str _, _, h => by cases h; exact .base (.str _)
  | .list ds, _, h => by
    cases h with
    | lst hs ha => exact tyL hs
  | .tuple ds, _, h => by
    cases h with
    | tup hs ha => exact tyT hs
  | .dict _, _, h => by cases h
abbrev tyNames : List String := ["NoneType", "bool", "int", "str", "list", "tuple", "dict"]
theorem tyD_mem (d : PyData) : tyD d ∈ tyNames := by cases d <;> simp [tyD]
theorem kitT : ∀ t ∈ tyNames, kitB t "tuple" = some (decide (t = "tuple")) := by decide +kernel
theorem kitL : ∀ t ∈ tyNames, kitB t "list" = some (decide (t = "list")) := by decide +kernel
theorem kitBo : ∀ t ∈ tyNames, kitB t "bool" = some (decide (t = "bool")) := by decide +kernel
theorem kit_tup (d : PyData) : kitB (tyD d) "tuple" = some (decide (tyD d = "tuple")) := kitT _ (tyD_mem d)
theorem kit_lst (d : PyData) : kitB (tyD d) "list" = some (decide (tyD d = "list")) := kitL _ (tyD_mem d)
theorem kit_bool (d : PyData) : kitB (tyD d) "bool" = some (decide (tyD d = "bool")) := kitBo _ (tyD_mem d)
theorem depth_get : ∀ {ds : List PyData} {i : Nat} {d : PyData}, ds[i]? = some d → d.depth ≤ PyData.depthAll ds
  | [], _, _, h => by simp at h
  | x :: r, 0, d, h => by
    simp at h
    subst h
    simp only [PyData.depthAll]
    omega
  | x :: r, i + 1, d, h => by
    have ih := depth_get (ds := r) (i := i) (d := d) (by simpa using h)
    simp only [PyData.depthAll]
    omega
theorem lay_get : ∀ {ds : List PyData} {i : Nat} {d : PyData}, PyData.canLayAll0 ds = true → ds[i]? = some d → d.canLay0 = true
  | [], _, _, _, h => by simp at h
  | x :: r, 0, d, hl, h => by
    simp at h
    subst h
    simp only [PyData.canLayAll0, Bool.and_eq_true] at hl
    exact hl.1
  | x :: r, i + 1, d, hl, h => by
    simp only [PyData.canLayAll0, Bool.and_eq_true] at hl
    exact lay_get (i := i) hl.2 (by simpa using h)
/-! how much a datum holds -/
mutual
def sizeD : PyData → Nat
  | .list xs => sizeAll xs + 1
  | .tuple xs => sizeAll xs + 1
  | _ => 1
def sizeAll : List PyData → Nat
  | [] => 0
  | x :: xs => sizeD x + sizeAll xs + 1
end
theorem len_sizeAll : ∀ ds : List PyData, ds.length ≤ sizeAll ds
  | [] => Nat.le_refl _
  | x :: r => by
    have := len_sizeAll r
    simp only [sizeAll, List.length_cons]
    omega
theorem size_get : ∀ {ds : List PyData} {i : Nat} {d : PyData}, ds[i]? = some d → sizeD d ≤ sizeAll ds
  | [], _, _, h => by simp at h
  | x :: r, 0, d, h => by
    simp at h
    subst h
    simp only [sizeAll]
    omega
  | x :: r, i + 1, d, h => by
    have ih := size_get (ds := r) (i := i) (d := d) (by simpa using h)
    simp only [sizeAll]
    omega
theorem walk_zipT {a b : Addr} {xs ys : List V} {n : Nat} (hn : n = min xs.length ys.length) : Walk (RZ.ItzT K a b) n (fun H => SqT K H a xs ∧ SqT K H b ys) (YPair (fun i => xs[i]?) (fun i => ys[i]?)) := by
  subst hn
  refine ⟨fun i _ hi q => ?_, fun _ q => ⟨xs, ys, q.1, q.2, by omega⟩, fun i H v H' _ q y => ?_⟩
  · exact ⟨xs, ys, xs[i], ys[i], q.1, q.2, List.getElem?_eq_getElem (by omega), List.getElem?_eq_getElem (by omega)⟩
  · obtain ⟨T, x, z, h1, h2, h3, h4, h5⟩ := y
    exact ⟨T, x, z, h1, h2, h3, h4 xs q.1, h5 ys q.2⟩
end
section
variable {P : Program} {w : World} {K : PySem.W.Frag} {mg : Str → Option Value} {base : Heap}
abbrev s__law_same : Stmt := topS 24
theorem sc__law_same : FnScope ["_law_found", "_law_due_here", "_law_one", "_law_other"] ["_law_found", "_law_due_here"] (defScope s__law_same) := ⟨rfl, rfl, rfl, by decide +kernel, rfl, by decide +kernel, by decide +kernel⟩
def spSame (K : PySem.W.Frag) (n : Nat) : Sp := fun vs H Q _ => ∃ (x y : V) (d : PyData), vs = [x, y] ∧ Dp K H x d ∧ Dp K H y d ∧ d.canLay0 = true ∧ d.depth < n ∧ n ≤ 60 ∧ sizeD d ≤ 100000 ∧ ∀ H', Same H H' → Q (.bl true) H'
theorem ok_same (B : Bi mg) (F : Df K mg "_law_same" s__law_same ["_law_found", "_law_due_here"]) : ∀ n : Nat, C8.Cal P w K mg base n "_law_same" (spSame K n) []
  | 0 => F.never fun vs H Q E h => by
      obtain ⟨x, y, d, _, _, _, _, h, _⟩ := h
      exact absurd h (Nat.not_lt_zero _)
  | n + 1 => by
    have G_law_same := ok_same B F n
    refine F.cal sc__law_same (fun vs H Q E h => ?_) (fun f cdv A outer s H vs Q E hr h => ?_)
    · obtain ⟨x, y, d, rfl, _⟩ := h
      rfl
    · obtain ⟨x, y, d, rfl, hx, hy, hlay, hdep, hn, hsz, q⟩ := h
      refine ⟨_, (pss_cons (ps_if (pt_val (pe_callB (kk_isiT K rfl) rfl B.isinstance (by decide +kernel) (pa_cons (pv 1) (pa_cons (pe_tup (pa_cons (kt_tuple rfl B.ty_tuple) (pa_cons (kt_list rfl B.ty_list) pa_nil))) pa_nil)))) (pss_cons (ps_if (PW.pt (pw_or (pt_cmpR op_ne (pe_callB (kk_isi K rfl) rfl B.isinstance (by decide +kernel) (pa_cons (pv 0) (pa_cons (kt_tuple rfl B.ty_tuple) pa_nil))) (pe_callB (kk_isi K rfl) rfl B.isinstance (by decide +kernel) (pa_cons (pv 1) (pa_cons (kt_tuple rfl B.ty_tuple) pa_nil))) (nomark _)) (pw_or1 (pt_cmpR op_ne (pe_callB (kk_isi K rfl) rfl B.isinstance (by decide +kernel) (pa_cons (pv 0) (pa_cons (kt_list rfl B.ty_list) pa_nil))) (pe_callB (kk_isi K rfl) rfl B.isinstance (by decide +kernel) (pa_cons (pv 1) (pa_cons (kt_list rfl B.ty_list) pa_nil))) (nomark _))))) (pss_one (ps_ret pe_bl)) pss_nil)
      (pss_one (ps_ret (pe_and (pe_cmpR op_eq (pe_callB (kk_len K rfl) rfl B.len PySem.boot_len (pa_cons (pv 0) pa_nil)) (pe_callB (kk_len K rfl) rfl B.len PySem.boot_len (pa_cons (pv 1) pa_nil)) (nomark _)) (pe_one (pe_callB (kk_all K rfl rfl) rfl B.all (by decide +kernel) (pa_cons (pe_lc (own := [("_law_one", 2), ("_law_other", 3)]) (tt := tYes) rfl sc__law_same.nd (RZ.pi_zipA rfl B.zip (pa_cons (pv 0) (pa_cons (pv 1) pa_nil))) (blkOk_by (own := [("_law_one", 2), ("_law_other", 3)]) (N := ["_law_found", "_law_due_here", "_law_one", "_law_other"]) (sc := defScope s__law_same) (by decide +kernel)) (fun _ _ _ _ _ => (kk_gtup K rfl (n := 2) rfl (pgs_cons (pg_name (i := 2) sc__law_same.nd rfl (Or.inl rfl)) (pgs_cons (pg_name (i := 3) sc__law_same.nd rfl (Or.inl rfl)) pgs_nil)))) (fun _ _ _ _ _ => pts_nil) (fun _ _ _ _ _ => (C8.pe_c G_law_same hr (Nat.le_refl _) rfl (pa_cons (pv 2) (pa_cons (pv 3) pa_nil))))) pa_nil))))))) pss_nil)
      (pss_one (ps_ret (pe_and (pe_cmpR op_eq (pe_callB (kk_isi K rfl) rfl B.isinstance (by decide +kernel) (pa_cons (pv 0) (pa_cons (kt_bool rfl B.ty_bool) pa_nil))) (pe_callB (kk_isi K rfl) rfl B.isinstance (by decide +kernel) (pa_cons (pv 1) (pa_cons (kt_bool rfl B.ty_bool) pa_nil))) (nomark _)) (pe_one (pe_cmpR (kk_eqD K rfl hr.units) (pv 0) (pv 1) (nomark _))))))), ?_⟩
      have b1 : ∀ z : Bool, (!decide (V.bl z = V.bl z)) = false := fun z => by rw [decide_eq_true rfl]; rfl
      have hsh : SeqAt.shaped d = true := by
        unfold SeqAt.shaped
        rw [hlay, Bool.true_and]
        exact decide_eq_true (by omega)
      refine ⟨_, rfl, (by show 2 ≤ sizeLine; decide), fun tp htp => ?_⟩
      have s1 := same_upd (o := .tup [V.ty "tuple", V.ty "list"]) htp
      have hx1 := dp_same s1 d x hx
      have hy1 := dp_same s1 d y hy
      have tys : PySem.W.kitAny K (.type (tyD d)) [.type "tuple", .type "list"] = some (decide (tyD d = "tuple") || decide (tyD d = "list")) := by
        refine kitAny_cons (kit_ty (kit_tup d)) (fun h0 => ?_) (fun h1 => by rw [h1]; rfl)
        rw [h0, Bool.false_or]
        refine kitAny_cons (kit_ty (kit_lst d)) (fun h0 => ?_) (fun h1 => h1)
        rw [h0]
        rfl
      refine ⟨_, tp, _, _, _, _, rfl, upd_same, .cons (.ty _) (.cons (.ty _) .nil), dp_ty hy1, tys, _, rfl, ite2 (fun hs => ?_) (fun hs => ?_)⟩
      · -- sequences
        refine ⟨_, rfl, _, _, _, _, _, rfl, .ty _, dp_ty hx1, kit_ty (kit_tup d), _, rfl, _, _, _, _, _, rfl, .ty _, dp_ty hy1, kit_ty (kit_tup d), rfl, _, rfl, ?_⟩
        rw [b1]
        refine iteF ⟨_, rfl, _, _, _, _, _, rfl, .ty _, dp_ty hx1, kit_ty (kit_lst d), _, rfl, _, _, _, _, _, rfl, .ty _, dp_ty hy1, kit_ty (kit_lst d), rfl, _, rfl, ?_⟩
        rw [b1]
        refine iteF ?_
        -- the items, list or tuple
        have main : ∀ (xs ys : List V) (ds : List PyData) (J : It) (G : Hp → Prop) (H1 : Hp) (Qd : VK), Walk J xs.length G (YPair (fun i => xs[i]?) (fun i => ys[i]?)) → (∀ H2, Same H1 H2 → G H2) → DpAll K H1 xs ds → DpAll K H1 ys ds → PyData.canLayAll0 ds = true → PyData.depthAll ds < n → sizeAll ds ≤ 100000 → (∀ H2, Same H1 H2 → Qd (.bl true) H2) →
            ∀ D, H1 D = none → ∃ W : Nat → Nat → Hp → Prop, (∃ m, W 0 m (upd H1 D (.lst []))) ∧ ∀ i m H, W i m H →
              (J.stop i H ∧ ∃ (a : Addr) (bs : List Bool), [V.ref D] = [V.ref a] ∧ SqL K H a (bs.map V.bl) ∧ Qd (.bl (bs.all id)) H) ∨ (J.go i H ∧ ∃ Nx : Hp → Prop, (∀ H', Nx H' → ∃ m', m' < m ∧ W (i + 1) m' H') ∧ ∀ v H', J.yld i H v H' → gTup K 2 (gCons (gName 2) (gCons (gName 3) gNil)) v (wipe [some x, some y, none, none] [2, 3]) H' fun σ2 H2 => wipe σ2 [2, 3] = wipe [some x, some y, none, none] [2, 3] ∧ tYes σ2 H2 fun b H3 =>
                if b = true then tCall (spSame K n) [] C8.E0 (tCons (tVar 2) (tCons (tVar 3) tNil)) σ2 H3 fun y H4 => ∃ acc, H4 D = some (.lst acc) ∧ acc.length < sizeLine ∧ Nx (upd H4 D (.lst (acc ++ [y]))) else Nx H3) := by
          intro xs ys ds J G H1 Qd wk hG hdx hdy hl hdp hxs hq D hD
          have hxl : xs.length ≤ sizeLine := Nat.le_trans (by rw [dpAll_len hdx]; exact Nat.le_trans (len_sizeAll ds) hxs) (show 100000 ≤ sizeLine by decide)
          refine lc_it wk (fun i H2 => Same H1 H2 ∧ H2 D = some (.lst ((List.replicate i true).map V.bl))) ⟨same_upd hD, upd_same⟩ (fun i H2 _ h => hG H2 h.1) (fun i v H2 H3 hi h hy => ?_) (fun H2 h => ?_)
          · obtain ⟨T, x1, y1, rfl, hT, rfl, ex, ey⟩ := hy
            obtain ⟨s2, hD2⟩ := h
            have s3 := same_upd (o := .tup [x1, y1]) hT
            obtain ⟨d1, e1, h1⟩ := dpAll_get hdx ex
            obtain ⟨d2, e2, h2⟩ := dpAll_get hdy ey
            have ed : d1 = d2 := Option.some.inj (e1.symm.trans e2)
            subst ed
            refine ⟨T, _, rfl, SqT.of upd_same, rfl, _, _, rfl, _, _, rfl, rfl, ?_⟩
            refine ⟨rfl, yesT ?_⟩
            have dlt : d1.depth < n := Nat.lt_of_le_of_lt (depth_get e1) hdp
            refine ⟨_, rfl, _, rfl, x1, y1, d1, rfl, dp_same s3 _ _ (dp_same s2 _ _ h1), dp_same s3 _ _ (dp_same s2 _ _ h2), lay_get hl e1, dlt, by omega, Nat.le_trans (size_get e1) hxs, fun H4 s4 => ?_⟩
            have hD4 := s4 _ _ (s3 _ _ hD2)
            refine ⟨_, hD4, by rw [List.length_map, List.length_replicate]; omega, fun b' o' e' => ?_, ?_⟩
            · rw [upd_ne (ne_of_none e' hD)]
              exact s4 _ _ (s3 _ _ (s2 _ _ e'))
            · rw [upd_same, List.replicate_succ', List.map_append]
              rfl
          · refine ⟨D, _, rfl, SqL.of h.2, ?_⟩
            rw [show (List.replicate xs.length true).all id = true by rw [List.all_eq_true]; intro z hz; rw [(List.mem_replicate.mp hz).2]; rfl]
            exact hq H2 h.1
        cases hx1 with
        | lst hsx hdx =>
          cases hy1 with
          | lst hsy hdy =>
            have lxy := (dpAll_len hdx).trans (dpAll_len hdy).symm
            simp only [PyData.depth] at hdep
            simp only [PyData.canLay0] at hlay
            simp only [sizeD] at hsz
            refine ⟨_, rfl, _, _, rfl, .inl ⟨_, hsx, rfl⟩, _, rfl, _, _, rfl, .inl ⟨_, hsy, rfl⟩, rfl, true, ?_, iteT ?_⟩
            · rw [lxy, decide_eq_true rfl]
            · refine ⟨_, rfl, _, rfl, _, _, _, _, rfl, .inl ⟨hsx, hsy, ?_⟩⟩
              refine main _ _ _ _ _ _ _ (walk_zip (K := K) (by omega)) (fun H2 s2 => ⟨s2.seq hsx, s2.seq hsy⟩) hdx hdy hlay (by omega) (by omega) fun H2 s2 => q H2 (s1.trans s2)
        | tup hsx hdx =>
          cases hy1 with
          | tup hsy hdy =>
            have lxy := (dpAll_len hdx).trans (dpAll_len hdy).symm
            simp only [PyData.depth] at hdep
            simp only [PyData.canLay0] at hlay
            simp only [sizeD] at hsz
            refine ⟨_, rfl, _, _, rfl, .inr ⟨_, hsx, rfl⟩, _, rfl, _, _, rfl, .inr ⟨_, hsy, rfl⟩, rfl, true, ?_, iteT ?_⟩
            · rw [lxy, decide_eq_true rfl]
            · refine ⟨_, rfl, _, rfl, _, _, _, _, rfl, .inr ⟨hsx, hsy, ?_⟩⟩
              refine main _ _ _ _ _ _ _ (walk_zipT (K := K) (by omega)) (fun H2 s2 => ⟨Same.tup s2 hsx, Same.tup s2 hsy⟩) hdx hdy hlay (by omega) (by omega) fun H2 s2 => q H2 (s1.trans s2)
        | non => exact absurd hs (by decide)
        | bl z => exact absurd hs (by simp [tyD])
        | int z => exact absurd hs (by simp [tyD])
        | str z => exact absurd hs (by simp [tyD])
      · -- a single value
        refine ⟨_, rfl, _, _, _, _, _, rfl, .ty _, dp_ty hx1, kit_ty (kit_bool d), _, rfl, _, _, _, _, _, rfl, .ty _, dp_ty hy1, kit_ty (kit_bool d), rfl, _, rfl, ?_⟩
        rw [decide_eq_true rfl]
        refine iteT ⟨_, rfl, _, rfl, d, d, hx1, hy1, hsh, hsh, ?_⟩
        rw [SeqAt.eqv_refl d hlay]
        exact q _ s1
end
end KW

/-! ## trees: the plain part -/
namespace KW
open PySem PySem.Spec PyProof.Rows L2
inductive Tr where
  | leaf
  | node (l r : List Nat) (a b : Tr)
abbrev leq : List Nat := [32, 60, 61, 32]
abbrev slt : List Nat := [32, 60, 32]
abbrev two : List Nat := [32, 32]
abbrev so : List Nat := [115, 111]
theorem leq_eq : (Str.ofString " <= ") = S leq := by decide +kernel
theorem slt_eq : (Str.ofString " < ") = S slt := by decide +kernel
theorem two_eq : (Str.ofString "  ") = S two := by decide +kernel
theorem so_eq : (Str.ofString "so") = S so := by decide +kernel
theorem nl_eq : (Str.ofString "\n") = S [10] := by decide +kernel
theorem nil_eq : (Str.ofString "") = S [] := by decide +kernel
theorem cat (a b : List Nat) : S a ++ S b = S (a ++ b) := SX.S_cat a b
theorem slen (a : List Nat) : (S a).length = a.length := SX.S_len a
def Tr.lines : Tr → List (List Nat)
  | .leaf => [so]
  | .node l r a b => ((([(l ++ leq) ++ r] ++ a.lines.map (two ++ ·)) ++ [(r ++ slt) ++ l]) ++ b.lines.map (two ++ ·))
def Tr.dep : Tr → Nat
  | .leaf => 0
  | .node _ _ a b => max a.dep b.dep + 1
def Tr.sz : Tr → Nat
  | .leaf => 0
  | .node _ _ a b => a.sz + b.sz + 1
/-- a side of a comparison -/
structure Sd (l : List Nat) : Prop where
  ne : l ≠ []
  len : l.length ≤ 40000
  chars : ∀ c ∈ l, 32 ≤ c ∧ c ≤ 126 ∧ c ≠ 60 ∧ c ≠ 61
  hd : l.head? ≠ some 32
  la : l.getLast? ≠ some 32
def Tr.ok : Tr → Prop
  | .leaf => True
  | .node l r a b => Sd l ∧ Sd r ∧ a.ok ∧ b.ok
theorem Tr.lines_len : ∀ t : Tr, t.lines.length = 3 * t.sz + 1
  | .leaf => rfl
  | .node l r a b => by
    have h1 := Tr.lines_len a
    have h2 := Tr.lines_len b
    simp only [Tr.lines, Tr.sz, List.length_append, List.length_map, List.length_cons, List.length_nil, h1, h2]
    omega
/-- of every line: its signs and its length -/
theorem Tr.lines_ok : ∀ (t : Tr), t.ok → ∀ x ∈ t.lines, (∀ c ∈ x, 32 ≤ c ∧ c ≤ 126) ∧ x.length ≤ 80004 + 2 * t.dep
  | .leaf, _, x, hx => by
    have e : x = so := by simpa [Tr.lines] using hx
    subst e
    exact ⟨by decide, by show 2 ≤ 80004 + 2 * 0; decide⟩
  | .node l r a b, ⟨hl, hr, ha, hb⟩, x, hx => by
    have cl : ∀ c ∈ l, 32 ≤ c ∧ c ≤ 126 := fun c h => ⟨(hl.chars c h).1, (hl.chars c h).2.1⟩
    have cr : ∀ c ∈ r, 32 ≤ c ∧ c ≤ 126 := fun c h => ⟨(hr.chars c h).1, (hr.chars c h).2.1⟩
    have ll := hl.len
    have lr := hr.len
    have dq : ∀ c ∈ leq, 32 ≤ c ∧ c ≤ 126 := by decide
    have ds : ∀ c ∈ slt, 32 ≤ c ∧ c ≤ 126 := by decide
    have dt : ∀ c ∈ two, 32 ≤ c ∧ c ≤ 126 := by decide
    have hd : (Tr.node l r a b).dep = max a.dep b.dep + 1 := rfl
    simp only [Tr.lines, List.mem_append, List.mem_singleton, List.mem_map] at hx
    rcases hx with ((rfl | ⟨y, hy, rfl⟩) | rfl) | ⟨y, hy, rfl⟩
    · refine ⟨fun c hc => ?_, by simp only [List.length_append, List.length_cons, List.length_nil]; omega⟩
      simp only [List.mem_append] at hc
      rcases hc with (h | h) | h
      · exact cl c h
      · exact dq c h
      · exact cr c h
    · obtain ⟨h1, h2⟩ := Tr.lines_ok a ha y hy
      refine ⟨fun c hc => ?_, by rw [List.length_append]; simp only [List.length_cons, List.length_nil]; omega⟩
      simp only [List.mem_append] at hc
      rcases hc with h | h
      · exact dt c h
      · exact h1 c h
    · refine ⟨fun c hc => ?_, by simp only [List.length_append, List.length_cons, List.length_nil]; omega⟩
      simp only [List.mem_append] at hc
      rcases hc with (h | h) | h
      · exact cr c h
      · exact ds c h
      · exact cl c h
    · obtain ⟨h1, h2⟩ := Tr.lines_ok b hb y hy
      refine ⟨fun c hc => ?_, by rw [List.length_append]; simp only [List.length_cons, List.length_nil]; omega⟩
      simp only [List.mem_append] at hc
      rcases hc with h | h
      · exact dt c h
      · exact h1 c h
theorem Tr.dep_le : ∀ t : Tr, t.dep ≤ t.sz
  | .leaf => Nat.le_refl _
  | .node l r a b => by
    have h1 := Tr.dep_le a
    have h2 := Tr.dep_le b
    show max a.dep b.dep + 1 ≤ a.sz + b.sz + 1
    omega
/-- a tree stands at v -/
inductive TrAt (H : Hp) : V → Tr → Prop where
  | leaf {p : Addr} : H p = some (.tup []) → TrAt H (.ref p) .leaf
  | node {p : Addr} {l r : List Nat} {va vb : V} {a b : Tr} : H p = some (.tup [.str (S l), .str (S r), va, vb]) → TrAt H va a → TrAt H vb b → TrAt H (.ref p) (.node l r a b)
theorem TrAt.mono {H H' : Hp} (s : Same H H') {v : V} {t : Tr} (h : TrAt H v t) : TrAt H' v t := by
  induction h with
  | leaf e => exact .leaf (s _ _ e)
  | node e _ _ ih1 ih2 => exact .node (s _ _ e) ih1 ih2
theorem TrAt.hid {H : Hp} {a : Addr} (f : Fd H a) {v : V} {t : Tr} (h : TrAt H v t) : TrAt (KW.hid a H) v t := by
  induction h with
  | leaf e => exact .leaf (hid_of (f.neT e) e)
  | node e _ _ ih1 ih2 => exact .node (hid_of (f.neT e) e) ih1 ih2
def Tr.data : Tr → PyData
  | .leaf => .tuple []
  | .node l r a b => .tuple [.str (S l), .str (S r), a.data, b.data]
theorem TrAt.dp {K : PySem.W.Frag} {H : Hp} {v : V} {t : Tr} (h : TrAt H v t) : Dp K H v t.data := by
  induction h with
  | leaf e => exact .tup (SqT.of e) .nil
  | node e _ _ ih1 ih2 => exact .tup (SqT.of e) (.cons (.str _) (.cons (.str _) (.cons ih1 (.cons ih2 .nil))))
theorem sd_strOk {l : List Nat} (h : Sd l) : PyData.strOk (S l) = true := by
  unfold PyData.strOk
  rw [← Array.all_toList, List.all_eq_true]
  intro c hc
  have h1 := h.chars c hc
  simp
  omega
theorem Tr.canLay : ∀ t : Tr, t.ok → t.data.canLay0 = true
  | .leaf, _ => rfl
  | .node l r a b, ⟨hl, hr, ha, hb⟩ => by
    have h1 := Tr.canLay a ha
    have h2 := Tr.canLay b hb
    simp only [Tr.data, PyData.canLay0, PyData.canLayAll0, sd_strOk hl, sd_strOk hr, h1, h2, Bool.and_self, Bool.true_and, Bool.and_true]
theorem Tr.depth : ∀ t : Tr, t.data.depth ≤ t.dep + 2
  | .leaf => by simp [Tr.data, PyData.depth, PyData.depthAll, Tr.dep]
  | .node l r a b => by
    have h1 := Tr.depth a
    have h2 := Tr.depth b
    simp only [Tr.data, PyData.depth, PyData.depthAll, Tr.dep]
    omega
theorem Tr.shaped {t : Tr} (h : t.ok) (hd : t.dep ≤ 60) : SeqAt.shaped t.data = true := by
  unfold SeqAt.shaped
  rw [t.canLay h, Bool.true_and]
  have := t.depth
  exact decide_eq_true (by omega)
theorem Tr.eqv_leaf : PyData.eqv Tr.leaf.data (.tuple []) = true := by simp [Tr.data, PyData.eqv, PyData.eqvAll]
theorem Tr.eqv_node (l r : List Nat) (a b : Tr) : PyData.eqv (Tr.node l r a b).data (.tuple []) = false := by simp [Tr.data, PyData.eqv, PyData.eqvAll]
end KW

/-! ## trees: tree_lines, show_tree -/
namespace KW
open PySem PySem.Spec PyProof.Rows L2
theorem sum_le {α : Type} (f : α → Nat) (m : Nat) : ∀ l : List α, (∀ x ∈ l, f x ≤ m) → (l.map f).sum ≤ l.length * m
  | [], _ => by simp
  | x :: r, h => by
    have h1 := sum_le f m r fun y hy => h y (List.mem_cons_of_mem _ hy)
    have h2 := h x (List.mem_cons_self ..)
    rw [List.map_cons, List.sum_cons, List.length_cons, Nat.succ_mul]
    omega
def indV : V → V
  | .str z => V.str (S two ++ z)
  | v => v
theorem LS_map_ind (ls : List (List Nat)) : (LS ls).map indV = LS (ls.map (two ++ ·)) := by
  rw [LS, LS, List.map_map, List.map_map]
  refine List.map_congr_left fun l _ => ?_
  show V.str (S two ++ S l) = V.str (S (two ++ l))
  rw [cat]
theorem LS_app (a b : List (List Nat)) : LS a ++ LS b = LS (a ++ b) := (List.map_append ..).symm
section
variable {P : Program} {w : World} {K : PySem.W.Frag} {mg : Str → Option Value} {base : Heap}
abbrev s_tree_lines : Stmt := topS 15
theorem sc_tree_lines : FnScope ["told", "found", "left", "right", "one", "other", "line"] ["told"] (defScope s_tree_lines) := ⟨rfl, rfl, rfl, by decide +kernel, rfl, by decide +kernel, by decide +kernel⟩
def spTL (n : Nat) : Sp := fun vs H Q _ => ∃ (v : V) (t : Tr), vs = [v] ∧ TrAt H v t ∧ t.ok ∧ t.dep < n ∧ t.sz ≤ 60 ∧
  ∀ (p : Addr) (H' : Hp), H p = none → Same H H' → H' p = some (.lst (LS t.lines)) → Q (.ref p) H'
theorem ok_tree_lines (B : Bi mg) (F : Df K mg "tree_lines" s_tree_lines ["told"]) : ∀ n : Nat, C8.Cal P w K mg base n "tree_lines" (spTL n) []
  | 0 => F.never fun vs H Q E h => by
      obtain ⟨v, t, _, _, _, h, _⟩ := h
      exact absurd h (Nat.not_lt_zero _)
  | n + 1 => by
    have Gtree_lines := ok_tree_lines B F n
    refine F.cal sc_tree_lines (fun vs H Q E h => ?_) (fun f cdv A outer s H vs Q E hr h => ?_)
    · obtain ⟨v, t, rfl, _⟩ := h
      rfl
    · obtain ⟨v, t, rfl, hT, hok, hdep, hsz, q⟩ := h
      refine ⟨_, (pss_cons (ps_if (pt_cmpR (kk_eqD K rfl hr.units) (pv 0) (pe_tup pa_nil) (nomark _)) (pss_one (ps_ret (pe_lst (pa_cons pe_str pa_nil)))) pss_nil)
      (pss_cons (ps_asg (pv 0) (pg_tup rfl (pgs_cons (pg_name (i := 2) sc_tree_lines.nd rfl (Or.inl rfl)) (pgs_cons (pg_name (i := 3) sc_tree_lines.nd rfl (Or.inl rfl)) (pgs_cons (pg_name (i := 4) sc_tree_lines.nd rfl (Or.inl rfl)) (pgs_cons (pg_name (i := 5) sc_tree_lines.nd rfl (Or.inl rfl)) pgs_nil))))))
      (pss_cons (ps_set (i := 1) sc_tree_lines.nd rfl (Or.inl rfl) (pe_lst (pa_cons (pe_op op_add_str (pe_op op_add_str (pv 2) pe_str) (pv 3)) pa_nil)))
      (pss_cons (ps_expr (kk_bm K rfl PySem.F.plainAttrs_list PySem.F.slot_list_extend PySem.F.type_list_extend mt_extend (pv 1) (pa_cons (pe_lc (own := [("line", 6)]) (g := gName 6) (tt := tYes) rfl sc_tree_lines.nd (kk_iList K rfl (C8.pe_c Gtree_lines hr (Nat.le_refl _) rfl (pa_cons (pv 4) pa_nil))) (blkOk_by (own := [("line", 6)]) (N := ["told", "found", "left", "right", "one", "other", "line"]) (sc := defScope s_tree_lines) (by decide +kernel)) (fun _ _ _ _ _ => (pg_name (i := 6) sc_tree_lines.nd rfl (Or.inl rfl))) (fun _ _ _ _ _ => pts_nil) (fun _ _ _ _ _ => (pe_op op_add_str pe_str (pv 6)))) pa_nil)))
      (pss_cons (ps_expr (kk_bm K rfl PySem.F.plainAttrs_list PySem.F.slot_list_append PySem.F.type_list_append mt_append (pv 1) (pa_cons (pe_op op_add_str (pe_op op_add_str (pv 3) pe_str) (pv 2)) pa_nil)))
      (pss_cons (ps_expr (kk_bm K rfl PySem.F.plainAttrs_list PySem.F.slot_list_extend PySem.F.type_list_extend mt_extend (pv 1) (pa_cons (pe_lc (own := [("line", 6)]) (g := gName 6) (tt := tYes) rfl sc_tree_lines.nd (kk_iList K rfl (C8.pe_c Gtree_lines hr (Nat.le_refl _) rfl (pa_cons (pv 5) pa_nil))) (blkOk_by (own := [("line", 6)]) (N := ["told", "found", "left", "right", "one", "other", "line"]) (sc := defScope s_tree_lines) (by decide +kernel)) (fun _ _ _ _ _ => (pg_name (i := 6) sc_tree_lines.nd rfl (Or.inl rfl))) (fun _ _ _ _ _ => pts_nil) (fun _ _ _ _ _ => (pe_op op_add_str pe_str (pv 6)))) pa_nil)))
      (pss_one (ps_ret (pv 1))))))))), ?_⟩
      have hd60 : t.dep ≤ 60 := Nat.le_trans t.dep_le hsz
      refine ⟨_, rfl, Nat.zero_le _, fun e0 he0 => ?_⟩
      have s0 : Same H (upd H e0 (.tup [])) := same_upd he0
      refine ⟨t.data, .tuple [], (hT.mono s0).dp, .tup (SqT.of upd_same) .nil, t.shaped hok hd60, by decide, _, rfl, ?_⟩
      cases hT with
      | leaf e =>
        rw [Tr.eqv_leaf]
        refine iteT ⟨(by show 1 ≤ sizeLine; decide), fun p hp => ?_⟩
        refine q p _ (s0.free hp) (s0.trans (same_upd hp)) ?_
        rw [upd_same, so_eq]
        rfl
      | @node pt l r va vb a b e ha hb =>
        rw [Tr.eqv_node]
        obtain ⟨hl, hr', hoa, hob⟩ := hok
        have dd : (Tr.node l r a b).dep = max a.dep b.dep + 1 := rfl
        have ss : (Tr.node l r a b).sz = a.sz + b.sz + 1 := rfl
        have ll := hl.len
        have lr := hr'.len
        have big : ∀ m : Nat, m ≤ 1000000 → m ≤ sizeLine := fun m h => Nat.le_trans h (by decide)
        refine iteF ?_
        refine ⟨_, rfl, pt, _, rfl, SqT.of (s0 _ _ e), rfl, _, _, rfl, _, _, rfl, _, _, rfl, _, _, rfl, rfl, ?_⟩
        refine ⟨_, rfl, _, _, rfl, rfl, big _ (by rw [leq_eq, slen, slen]; simp; omega), _, rfl, _, _, rfl, rfl, big _ (by rw [leq_eq, cat, slen, slen]; simp; omega), big _ (by simp), fun p hp => ?_⟩
        rw [leq_eq, cat, cat]
        have s1 := same_upd (o := .lst [V.str (S (l ++ leq ++ r))]) hp
        -- found.extend(['  ' + line for line in tree_lines(one)])
        refine ⟨_, rfl, .inl ⟨rfl, _, SqL.of upd_same⟩, _, rfl, va, a, rfl, (ha.mono s0).mono s1, hoa, by omega, by omega, fun c H2 hc s2 hcv => ⟨c, rfl, ⟨_, SqL.of hcv⟩, fun D hD => ?_⟩⟩
        refine lc_pure (K := K) indV (SqL.of hcv) hD (big _ (by rw [List.length_map, Tr.lines_len]; omega)) (fun _ => rfl) (fun x hx acc Qv hq => ?_) ?_
        · obtain ⟨y, hy, rfl⟩ := List.mem_map.mp hx
          have hy' := a.lines_ok hoa y hy
          refine ⟨_, rfl, _, _, rfl, rfl, big _ (by rw [two_eq, slen, slen]; simp; omega), ?_⟩
          rw [two_eq]
          exact hq
        rw [LS_map_ind]
        have hp2 := s2 _ _ (upd_same (H := upd H e0 (.tup [])) (a := p) (o := .lst [V.str (S (l ++ leq ++ r))]))
        have hpD : p ≠ D := ne_of_none hp2 hD
        have s3 := same_upd (o := .lst (LS (a.lines.map (two ++ ·)))) hD
        refine ⟨p, D, [V.str (S (l ++ leq ++ r))], _, rfl, rfl, by rw [upd_ne hpD]; exact hp2, upd_same, big _ (by rw [List.length_map, List.length_map, Tr.lines_len]; simp; omega), ?_⟩
        have e1 : [V.str (S (l ++ leq ++ r))] ++ LS (a.lines.map (two ++ ·)) = LS ([l ++ leq ++ r] ++ a.lines.map (two ++ ·)) := by rw [← LS_app]; rfl
        rw [e1]
        -- found.append(right + ' < ' + left)
        refine ⟨_, rfl, .inl ⟨rfl, _, SqL.of upd_same⟩, _, rfl, _, _, rfl, rfl, big _ (by rw [slt_eq, slen, slen]; simp; omega), _, rfl, _, _, rfl, rfl, big _ (by rw [slt_eq, cat, slen, slen]; simp; omega), p, _, _, rfl, rfl, upd_same, Nat.lt_of_le_of_lt (m := 1000000) (by rw [List.length_map, List.length_append, List.length_map, Tr.lines_len]; simp; omega) (by decide), ?_⟩
        rw [slt_eq, cat, cat, LS_snoc, upd_upd]
        -- what stands from the start
        have k0 : Same H H2 := s0.trans (s1.trans s2)
        have hpH : H p = none := s0.free hp
        have k3 : ∀ o : HO, Same H (upd (upd H2 D (.lst (LS (a.lines.map (two ++ ·))))) p o) := fun o b' u hb' => by
          rw [upd_ne (ne_of_none hb' hpH)]
          exact s3 _ _ (k0 _ _ hb')
        -- found.extend(['  ' + line for line in tree_lines(other)])
        refine ⟨_, rfl, .inl ⟨rfl, _, SqL.of upd_same⟩, _, rfl, vb, b, rfl, hb.mono (k3 _), hob, by omega, by omega, fun c2 H4 hc2 s4 hcv2 => ⟨c2, rfl, ⟨_, SqL.of hcv2⟩, fun D2 hD2 => ?_⟩⟩
        refine lc_pure (K := K) indV (SqL.of hcv2) hD2 (big _ (by rw [List.length_map, Tr.lines_len]; omega)) (fun _ => rfl) (fun x hx acc Qv hq => ?_) ?_
        · obtain ⟨y, hy, rfl⟩ := List.mem_map.mp hx
          have hy' := b.lines_ok hob y hy
          refine ⟨_, rfl, _, _, rfl, rfl, big _ (by rw [two_eq, slen, slen]; simp; omega), ?_⟩
          rw [two_eq]
          exact hq
        rw [LS_map_ind]
        have hp4 := s4 _ _ (upd_same (H := upd H2 D (.lst (LS (a.lines.map (two ++ ·))))) (a := p) (o := .lst (LS (([l ++ leq ++ r] ++ a.lines.map (two ++ ·)) ++ [r ++ slt ++ l]))))
        have hpD2 : p ≠ D2 := ne_of_none hp4 hD2
        refine ⟨p, D2, _, _, rfl, rfl, by rw [upd_ne hpD2]; exact hp4, upd_same, big _ (by rw [List.length_map, List.length_map, List.length_append, List.length_append, List.length_map, List.length_map, Tr.lines_len, Tr.lines_len]; simp; omega), ?_⟩
        rw [LS_app]
        refine ⟨_, rfl, q p _ hpH (fun b' u hb' => ?_) upd_same⟩
        rw [upd_ne (ne_of_none hb' hpH)]
        exact same_upd hD2 _ _ (s4 _ _ (k3 _ _ _ hb'))
abbrev s_show_tree : Stmt := topS 16
theorem sc_show_tree : FnScope ["told"] ["told"] (defScope s_show_tree) := ⟨rfl, rfl, rfl, by decide +kernel, rfl, by decide +kernel, by decide +kernel⟩
def Tr.text (t : Tr) : List Nat := TL.joinL [10] t.lines
def spShow (n : Nat) : Sp := fun vs H Q _ => ∃ (v : V) (t : Tr), vs = [v] ∧ TrAt H v t ∧ t.ok ∧ t.dep < n ∧ t.sz ≤ 60 ∧ ∀ (H' : Hp), Same H H' → Q (.str (S t.text)) H'
theorem ok_show_tree {n : Nat} (B : Bi mg) (F : Df K mg "show_tree" s_show_tree ["told"]) (Gtree_lines : C8.Cal P w K mg base n "tree_lines" (spTL n) []) : C8.Cal P w K mg base (n + 1) "show_tree" (spShow n) [] := by
  refine F.cal sc_show_tree (fun vs H Q E h => ?_) (fun f cdv A outer s H vs Q E hr h => ?_)
  · obtain ⟨v, t, rfl, _⟩ := h
    rfl
  · obtain ⟨v, t, rfl, hT, hok, hdep, hsz, q⟩ := h
    refine ⟨_, (pss_one (ps_ret (kk_bm K rfl PySem.F.plainAttrs_str PySem.F.slot_str_join PySem.F.type_str_join (kk_join K rfl) pe_str (pa_cons (C8.pe_c Gtree_lines hr (Nat.le_refl _) rfl (pa_cons (pv 0) pa_nil)) pa_nil)))), ?_⟩
    refine ⟨rfl, _, rfl, v, t, rfl, hT, hok, hdep, hsz, fun p H' hp s hpv => ?_⟩
    have ej : Txt.join (Str.ofString "\n") (t.lines.map S) = S t.text := by
      rw [nl_eq]
      exact SX.join_S [10] t.lines
    refine ⟨_, p, t.lines.map S, rfl, rfl, .inl (SqL.of (by rw [hpv, List.map_map]; rfl)), ?_, ?_⟩
    · have h1 := sum_le (fun l : List Nat => l.length) (80004 + 2 * t.dep) t.lines fun x hx => (t.lines_ok hok x hx).2
      have h2 := t.dep_le
      have h3 := t.lines_len
      have h4 : (Str.ofString "\n").length = 1 := by decide +kernel
      have h5 : ((t.lines.map S).map (·.length)) = t.lines.map (fun l : List Nat => l.length) := SX.lens t.lines
      rw [List.length_map, h4, h5, h3]
      rw [h3] at h1
      have h6 : (3 * t.sz + 1) * (80004 + 2 * t.dep) ≤ 181 * 80124 := Nat.mul_le_mul (by omega) (by omega)
      omega
    · rw [ej]
      exact q _ s
end
end KW

/-! ## the law's own trees: _law_term, _law_tree, _law_lines -/
namespace KW
open PySem PySem.Spec PyProof.Rows L2
/-- the text of a term, of at most m signs -/
structure Tm (m : Nat) (l : List Nat) : Prop where
  ne : l ≠ []
  len : l.length ≤ m
  chars : ∀ c ∈ l, 32 ≤ c ∧ c ≤ 126 ∧ c ≠ 60 ∧ c ≠ 61
  hd : l.head? ≠ some 32
  la : l.getLast? ≠ some 32
theorem Tm.sd {m : Nat} {l : List Nat} (h : Tm m l) (hm : m ≤ 100) : Sd l := ⟨h.ne, Nat.le_trans h.len (Nat.le_trans hm (by decide)), h.chars, h.hd, h.la⟩
theorem Tm.mono {m n : Nat} {l : List Nat} (h : Tm m l) (hm : m ≤ n) : Tm n l := ⟨h.ne, Nat.le_trans h.len hm, h.chars, h.hd, h.la⟩
theorem low_chars {l : List Nat} (h : Low l) : ∀ c ∈ l, 32 ≤ c ∧ c ≤ 126 ∧ c ≠ 60 ∧ c ≠ 61 := fun c hc => by
  have := h c hc
  omega
theorem nm_ne {l : List Nat} (h : Nm l) : l ≠ [] := fun e => by
  have := h.2.1
  rw [e] at this
  exact absurd this (by decide)
theorem nm_hd {l : List Nat} (h : Nm l) : l.head? ≠ some 32 := fun e => by
  cases l with
  | nil => simp at e
  | cons c r =>
    have e1 : c = 32 := Option.some.inj e
    have := h.1 c (List.mem_cons_self ..)
    omega
theorem nm_la {l : List Nat} (h : Nm l) : l.getLast? ≠ some 32 := fun e => by
  have := h.1 32 (List.mem_of_getLast? e)
  omega
theorem Nm.tm {l : List Nat} (h : Nm l) : Tm 4 l := ⟨nm_ne h, h.2.2.1, low_chars h.1, nm_hd h, nm_la h⟩
/-- a name ahead, some signs, one last sign -/
theorem tm_around {l x : List Nat} {c m : Nat} (h : Nm l) (hx : ∀ c ∈ x, 32 ≤ c ∧ c ≤ 126 ∧ c ≠ 60 ∧ c ≠ 61) (hc : 33 ≤ c ∧ c ≤ 126 ∧ c ≠ 60 ∧ c ≠ 61) (hm : x.length + 5 ≤ m) : Tm m (l ++ x ++ [c]) := by
  refine ⟨by simp, ?_, fun d hd => ?_, fun e => ?_, fun e => ?_⟩
  · have := h.2.2.1
    simp only [List.length_append, List.length_cons, List.length_nil]
    omega
  · simp only [List.mem_append, List.mem_singleton] at hd
    rcases hd with (hd | hd) | rfl
    · exact low_chars h.1 d hd
    · exact hx d hd
    · omega
  · cases l with
    | nil => exact nm_ne h rfl
    | cons a r => exact nm_hd h e
  · rw [List.getLast?_append] at e
    simp at e
    omega
abbrev qt : List Nat := [39]
abbrev endp : List Nat := [101, 110, 100, 40]
abbrev cs : List Nat := [44, 32]
theorem qt_eq : (Str.ofString "'") = S qt := by decide +kernel
theorem endp_eq : (Str.ofString "end(") = S endp := by decide +kernel
theorem cs_eq : (Str.ofString ", ") = S cs := by decide +kernel
theorem lp_eq : (Str.ofString "(") = S [40] := by decide +kernel
theorem rp_eq : (Str.ofString ")") = S [41] := by decide +kernel
theorem dig12 : ∀ k : Fin 12, ((Str.ofString (toString ((k.val : Nat) : Int))).cps.toList.length ≤ (if k.val < 10 then 1 else 2) ∧ (Str.ofString (toString ((k.val : Nat) : Int))).cps.toList.all (fun c => decide (48 ≤ c) && decide (c ≤ 57)) = true) := by decide +kernel
/-- the text of a small number -/
theorem digs {r : Int} (h0 : 0 ≤ r) (h1 : r < 12) : ∃ l : List Nat, (Str.ofString (toString r)) = S l ∧ (l.length ≤ 2 ∧ (r < 10 → l.length ≤ 1)) ∧ ∀ c ∈ l, 48 ≤ c ∧ c ≤ 57 := by
  obtain ⟨k, rfl⟩ : ∃ k : Fin 12, r = ((k.val : Nat) : Int) := ⟨⟨r.toNat, by omega⟩, by simp; omega⟩
  refine ⟨(Str.ofString (toString ((k.val : Nat) : Int))).cps.toList, (SX.S_tl _).symm, ⟨Nat.le_trans (dig12 k).1 (by split <;> omega), fun h => Nat.le_trans (dig12 k).1 (by rw [if_pos (by omega)]; exact Nat.le_refl _)⟩, fun c hc => ?_⟩
  have := List.all_eq_true.mp (dig12 k).2 c hc
  simpa using this
theorem log_small {r : Int} (h0 : 0 ≤ r) (h1 : r < 12) : r.natAbs.log2 < 1920 := by
  have h : ∀ k : Fin 12, k.val.log2 < 1920 := by decide
  have := h ⟨r.natAbs, by omega⟩
  exact this
def tl : Nat → Nat
  | 0 => 16
  | n + 1 => 2 * tl n + 8
theorem joinL_chars {p : Nat → Prop} {sep : List Nat} (hs : ∀ c ∈ sep, p c) : ∀ {ls : List (List Nat)}, (∀ l ∈ ls, ∀ c ∈ l, p c) → ∀ c ∈ TL.joinL sep ls, p c
  | [], _, c, hc => by simp [TL.joinL] at hc
  | [x], h, c, hc => h x (List.mem_cons_self ..) c hc
  | x :: y :: r, h, c, hc => by
    have hc' : c ∈ x ++ (sep ++ TL.joinL sep (y :: r)) := hc
    simp only [List.mem_append] at hc'
    rcases hc' with hc | hc | hc
    · exact h x (List.mem_cons_self ..) c hc
    · exact hs c hc
    · exact joinL_chars hs (fun l hl => h l (List.mem_cons_of_mem _ hl)) c hc
theorem joinL_len2 {sep : List Nat} {m : Nat} : ∀ {ls : List (List Nat)}, ls.length ≤ 2 → (∀ l ∈ ls, l.length ≤ m) → (TL.joinL sep ls).length ≤ 2 * m + sep.length
  | [], _, _ => by simp [TL.joinL]
  | [x], _, h => by
    have := h x (List.mem_cons_self ..)
    show x.length ≤ _
    omega
  | [x, y], _, h => by
    have h1 := h x (by simp)
    have h2 := h y (by simp)
    show (x ++ (sep ++ y)).length ≤ _
    simp only [List.length_append]
    omega
  | x :: y :: z :: r, h, _ => by simp at h
section
variable {P : Program} {w : World} {K : PySem.W.Frag} {mg : Str → Option Value} {base : Heap}
/-- names stand at p -/
structure NmsAt (H : Hp) (a p : Addr) (ns : List (List Nat)) : Prop where
  at_ : H p = some (.lst (LS ns))
  ne : p ≠ a
  all : ∀ l ∈ ns, Nm l
  pos : ns ≠ []
  len : ns.length ≤ 26
theorem NmsAt.kb {H H' : Hp} {a p : Addr} {ns : List (List Nat)} (n : NmsAt H a p ns) (k : KB a H H') : NmsAt H' a p ns := ⟨k _ _ n.ne n.at_, n.ne, n.all, n.pos, n.len⟩
theorem NmsAt.pos' {H : Hp} {a p : Addr} {ns : List (List Nat)} (n : NmsAt H a p ns) : LS ns ≠ [] := fun e => n.pos (List.map_eq_nil_iff.mp e)
theorem NmsAt.len' {H : Hp} {a p : Addr} {ns : List (List Nat)} (n : NmsAt H a p ns) : (LS ns).length ≤ 1000 := by
  rw [List.length_map]
  have := n.len
  omega
theorem NmsAt.mem {H : Hp} {a p : Addr} {ns : List (List Nat)} {v : V} (n : NmsAt H a p ns) (h : v ∈ LS ns) : ∃ l, v = .str (S l) ∧ Nm l := by
  obtain ⟨l, hl, rfl⟩ := List.mem_map.mp h
  exact ⟨l, rfl, n.all l hl⟩
abbrev s__law_term : Stmt := topS 30
theorem sc__law_term : FnScope ["_law_feed_here", "_law_names", "_law_deep", "_law_way", "_law_name", "_law_parts", "_law_k"] ["_law_feed_here", "_law_names", "_law_deep"] (defScope s__law_term) := ⟨rfl, rfl, rfl, by decide +kernel, rfl, by decide +kernel, by decide +kernel⟩
def spTerm (n : Nat) : Sp := fun vs H Q _ => ∃ (a p : Addr) (ns : List (List Nat)) (d : Nat), vs = [.ref a, .ref p, .int d] ∧ Fd H a ∧ NmsAt H a p ns ∧ d < n ∧ n ≤ 5 ∧
  ∀ (l : List Nat) (H' : Hp), Tm (tl d) l → Fd H' a → KB a H H' → Q (.str (S l)) H'
theorem tl_pos (d : Nat) : 16 ≤ tl d := by
  induction d with
  | zero => exact Nat.le_refl _
  | succ n ih => show 16 ≤ 2 * tl n + 8; omega
theorem tl_le {d : Nat} (h : d < 5) : tl d ≤ 1000 := by
  have : ∀ k : Fin 5, tl k.val ≤ 1000 := by decide
  exact this ⟨d, h⟩
theorem ok_term (B : Bi mg) (F : Df K mg "_law_term" s__law_term ["_law_feed_here", "_law_names", "_law_deep"]) (G1 : C8.Cal P w K mg base 1 "_law_draw" spDraw []) (G2 : C8.Cal P w K mg base 2 "_law_pick" (spPick K) []) : ∀ n : Nat, C8.Cal P w K mg base (n + 2) "_law_term" (spTerm n) []
  | 0 => by
      refine calMono (F.never fun vs H Q E h => ?_) (Nat.zero_le _)
      obtain ⟨a, p, ns, d, _, _, _, h, _⟩ := h
      exact absurd h (Nat.not_lt_zero _)
  | n + 1 => by
    have G_law_term := ok_term B F G1 G2 n
    have G_law_draw := calMono G1 (show 1 ≤ n + 2 by omega)
    have G_law_pick := calMono G2 (show 2 ≤ n + 2 by omega)
    refine F.cal sc__law_term (fun vs H Q E h => ?_) (fun f cdv A outer s H vs Q E hr h => ?_)
    · obtain ⟨a, p, ns, d, rfl, _⟩ := h
      rfl
    · obtain ⟨a, p, ns, d, rfl, f0, hN, hd, hn, q⟩ := h
      refine ⟨_, (pss_cons (ps_set (i := 3) sc__law_term.nd rfl (Or.inl rfl) (C8.pe_c G_law_draw hr (Nat.le_refl _) rfl (pa_cons (pv 0) (pa_cons pe_int pa_nil))))
      (pss_cons (ps_set (i := 4) sc__law_term.nd rfl (Or.inl rfl) (C8.pe_c G_law_pick hr (Nat.le_refl _) rfl (pa_cons (pv 0) (pa_cons (pv 1) pa_nil))))
      (pss_cons (ps_if (pt_cmpR op_eq (pv 3) pe_int (nomark _)) (pss_one (ps_ret (pe_op op_add_str (pv 4) pe_str))) pss_nil)
      (pss_cons (ps_if (pt_cmpR op_eq (pv 3) pe_int (nomark _)) (pss_one (ps_ret (pe_op op_add_str (pe_op op_add_str (pe_op op_add_str (pe_op op_add_str (pe_op op_add_str (pe_op op_add_str pe_str (pe_callTy call_str_int rfl B.ty_str (by decide +kernel) (pa_cons (C8.pe_c G_law_draw hr (Nat.le_refl _) rfl (pa_cons (pv 0) (pa_cons pe_int pa_nil))) pa_nil))) pe_str) (pe_callTy call_str_int rfl B.ty_str (by decide +kernel) (pa_cons (C8.pe_c G_law_draw hr (Nat.le_refl _) rfl (pa_cons (pv 0) (pa_cons pe_int pa_nil))) pa_nil))) pe_str) (pv 4)) pe_str))) pss_nil)
      (pss_cons (ps_if (PW.pt (pw_or (pt_cmpR op_eq (pv 3) pe_int (nomark _)) (pw_or1 (pt_cmpR op_eq (pv 2) pe_int (nomark _))))) (pss_one (ps_ret (pv 4))) pss_nil)
      (pss_cons (ps_setLc (i := 5) (own := [("_law_k", 6)]) (g := gName 6) (tt := tYes) rfl sc__law_term.nd rfl rfl (sw_true rfl rfl rfl (by decide +kernel)) (pi_range1 rfl B.range (pa_cons (pe_op op_add pe_int (C8.pe_c G_law_draw hr (Nat.le_refl _) rfl (pa_cons (pv 0) (pa_cons pe_int pa_nil)))) pa_nil)) (blkOk_by (own := [("_law_k", 6)]) (N := ["_law_feed_here", "_law_names", "_law_deep", "_law_way", "_law_name", "_law_parts", "_law_k"]) (sc := defScope s__law_term) (by decide +kernel)) (fun _ _ _ _ _ => (pg_name (i := 6) sc__law_term.nd rfl (Or.inl rfl))) (fun _ _ _ _ _ => pts_nil) (fun _ _ _ _ _ => (C8.pe_c G_law_term hr (Nat.le_refl _) rfl (pa_cons (pv 0) (pa_cons (pv 1) (pa_cons (pe_op op_sub (pv 2) pe_int) pa_nil))))))
      (pss_one (ps_ret (pe_op op_add_str (pe_op op_add_str (pe_op op_add_str (C8.pe_c G_law_pick hr (Nat.le_refl _) rfl (pa_cons (pv 0) (pa_cons (pv 1) pa_nil))) pe_str) (kk_bm K rfl PySem.F.plainAttrs_str PySem.F.slot_str_join PySem.F.type_str_join (kk_join K rfl) pe_str (pa_cons (pv 5) pa_nil))) pe_str))))))))), ?_⟩
      have big : ∀ m : Nat, m ≤ 10000 → m ≤ sizeLine := fun m h => Nat.le_trans h (by decide)
      refine ⟨_, rfl, a, 5, rfl, f0, by decide, by decide, fun r H1 r0 r1 f1 k1 => ?_⟩
      have hN1 := hN.kb k1
      refine ⟨_, rfl, _, rfl, a, _, rfl, f1, .inr ⟨p, _, rfl, hN1.ne, .inl (SqL.of hN1.at_), hN1.pos', hN1.len', fun vn H2 hvn f2 k2 => ?_⟩⟩
      obtain ⟨nm, rfl, hnm⟩ := hN1.mem hvn
      have k02 := k1.trans k2
      have hnl := hnm.2.2.1
      refine ⟨_, rfl, rfl, _, rfl, ite2 (fun h => ?_) (fun h => ?_)⟩
      · refine ⟨_, rfl, _, _, rfl, rfl, big _ (by rw [qt_eq, slen, slen]; simp; omega), ?_⟩
        rw [qt_eq, cat]
        have e : nm ++ qt = nm ++ [] ++ [39] := by simp
        rw [e]
        exact q _ _ ((tm_around hnm (by simp) (by decide) (show ([] : List Nat).length + 5 ≤ 16 by decide)).mono (tl_pos d)) f2 k02
      · refine ⟨_, rfl, rfl, _, rfl, ite2 (fun h => ?_) (fun h => ?_)⟩
        · refine ⟨_, rfl, a, 2, rfl, f2, by decide, by decide, fun r2 H3 u0 u1 f3 k3 => ?_⟩
          obtain ⟨l2, e2, ⟨ll2', ll2''⟩, lc2⟩ := digs (r := r2) u0 (by omega)
          have ll2 : l2.length ≤ 1 := ll2'' (by omega)
          refine ⟨r2, rfl, log_small u0 (by omega), _, _, rfl, rfl, ?_, ?_⟩
          · rw [endp_eq, e2]
            exact big _ (by rw [slen, slen]; simp; omega)
          rw [endp_eq, e2, cat]
          refine ⟨_, _, rfl, rfl, big _ (by rw [cs_eq, slen, slen]; simp; omega), ?_⟩
          rw [cs_eq, cat]
          refine ⟨_, rfl, a, 12, rfl, f3, by decide, by decide, fun r3 H4 v0 v1 f4 k4 => ?_⟩
          obtain ⟨l3, e3, ⟨ll3, _⟩, lc3⟩ := digs (r := r3) v0 (by omega)
          refine ⟨r3, rfl, log_small v0 (by omega), _, _, rfl, rfl, ?_, ?_⟩
          · rw [e3]
            exact big _ (by rw [slen, slen]; simp; omega)
          rw [e3, cat]
          refine ⟨_, _, rfl, rfl, big _ (by rw [slen, slen]; simp; omega), ?_⟩
          rw [cat]
          refine ⟨_, rfl, _, _, rfl, rfl, big _ (by rw [slen, slen]; simp; omega), ?_⟩
          rw [cat]
          refine ⟨_, _, rfl, rfl, big _ (by rw [rp_eq, slen, slen]; simp; omega), ?_⟩
          rw [rp_eq, cat]
          refine q _ _ ⟨by simp, ?_, fun c hc => ?_, ?_, ?_⟩ f4 ((k02.trans k3).trans k4)
          · have := tl_pos d
            simp only [List.length_append, List.length_cons, List.length_nil]
            omega
          · have d1 : ∀ c ∈ endp, 32 ≤ c ∧ c ≤ 126 ∧ c ≠ 60 ∧ c ≠ 61 := by decide
            have d2 : ∀ c ∈ cs, 32 ≤ c ∧ c ≤ 126 ∧ c ≠ 60 ∧ c ≠ 61 := by decide
            have d3 : ∀ c ∈ [41], 32 ≤ c ∧ c ≤ 126 ∧ c ≠ 60 ∧ c ≠ 61 := by decide
            rw [List.mem_append, List.mem_append, List.mem_append, List.mem_append, List.mem_append, List.mem_append] at hc
            rcases hc with (((((hc | hc) | hc) | hc) | hc) | hc) | hc
            · exact d1 c hc
            · have := lc2 c hc; omega
            · exact d2 c hc
            · have := lc3 c hc; omega
            · exact d2 c hc
            · exact low_chars hnm.1 c hc
            · exact d3 c hc
          · intro e
            cases e
          · intro e
            rw [List.getLast?_append] at e
            simp at e
        · refine ⟨_, rfl, rfl, _, rfl, ?_⟩
          -- way 2, or at the end
          have leave : Q (.str (S nm)) H2 := q _ _ (hnm.tm.mono (Nat.le_trans (by decide) (tl_pos d))) f2 k02
          refine ite2 (fun h => ?_) (fun h => ?_)
          · exact iteT ⟨_, rfl, leave⟩
          · refine ⟨_, rfl, rfl, _, rfl, ite2 (fun h => ?_) (fun h => ?_)⟩
            · exact ⟨_, rfl, leave⟩
            · have hd0 : d ≠ 0 := fun e => h (by rw [e]; rfl)
              obtain ⟨e, rfl⟩ : ∃ e, d = e + 1 := ⟨d - 1, by omega⟩
              refine ⟨_, rfl, a, 2, rfl, f2, by decide, by decide, fun r4 H3 r40 r41 f3 k3 => ⟨_, _, rfl, rfl, _, rfl, by omega, by omega, fun D hD => ?_⟩⟩
              have hDa : D ≠ a := f3.ne hD
              have hD0 : H D = none := (k02.trans k3).free hDa hD
              refine lc_range (lo := 0) (fun i H4 => ∃ ls : List (List Nat), ls.length = i ∧ (∀ l ∈ ls, Tm (tl e) l) ∧ H4 D = some (.lst (LS ls)) ∧ Fd H4 a ∧ KB a H H4) ⟨[], rfl, by simp, upd_same, f3.new hD, (k02.trans k3).new hD⟩ (fun i H4 hi hP => ?_) (fun H4 hP => ?_)
              · obtain ⟨ls, hl, hT, hDl, f4, k4⟩ := hP
                refine ⟨rfl, yesT ?_⟩
                refine ⟨_, rfl, _, rfl, _, rfl, _, _, rfl, rfl, a, p, ns, e, ?_, f4, hN.kb k4, by omega, by omega, fun l H5 hl5 f5 k5 => ?_⟩
                · show [V.ref a, V.ref p, V.int (((e + 1 : Nat) : Int) - 1)] = _
                  rw [show ((e + 1 : Nat) : Int) - 1 = (e : Int) by omega]
                have hD5 := k5 D _ hDa hDl
                refine ⟨_, hD5, Nat.lt_of_lt_of_le (show _ < 10 by rw [List.length_map]; omega) (by decide), ls ++ [l], by simp [hl], fun x hx => ?_, ?_, f5.upd hDa.symm, (k4.trans k5).upd0 hD0⟩
                · rw [List.mem_append, List.mem_singleton] at hx
                  rcases hx with hx | rfl
                  · exact hT x hx
                  · exact hl5
                · rw [upd_same]
                  exact congrArg (fun z => some (HO.lst z)) (LS_snoc ls l)
              · obtain ⟨ls, hl, hT, hDl, f4, k4⟩ := hP
                have hl2 : ls.length ≤ 2 := by omega
                have htl : tl e ≤ 1000 := tl_le (by omega)
                have hTl : ∀ l ∈ ls, l.length ≤ tl e := fun l h => (hT l h).len
                have jl := joinL_len2 (sep := cs) hl2 hTl
                have jc := joinL_chars (sep := cs) (p := fun c => 32 ≤ c ∧ c ≤ 126 ∧ c ≠ 60 ∧ c ≠ 61) (by decide) fun l h => (hT l h).chars
                have hN4 := hN.kb k4
                refine ⟨_, rfl, _, rfl, a, _, rfl, f4, .inr ⟨p, _, rfl, hN4.ne, .inl (SqL.of hN4.at_), hN4.pos', hN4.len', fun vn2 H5 hvn2 f5 k5 => ?_⟩⟩
                obtain ⟨nm2, rfl, hnm2⟩ := hN4.mem hvn2
                have hnl2 := hnm2.2.2.1
                refine ⟨_, _, rfl, rfl, big _ (by rw [lp_eq, slen, slen]; simp; omega), ?_⟩
                rw [lp_eq, cat]
                refine ⟨rfl, _, rfl, _, D, ls.map S, rfl, rfl, .inl (SqL.of (by rw [k5 D _ hDa hDl, List.map_map]; rfl)), ?_, ?_⟩
                · have hs := sum_le (fun l : List Nat => l.length) (tl e) ls hTl
                  have h5 : ((ls.map S).map (·.length)) = ls.map (fun l : List Nat => l.length) := SX.lens ls
                  have h6 : ls.length * tl e ≤ 2 * 1000 := Nat.mul_le_mul hl2 htl
                  have h7 : (Str.ofString ", ").length = 2 := by decide +kernel
                  rw [List.length_map, h5, h7]
                  omega
                have ej : Txt.join (Str.ofString ", ") (ls.map S) = S (TL.joinL cs ls) := by
                  rw [cs_eq]
                  exact SX.join_S cs ls
                rw [ej]
                have jl' : (TL.joinL cs ls).length ≤ 2 * tl e + 2 := jl
                refine ⟨_, _, rfl, rfl, big _ (by rw [slen, slen]; simp; omega), ?_⟩
                rw [cat]
                refine ⟨_, _, rfl, rfl, big _ (by rw [rp_eq, slen, slen]; simp; omega), ?_⟩
                rw [rp_eq, cat, List.append_assoc nm2]
                refine q _ _ (tm_around hnm2 (fun c hc => ?_) (by decide) ?_) f5 (k4.trans k5)
                · rw [List.mem_append, List.mem_singleton] at hc
                  rcases hc with rfl | hc
                  · decide
                  · exact jc c hc
                · show ([40] ++ TL.joinL cs ls).length + 5 ≤ 2 * tl e + 8
                  simp only [List.length_append, List.length_cons, List.length_nil]
                  omega
end
end KW

/-! ## the law's own trees: _law_tree, _law_lines -/
namespace KW
open PySem PySem.Spec PyProof.Rows L2
/-- small sides -/
def Tr.sm : Tr → Prop
  | .leaf => True
  | .node l r a b => l.length ≤ 100 ∧ r.length ≤ 100 ∧ a.sm ∧ b.sm
section
variable {P : Program} {w : World} {K : PySem.W.Frag} {mg : Str → Option Value} {base : Heap}
abbrev s__law_tree : Stmt := topS 31
theorem sc__law_tree : FnScope ["_law_feed_here", "_law_names", "_law_room", "_law_deep", "_law_left", "_law_sides", "_law_one", "_law_other"] ["_law_feed_here", "_law_names", "_law_room", "_law_deep"] (defScope s__law_tree) := ⟨rfl, rfl, rfl, by decide +kernel, rfl, by decide +kernel, by decide +kernel⟩
def spTree (n : Nat) : Sp := fun vs H Q _ => ∃ (a p : Addr) (ns : List (List Nat)) (m d : Nat), vs = [.ref a, .ref p, .int m, .int d] ∧ Fd H a ∧ NmsAt H a p ns ∧ d < n ∧ m ≤ 20 ∧
  ∀ (v : V) (t : Tr) (H' : Hp), TrAt (hid a H') v t → t.ok → t.sm → t.sz ≤ m → t.dep ≤ d → Fd H' a → KB a H H' → Q v H'
theorem ok_tree (B : Bi mg) (F : Df K mg "_law_tree" s__law_tree ["_law_feed_here", "_law_names", "_law_room", "_law_deep"]) (G1 : C8.Cal P w K mg base 1 "_law_draw" spDraw []) (G5 : C8.Cal P w K mg base 5 "_law_term" (spTerm 3) []) : ∀ n : Nat, C8.Cal P w K mg base (n + 5) "_law_tree" (spTree n) []
  | 0 => by
      refine calMono (F.never fun vs H Q E h => ?_) (Nat.zero_le _)
      obtain ⟨a, p, ns, m, d, _, _, _, h, _⟩ := h
      exact absurd h (Nat.not_lt_zero _)
  | n + 1 => by
    have G_law_tree := ok_tree B F G1 G5 n
    have G_law_draw := calMono G1 (show 1 ≤ n + 5 by omega)
    have G_law_term := calMono G5 (show 5 ≤ n + 5 by omega)
    refine F.cal sc__law_tree (fun vs H Q E h => ?_) (fun f cdv A outer s H vs Q E hr h => ?_)
    · obtain ⟨a, p, ns, m, d, rfl, _⟩ := h
      rfl
    · obtain ⟨a, p, ns, m, d, rfl, f0, hN, hd, hm, q⟩ := h
      refine ⟨_, (pss_cons (ps_if (PW.pt (pw_or (pt_cmpR op_eq (pv 2) pe_int (nomark _)) (pw_or1 (pt_cmpR op_eq (pv 3) pe_int (nomark _))))) (pss_one (ps_ret (pe_tup pa_nil))) pss_nil)
      (pss_cons (ps_set (i := 4) sc__law_tree.nd rfl (Or.inl rfl) (C8.pe_c G_law_draw hr (Nat.le_refl _) rfl (pa_cons (pv 0) (pa_cons (pv 2) pa_nil))))
      (pss_cons (ps_set (i := 5) sc__law_tree.nd rfl (Or.inl rfl) (pe_tup (pa_cons (C8.pe_c G_law_term hr (Nat.le_refl _) rfl (pa_cons (pv 0) (pa_cons (pv 1) (pa_cons pe_int pa_nil)))) (pa_cons (C8.pe_c G_law_term hr (Nat.le_refl _) rfl (pa_cons (pv 0) (pa_cons (pv 1) (pa_cons pe_int pa_nil)))) pa_nil))))
      (pss_cons (ps_set (i := 6) sc__law_tree.nd rfl (Or.inl rfl) (C8.pe_c G_law_tree hr (Nat.le_refl _) rfl (pa_cons (pv 0) (pa_cons (pv 1) (pa_cons (pv 4) (pa_cons (pe_op op_sub (pv 3) pe_int) pa_nil))))))
      (pss_cons (ps_set (i := 7) sc__law_tree.nd rfl (Or.inl rfl) (C8.pe_c G_law_tree hr (Nat.le_refl _) rfl (pa_cons (pv 0) (pa_cons (pv 1) (pa_cons (pe_op op_sub (pe_op op_sub (pv 2) pe_int) (pv 4)) (pa_cons (pe_op op_sub (pv 3) pe_int) pa_nil))))))
      (pss_one (ps_ret (pe_op (kk_catA K rfl) (pv 5) (pe_tup (pa_cons (pv 6) (pa_cons (pv 7) pa_nil))))))))))), ?_⟩
      have big : ∀ m : Nat, m ≤ 10000 → m ≤ sizeLine := fun m h => Nat.le_trans h (by decide)
      have leave : ∀ c, H c = none → Q (.ref c) (upd H c (.tup [])) := fun c hc =>
        q _ .leaf _ (.leaf (hid_of (f0.ne hc) upd_same)) trivial trivial (Nat.zero_le _) (Nat.zero_le _) (f0.new hc) ((KB.refl _ _).new hc)
      refine ⟨_, rfl, rfl, _, rfl, ite2 (fun h => ?_) (fun h => ?_)⟩
      · exact iteT ⟨Nat.zero_le _, leave⟩
      · refine ⟨_, rfl, rfl, _, rfl, ite2 (fun h2 => ?_) (fun h2 => ?_)⟩
        · exact ⟨Nat.zero_le _, leave⟩
        · have hm0 : m ≠ 0 := fun e => h (by rw [e]; rfl)
          have hd0 : d ≠ 0 := fun e => h2 (by rw [e]; rfl)
          obtain ⟨d', rfl⟩ : ∃ e, d = e + 1 := ⟨d - 1, by omega⟩
          refine ⟨_, rfl, _, rfl, a, m, rfl, f0, by omega, by omega, fun r H1 r0 r1 f1 k1 => ?_⟩
          obtain ⟨r, rfl⟩ : ∃ e : Nat, r = (e : Int) := ⟨r.toNat, by omega⟩
          refine ⟨_, rfl, _, rfl, a, p, ns, 2, rfl, f1, hN.kb k1, by decide, by decide, fun l H2 hl f2 k2 => ?_⟩
          refine ⟨_, rfl, _, rfl, a, p, ns, 2, rfl, f2, (hN.kb k1).kb k2, by decide, by decide, fun l' H3 hl' f3 k3 => ?_⟩
          refine ⟨big _ (by simp), fun c hc => ?_⟩
          have hca : c ≠ a := f3.ne hc
          have f4 := f3.new (o := .tup [V.str (S l), V.str (S l')]) hc
          have k4 := ((k1.trans k2).trans k3).new (o := .tup [V.str (S l), V.str (S l')]) hc
          have hc4 : (upd H3 c (.tup [V.str (S l), V.str (S l')])) c = some (.tup [V.str (S l), V.str (S l')]) := upd_same
          generalize (upd H3 c (.tup [V.str (S l), V.str (S l')])) = H4 at *
          refine ⟨_, rfl, _, rfl, _, rfl, _, rfl, _, _, rfl, rfl, a, p, ns, r, d', ?_, f4, hN.kb k4, by omega, by omega, fun v1 t1 H5 h1 o1 m1 s1 p1 f5 k5 => ?_⟩
          · show [V.ref a, V.ref p, V.int (r : Int), V.int (((d' + 1 : Nat) : Int) - 1)] = _
            rw [show ((d' + 1 : Nat) : Int) - 1 = (d' : Int) by omega]
          refine ⟨_, rfl, _, rfl, _, rfl, _, _, rfl, rfl, _, rfl, _, _, rfl, rfl, _, rfl, _, _, rfl, rfl, a, p, ns, m - 1 - r, d', ?_, f5, (hN.kb k4).kb k5, by omega, by omega, fun v2 t2 H6 h2 o2 m2 s2 p2 f6 k6 => ?_⟩
          · show [V.ref a, V.ref p, V.int ((m : Int) - 1 - (r : Int)), V.int (((d' + 1 : Nat) : Int) - 1)] = _
            rw [show ((d' + 1 : Nat) : Int) - 1 = (d' : Int) by omega, show (m : Int) - 1 - (r : Int) = ((m - 1 - r : Nat) : Int) by omega]
          have hc6 : H6 c = some (.tup [V.str (S l), V.str (S l')]) := k6 _ _ hca (k5 _ _ hca hc4)
          refine ⟨_, rfl, _, rfl, _, rfl, big _ (by simp), fun e he => ?_⟩
          have f7 := f6.new (o := .tup [v1, v2]) he
          refine ⟨c, e, _, _, rfl, rfl, SqT.of (same_upd he _ _ hc6), SqT.of upd_same, big _ (by simp), fun z => absurd z (by simp), fun _ z => absurd z (by simp), fun _ _ g hg => ?_⟩
          have hga : g ≠ a := f7.ne hg
          have kk : KB a H6 (upd (upd H6 e (.tup [v1, v2])) g (.tup ([V.str (S l), V.str (S l')] ++ [v1, v2]))) := ((KB.refl _ _).new he).new hg
          have sh := hid_kb kk
          have ll := (hl.sd (by decide)).len
          refine q _ (.node l l' t1 t2) _ (.node (hid_of hga upd_same) ((h1.mono (hid_kb k6)).mono sh) (h2.mono sh)) ⟨hl.sd (by decide), hl'.sd (by decide), o1, o2⟩ ⟨Nat.le_trans hl.len (by decide), Nat.le_trans hl'.len (by decide), m1, m2⟩ ?_ ?_ (f7.new hg) (((k4.trans k5).trans k6).trans kk)
          · show t1.sz + t2.sz + 1 ≤ m
            omega
          · show max t1.dep t2.dep + 1 ≤ d' + 1
            omega
end
end KW

/-! ## while an exception is handled: the ends of iterators -/
namespace KH
open PySem PySem.Spec PyProof.Rows L2 HotX L2H
section
variable {prog : Program} {w : World} {A : Around} {E : Value → Shared → Prop} {s : Shared}
/-- a StopIteration made and raised while the exception at x1 is handled: all that stood stands -/
theorem stop_hot {α : Type} {x1 : Addr} {Q : α → Shared → Prop} (hot : HotAt A x1 s.heap)
    (hE : ∀ (h' : Heap) (e : Addr), (∀ b o, s.heap.get? b = some o → h'.get? b = some o) → (∃ o, h'.get? e = some o ∧ o.cls = .type "StopIteration") → E (.ref e) { s with heap := h' }) :
    wpAny (model prog w) A (newExc (.type "StopIteration") [] >>= fun e => (raiseNew e : Sem α)) Q E s := by
  obtain ⟨hh, o1, vs1, h1, d1, c1⟩ := hot
  refine wpAny_bind ?_
  simp only [newExc, newTuple]
  refine wpAny_bind (wpAny_newObj_type ?_ (by size_fits))
  refine wpAny_bind (m := firstArgMember _ _) (wpAny_of_eq (a := Value.none) (by first | rfl | (simp only [firstArgMember]; rfl)) ?_)
  refine wpAny_newObj_type ?_ (by size_fits)
  have g1 : ∀ {o2 o3 : Obj}, ((s.heap.push o2).push o3).get? x1 = some o1 := fun {o2 o3} => Heap.get?_push_of_some _ (Heap.get?_push_of_some _ h1)
  refine raiseNew_hot ⟨hh, o1, vs1, g1, d1, c1⟩ (Nat.ne_of_lt (Heap.lt_size (Heap.get?_push_of_some _ h1))) (Heap.get?_push_size _ rfl) rfl (by first | (simp; done) | (simp; omega)) ?_
  refine hE _ _ (fun b o e => ?_) ⟨_, Heap.get?_update_self _ (Heap.get?_push_size _ rfl) rfl, rfl⟩
  have lt : b < (s.heap.push { cls := .type "tuple", data := .seq #[] }).objs.size := by
    rw [Heap.size_push]
    exact Nat.lt_succ_of_lt (Heap.lt_size e)
  rw [Heap.get?_update_other _ _ (Nat.ne_of_gt lt)]
  exact Heap.get?_push_of_some _ (Heap.get?_push_of_some _ e)
/-- the handled exception is no iterator of two fields -/
theorem hot_ne {x1 it : Addr} {h : Heap} {o : Obj} {a b : Value} (hot : HotAt A x1 h) (ho : h.get? it = some o) (hd : o.data = .fields #[a, b]) : x1 ≠ it := fun z => by
  obtain ⟨_, o1, vs1, h1, d1, c1⟩ := hot
  rw [z, ho] at h1
  cases h1
  rw [hd] at d1
  cases d1
  simp at c1
theorem hot_keep {x1 it : Addr} {h h' : Heap} (hot : HotAt A x1 h) (hne : x1 ≠ it) (k : Heap.ExtBut it h h') : HotAt A x1 h' := by
  obtain ⟨hh, o1, vs1, h1, d1, c1⟩ := hot
  exact ⟨hh, o1, vs1, k _ _ hne h1, d1, c1⟩
theorem hot_in1 {x1 : Addr} {h : Heap} (hot : HotAt A x1 h) : HotAt A.in1 x1 h := hot
theorem list_end_hot {it l x1 : Addr} {i : Nat} {items} {Q : Value → Shared → Prop} (hot : HotAt A x1 s.heap)
    (hit : s.heap.IsListIter it l i) (hl : s.heap.IsList l items) (hx : items[i]? = none)
    (hE : ∀ h' e, Heap.ExtBut it s.heap h' → (∃ o, h'.get? e = some o ∧ o.cls = .type "StopIteration") → E (.ref e) { s with heap := h' }) :
    wpAny (model prog w) A (Builtin.SmallTypes.nextOf (.ref it)) Q E s := by
  obtain ⟨o, ho, hc, hd⟩ := id hit
  obtain ⟨ol, hol, _, nl, hdl⟩ := hl
  have hne := hot_ne hot ho hd
  unfold Builtin.SmallTypes.nextOf
  refine wpAny_bind (wpAny_callSpecial?_slot (name := Str.ofString "__next__") hit.typeIs slot_listiter_next
    (wpAny_call_entry slot_listiter_next hit.typeIs entry_listiter_next ?_ (args_listiter_next _)))
  show wpAny _ _ (field (.ref it) 0 >>= _) _ _ s
  refine wpAny_bind (wpAny_field ho hd (x := .ref l) rfl ?_)
  show wpAny _ _ (if (Value.ref l == Value.none) = true then _ else _) _ _ s
  rw [if_neg (by intro z; exact Bool.false_ne_true z)]
  show wpAny _ _ (field (.ref it) 1 >>= _) _ _ s
  refine wpAny_bind (wpAny_field ho hd (x := .int i 0) rfl ?_)
  show wpAny _ _ (seqItems? (.ref l) >>= _) _ _ s
  refine wpAny_bind (wpAny_seqItems hol hdl ?_)
  simp only [Int.toNat_natCast, hx]
  refine wpAny_bind (wpAny_rule (wpAny_bind (wpAny_setField ho hd (by simp) ?_)))
  have k1 := (Heap.SameBut.update (h := s.heap) (a := it) (f := Obj.mapFields (·.setIfInBounds 0 .none))).extBut
  refine stop_hot (hot_in1 (hot_keep hot hne k1)) fun h' e k he => ?_
  exact hE h' e (fun b ob hb q => k b ob (k1 b ob hb q)) he
theorem enum_end_hot {e it l x1 : Addr} {i : Nat} {items : Array Value} {old : Value} {Q : Option Value → Shared → Prop} (hot : HotAt A x1 s.heap)
    (he : IsEnum s.heap e it i old) (hit : s.heap.IsListIter it l i) (hl : s.heap.IsList l items) (hx : items[i]? = none)
    (hQ : ∀ h', Heap.ExtBut it s.heap h' → Q none { s with heap := h' }) : wpAny (model prog w) A (pyNext (.ref e)) Q E s := by
  have hT : s.TypeIs (.ref e) "enumerate" := ⟨_, he, rfl⟩
  unfold pyNext
  refine wpAny_bind (wpAny_attempt (wpAny_callSpecial?_slot (name := Str.ofString "__next__") hT F.slot_enumerate_next
    (wpAny_call_entry F.slot_enumerate_next hT F.entry_enumerate_next ?_ (F.args_enumerate_next_1 _))))
  show wpAny _ _ (field (.ref e) 2 >>= _) _ _ _
  refine wpAny_bind (wpAny_field he rfl (x := .ref it) rfl ?_)
  refine wpAny_bind (list_end_hot (hot_in1 hot) hit hl hx fun h' x he' hx' => ?_)
  obtain ⟨o, ho, hc⟩ := hx'
  exact wpAny_bind (wpAny_isInstance (T := "StopIteration") (b := true) ⟨o, ho, hc⟩ isSubtype_stop (wpAny_pure (hQ _ he')))
theorem tuple_end_hot {it t x1 : Addr} {i : Nat} {items} {Q : Option Value → Shared → Prop} (hot : HotAt A x1 s.heap)
    (hit : IsTupIter s.heap it t i) (ht : IsTup s.heap t items) (hx : items[i]? = none)
    (hQ : ∀ h', Heap.ExtBut it s.heap h' → Q none { s with heap := h' }) : wpAny (model prog w) A (pyNext (.ref it)) Q E s := by
  obtain ⟨o, ho, hc, hd⟩ := id hit
  obtain ⟨ol, hol, _, nl, hdl⟩ := ht
  have hne := hot_ne hot ho hd
  unfold pyNext
  refine wpAny_bind (wpAny_attempt (wpAny_callSpecial?_slot (name := Str.ofString "__next__") hit.typeIs slot_tupleiter_next
    (wpAny_call_entry slot_tupleiter_next hit.typeIs entry_tupleiter_next ?_ (args_tupleiter_next _))))
  show wpAny _ _ (field (.ref it) 0 >>= _) _ _ s
  refine wpAny_bind (wpAny_field ho hd (x := .ref t) rfl ?_)
  show wpAny _ _ (if (Value.ref t == Value.none) = true then _ else _) _ _ s
  rw [if_neg (by intro z; exact Bool.false_ne_true z)]
  show wpAny _ _ (field (.ref it) 1 >>= _) _ _ s
  refine wpAny_bind (wpAny_field ho hd (x := .int i 0) rfl ?_)
  show wpAny _ _ (seqItems? (.ref t) >>= _) _ _ s
  refine wpAny_bind (wpAny_seqItems hol hdl ?_)
  simp only [Int.toNat_natCast, hx]
  refine wpAny_bind (wpAny_rule (wpAny_bind (wpAny_setField ho hd (by simp) ?_)))
  have k1 := (Heap.SameBut.update (h := s.heap) (a := it) (f := Obj.mapFields (·.setIfInBounds 0 .none))).extBut
  refine stop_hot (hot_in1 (hot_keep hot hne k1)) fun h' e k he => ?_
  obtain ⟨oe, hoe, hce⟩ := he
  refine wpAny_bind (wpAny_isInstance (T := "StopIteration") (b := true) ⟨oe, hoe, hce⟩ isSubtype_stop ?_)
  exact wpAny_pure (hQ _ fun b ob hb q => k b ob (k1 b ob hb q))
theorem unpackItems_hot {t x1 : Addr} {items : Array Value} {Q : List Value → Shared → Prop} (hot : HotAt A x1 s.heap) (ht : IsTup s.heap t items)
    (hQ : ∀ h', Heap.ExtBut s.heap.objs.size s.heap h' → Q items.toList { s with heap := h' }) : wpAny (model prog w) A (unpackItems (.ref t) items.size none) Q E s := by
  have hlt : t ≠ s.heap.objs.size := by
    obtain ⟨o, ho, _⟩ := ht
    exact Nat.ne_of_lt (Heap.lt_size ho)
  have hx : x1 ≠ s.heap.objs.size := by
    obtain ⟨_, o1, _, h1, _⟩ := hot
    exact Nat.ne_of_lt (Heap.lt_size h1)
  unfold unpackItems
  refine wpAny_bind ?_
  unfold notIterableAtAll
  refine wpAny_bind (wpAny_specialOf ht.typeIs slot_tuple_iter.lookup ?_)
  refine wpAny_pure ?_
  simp only [Bool.false_eq_true, if_false]
  refine wpAny_bind (wpAny_holding (iter_tuple ht ?_))
  refine wpAny_bind (wpAny_holding (draw_tuple hlt items.size 0 _ _ ⟨_, Heap.get?_push_size _ rfl, rfl, rfl⟩ (ht.push _) (by omega) fun h₁ hit₁ hs₁ => ?_))
  have hall : List.take items.size (List.drop 0 items.toList) = items.toList := by
    rw [List.drop_zero]
    exact List.take_of_length_le (by simp)
  rw [hall, if_neg (by simp)]
  have ht₁ : IsTup h₁ t items := (ht.push _).extBut hs₁.extBut hlt
  have hot₁ : HotAt A x1 h₁ := hot_keep hot hx fun b o hb e => hs₁.extBut b o hb (Heap.get?_push_of_some _ e)
  refine wpAny_bind (wpAny_holding (tuple_end_hot hot₁ hit₁ ht₁ (by simp) fun h₂ he₂ => ?_))
  simp only [Option.isSome_none, Bool.false_eq_true, if_false]
  exact wpAny_pure (hQ h₂ fun b o hb e => he₂ b o hb (hs₁.extBut b o hb (Heap.get?_push_of_some _ e)))
theorem assign_hot {env : Env} {elts : List Expr} {k1} {pos : Pos} {t x1 : Addr} {items : Array Value} {Q : Unit → Shared → Prop} (hot : HotAt A x1 s.heap) (ht : IsTup s.heap t items)
    (hn : (assignEach elts env).length = items.size) (hstar : (assignEach elts env).findIdx? (·.1) = none)
    (h : ∀ h', Heap.ExtBut s.heap.objs.size s.heap h' → wpAny (model prog w) A (assignInOrder ((assignEach elts env).map (·.2)) items.toList) Q E { s with heap := h' }) :
    wpAny (model prog w) A (assign (.Tuple elts k1 pos) env (.ref t)) Q E s := by
  rw [assign_Tuple]
  refine wpAny_bind (wpAny_standAt ?_)
  unfold unpack
  rw [hn, hstar]
  exact wpAny_bind (wpAny_holding (unpackItems_hot hot ht h))
end
/-! ### the rules -/
section
variable {X : Cx}
theorem pg_tupH (K : PySem.W.Frag) (hK : X.K = K) {es : List Expr} {k n : Nat} {pos : Pos} {t : TGs} (hc : HotC X) (h : PGs X es t)
    (hn : (assignEach es X.env).length = n := by rfl) (hst : (assignEach es X.env).findIdx? (·.1) = none := by rfl) : PG X (.Tuple es k pos) (gTup K n t) := by
  subst hK
  refine ⟨fun pins s σ H v u Q I r hw => ?_⟩
  obtain ⟨a, xs, e1, hq, hl, hw⟩ := hw
  subst e1
  cases r
  obtain ⟨its, rv, ht, hz⟩ := I.tuple hq
  obtain ⟨x1, hot⟩ := hc.at I
  refine assign_hot hot ht (by simp [hn, ← hl, rv.length]) hst fun h' hx => ?_
  have I1 : Inv X pins σ H { s with heap := h' } := I.kept (t' := s.toks) fun b o e => hx b o (Nat.ne_of_lt (Heap.lt_size e)) e
  exact h.run pins _ σ H xs _ Q I1 (by simpa using rv) hw
theorem turn_enumH {P : Program} {w : World} {K : PySem.W.Frag} {elts : List Expr} {kk : Nat} {tpos : Pos} (a e it : Addr) :
    TurnH P w K (.Tuple elts kk tpos) (Ite K a) [e, it] e (fun i h => (∃ old, IsEnum h e it ((i : Nat) : Int) old) ∧ h.IsListIter it a i ∧ e ≠ it) where
  mem := (turn_enum (P := P) (w := w) (K := K) (elts := elts) (kk := kk) (tpos := tpos) a e it).mem
  obj := (turn_enum (P := P) (w := w) (K := K) (elts := elts) (kk := kk) (tpos := tpos) a e it).obj
  keep := (turn_enum (P := P) (w := w) (K := K) (elts := elts) (kk := kk) (tpos := tpos) a e it).keep
  self := (turn_enum (P := P) (w := w) (K := K) (elts := elts) (kk := kk) (tpos := tpos) a e it).self
  item := by
    intro X hP hw hK _ i pins s σ H E I hf st hg
    subst hP hw hK
    obtain ⟨⟨old, he⟩, hit, hne⟩ := st
    obtain ⟨xs, x, hq, hx⟩ := hg
    obtain ⟨its, rv, p, hz⟩ := I.list hq
    obtain ⟨u, hu, ru⟩ := rv.get hx
    have hel : e < s.heap.objs.size := Heap.lt_size he
    have hil : it < s.heap.objs.size := by
      obtain ⟨_, q, _⟩ := hit
      exact Heap.lt_size q
    refine wpAny_pyNext_enum_item he hit p.isList (x := u) (by simpa using hu) hne fun h' ho hit' hT hsz hk => ?_
    refine ⟨_, rfl, wpAny_letOwnedTupleGo_enum (s := { s with heap := h', toks := s.toks + 1 }) ho fun h2 he2 sb => ?_⟩
    generalize hn : s.heap.objs.size = n at *
    have hT2 : h2.get? n = some { cls := .type "tuple", data := .seq #[.int i s.toks, u] } := (sb.2 _ (Nat.ne_of_gt hel)).trans hT
    have new : ObjOk X.prog X.w (upd H n (.tup [.int (i : Nat), x])) h2 n (.tup [.int (i : Nat), x]) :=
      ⟨by show 2 ≤ sizeLine; decide, [.int i s.toks, u], .cons ⟨_, rfl⟩ (.cons ru .nil), ⟨_, hT2, rfl, _, rfl⟩⟩
    have I1 : Inv X pins σ (upd H n (.tup [.int (i : Nat), x])) { s with heap := h2, toks := s.toks + 1 } :=
      I.turnedNew (ch := [e, it]) (fun b ob hb q => (sb.2 b (fun z => hb (by simp [z]))).trans (hk b ob (fun z => hb (by simp [z])) (fun z => hb (by simp [z])) q)) hf (Nat.le_of_eq hn) new
    refine ⟨.ref n, _, I1, rfl, ⟨_, x, rfl, I.hok.fresh (Nat.le_of_eq hn), rfl, fun ys hy => by rw [I.list_inj hy hq]; exact hx⟩, ⟨⟨u, ?_⟩, hit'.at fun o q => (sb.2 it (Ne.symm hne)).trans q, hne⟩, fun b hb => ?_⟩
    · have e1 : ((i + 1 : Nat) : Int) = (i : Int) + 1 := by omega
      rw [e1]
      exact he2
    · have hb' : b < n := by
        rcases (show b = e ∨ b = it by simpa using hb) with z | z
        · rw [z]; exact hel
        · rw [z]; exact hil
      rw [upd_ne (Nat.ne_of_lt hb')]
      exact (hf b hb).1
  done := by
    intro X hP hw hK hc i pins s σ H E I hf st hg
    subst hP hw hK
    obtain ⟨⟨old, he⟩, hit, hne⟩ := st
    obtain ⟨xs, hq, hx⟩ := hg
    obtain ⟨its, rv, p, hz⟩ := I.list hq
    obtain ⟨f0, f1, f2, f3, f4, f5⟩ := hf it (by simp)
    obtain ⟨x1, hot⟩ := hc.at I
    have hl := rv.length
    exact enum_end_hot hot he hit p.isList (by simp; omega) fun h' eb => ⟨rfl, I.turned (t' := s.toks) (fun b o hb q => eb b o hb q) f0 f1 f3 f4 f5⟩
theorem pi_enumH {e : Expr} {ta : TA} {p pos tpos : Pos} {elts : List Expr} {kk : Nat} (hg : Gl X "enumerate") (hm : X.mg "enumerate" = none) (ha : PA X [e] ta) (hs : starEach [e] X.env = [(false, eval e X.env)] := by rfl) :
    PIH X (.Tuple elts kk tpos) (.Call (.Name "enumerate" p) [e] [] pos) (iEnum X.K ta) := by
  refine ⟨fun pins s σ H R I h => ?_⟩
  refine Call_ (ld_blt I hg hm boot_enumerate (PyProof.Rows.callWith_type1 (thn (ha.run pos pins s σ H _ I h) fun us s1 ⟨vs, H1, I1, r1, q1⟩ => ?_) hs rfl))
  obtain ⟨a, xs, ex, hq, q⟩ := q1
  subst ex
  cases r1 with
  | cons r rr =>
    cases rr
    cases r
    obtain ⟨its, rv, p', hz⟩ := I1.list hq
    refine call_enumerate_list p'.isList fun h' he hit hsz hk => wpAny_pyIter_enum he ?_
    have I2 : Inv X pins σ H1 { s1 with heap := h' } := I1.kept (t' := s1.toks) hk
    refine ⟨s1.heap.objs.size + 1, [s1.heap.objs.size + 1, s1.heap.objs.size], _, _, H1, rfl, I2, turn_enumH a (s1.heap.objs.size + 1) s1.heap.objs.size, ⟨⟨.none, he⟩, hit, Nat.succ_ne_self _⟩, fun b hb => ?_, q⟩
    have hle : s1.heap.objs.size ≤ b := by
      rcases (show b = s1.heap.objs.size + 1 ∨ b = s1.heap.objs.size by simpa using hb) with z | z
      · rw [z]; exact Nat.le_add_right _ _
      · rw [z]; exact Nat.le_refl _
    exact I1.fpOk hle (I1.hok.fresh hle)
end
end KH

/-! ## while an exception is handled: comprehensions, defs that are called -/
namespace KH
open PySem PySem.Spec PyProof.Rows L2 HotX L2H
section
variable {X : Cx}
/-- the block of a comprehension, the handled exception pinned -/
abbrev blkH (X : Cx) (s : Shared) (H : Hp) (scope : Scope) (cenv : Env) (fp : List Addr) (p : Addr × Obj) : Cx := { X.blk s H scope cenv fp with pn := [p] }
theorem ok_pn {Y : Cx} (ok : Y.Ok) (pn : List (Addr × Obj)) : Cx.Ok { Y with pn := pn } :=
  ⟨ok.mod, ok.kind, ok.glob, ok.blt, ok.above, ok.inj, ok.has, ok.cab, ok.hd, ok.frames, ok.stk, ok.exf, ok.bs, ok.bsz, ok.noex, ok.exfs, ok.funs, ok.frf⟩
theorem inv_pn {Y : Cx} {σ : L2.St} {H : Hp} {s : Shared} {p : Addr × Obj} (I : Inv Y [] σ H s) (h : s.heap.get? p.1 = some p.2 ∧ H p.1 = none ∧ p.1 ≠ Y.env.locals ∧ p.1 ∉ Y.fs ∧ ∀ v, p.2.data ≠ .cell v) : Inv { Y with pn := [p] } [] σ H s :=
  ⟨ok_pn I.ok [p], I.os, I.bare, I.base, I.loc, I.cell, I.free, I.freeC, fun q hq => by
    have e : q = p := by simpa using hq
    rw [e]
    exact h, I.hok, I.len⟩
theorem lc_coreH {pins : List (Addr × Obj)} {s : Shared} {σ : L2.St} {H : Hp} {Q : VK} {elt tg iter : Expr} {ifs : List Expr} {scope : Scope} {own : List (Str × Nat)} {pos pos' : Pos} {wi : TI} {g : TG} {tt : TT} {te : TE} {p : Addr × Obj}
    (hot : Hot1 X.A p) (hp : p ∈ X.pn) (hN : X.N.Nodup) (I : Inv X pins σ H s) (hi : PIH X tg iter wi) (ok : BlkOk X.N X.env.scope scope own)
    (hg : ∀ (s : Shared) (H : Hp) (C : Addr) (cl : List (Str × Addr)) (fp : List Addr), PG (blkH X s H scope (compEnvC scope cl C X.env) fp p) tg g) (ht : ∀ (s : Shared) (H : Hp) (C : Addr) (cl : List (Str × Addr)) (fp : List Addr), PTs (blkH X s H scope (compEnvC scope cl C X.env) fp p) ifs tt)
    (he : ∀ (s : Shared) (H : Hp) (C : Addr) (cl : List (Str × Addr)) (fp : List Addr), PE (blkH X s H scope (compEnvC scope cl C X.env) fp p) elt te) (hs : ∀ x, foldedSetIterable iter X.env x = pure x)
    (h : tLc wi g tt te (own.map (·.2)) σ H Q) : wpAny (model X.prog X.w) X.A (comprehension (.ListComp elt [⟨tg, iter, ifs, 0⟩] scope pos) scope X.env pos' (newList []) false (eval iter X.env) none) (EP X pins σ Q) X.xe s := by
  have hfree : ∀ y ∈ scope.names, y.2 = .free → ∃ c, X.env.cells.lookup y.1 = some c := fun y hy e => (ok.free y hy e).elim (fun k => I.ok.has _ (.inl k)) fun k => I.ok.has _ (.inr k)
  refine wpAny_comprehension_free (use := none) rfl hs (closure_ok hfree) ok.kind (fun y hy e => by rw [ok.uniq y hy, e])
    (thn (hi.run pins s σ H _ I h) fun xv s1 hx => thn hx fun itv s2 h2 => ?_)
  obtain ⟨it, fp, tn, J, H2, e, I2, T, st2, f2, q⟩ := h2
  subst e
  refine wpAny_newObj_type (newEnv_comp ?_) (by show 0 ≤ sizeLine; decide)
  generalize hD : s2.heap.objs.size = D
  obtain ⟨W, ⟨m0, w0⟩, turn⟩ := q D (I2.hok.fresh (Nat.le_of_eq hD))
  generalize hs3 : ({ s2 with heap := s2.heap.push { cls := .type "list", data := .seq ([] : List Value).toArray } } : Shared) = s3
  have h3 : s3.heap = s2.heap.push { cls := .type "list", data := .seq ([] : List Value).toArray } := by rw [← hs3]
  have I3 : Inv X pins σ (upd H2 D (.lst [])) s3 := by
    rw [← hs3]
    refine I2.laid (t' := s2.toks) (fun b o e => Heap.get?_push_of_some _ e) (Nat.le_of_eq hD) ⟨Nat.zero_le _, [], 0, .nil, ?_⟩
    rw [← hD]
    exact Heap.get?_push_size _ rfl
  have f3 : ∀ b ∈ fp, FpOk X pins (upd H2 D (.lst [])) b ∧ b < s3.heap.objs.size := fun b hb => by
    obtain ⟨ob, eb, _⟩ := T.obj _ _ st2 b hb
    have hlt := Heap.lt_size eb
    refine ⟨⟨?_, (f2 b hb).2⟩, by rw [h3, Heap.size_push]; exact Nat.lt_succ_of_lt hlt⟩
    rw [upd_ne (by rw [← hD]; exact Nat.ne_of_lt hlt)]
    exact (f2 b hb).1
  have st3 : tn 0 s3.heap := T.keep _ _ _ st2 fun b _ o e => by rw [h3]; exact Heap.get?_push_of_some _ e
  have P3 := I3.pin p (List.mem_append_left _ hp)
  have I4' := block_start I3 ok hN f3
  have I4 := inv_pn (p := p) I4' ⟨pushCells_keeps _ _ _ _ (Heap.get?_push_of_some _ P3.1), P3.2.1, Nat.ne_of_lt (Heap.lt_size P3.1), fun hm => (List.mem_cons.mp (I3.stkSub p.1 hm)).elim P3.2.2.1 P3.2.2.2.1, P3.2.2.2.2⟩
  have pg := hg s3 (upd H2 D (.lst [])) s3.heap.objs.size (cellsFrom (s3.heap.objs.size + 1) scope.names (cloFrom X.env.cells scope.names [])) fp
  have pt := ht s3 (upd H2 D (.lst [])) s3.heap.objs.size (cellsFrom (s3.heap.objs.size + 1) scope.names (cloFrom X.env.cells scope.names [])) fp
  have pe := he s3 (upd H2 D (.lst [])) s3.heap.objs.size (cellsFrom (s3.heap.objs.size + 1) scope.names (cloFrom X.env.cells scope.names [])) fp
  show codeAny _ _ (.compStart (.ListComp elt [⟨tg, iter, ifs, 0⟩] scope pos) 0 (.ref it) (.ref D) (compEnvC scope (cellsFrom (s3.heap.objs.size + 1) scope.names (cloFrom X.env.cells scope.names [])) s3.heap.objs.size X.env)) (compPost (model X.prog X.w) X.A X.xe none (EP X pins σ Q) (.ref D) s3.heap.objs.size) { s3 with heap := pushCells (s3.heap.push { cls := .type "dict", data := .dict #[] }) scope.names }
  have nfp : ∀ b ∈ fp, (upd H2 D (.lst [])) b = none := fun b hb => (f3 b hb).1.1
  generalize hce : compEnvC scope (cellsFrom (s3.heap.objs.size + 1) scope.names (cloFrom X.env.cells scope.names [])) s3.heap.objs.size X.env = ce at I4' I4 pg pt pe ⊢
  have cL : ce.locals = s3.heap.objs.size := by subst hce; rfl
  generalize hH3 : upd H2 D (.lst []) = H3 at I3 I4' I4 pg pt pe w0 nfp f3 P3
  generalize hs4 : ({ s3 with heap := pushCells (s3.heap.push { cls := .type "dict", data := .dict #[] }) scope.names } : Shared) = s4 at I4' I4 ⊢
  have st4 : tn 0 s4.heap := T.keep _ _ _ st3 fun b _ o e => by rw [← hs4]; exact pushCells_keeps _ _ _ _ (Heap.get?_push_of_some _ e)
  have nop : ∀ b ∈ fp, p.1 ≠ b := fun b hb => (f3 b hb).1.2.2.2.2.2 p (List.mem_append_left _ hp)
  have hotB : HotC (blkH X s3 H3 scope ce fp p) := ⟨p, hot, by simp⟩
  have stat : ∀ {σ' : L2.St} {H' : Hp} {s' : Shared}, Inv (blkH X s3 H3 scope ce fp p) [] σ' H' s' → (∀ b ∈ fp, H' b = none) → ∀ b ∈ fp, FpOk (blkH X s3 H3 scope ce fp p) [] H' b := fun {σ' H' s'} I' hn b hb =>
    ⟨hn b hb, (I'.ok.exf b hb).1, I'.ok.exfs b hb, .inl hb, fun x c e => (I'.ok.exf b hb).2 x c e, fun r hr => by
      have e : r = p := by simpa using hr
      rw [e]
      exact nop b hb⟩
  have loop : codeAny (model X.prog X.w) X.A (.compLoop (.ListComp elt [⟨tg, iter, ifs, 0⟩] scope pos) 0 (.ref it) (.ref D) ce) (compPost (model X.prog X.w) X.A X.xe none (EP X pins σ Q) (.ref D) s3.heap.objs.size) s4 := by
    refine compLoop_any (fun n s' => ∃ i H', Inv (blkH X s3 H3 scope ce fp p) [] (wipe σ (own.map (·.2))) H' s' ∧ tn i s'.heap ∧ (∀ b ∈ fp, H' b = none) ∧ W i n H') ?_ m0 ⟨0, H3, I4, st4, nfp, w0⟩
    rintro n s5 ⟨i, H5, I5, st5, n5, w5⟩
    rcases turn i n H5 w5 with ⟨stop, qq⟩ | ⟨go, Nx, hNx, step⟩
    · refine thnF (T.done (blkH X s3 H3 scope ce fp p) rfl rfl rfl hotB i [] s5 _ H5 (fun _ _ => False) I5 (stat I5 n5) st5 stop) fun r s6 ⟨hr, I6⟩ => ?_
      subst hr
      have I7 : Inv X pins σ H5 s6 := I3.call' (ch := fp) I6.os I6.base I6.hok I6.bare fun b hb => ⟨(f3 b hb).1.2.2.2.1, (f3 b hb).1.2.1, (f3 b hb).1.2.2.2.2.1, (f3 b hb).1.2.2.2.2.2⟩
      have nC : H5 s3.heap.objs.size = none := by
        have z : H5 ce.locals = none := I6.free
        rw [cL] at z
        exact z
      obtain ⟨m, hn, _⟩ := I6.loc
      have hn : s6.heap.Ns ce.locals m := hn
      rw [cL] at hn
      obtain ⟨g0, g1, g2, g3, g4, g5⟩ := I3.fpOk (Nat.le_refl _) nC
      exact ⟨m, hn, fun h'' sb => ⟨.ref D, H5, I7.turned (t' := s6.toks) (fun b o hb e => (sb.2 b hb).trans e) g0 g1 g3 g4 g5, rfl, qq⟩⟩
    · refine thnF (T.item (blkH X s3 H3 scope ce fp p) rfl rfl rfl hotB i [] s5 _ H5 (fun _ _ => False) I5 (stat I5 n5) st5 go) fun r s6 ⟨u, hr, h6⟩ => ?_
      subst hr
      refine thnF h6 fun _ s7 ⟨x, H7, I7, r7, y7, st7, n7⟩ => ?_
      have I7' := I7.pinned (stat I7 n7) (T.obj _ _ st7)
      refine thnF (pg.run _ s7 _ H7 x u _ I7' r7 (step x H7 y7)) fun _ s8 ⟨σ8, H8, I8, hw8, q8⟩ => ?_
      refine thnF (pt.run _ s8 σ8 H8 _ I8 q8) fun b s9 ⟨H9, I9, q9⟩ => ?_
      have fin : ∀ {s' : Shared} {H' : Hp}, Inv (blkH X s3 H3 scope ce fp p) ([] ++ pinsAt fp s7.heap) σ8 H' s' → Nx H' → ∃ m, m < n ∧ ∃ i H', Inv (blkH X s3 H3 scope ce fp p) [] (wipe σ (own.map (·.2))) H' s' ∧ tn i s'.heap ∧ (∀ b ∈ fp, H' b = none) ∧ W i m H' := fun {s' H'} I' nx => by
        obtain ⟨m', hm, w'⟩ := hNx H' nx
        have pin' : ∀ b ∈ fp, ∀ o, s7.heap.get? b = some o → s'.heap.get? b = some o ∧ H' b = none := fun b hb o e =>
          let z := I'.pin (b, o) (List.mem_append_right _ (List.mem_append_right _ (mem_pinsAt hb e)))
          ⟨z.1, z.2.1⟩
        have hl : (wipe σ (own.map (·.2))).length = σ8.length := by rw [← hw8, wipe_length]
        refine ⟨m', hm, i + 1, H', (I'.unpinned (pins := [])).weak hl (fun j v e => ?_), T.keep _ _ _ st7 fun b hb o e => (pin' b hb o e).1, fun b hb => ?_, w'⟩
        · rw [← hw8] at e
          exact (wipe_some e).1
        · obtain ⟨o, e, _⟩ := T.obj _ _ st7 b hb
          exact (pin' b hb o e).2
      cases b with
      | false =>
        simp only [Bool.false_eq_true, if_false] at q9 ⊢
        exact fin I9 q9
      | true =>
        simp only [if_true] at q9 ⊢
        refine thnF (pe.run _ s9 σ8 H9 _ I9 q9) fun z s10 ⟨yv, H10, I10, r10, acc, hD10, hz10, nx⟩ => ?_
        exact app_ok (X := blkH X s3 H3 scope ce fp p) I10 hD10 hz10 r10 fun s11 I11 => fin I11 nx
  exact codeAny_compStart_list loop (T.self X.A 0 _ _ _ st4 loop)
/-- [elt for tg in iter if ..] there -/
theorem pe_lcH {elt tg iter : Expr} {ifs : List Expr} {scope : Scope} {own : List (Str × Nat)} {pos : Pos} {wi : TI} {g : TG} {tt : TT} {te : TE} {p : Addr × Obj} (hot : Hot1 X.A p) (hp : p ∈ X.pn) (hN : X.N.Nodup) (hi : PIH X tg iter wi) (ok : BlkOk X.N X.env.scope scope own)
    (hg : ∀ (s : Shared) (H : Hp) (C : Addr) (cl : List (Str × Addr)) (fp : List Addr), PG (blkH X s H scope (compEnvC scope cl C X.env) fp p) tg g) (ht : ∀ (s : Shared) (H : Hp) (C : Addr) (cl : List (Str × Addr)) (fp : List Addr), PTs (blkH X s H scope (compEnvC scope cl C X.env) fp p) ifs tt)
    (he : ∀ (s : Shared) (H : Hp) (C : Addr) (cl : List (Str × Addr)) (fp : List Addr), PE (blkH X s H scope (compEnvC scope cl C X.env) fp p) elt te) (hs : ∀ x, foldedSetIterable iter X.env x = pure x := by intro _; rfl) :
    PE X (.ListComp elt [⟨tg, iter, ifs, 0⟩] scope pos) (tLc wi g tt te (own.map (·.2))) := by
  refine ⟨fun pins s σ H Q I h => ?_⟩
  rw [eval_ListComp]
  exact lc_coreH hot hp hN I hi ok hg ht he hs h
/-! ### isinstance of the handled exception; its class D, its dict dd -/
def rIsX (K : PySem.W.Frag) (D a dd : Addr) : List V → Hp → VK → Prop := fun xs H Q => ∃ (c : V) (cv : Value) (b : Bool) (fs : List (Str × V)), xs = [.ref a, c] ∧ ClsV c cv ∧ H dd = some (.xd fs) ∧ PySem.W.kitOne K (.ref D) cv = some b ∧ Q (.bl b) H
theorem is_exc (K : PySem.W.Frag) (hK : X.K = K) {a D dd : Addr} {oe : Obj} (C : ExcC K D) (hp : (a, oe) ∈ X.pn) (hz : Zc (.ref D) (some dd) oe) (hf : ∃ vs, oe.data = .fields vs) : CallR X (.builtin "isinstance") (rIsX K D a dd) := by
  subst hK
  intro pins s σ H xs us Q I r h
  obtain ⟨c, cv, b, fs, rfl, hcv, hdd, e, q⟩ := h
  cases r with
  | cons rx rr =>
    cases rr with
    | cons rt rr =>
      cases rr
      cases rx
      have ec := hcv.eq rt
      subst ec
      obtain ⟨hget, _⟩ := I.pin (a, oe) (List.mem_append.mpr (.inl hp))
      obtain ⟨vs, hv⟩ := hf
      have ox : ObjOk X.prog X.w H s.heap dd (.xd fs) := I.hok dd _ hdd
      obtain ⟨mA, hns, _⟩ := ox
      obtain ⟨od, hod, _⟩ := lookIn_ns hns
      have J : PySem.W.InstAt s.heap a oe D (some od) := ⟨hget, hz.1, by unfold PySem.W.notCls; rw [hv] <;> rfl, by rw [hz.2]; exact hod⟩
      have hcl : (PySem.W.clsIn X.K D).isSome = true := by
        obtain ⟨cd, hc, _⟩ := PySem.W.any_some C.hd
        rw [hc]
        rfl
      exact PySem.W.kia_one (PySem.W.kitx_exc hcl C.hg C.hk C.hs C.ha C.hn C.ht C.hm) I.kIn J e (fun z => nomatch z) fun tk => ⟨.bl b, H, I.kept (t' := tk) fun _ _ z => z, rfl, q⟩
end
/-! ### defs that are called there and are told of the handled exception: its address, class and dict -/
abbrev SpX := Addr → Value → Option Addr → Sp
structure FnX (P : Program) (w : World) (K : PySem.W.Frag) (mg : Str → Option Value) (base : Heap) (k : Nat) (f : Addr) (fd : FuncData) (ps : List Str) (sp : SpX) : Prop where
  len : ∀ a c d vs H Q E, sp a c d vs H Q E → vs.length = ps.length
  run : ∀ (A : Around) (outer : List Env) (s : Shared) (H : Hp) (args : Args) (us : List Value) (vs : List V) (Q : VK) (E : XK) (p : Addr × Obj) (c : Value) (d : Option Addr), RoomH k A → Hot1 A p → Zc c d p.2 → PinOk outer H s p → Env0 P w K mg base A outer s H → BindsTo s fd args (ps.zip us) → Vals vs us → sp p.1 c d vs H Q E →
    codeAny (model P w) A (.call (.ref f) args) (CR CX0 outer P w H s Q E) s
theorem fnX_of {P : Program} {w : World} {K : PySem.W.Frag} {mg : Str → Option Value} {base : Heap} {k : Nat} {f : Addr} {x qual : Str} {st : Stmt} {fd : FuncData} {N ps : List Str} {sp : SpX} (F : Fun K x qual st f fd) (S : FnScope N ps (defScope st))
    (len : ∀ a c d vs H Q E, sp a c d vs H Q E → vs.length = ps.length)
    (hbody : ∀ (cdv : Value) (A : Around) (outer : List Env) (s : Shared) (H : Hp) (vs : List V) (Q : VK) (E : XK) (p : Addr × Obj) (c : Value) (d : Option Addr), Hot1 (A.deeper (envOfC qual (defScope st) s.heap.objs.size f cdv)) p → Zc c d p.2 → RoomH k (A.deeper (envOfC qual (defScope st) s.heap.objs.size f cdv)) → sp p.1 c d vs H Q E →
      ∃ t, PSs (cxH CX0 P w K mg base N qual (defScope st) f cdv A outer s H E p) (defBody st) t ∧ t { nx := fun _ H' => Q .non H', rt := Q } (L2.start N vs) H) :
    FnX P w K mg base (k + 1) f fd ps sp := by
  obtain ⟨oc, od, kV, doc, pm, an, cdv, ct, osl, rfl, lk, hcd⟩ := F.ex
  refine ⟨len, fun A outer s H args us vs Q E p c d hr hot hz hpin e0 hb r hsp => ?_⟩
  have hl := len _ _ _ _ _ _ _ hsp
  have KX : K.In s.heap := e0.mod.kin.keeps fun b o e => (e0.bs b o e).1
  have lim : s.heap.NoLimit := e0.mod.nolimit.keeps fun b o e => (e0.bs b o e).1
  have hkind : ∀ y ∈ ps.zip us, (defScope st).names.lookup y.1 = some .local ∨ ((defScope st).names.lookup y.1 = some .cell ∧ ((cellsFrom (s.heap.objs.size + 1) (defScope st).names []).lookup y.1).isSome = true) := fun y hy =>
    (S.par y.1 (List.of_mem_zip (show (y.1, y.2) ∈ ps.zip us from hy)).1).elim .inl fun q => .inr ⟨q, PySem.W.cellsFrom_some _ _ _ (.inl q)⟩
  refine codeAny_call_function hr.depth (KX _ _ lk) rfl S.co S.gen rfl (PySem.W.codeRec_of KX hcd) (hb _ _ _ _ ?_)
  refine wpAny_newFunctionEnv_cells S.kind hkind fun env he s1 x => ?_
  subst he
  refine ⟨lim.keeps x.toInCall.keep, codeAny_func ?_⟩
  obtain ⟨t, ht, hq⟩ := hbody cdv A outer s H vs Q E p c d hot hz (hr.deeper _) hsp
  have I0 : Inv (cxH CX0 P w K mg base N qual (defScope st) f cdv A outer s H E p) [] (L2.start N vs) H s1 := inv_startH S hpin e0 hl r x
  refine wpAny_mono (ht.run [] s1 (L2.start N vs) H _ I0 hq) (fun fl s' hs => ?_) fun e s' hs => hs
  cases fl with
  | ret u =>
    obtain ⟨v, σ', H', J, rv, q⟩ := hs
    exact ⟨v, H', J.os, J.bare, J.base, J.hok, rv, q⟩
  | next =>
    obtain ⟨σ', H', J, q⟩ := hs
    exact ⟨V.non, H', J.os, J.bare, J.base, J.hok, rfl, q⟩
  | brk =>
    obtain ⟨_, _, _, q⟩ := hs
    exact False.elim q
  | cont =>
    obtain ⟨_, _, _, q⟩ := hs
    exact False.elim q
/-- f(e, ..) in an except suite -/
def tCallX (sp : SpX) (a : Addr) (c : Value) (d : Option Addr) (t : TA) : TE := fun σ H Q => t σ H fun vs H1 => sp a c d vs H1 Q E0
theorem pe_callX {X : Cx} {k : Nat} {f : Addr} {fd : FuncData} {ps : List Str} {sp : SpX} {x : Str} {q pos : Pos} {e : Expr} {es : List Expr} {t : TA} {a : Addr} {oe : Obj} {c : Value} {d : Option Addr} (F : FnX X.prog X.w X.K X.mg X.base k f fd ps sp) (hr : RoomH k X.A)
    (hot : Hot1 X.A (a, oe)) (hp : (a, oe) ∈ X.pn) (hz : Zc c d oe) (hg : Gl X x) (hm : X.mg x = some (.ref f)) (hk : PySem.W.keepIn X.K (.ref f) = true) (hb : Binds X.K fd ps [])
    (ha : PA X (e :: es) t) (hdb : (x == ("__debug__" : Str)) = false := by decide) (he : starEach (e :: es) X.env = (false, eval e X.env) :: starEach es X.env := by rfl) (hpl : (backTo pos (starEach es X.env)).any (·.1) = false := by rfl) :
    PE X (.Call (.Name x q) (e :: es) [] pos) (tCallX sp a c d t) := by
  refine ⟨fun pins s σ H Q I h => ?_⟩
  refine wpAny_Call_Name_kw (ld_glob I hg hm ?_ hdb)
  refine PySem.W.callWith_K (h₀ := X.base) I.ok.mod.kin hk (thn (ha.run pos pins s σ H _ I h) fun us s1 ⟨vs, H1, I1, r, hsp⟩ => ⟨I1.kIn, ?_⟩) he hpl
  have hl : us.length = ps.length := by rw [← r.length]; exact F.len _ _ _ _ _ _ _ hsp
  have b := hb s1 us I1.kIn (by rw [List.append_nil]; exact hl)
  rw [List.append_nil] at b
  have P1 := I1.pin (a, oe) (List.mem_append_left _ hp)
  have hpin : PinOk X.stack H1 s1 (a, oe) := ⟨P1.1, P1.2.1, fun hm => (List.mem_cons.mp (I1.stkSub a hm)).elim P1.2.2.1 P1.2.2.2.1, P1.2.2.2.2⟩
  refine wpAny_call (codeAny_mono (F.run X.A X.stack s1 H1 ⟨us, []⟩ us vs Q E0 (a, oe) c d hr hot hz hpin I1.env0 b r hsp) fun r s' hq => ?_)
  cases r with
  | error e => exact False.elim hq
  | ok fl =>
    cases fl with
    | ret u => exact I1.after hq
    | next => exact False.elim hq
    | brk => exact False.elim hq
    | cont => exact False.elim hq
/-! ### an own exception class with its __init__, raised where nothing is handled -/
theorem pmkN {X : Cx} {CX : CXT} {x : Str} {e : Expr} {es : List Expr} {ta : TA} {p pos : Pos} {C fI : Addr} {k : Nat} {fd : FuncData} {ps : List Str} {sp : Sp} (T : OexC X.K C) (iC : PySem.W.findIn X.K (.ref C) "__init__" = some (some (.ref fI))) (tI : PySem.W.typeIn X.K (.ref fI) = some (.type "function"))
    (F1 : FnOk X.prog X.w X.K X.mg X.base CX k fI fd ps sp) (hr : Room (k + 1) X.A) (hb : Binds X.K fd ps []) (hx : Passes CX X (fun _ _ _ => False)) (hg : Gl X x) (hm : X.mg x = some (.ref C)) (ha : PA X (e :: es) ta)
    (hdb : (x == ("__debug__" : Str)) = false := by decide) (he : starEach (e :: es) X.env = (false, eval e X.env) :: starEach es X.env := by rfl) (hpl : (backTo pos (starEach es X.env)).any (·.1) = false := by rfl) :
    L2N.PMk X (.Call (.Name x p) (e :: es) [] pos) (tMkO C sp [] ta) := by
  intro pins s σ H Q I h
  obtain ⟨nm, qn, N, bs, bm, sn, sub, ab, col, dd, k0, k1, k2, k3, k5, hC, hbm⟩ := T.cls
  refine wpAny_Call_Name_kw (ld_glob I hg hm ?_ hdb)
  refine PySem.W.callWith_K (h₀ := X.base) I.ok.mod.kin T.kC (thn (ha.run pos pins s σ H _ I h) fun us s1 ⟨vs, H1, I1, r1, hz, q1⟩ => ⟨I1.kIn, ?_⟩) he hpl
  show wpAny _ _ (call (.ref C) us) _ _ _
  obtain ⟨hp, g, dr, tk, os⟩ := s1
  have hsz : hp.objs.size ≤ hp.objs.size + 1 := Nat.le_succ _
  have hq := q1 (hp.objs.size + 1) (I1.hok.fresh hsz)
  rw [List.append_nil] at hq
  generalize hG : (hp.push (PySem.W.kdv_tup us)).push (PySem.HandSPX.excO C hp.objs.size) = G
  have kk : ∀ b o, hp.get? b = some o → G.get? b = some o := fun b o e => by rw [← hG]; exact Heap.get?_push_of_some _ (Heap.get?_push_of_some _ e)
  have hget : G.get? (hp.objs.size + 1) = some (PySem.HandSPX.excO C hp.objs.size) := by rw [← hG]; heap_get
  have I2 : Inv X pins σ (upd H1 (hp.objs.size + 1) (exo (hp.objs.size + 1) C none)) ⟨G, g, dr, tk, os⟩ :=
    I1.laid (t' := tk) (a := hp.objs.size + 1) (o := exo (hp.objs.size + 1) C none) (h' := G) kk hsz (exo_ok hget)
  have r2 : Vals (V.ref (hp.objs.size + 1) :: vs) (Value.ref (hp.objs.size + 1) :: us) := .cons rfl r1
  have hl : (Value.ref (hp.objs.size + 1) :: us).length = ps.length := r2.length.symm.trans (F1.len _ _ _ _ hq)
  have hus : us.length ≤ sizeLine := by
    rw [← Paired.length r1]
    exact Nat.le_trans hz (by decide)
  have bb := hb ⟨G, g, dr, tk, os⟩ (Value.ref (hp.objs.size + 1) :: us) I2.kIn (by rw [List.append_nil]; exact hl)
  rw [List.append_nil] at bb
  refine wpAny_call (PySem.HandSPX.call_own F.excBase_ValueError (fun Y => PySem.HandSPX.refsVE_contains Y bm hbm) (I1.kIn _ _ hC) (PySem.W.looks_findIn I1.kIn iC) (fun self => PySem.W.bind_fn I1.kIn self tI) hus ?_)
  rw [hG]
  refine codeAny_mono (F1.run _ X.stack _ _ ⟨Value.ref (hp.objs.size + 1) :: us, []⟩ (Value.ref (hp.objs.size + 1) :: us) _ _ (fun _ _ _ => False) (hr.make C us []) (I2.env0.make C us []) bb r2 hq) fun r s' hq' => ?_
  cases r with
  | error er => exact hx pins σ _ _ er s' I2 hq'
  | ok fl =>
    cases fl with
    | ret u =>
      obtain ⟨v, H2, os2, bare2, un2, hok2, rv, ev, d, fs, ea, ed, hd1, q2⟩ := hq'
      subst ev
      obtain ⟨h2, g2, d2, t2, os'⟩ := s'
      obtain ⟨t0, G2, J, kG, ge, hoe, na⟩ := mk_end0 (d2 := d2) (t2 := t2) I1 hsz kk un2 hok2 os2 bare2 ea ed hd1
      exact ⟨rv, ⟨_, _, _, ⟨G2, g2, d2, t2, os'⟩, _, .ref C, some d, rfl, J, kG, ge, hoe, ⟨rfl, rfl, fun vs e => by cases e; rfl⟩, rfl, rfl, na, rfl, bare2, raises_own T.exC T.tyC, q2⟩⟩
    | next => exact False.elim hq'
    | brk => exact False.elim hq'
    | cont => exact False.elim hq'
end KH

/-! ## defs that raise the program's own errors; the errors' classes -/
namespace KW
open PySem PySem.Spec PyProof.Rows L2
/-- a def, a method that may raise -/
structure RCal (P : Program) (w : World) (K : PySem.W.Frag) (mg : Str → Option Value) (base : Heap) (k : Nat) (x : Str) (sp : Sp) : Prop where
  ex : ∃ f fd ps, FnOk P w K mg base (L2N.CX P w) k f fd ps sp ∧ mg x = some (.ref f) ∧ PySem.W.keepIn K (.ref f) = true ∧ Binds K fd ps []
structure RMet (P : Program) (w : World) (K : PySem.W.Frag) (mg : Str → Option Value) (base : Heap) (k : Nat) (C : Addr) (m : Str) (sp : Sp) : Prop where
  ex : ∃ f fd ps, Cls K C ∧ Meth K C m f ∧ FnOk P w K mg base (L2N.CX P w) k f fd ps sp ∧ Binds K fd ps []
section
variable {P : Program} {w : World} {K : PySem.W.Frag} {mg : Str → Option Value} {base : Heap}
theorem rcalMono {j k : Nat} {x : Str} {sp : Sp} (c : RCal P w K mg base j x sp) (h : j ≤ k) : RCal P w K mg base k x sp := by
  obtain ⟨f, fd, ps, F, r⟩ := c.ex
  exact ⟨f, fd, ps, F.mono h, r⟩
theorem rmetMono {j k : Nat} {C : Addr} {x : Str} {sp : Sp} (c : RMet P w K mg base j C x sp) (h : j ≤ k) : RMet P w K mg base k C x sp := by
  obtain ⟨f, fd, ps, c1, m, F, r⟩ := c.ex
  exact ⟨f, fd, ps, c1, m, F.mono h, r⟩
theorem Df.rcal {x : Str} {st : Stmt} {N ps : List Str} {k : Nat} {sp : Sp} (F : Df K mg x st ps) (S : FnScope N ps (defScope st)) (len : ∀ vs H Q E, sp vs H Q E → vs.length = ps.length)
    (hbody : ∀ (f : Addr) (cdv : Value) (A : Around) (outer : List Env) (s : Shared) (H : Hp) (vs : List V) (Q : VK) (E : XK), Room k (A.deeper (envOfC x (defScope st) s.heap.objs.size f cdv)) → sp vs H Q E →
      ∃ t, PSs (cxOf (L2N.CX P w) P w K mg base N x (defScope st) f cdv A outer s H E) (defBody st) t ∧ t { nx := fun _ H' => Q .non H', rt := Q } (start N vs) H) : RCal P w K mg base (k + 1) x sp := by
  obtain ⟨f, fd, F, hm, kp, b⟩ := F.ex
  obtain ⟨oc, od, kV, doc, pm, an, cdv, ct, osl, rfl, lk, hcd⟩ := F.ex
  exact ⟨f, _, ps, fn_of lk hcd S len fun A outer s H vs Q E hr hsp => hbody f cdv A outer s H vs Q E hr hsp, hm, kp, b⟩
theorem Dm.rmet {C : Addr} {m qual : Str} {st : Stmt} {N ps : List Str} {k : Nat} {sp : Sp} (F : Dm K C m qual st ps) (S : FnScope N ps (defScope st)) (len : ∀ vs H Q E, sp vs H Q E → vs.length = ps.length)
    (hbody : ∀ (f : Addr) (cdv : Value) (A : Around) (outer : List Env) (s : Shared) (H : Hp) (vs : List V) (Q : VK) (E : XK), Room k (A.deeper (envOfC qual (defScope st) s.heap.objs.size f cdv)) → sp vs H Q E →
      ∃ t, PSs (cxOf (L2N.CX P w) P w K mg base N qual (defScope st) f cdv A outer s H E) (defBody st) t ∧ t { nx := fun _ H' => Q .non H', rt := Q } (start N vs) H) : RMet P w K mg base (k + 1) C m sp := by
  obtain ⟨f, fd, c, me, F, b⟩ := F.ex
  obtain ⟨oc, od, kV, doc, pm, an, cdv, ct, osl, rfl, lk, hcd⟩ := F.ex
  exact ⟨f, _, ps, c, me, fn_of lk hcd S len fun A outer s H vs Q E hr hsp => hbody f cdv A outer s H vs Q E hr hsp, b⟩
theorem Dm.rnever {C : Addr} {m qual : Str} {st : Stmt} {ps : List Str} {sp : Sp} (F : Dm K C m qual st ps) (h : ∀ vs H Q E, ¬ sp vs H Q E) : RMet P w K mg base 0 C m sp := by
  obtain ⟨f, fd, c, me, F, b⟩ := F.ex
  exact ⟨f, fd, ps, c, me, ⟨fun vs H Q E q => (h _ _ _ _ q).elim, fun A outer s H args us vs Q E hr he hb hv hs => (h _ _ _ _ hs).elim⟩, b⟩
end
section
variable {X : Cx}
/-- what a callee raises leaves this def -/
theorem psx {E : XK} {E1 : Value → Shared → Prop} (hs : X.stack = X.env :: X.outer) (hf : X.env.frame = some X.env.locals) (hex : X.ex = [])
    (hx : X.xe = fun e s' => wpAny (model X.prog X.w) X.A (leaving X.env e) (fun _ s'' => L2N.CX X.prog X.w X.outer X.H_0 X.s_0 E e s'') E1 s') : Passes (L2N.CX X.prog X.w) X E :=
  L2N.passes_call (L2N.takes_of hs hf hex hx) fun _ _ _ _ h => h
/-- a callee that is shown not to raise -/
theorem psx0 : Passes (L2N.CX X.prog X.w) X E0 := fun _ _ _ _ _ _ _ h => by
  obtain ⟨_, _, _, _, _, _, _, _, _, _, _, _, z⟩ := h
  exact z.elim
theorem kr_c {k j : Nat} {x : Str} {sp : Sp} {E : XK} {p pos : Pos} {e : Expr} {es : List Expr} {t : TA} (c : RCal X.prog X.w X.K X.mg X.base k x sp) (hr : Room j X.A) (hk : k ≤ j) (hg : Gl X x) (hx : Passes (L2N.CX X.prog X.w) X E) (ha : PA X (e :: es) t)
    (hdb : (x == ("__debug__" : Str)) = false := by decide) (he : starEach (e :: es) X.env = (false, eval e X.env) :: starEach es X.env := by rfl) (hpl : (backTo pos (starEach es X.env)).any (·.1) = false := by rfl) :
    PE X (.Call (.Name x p) (e :: es) [] pos) (tCall sp [] E t) := by
  obtain ⟨f, fd, ps, F, hm, kp, b⟩ := c.ex
  exact pe_call F (hr.mono hk) hg hm kp b .nil hx ha hdb he hpl
theorem kr_m {k j : Nat} {C : Addr} {m : Str} {sp : Sp} {E : XK} {apos pos : Pos} {o e : Expr} {es : List Expr} {ta : TE} {t : TA} {pl : Sem Bool} (c : RMet X.prog X.w X.K X.mg X.base k C m sp) (hr : Room j X.A) (hk : k ≤ j) (hx : Passes (L2N.CX X.prog X.w) X E) (he : PE X o ta) (ha : PA X (e :: es) t)
    (hst : starEach (e :: es) X.env = (false, eval e X.env) :: starEach es X.env := by rfl) (hpl : (backTo pos (starEach es X.env)).any (·.1) = false := by rfl)
    (ht : eval (.Call (.Attribute o m apos) (e :: es) [] pos) X.env = (do
      let ov ← eval o X.env
      standAt apos.atName
      let (f, first) ← holding [ov] (getMethod ov m pl)
      callWith pos f first (backTo pos (starEach (e :: es) X.env)) (backToKw pos (keywordEach [] X.env))) := by rfl) :
    PE X (.Call (.Attribute o m apos) (e :: es) [] pos) (tMeth C m sp [] E ta t) := by
  obtain ⟨f, fd, ps, hc, hm, F, b⟩ := c.ex
  exact pe_meth (pl := pl) he hc hm F (hr.mono hk) b .nil hx ha hst hpl ht
end
/-- an error's __init__: self.f = v -/
def spErr (C : Addr) (f : Str) : Sp := fun vs H Q _ => ∃ (a : Addr) (v : V), vs = [.ref a, v] ∧ H a = some (exo a C none) ∧ ∀ dx, H dx = none → dx ≠ a → Q .non (upd (upd H dx (exd dx [(f, v)])) a (exo a C (some dx)))
/-- what the top says of an error's class, f its one attribute -/
structure ErC (K : PySem.W.Frag) (mg : Str → Option Value) (name : Str) (f : Str) (C : Addr) : Prop where
  oex : OexC K C
  exc : ExcC K C
  no : PySem.W.findIn K (.ref C) f = some none
  mgC : mg name = some (.ref C)
theorem ErC.xf {K : PySem.W.Frag} {mg : Str → Option Value} {name f : Str} {C : Addr} (T : ErC K mg name f C) : XfC K C := ⟨T.exc.hg, T.exc.hk, T.exc.hs, T.exc.hd⟩
/-- its __init__, walked -/
structure ErI (P : Program) (w : World) (K : PySem.W.Frag) (mg : Str → Option Value) (base : Heap) (f : Str) (C : Addr) : Prop where
  ex : ∃ fI fd ps, PySem.W.findIn K (.ref C) "__init__" = some (some (.ref fI)) ∧ PySem.W.typeIn K (.ref fI) = some (.type "function") ∧ FnOk P w K mg base CX0 1 fI fd ps (spErr C f) ∧ Binds K fd ps []
/-- raise C(e): e's value v, then for every new d the way out -/
def RaiseOk (C : Addr) (f : Str) (W : XK) (v : V) (H1 : Hp) : Prop :=
  [v].length ≤ 1000 ∧ ∀ a, H1 a = none → spErr C f (.ref a :: ([v] ++ [])) (upd H1 a (exo a C none))
    (fun u H2 => u = .non ∧ ∃ (d : Addr) (fs : List (Str × V)), H2 a = some (exo a C (some d)) ∧ H2 d = some (exd d fs) ∧ H1 d = none ∧ W (.ref C) (some d) (upd (L2.del H2 a) d (.xd fs))) (fun _ _ _ => False)
theorem raiseOk {C : Addr} {f : Str} {W : XK} {v : V} {H1 : Hp} (h : ∀ d, H1 d = none → W (.ref C) (some d) (upd H1 d (.xd [(f, v)]))) : RaiseOk C f W v H1 := by
  refine ⟨by show 1 ≤ 1000; decide, fun a ha => ⟨a, v, rfl, upd_same, fun dx hdx hne => ⟨rfl, dx, [(f, v)], upd_same, by rw [upd_ne hne, upd_same], ?_, ?_⟩⟩⟩
  · rw [upd_ne hne] at hdx
    exact hdx
  · have hd1 : H1 dx = none := by
      rw [upd_ne hne] at hdx
      exact hdx
    have e : upd (L2.del (upd (upd (upd H1 a (exo a C none)) dx (exd dx [(f, v)])) a (exo a C (some dx))) a) dx (.xd [(f, v)]) = upd H1 dx (.xd [(f, v)]) := by
      funext b
      by_cases h1 : b = dx
      · rw [h1, upd_same, upd_same]
      · rw [upd_ne h1, upd_ne h1]
        by_cases h2 : b = a
        · rw [h2, L2.del_same, ha]
        · rw [L2.del_ne h2, upd_ne h2, upd_ne h1, upd_ne h2]
    rw [e]
    exact h dx hd1
def tRaiseE (C : Addr) (f : Str) (W : L2.St → XK) (te : TE) : TS := fun _ σ H => te σ H fun v H1 => RaiseOk C f (W σ) v H1
theorem kr_raise {X : Cx} {W : WX} {C : Addr} {f x : Str} {k : Nat} {p pos pos' : Pos} {e : Expr} {te : TE} (T : ErC X.K X.mg x f C) (I : ErI X.prog X.w X.K X.mg X.base f C) (hr : Room (k + 2) X.A) (hc : X.calm = true) (tk : L2N.Takes X W) (hg : Gl X x) (he : PE X e te)
    (hdb : (x == ("__debug__" : Str)) = false := by decide) (hs : starEach [e] X.env = (false, eval e X.env) :: starEach [] X.env := by rfl) (hpl : (backTo pos (starEach [] X.env)).any (·.1) = false := by rfl) :
    PS X (.Raise (some (.Call (.Name x p) [e] [] pos)) none pos') (tRaiseE C f (fun σ cls d H => W cls d σ H) te) := by
  obtain ⟨fI, fd, ps, iC, tI, F, b⟩ := I.ex
  exact L2N.ps_raise hc tk (KH.pmkN T.oex iC tI F (hr.mono (by omega)) b pass0 hg T.mgC (pa_cons he pa_nil hs) hdb hs hpl)
end KW

/-! ## how a tree is read, line by line: the plain part -/
namespace KW
open PySem PySem.Spec PyProof.Rows L2
/-- a side's text -/
def isSd (l : List Nat) : Bool := !(l == []) && !(l.contains 60) && !(l.contains 61) && decide (l.head? ≠ some 32) && decide (l.getLast? ≠ some 32)
inductive Rd1 where
  | bad (n : Nat)
  | ok (x : List Nat)
/-- the line i, behind a -/
def rdLine (ls : List (List Nat)) (i : Nat) (a : List Nat) : Rd1 :=
  match ls[i]? with
  | none => .bad ls.length
  | some x => if TL.pre a x then .ok (x.drop a.length) else .bad i
inductive RdT where
  | bad (n : Nat)
  | tree (t : Tr) (n : Nat)
/-- the two sides of a first line -/
def sides (x : List Nat) : Option (List Nat × List Nat) :=
  match TL.spl leq 0 [] x with
  | [l, r] => if isSd l && isSd r then some (l, r) else none
  | _ => none
def rdTree (ls : List (List Nat)) : Nat → Nat → List Nat → RdT
  | 0, _, _ => .bad 0
  | n + 1, i, a =>
    match rdLine ls i a with
    | .bad k => .bad k
    | .ok x =>
      if x = so then .tree .leaf (i + 1)
      else match sides x with
        | none => .bad i
        | some (l, r) =>
          match rdTree ls n (i + 1) (a ++ two) with
          | .bad k => .bad k
          | .tree t1 j =>
            match rdLine ls j a with
            | .bad k => .bad k
            | .ok y =>
              if y = (r ++ slt) ++ l then
                match rdTree ls n (j + 1) (a ++ two) with
                | .bad k => .bad k
                | .tree t2 m => .tree (.node l r t1 t2) m
              else .bad j
theorem rdLine_lt {ls : List (List Nat)} {i : Nat} {a x : List Nat} (h : rdLine ls i a = .ok x) : i < ls.length ∧ ls[i]? = some (a ++ x) := by
  unfold rdLine at h
  cases e : ls[i]? with
  | none => rw [e] at h; cases h
  | some y =>
    rw [e] at h
    have hi := (List.getElem?_eq_some_iff.mp e).1
    dsimp only at h
    split at h
    · rename_i hp
      cases h
      refine ⟨hi, congrArg some ?_⟩
      have hp' := eq_of_beq (show (List.take a.length y == a) = true from hp)
      have e2 := List.take_append_drop a.length y
      rw [hp'] at e2
      exact e2.symm
    · cases h
/-- what was read ends within the lines, behind where it began -/
theorem rdTree_at {ls : List (List Nat)} : ∀ (n i : Nat) (a : List Nat) (t : Tr) (m : Nat), rdTree ls n i a = .tree t m → i < m ∧ m ≤ ls.length
  | 0, _, _, _, _, h => by cases h
  | n + 1, i, a, t, m, h => by
    unfold rdTree at h
    split at h
    · cases h
    · rename_i x hx
      have hlt := (rdLine_lt hx).1
      split at h
      · cases h
        omega
      · split at h
        · cases h
        · split at h
          · cases h
          · rename_i t1 j h1
            have i1 := rdTree_at n _ _ _ _ h1
            split at h
            · cases h
            · split at h
              · split at h
                · cases h
                · rename_i t2 m2 h2
                  have i2 := rdTree_at n _ _ _ _ h2
                  cases h
                  omega
              · cases h
/-- what was cut joins again -/
theorem spl_joins {S : List Nat} (hS : S ≠ []) : ∀ (n : Nat) (acc y : List Nat), y.length ≤ n → TL.joinL S (TL.spl S 0 acc y) = acc ++ y
  | _, acc, [], _ => by
    rw [TL.spl_nil, List.append_nil]
    rfl
  | 0, _, _ :: _, h => absurd h (by simp)
  | n + 1, acc, c :: r, h => by
    have hr : r.length ≤ n := by simpa using h
    cases hp : TL.pre S (c :: r) with
    | false =>
      rw [TL.spl_miss hp, spl_joins hS n (acc ++ [c]) r hr]
      simp
    | true =>
      rw [TL.spl_hit hp, TL.spl_pass]
      have ih := spl_joins hS n [] (r.drop (S.length - 1)) (by rw [List.length_drop]; omega)
      have hne : TL.spl S 0 [] (r.drop (S.length - 1)) ≠ [] := spl_ne _ _ _ _
      have e1 : List.take S.length (c :: r) = S := eq_of_beq hp
      have e2 : List.drop S.length (c :: r) = r.drop (S.length - 1) := by
        cases S with
        | nil => exact absurd rfl hS
        | cons s S' => rfl
      have e3 := List.take_append_drop S.length (c :: r)
      rw [e1, e2] at e3
      cases hq : TL.spl S 0 [] (r.drop (S.length - 1)) with
      | nil => exact absurd hq hne
      | cons q qs =>
        rw [hq] at ih
        show acc ++ (S ++ TL.joinL S (q :: qs)) = _
        rw [ih, List.nil_append, e3]
where spl_ne : ∀ (S : List Nat) (k : Nat) (acc l : List Nat), TL.spl S k acc l ≠ []
  | S, k, acc, [] => by rw [TL.spl_nil]; simp
  | S, 0, acc, c :: r => by
    cases hp : TL.pre S (c :: r) with
    | false => rw [TL.spl_miss hp]; exact spl_ne S 0 _ r
    | true => rw [TL.spl_hit hp]; simp
  | S, k + 1, acc, c :: r => spl_ne S k acc r
theorem spl_two {x l r : List Nat} (h : TL.spl leq 0 [] x = [l, r]) : x = l ++ leq ++ r := by
  have e := spl_joins (S := leq) (by decide) x.length [] x (Nat.le_refl _)
  rw [h] at e
  have e2 : l ++ (leq ++ r) = [] ++ x := e
  rw [List.nil_append] at e2
  rw [← e2, List.append_assoc]
theorem sides_eq {x l r : List Nat} (h : sides x = some (l, r)) : x = l ++ leq ++ r ∧ isSd l = true ∧ isSd r = true := by
  unfold sides at h
  split at h
  · rename_i l' r' e
    split at h
    · rename_i hs
      cases h
      rw [Bool.and_eq_true] at hs
      exact ⟨spl_two e, hs.1, hs.2⟩
    · cases h
  · cases h
theorem rdTree_lines {ls : List (List Nat)} : ∀ (n i : Nat) (a : List Nat) (t : Tr) (m : Nat), rdTree ls n i a = .tree t m → m = i + t.lines.length ∧ ∀ j, j < t.lines.length → ls[i + j]? = (t.lines[j]?).map (a ++ ·)
  | 0, _, _, _, _, h => by cases h
  | n + 1, i, a, t, m, h => by
    unfold rdTree at h
    split at h
    · cases h
    · rename_i x hx
      have hlt := (rdLine_lt hx).2
      split at h
      · rename_i ex
        cases h
        refine ⟨rfl, fun j hj => ?_⟩
        have e : j = 0 := by
          simp [Tr.lines] at hj
          exact hj
        subst e
        rw [Nat.add_zero, hlt, ex]
        rfl
      · split at h
        · cases h
        · rename_i l r hs
          obtain ⟨ex, _, _⟩ := sides_eq hs
          split at h
          · cases h
          · rename_i t1 j h1
            obtain ⟨e1, i1⟩ := rdTree_lines n _ _ _ _ h1
            split at h
            · cases h
            · rename_i y hy
              have hy2 := (rdLine_lt hy).2
              split at h
              · rename_i ey
                split at h
                · cases h
                · rename_i t2 m2 h2
                  obtain ⟨e2, i2⟩ := rdTree_lines n _ _ _ _ h2
                  cases h
                  have hl : (Tr.node l r t1 t2).lines.length = 1 + t1.lines.length + 1 + t2.lines.length := by
                    simp only [Tr.lines, List.length_append, List.length_map, List.length_cons, List.length_nil]
                  refine ⟨by omega, fun q hq => ?_⟩
                  have hlines : (Tr.node l r t1 t2).lines = (l ++ leq ++ r) :: (t1.lines.map (two ++ ·) ++ ((r ++ slt ++ l) :: t2.lines.map (two ++ ·))) := by
                    simp only [Tr.lines, List.append_assoc, List.cons_append, List.nil_append]
                  rw [hlines]
                  cases q with
                  | zero =>
                    rw [Nat.add_zero, hlt, ex]
                    rfl
                  | succ q =>
                    rw [List.getElem?_cons_succ]
                    by_cases c1 : q < t1.lines.length
                    · rw [List.getElem?_append_left (by rw [List.length_map]; exact c1), List.getElem?_map, show i + (q + 1) = i + 1 + q by omega, i1 q c1]
                      cases t1.lines[q]? with
                      | none => rfl
                      | some z => simp
                    · rw [List.getElem?_append_right (by rw [List.length_map]; omega), List.length_map]
                      by_cases c2 : q = t1.lines.length
                      · subst c2
                        rw [Nat.sub_self, show i + (t1.lines.length + 1) = j by omega, hy2, ey]
                        rfl
                      · obtain ⟨r', hr'⟩ : ∃ r', q = t1.lines.length + 1 + r' := ⟨q - (t1.lines.length + 1), by omega⟩
                        subst hr'
                        rw [show t1.lines.length + 1 + r' - t1.lines.length = r' + 1 by omega, List.getElem?_cons_succ, List.getElem?_map, show i + (t1.lines.length + 1 + r' + 1) = j + 1 + r' by omega, i2 r' (by omega)]
                        cases t2.lines[r']? with
                        | none => rfl
                        | some z => simp
              · cases h
/-- the whole text read is the tree's text -/
theorem rd_whole {ls : List (List Nat)} {n : Nat} {t : Tr} (h : rdTree ls n 0 [] = .tree t ls.length) : t.lines = ls := by
  obtain ⟨e, i⟩ := rdTree_lines n 0 [] t _ h
  rw [Nat.zero_add] at e
  refine List.ext_getElem? fun j => ?_
  by_cases hj : j < t.lines.length
  · have := i j hj
    rw [Nat.zero_add] at this
    rw [this]
    cases t.lines[j]? with
    | none => rfl
    | some z => rfl
  · rw [List.getElem?_eq_none (by omega), List.getElem?_eq_none (by omega)]
end KW

/-! ## trees read from any text: the error's class, the reader -/
namespace KW
open PySem PySem.Spec PyProof.Rows L2
/-- a reader's attributes -/
def tf (L : Addr) (i : Int) : List (Str × V) := [("lines", .ref L), ("at", .int i)]
theorem ne_la : ¬ (("lines" : Str) = "at") := by decide +kernel
theorem tf_lines (L : Addr) (i : Int) : (tf L i).lookup ("lines" : Str) = some (.ref L) := rfl
theorem tf_at (L : Addr) (i : Int) : (tf L i).lookup ("at" : Str) = some (.int i) := by
  have h : (("at" : Str) == ("lines" : Str)) = false := by decide +kernel
  simp only [tf, List.lookup, h]
  rfl
theorem tf_put (L : Addr) (i j : Int) : putF "at" (.int j) (tf L i) = tf L j := by
  show (if ("lines" : Str) = "at" then _ else (("lines" : Str), V.ref L) :: (if ("at" : Str) = "at" then _ else _)) = _
  rw [if_neg ne_la, if_pos rfl]
  rfl
theorem tf_mk (L : Addr) (i : Int) : putF "at" (.int i) (putF "lines" (.ref L) []) = tf L i := by
  show (if ("lines" : Str) = "at" then _ else (("lines" : Str), V.ref L) :: putF "at" (.int i) []) = _
  rw [if_neg ne_la]
  rfl
theorem tf_no (L : Addr) (i : Int) {m : Str} (h1 : (m == ("lines" : Str)) = false) (h2 : (m == ("at" : Str)) = false) : (tf L i).lookup m = none := by
  simp only [tf, List.lookup, h1, h2]
theorem starts_pre (y a : List Nat) : Txt.startswith (S y) (S a) = TL.pre a y := by
  unfold Txt.startswith
  rw [StrLaws.subAt_eq, slen, slen, List.drop_zero]
  show (decide (0 + a.length ≤ y.length) && (List.take a.length y == a)) = (List.take a.length y == a)
  cases e : (List.take a.length y == a) with
  | false => rw [Bool.and_false]
  | true =>
    have e' := eq_of_beq e
    have hl : (List.take a.length y).length = a.length := congrArg List.length e'
    rw [List.length_take] at hl
    rw [Bool.and_true]
    exact decide_eq_true (by omega)
section
variable {P : Program} {w : World} {K : PySem.W.Frag} {mg : Str → Option Value} {base : Heap}
/-! ### InvalidText -/
abbrev s_InvalidText___init__ : Stmt := inClass (topS 6) 0
theorem sc_InvalidText___init__ : FnScope ["self", "at"] ["self", "at"] (defScope s_InvalidText___init__) := ⟨rfl, rfl, rfl, by decide +kernel, rfl, by decide +kernel, by decide +kernel⟩
theorem ok_InvalidText {C fI : Addr} {fd : FuncData} (T : ErC K mg "InvalidText" "at" C) (iC : PySem.W.findIn K (.ref C) "__init__" = some (some (.ref fI))) (tI : PySem.W.typeIn K (.ref fI) = some (.type "function"))
    (F : Fun K "__init__" "InvalidText.__init__" s_InvalidText___init__ fI fd) (b : Binds K fd ["self", "at"] []) : ErI P w K mg base "at" C := by
  refine ⟨fI, fd, ["self", "at"], iC, tI, ?_, b⟩
  refine F.ok sc_InvalidText___init__ (fun vs H Q E h => ?_) (fun cdv A outer s H vs Q E hr h => ?_)
  · obtain ⟨a, v, rfl, _⟩ := h
    rfl
  · obtain ⟨a, v, rfl, ha, q⟩ := h
    refine ⟨_, pss_one (ps_ost (pv 0) (pv 1)), ?_⟩
    exact ⟨_, rfl, _, rfl, a, C, rfl, T.oex, T.no, .inl ⟨ha, q⟩⟩
/-! ### is_side -/
abbrev s_is_side : Stmt := topS 17
theorem sc_is_side : FnScope ["text"] ["text"] (defScope s_is_side) := ⟨rfl, rfl, rfl, by decide +kernel, rfl, by decide +kernel, by decide +kernel⟩
def spSideR : Sp := fun vs H Q _ => ∃ l : List Nat, vs = [.str (S l)] ∧ l.length ≤ 1000000 ∧ Q (.bl (isSd l)) H
theorem ok_is_side {k : Nat} (F : Df K mg "is_side" s_is_side ["text"]) : C8.Cal P w K mg base (k + 1) "is_side" spSideR [] := by
  refine F.cal sc_is_side (fun vs H Q E h => ?_) (fun f cdv A outer s H vs Q E hr h => ?_)
  · obtain ⟨l, rfl, _⟩ := h
    rfl
  · obtain ⟨l, rfl, hlen, q⟩ := h
    refine ⟨_, (pss_cons (ps_if (PW.pt (pw_or (pt_cmpR op_eq (pv 0) pe_str (nomark _)) (pw_or (pt_cmpR op_in_sign pe_str (pv 0) rfl) (pw_or1 (pt_cmpR op_in_sign pe_str (pv 0) rfl))))) (pss_one (ps_ret pe_bl)) pss_nil)
      (pss_one (ps_ret (pe_and (pe_cmpR op_ne (pe_ix ix_str (pv 0) pe_int (fun _ _ => rfl)) pe_str (nomark _)) (pe_one (pe_cmpR op_ne (pe_ix ix_str (pv 0) (pe_un un_neg pe_int) (fun _ _ => rfl)) pe_str (nomark _))))))), ?_⟩
    cases l with
    | nil =>
      refine ⟨_, rfl, rfl, _, rfl, ?_⟩
      rw [decide_eq_true (show V.str (S []) = V.str (Str.ofString "") by rw [nil_eq])]
      exact iteT (iteT q)
    | cons c t =>
      have d1 : decide (V.str (S (c :: t)) = V.str (Str.ofString "")) = false := decide_eq_false fun e => by
        have e1 : S (c :: t) = S [] := (V.str.inj e).trans nil_eq
        cases SX.S_inj e1
      have big : (S (c :: t)).length ≤ sizeLine := Nat.le_trans (by rw [slen]; exact hlen) (show 1000000 ≤ sizeLine by decide)
      refine ⟨_, rfl, rfl, _, rfl, ?_⟩
      rw [d1]
      refine iteF ⟨_, rfl, 60, S (c :: t), rfl, rfl, _, rfl, ?_⟩
      by_cases h60 : 60 ∈ c :: t
      · rw [show decide (60 ∈ (S (c :: t)).cps.toList) = true from decide_eq_true h60]
        have e : isSd (c :: t) = false := by
          unfold isSd
          rw [show (c :: t).contains 60 = true by simpa using h60]
          simp
        rw [e] at q
        exact iteT (iteT q)
      rw [show decide (60 ∈ (S (c :: t)).cps.toList) = false from decide_eq_false h60]
      refine iteF ⟨_, rfl, 61, S (c :: t), rfl, rfl, _, rfl, ?_⟩
      by_cases h61 : 61 ∈ c :: t
      · rw [show decide (61 ∈ (S (c :: t)).cps.toList) = true from decide_eq_true h61]
        have e : isSd (c :: t) = false := by
          unfold isSd
          rw [show (c :: t).contains 61 = true by simpa using h61]
          simp
        rw [e] at q
        exact iteT q
      rw [show decide (61 ∈ (S (c :: t)).cps.toList) = false from decide_eq_false h61]
      refine iteF ?_
      obtain ⟨b, z, hb⟩ : ∃ (b : List Nat) (z : Nat), c :: t = b ++ [z] := ⟨(c :: t).dropLast, (c :: t).getLast (List.cons_ne_nil _ _), (List.dropLast_concat_getLast _).symm⟩
      have hla : (c :: t).getLast? = some z := by rw [hb]; simp
      have e0 : isSd (c :: t) = (!decide (c = 32) && !decide (z = 32)) := by
        unfold isSd
        have x1 : (c :: t).contains 60 = false := by simpa using h60
        have x2 : (c :: t).contains 61 = false := by simpa using h61
        rw [x1, x2, hla]
        simp
      rw [e0] at q
      have sp1 : ∀ y : Nat, (V.bl (!decide (V.str (S [y]) = V.str (Str.ofString " ")))) = V.bl (!decide (y = 32)) := fun y => by
        congr 2
        refine decide_eq_decide.mpr ⟨fun e => ?_, fun e => ?_⟩
        · have e1 : S [y] = S [32] := (V.str.inj e).trans (by decide +kernel)
          have := SX.S_inj e1
          simpa using this
        · subst e
          decide +kernel
      refine ⟨_, rfl, S (c :: t), 0, c, rfl, rfl, big, atI_nat (j := 0) rfl, rfl, !decide (c = 32), sp1 c, ?_⟩
      by_cases hc : c = 32
      · rw [decide_eq_true hc] at q ⊢
        exact iteF q
      · rw [decide_eq_false hc] at q ⊢
        refine iteT ⟨_, rfl, _, rfl, S (c :: t), -1, z, rfl, rfl, big, by show atI (c :: t) (-1) = _; rw [hb]; exact atI_last b z, rfl, ?_⟩
        have e2 : (V.bl (!decide (V.str (⟨#[z]⟩ : Str) = V.str (Str.ofString " ")))) = V.bl (!decide (z = 32)) := sp1 z
        rw [e2]
        exact q
/-! ### the reader -/
/-- a reader stands at p: its lines at L, its place i -/
structure RdAt (C : Addr) (H : Hp) (p L : Addr) (i : Nat) (ls : List (List Nat)) : Prop where
  ob : ∃ dx, H p = some (.ins C dx (tf L i))
  lst : H L = some (.lst (LS ls))
theorem RdAt.ne {C : Addr} {H : Hp} {p L : Addr} {i : Nat} {ls : List (List Nat)} (r : RdAt C H p L i ls) : L ≠ p := by
  obtain ⟨dx, e⟩ := r.ob
  exact ne_of r.lst e (by intro z; cases z)
theorem RdAt.nt {C : Addr} {H : Hp} {p L : Addr} {i : Nat} {ls : List (List Nat)} (r : RdAt C H p L i ls) : ∀ q xs, H q = some (.tup xs) → q ≠ p := fun q xs e => by
  obtain ⟨dx, h⟩ := r.ob
  exact ne_of e h (by intro z; cases z)
theorem RdAt.new {C : Addr} {H : Hp} {p L c : Addr} {i : Nat} {ls : List (List Nat)} {o : HO} (r : RdAt C H p L i ls) (h : H c = none) : RdAt C (upd H c o) p L i ls := by
  obtain ⟨⟨dx, h1⟩, h2⟩ := r
  exact ⟨⟨dx, same_upd h _ _ h1⟩, same_upd h _ _ h2⟩
/-- what the class has -/
structure TtC (K : PySem.W.Frag) (C : Addr) : Prop where
  cl : Cls K C
  nL : NoAttr K C "lines"
  nA : NoAttr K C "at"
/-- the way out: an error with at = k; but for p all is as it was -/
def Er (CI p : Addr) (H : Hp) (E : XK) (k : Nat) : Prop := ∀ (d : Addr) (H' : Hp), H d = none → H' d = some (.xd [("at", .int k)]) → KB p H H' → E (.ref CI) (some d) H'
theorem Er.on {C CI p L : Addr} {H H1 : Hp} {E : XK} {k i : Nat} {ls : List (List Nat)} (e : Er CI p H E k) (R : RdAt C H1 p L i ls) (kb : KB p H H1) : Er CI p H1 E k := fun d H' hd hd' kb' => by
  obtain ⟨dx, hp⟩ := R.ob
  refine e d H' ?_ hd' (kb.trans kb')
  cases h : H d with
  | none => rfl
  | some o =>
    have := kb d o (ne_of_none hp hd).symm h
    rw [hd] at this
    cases this
theorem Er.raise {CI p : Addr} {H : Hp} {E : XK} {k : Nat} (e : Er CI p H E k) {v : V} (hv : v = .int k) : RaiseOk CI "at" E v H := by
  subst hv
  exact raiseOk fun d hd => e d _ hd upd_same (KB.of_same (same_upd hd))
abbrev s_TreeText___init__ : Stmt := inClass (topS 18) 0
theorem sc_TreeText___init__ : FnScope ["self", "text"] ["self", "text"] (defScope s_TreeText___init__) := ⟨rfl, rfl, rfl, by decide +kernel, rfl, by decide +kernel, by decide +kernel⟩
def spTtI (C : Addr) : Sp := fun vs H Q _ => ∃ (p dx : Addr) (x : List Nat), vs = [.ref p, .str (S x)] ∧ H p = some (.ins C dx []) ∧ x.length ≤ 1000000 ∧
  ∀ (L : Addr) (H' : Hp), H L = none → RdAt C H' p L 0 (TL.spl [10] 0 [] x) → (∀ b o, b ≠ p → H b = some o → H' b = some o) → Q .non H'
theorem ok_TtI {k : Nat} {C : Addr} (T : TtC K C) (F : Dc K mg C "TreeText" "TreeText.__init__" s_TreeText___init__ ["self", "text"]) : C8.Mak P w K mg base (k + 1) "TreeText" C (spTtI C) [] := by
  refine F.mak sc_TreeText___init__ (fun vs H Q E h => ?_) (fun f cdv A outer s H vs Q E hr h => ?_)
  · obtain ⟨p, dx, x, rfl, _⟩ := h
    rfl
  · obtain ⟨p, dx, x, rfl, hp, hx, q⟩ := h
    refine ⟨_, (pss_cons (ps_fld (pv 0) (kk_bm K rfl PySem.F.plainAttrs_str PySem.F.slot_str_split PySem.F.type_str_split mt_split (pv 1) (pa_cons pe_str pa_nil)) rfl)
      (pss_one (ps_fld (pv 0) pe_int rfl))), ?_⟩
    refine ⟨_, rfl, rfl, _, _, rfl, rfl, by decide +kernel, Nat.le_trans (Nat.add_le_add_right (by rw [slen]; exact hx) 2) (by decide), fun L hL => ?_⟩
    have npL : p ≠ L := ne_of_none hp hL
    have e1 : (Txt.split (S x) (Str.ofString "\n")).map V.str = LS (TL.spl [10] 0 [] x) := by
      rw [nl_eq, SX.split_S (by decide) (by decide), List.map_map]
      rfl
    rw [e1]
    refine ⟨_, rfl, p, C, dx, [], rfl, by rw [upd_ne npL]; exact hp, T.cl, T.nL, by decide, _, rfl, p, C, dx, _, rfl, upd_same, T.cl, T.nA, by show 1 < 1000; decide, ?_⟩
    refine q L _ hL ⟨⟨dx, Eq.trans upd_same (congrArg (fun z => some (HO.ins C dx z)) (tf_mk L 0))⟩, ?_⟩ fun b o hb e => ?_
    · rw [upd_ne npL.symm, upd_ne npL.symm, upd_same]
    · rw [upd_ne hb, upd_ne hb]
      exact same_upd hL _ _ e
abbrev s_TreeText_line : Stmt := inClass (topS 18) 1
theorem sc_TreeText_line : FnScope ["self", "ahead", "found"] ["self", "ahead"] (defScope s_TreeText_line) := ⟨rfl, rfl, rfl, by decide +kernel, rfl, by decide +kernel, by decide +kernel⟩
def spLineR (C CI : Addr) : Sp := fun vs H Q E => ∃ (p L : Addr) (i : Nat) (ls : List (List Nat)) (a : List Nat), vs = [.ref p, .str (S a)] ∧ RdAt C H p L i ls ∧ a.length ≤ 1000000 ∧ (∀ l ∈ ls, l.length ≤ 1000000) ∧
  (∀ k, rdLine ls i a = .bad k → Er CI p H E k) ∧
  ∀ x, rdLine ls i a = .ok x → ∀ (H' : Hp), RdAt C H' p L (i + 1) ls → (∀ b, b ≠ p → H' b = H b) → Q (.str (S x)) H'
theorem ok_line {k : Nat} {C CI : Addr} (B : Bi mg) (T : TtC K C) (TInvalidText : ErC K mg "InvalidText" "at" CI) (IInvalidText : ErI P w K mg base "at" CI) (F : Dm K C "line" "TreeText.line" s_TreeText_line ["self", "ahead"]) : RMet P w K mg base (k + 3) C "line" (spLineR C CI) := by
  refine F.rmet sc_TreeText_line (fun vs H Q E h => ?_) (fun f cdv A outer s H vs Q E hr h => ?_)
  · obtain ⟨p, L, i, ls, a, rfl, _⟩ := h
    rfl
  · obtain ⟨p, L, i, ls, a, rfl, R, hal, hll, eb, q⟩ := h
    obtain ⟨⟨dx, hp⟩, hL⟩ := id R
    refine ⟨_, (pss_cons (ps_if (pt_cmpR op_ge (kk_fld K rfl (pv 0) rfl) (pe_callB (kk_len K rfl) rfl B.len PySem.boot_len (pa_cons (kk_fld K rfl (pv 0) rfl) pa_nil)) (nomark _)) (pss_one (kr_raise (k := 0) TInvalidText IInvalidText (hr.mono (by omega)) rfl (L2N.takes_of rfl rfl rfl rfl) rfl (pe_callB (kk_len K rfl) rfl B.len PySem.boot_len (pa_cons (kk_fld K rfl (pv 0) rfl) pa_nil)))) pss_nil)
      (pss_cons (ps_set (i := 2) sc_TreeText_line.nd rfl (Or.inl rfl) (pe_ix (kk_ixL K rfl) (kk_fld K rfl (pv 0) rfl) (kk_fld K rfl (pv 0) rfl) (fun _ _ => rfl)))
      (pss_cons (ps_if (pt_not (pt_val (kk_bm K rfl PySem.F.plainAttrs_str PySem.F.slot_str_startswith PySem.F.type_str_startswith mt_startswith (pv 2) (pa_cons (pv 1) pa_nil)))) (pss_one (kr_raise (k := 0) TInvalidText IInvalidText (hr.mono (by omega)) rfl (L2N.takes_of rfl rfl rfl rfl) rfl (kk_fld K rfl (pv 0) rfl))) pss_nil)
      (pss_cons (ps_fldaug (pv 0) pe_int in_add)
      (pss_one (ps_ret (pe_slice C8.sl_txt (pv 2) (po_some (pe_callB (kk_len K rfl) rfl B.len PySem.boot_len (pa_cons (pv 1) pa_nil))) po_none))))))), ?_⟩
    refine ⟨_, rfl, p, C, dx, _, _, rfl, hp, T.cl, T.nA, tf_at _ _, _, rfl, p, C, dx, _, _, rfl, hp, T.cl, T.nL, tf_lines _ _, _, _, rfl, .inl ⟨_, SqL.of hL, rfl⟩, _, _, rfl, rfl, _, rfl, ?_⟩
    by_cases hi : i < ls.length
    · rw [decide_eq_false (by rw [List.length_map]; omega)]
      refine iteF ?_
      have hi' : ls[i]? = some ls[i] := List.getElem?_eq_getElem hi
      have hy := hll _ (List.getElem_mem hi)
      generalize ls[i] = y at hi' hy
      refine ⟨_, rfl, p, C, dx, _, _, rfl, hp, T.cl, T.nL, tf_lines _ _, _, rfl, p, C, dx, _, _, rfl, hp, T.cl, T.nA, tf_at _ _, L, _, _, V.str (S y), rfl, rfl, SqL.of hL, atI_nat (by rw [List.getElem?_map, hi']; rfl), ?_⟩
      refine ⟨_, rfl, rfl, _, rfl, _, _, rfl, rfl, _, rfl, ?_⟩
      rw [starts_pre]
      have er : rdLine ls i a = if TL.pre a y then .ok (y.drop a.length) else .bad i := by
        unfold rdLine
        rw [hi']
      cases hpre : TL.pre a y with
      | false =>
        rw [hpre, if_neg Bool.false_ne_true] at er
        refine iteT ?_
        exact ⟨_, rfl, p, C, dx, _, _, rfl, hp, T.cl, T.nA, tf_at _ _, (eb i er).raise rfl⟩
      | true =>
        rw [hpre, if_pos rfl] at er
        refine iteF ?_
        have ey : y = a ++ y.drop a.length := by
          have e1 : List.take a.length y = a := eq_of_beq hpre
          have e3 := List.take_append_drop a.length y
          rw [e1] at e3
          exact e3.symm
        generalize y.drop a.length = x at er ey
        subst ey
        refine ⟨_, rfl, p, C, dx, _, _, rfl, hp, T.cl, T.nA, tf_at _ _, _, _, rfl, rfl, dx, _, hp, by show 2 < 1000; decide, ?_⟩
        have big : (S (a ++ x)).length ≤ sizeLine := Nat.le_trans (by rw [slen]; exact hy) (show 1000000 ≤ sizeLine by decide)
        have biga : (S a).length ≤ sizeLine := Nat.le_trans (by rw [slen]; exact hal) (show 1000000 ≤ sizeLine by decide)
        refine ⟨_, rfl, _, rfl, _, _, rfl, ⟨biga, rfl⟩, _, rfl, S (a ++ x), rfl, big, ?_⟩
        rw [SX.from_app a x (by rw [slen])]
        refine q x er _ ⟨⟨dx, Eq.trans upd_same (congrArg (fun z => some (HO.ins C dx z)) (tf_put L i (i + 1)))⟩, ?_⟩ fun b hb => upd_ne hb
        rw [upd_ne R.ne]
        exact hL
    · rw [decide_eq_true (by rw [List.length_map]; omega)]
      refine iteT ?_
      have er : rdLine ls i a = .bad ls.length := by
        unfold rdLine
        rw [List.getElem?_eq_none (by omega)]
      refine ⟨_, rfl, p, C, dx, _, _, rfl, hp, T.cl, T.nL, tf_lines _ _, _, _, rfl, .inl ⟨_, SqL.of hL, rfl⟩, (eb _ er).raise ?_⟩
      rw [List.length_map]
abbrev s_TreeText_need : Stmt := inClass (topS 18) 2
theorem sc_TreeText_need : FnScope ["self", "fits"] ["self", "fits"] (defScope s_TreeText_need) := ⟨rfl, rfl, rfl, by decide +kernel, rfl, by decide +kernel, by decide +kernel⟩
def spNeedR (C CI : Addr) : Sp := fun vs H Q E => ∃ (p L : Addr) (i : Nat) (ls : List (List Nat)) (b : Bool), vs = [.ref p, .bl b] ∧ RdAt C H p L (i + 1) ls ∧ (b = true → Q .non H) ∧ (b = false → Er CI p H E i)
theorem ok_need {k : Nat} {C CI : Addr} (T : TtC K C) (TInvalidText : ErC K mg "InvalidText" "at" CI) (IInvalidText : ErI P w K mg base "at" CI) (F : Dm K C "need" "TreeText.need" s_TreeText_need ["self", "fits"]) : RMet P w K mg base (k + 3) C "need" (spNeedR C CI) := by
  refine F.rmet sc_TreeText_need (fun vs H Q E h => ?_) (fun f cdv A outer s H vs Q E hr h => ?_)
  · obtain ⟨p, L, i, ls, b, rfl, _⟩ := h
    rfl
  · obtain ⟨p, L, i, ls, b, rfl, R, q, e⟩ := h
    refine ⟨_, (pss_one (ps_if (pt_not (pt_val (pv 1))) (pss_one (kr_raise (k := 0) TInvalidText IInvalidText (hr.mono (by omega)) rfl (L2N.takes_of rfl rfl rfl rfl) rfl (pe_op op_sub (kk_fld K rfl (pv 0) rfl) pe_int))) pss_nil)), ?_⟩
    obtain ⟨⟨dx, hp⟩, hL⟩ := id R
    cases b with
    | true => exact ⟨_, rfl, _, rfl, iteF (q rfl)⟩
    | false =>
      refine ⟨_, rfl, _, rfl, iteT ?_⟩
      refine ⟨_, rfl, p, C, dx, _, _, rfl, hp, T.cl, T.nA, tf_at _ _, _, _, rfl, rfl, (e rfl).raise ?_⟩
      show V.int (((i + 1 : Nat) : Int) - 1) = _
      congr 1
      omega
end
end KW

/-! ## trees read from any text: branch, read_tree -/
namespace KW
open PySem PySem.Spec PyProof.Rows L2
theorem TrAt.kb {H H' : Hp} {p : Addr} (k : KB p H H') (hne : ∀ q xs, H q = some (.tup xs) → q ≠ p) {v : V} {t : Tr} (h : TrAt H v t) : TrAt H' v t := by
  induction h with
  | leaf e => exact .leaf (k _ _ (hne _ _ e) e)
  | node e _ _ ih1 ih2 => exact .node (k _ _ (hne _ _ e) e) ih1 ih2
theorem split_leq (x : List Nat) : (Txt.split (S x) (Str.ofString " <= ")).map V.str = LS (TL.spl leq 0 [] x) := by
  rw [leq_eq, SX.split_S (by decide) (by decide), List.map_map]
  rfl
theorem sides_other {x : List Nat} (h : (TL.spl leq 0 [] x).length ≠ 2) : sides x = none := by
  unfold sides
  split
  · rename_i l r e
    rw [e] at h
    exact absurd rfl h
  · rfl
theorem sides_two {x l r : List Nat} (e : TL.spl leq 0 [] x = [l, r]) : sides x = if isSd l && isSd r then some (l, r) else none := by
  unfold sides
  rw [e]
theorem len_two {α : Type} {l : List α} (h : l.length = 2) : ∃ a b, l = [a, b] := by
  match l, h with
  | [a, b], _ => exact ⟨a, b, rfl⟩
/-- how the tree is read, step by step -/
theorem rdTree_bad0 {ls : List (List Nat)} {n i k : Nat} {a : List Nat} (h : rdLine ls i a = .bad k) : rdTree ls (n + 1) i a = .bad k := by
  rw [rdTree, h]
theorem rdTree_so {ls : List (List Nat)} {n i : Nat} {a : List Nat} (h : rdLine ls i a = .ok so) : rdTree ls (n + 1) i a = .tree .leaf (i + 1) := by
  rw [rdTree, h]
  exact if_pos rfl
theorem rdTree_no {ls : List (List Nat)} {n i : Nat} {a x : List Nat} (h : rdLine ls i a = .ok x) (hx : x ≠ so) (hs : sides x = none) : rdTree ls (n + 1) i a = .bad i := by
  rw [rdTree, h]
  dsimp only
  rw [if_neg hx, hs]
/-- what stands behind the first line -/
def rdMore (ls : List (List Nat)) (n : Nat) (l r a : List Nat) (r1 : RdT) : RdT :=
  match r1 with
  | .bad k => .bad k
  | .tree t1 j =>
    match rdLine ls j a with
    | .bad k => .bad k
    | .ok y =>
      if y = (r ++ slt) ++ l then
        match rdTree ls n (j + 1) (a ++ two) with
        | .bad k => .bad k
        | .tree t2 m => .tree (.node l r t1 t2) m
      else .bad j
theorem rdTree_more {ls : List (List Nat)} {n i : Nat} {a x l r : List Nat} (h : rdLine ls i a = .ok x) (hx : x ≠ so) (hs : sides x = some (l, r)) : rdTree ls (n + 1) i a = rdMore ls n l r a (rdTree ls n (i + 1) (a ++ two)) := by
  rw [rdTree, h]
  dsimp only
  rw [if_neg hx, hs]
  rfl
section
variable {P : Program} {w : World} {K : PySem.W.Frag} {mg : Str → Option Value} {base : Heap}
abbrev s_TreeText_branch : Stmt := inClass (topS 18) 3
theorem sc_TreeText_branch : FnScope ["self", "ahead", "line", "sides", "one", "left", "right"] ["self", "ahead"] (defScope s_TreeText_branch) := ⟨rfl, rfl, rfl, by decide +kernel, rfl, by decide +kernel, by decide +kernel⟩
def spBranchR (C CI : Addr) (n : Nat) : Sp := fun vs H Q E => ∃ (p L : Addr) (i : Nat) (ls : List (List Nat)) (a : List Nat), vs = [.ref p, .str (S a)] ∧ RdAt C H p L i ls ∧ ls.length - i < n ∧ a.length + 2 * n ≤ 1000000 ∧ (∀ l ∈ ls, l.length ≤ 100000) ∧
  (∀ k, rdTree ls n i a = .bad k → Er CI p H E k) ∧
  ∀ t m, rdTree ls n i a = .tree t m → ∀ (v : V) (H' : Hp), TrAt H' v t → RdAt C H' p L m ls → KB p H H' → Q v H'
theorem ok_branch {C CI : Addr} (B : Bi mg) (T : TtC K C) (F : Dm K C "branch" "TreeText.branch" s_TreeText_branch ["self", "ahead"])
    (Gline0 : RMet P w K mg base 3 C "line" (spLineR C CI)) (Gneed0 : RMet P w K mg base 3 C "need" (spNeedR C CI)) (Gis_side0 : C8.Cal P w K mg base 1 "is_side" spSideR []) : ∀ n : Nat, RMet P w K mg base (n + 3) C "branch" (spBranchR C CI n)
  | 0 => by
      refine rmetMono (F.rnever fun vs H Q E h => ?_) (Nat.zero_le _)
      obtain ⟨p, L, i, ls, a, _, _, h, _⟩ := h
      exact absurd h (Nat.not_lt_zero _)
  | n + 1 => by
    have Gbranch := ok_branch B T F Gline0 Gneed0 Gis_side0 n
    have Gline := rmetMono Gline0 (show 3 ≤ n + 3 by omega)
    have Gneed := rmetMono Gneed0 (show 3 ≤ n + 3 by omega)
    have Gis_side := calMono Gis_side0 (show 1 ≤ n + 3 by omega)
    refine F.rmet sc_TreeText_branch (fun vs H Q E h => ?_) (fun f cdv A outer s H vs Q E hr h => ?_)
    · obtain ⟨p, L, i, ls, a, rfl, _⟩ := h
      rfl
    · obtain ⟨p, L, i, ls, a, rfl, R, hn, hal, hll, eb, q⟩ := h
      refine ⟨_, (pss_cons (ps_set (i := 2) sc_TreeText_branch.nd rfl (Or.inl rfl) (kr_m Gline hr (Nat.le_refl _) (psx rfl rfl rfl rfl) (pv 0) (pa_cons (pv 1) pa_nil)))
      (pss_cons (ps_if (pt_cmpR op_eq (pv 2) pe_str (nomark _)) (pss_one (ps_ret (pe_tup pa_nil))) pss_nil)
      (pss_cons (ps_set (i := 3) sc_TreeText_branch.nd rfl (Or.inl rfl) (kk_bm K rfl PySem.F.plainAttrs_str PySem.F.slot_str_split PySem.F.type_str_split mt_split (pv 2) (pa_cons pe_str pa_nil)))
      (pss_cons (ps_expr (kr_m Gneed hr (Nat.le_refl _) (psx rfl rfl rfl rfl) (pv 0) (pa_cons (pe_and (pe_cmpR op_eq (pe_callB (kk_len K rfl) rfl B.len PySem.boot_len (pa_cons (pv 3) pa_nil)) pe_int (nomark _)) (pe_and (C8.pe_c Gis_side hr (Nat.le_refl _) rfl (pa_cons (pe_ix (kk_ixL K rfl) (pv 3) pe_int (fun _ _ => rfl)) pa_nil)) (pe_one (C8.pe_c Gis_side hr (Nat.le_refl _) rfl (pa_cons (pe_ix (kk_ixL K rfl) (pv 3) (pe_un un_neg pe_int) (fun _ _ => rfl)) pa_nil))))) pa_nil)))
      (pss_cons (ps_asg (pv 3) (pg_unl rfl (pgs_cons (pg_name (i := 5) sc_TreeText_branch.nd rfl (Or.inl rfl)) (pgs_cons (pg_name (i := 6) sc_TreeText_branch.nd rfl (Or.inl rfl)) pgs_nil))))
      (pss_cons (ps_set (i := 4) sc_TreeText_branch.nd rfl (Or.inl rfl) (kr_m Gbranch hr (Nat.le_refl _) (psx rfl rfl rfl rfl) (pv 0) (pa_cons (pe_op op_add_str (pv 1) pe_str) pa_nil)))
      (pss_cons (ps_expr (kr_m Gneed hr (Nat.le_refl _) (psx rfl rfl rfl rfl) (pv 0) (pa_cons (pe_cmpR op_eq (kr_m Gline hr (Nat.le_refl _) (psx rfl rfl rfl rfl) (pv 0) (pa_cons (pv 1) pa_nil)) (pe_op op_add_str (pe_op op_add_str (pv 6) pe_str) (pv 5)) (nomark _)) pa_nil)))
      (pss_one (ps_ret (pe_tup (pa_cons (pv 5) (pa_cons (pv 6) (pa_cons (pv 4) (pa_cons (kr_m Gbranch hr (Nat.le_refl _) (psx rfl rfl rfl rfl) (pv 0) (pa_cons (pe_op op_add_str (pv 1) pe_str) pa_nil)) pa_nil)))))))))))))), ?_⟩
      have nl : ∀ j : Int, (tf L j).lookup ("line" : Str) = none := fun j => tf_no L j (by decide +kernel) (by decide +kernel)
      have nn : ∀ j : Int, (tf L j).lookup ("need" : Str) = none := fun j => tf_no L j (by decide +kernel) (by decide +kernel)
      have nb : ∀ j : Int, (tf L j).lookup ("branch" : Str) = none := fun j => tf_no L j (by decide +kernel) (by decide +kernel)
      obtain ⟨dx, hp⟩ := R.ob
      have big : ∀ m : Nat, m ≤ 2000000 → m ≤ sizeLine := fun m h => Nat.le_trans h (by decide)
      have hll' : ∀ l ∈ ls, l.length ≤ 1000000 := fun l hl => Nat.le_trans (hll l hl) (by omega)
      refine ⟨_, rfl, p, dx, _, rfl, hp, nl _, _, rfl, p, L, i, ls, a, rfl, R, by omega, hll', fun k ek => eb k (rdTree_bad0 ek), fun x hx H1 R1 k1 => ?_⟩
      have kb1 : KB p H H1 := fun b o hb e => by rw [k1 b hb]; exact e
      have hi := rdLine_lt hx
      have hxl : x.length ≤ 100000 := by
        have := hll _ (List.mem_of_getElem? hi.2)
        rw [List.length_append] at this
        omega
      refine ⟨_, rfl, rfl, _, rfl, ?_⟩
      by_cases hso : x = so
      · subst hso
        rw [decide_eq_true (show V.str (S so) = V.str (Str.ofString "so") by rw [so_eq])]
        refine iteT ⟨Nat.zero_le _, fun c hc => ?_⟩
        exact q _ _ (rdTree_so hx) _ _ (.leaf upd_same) (R1.new hc) (kb1.new hc)
      rw [decide_eq_false (show ¬ V.str (S x) = V.str (Str.ofString "so") from fun e => hso (SX.S_inj ((V.str.inj e).trans so_eq)))]
      refine iteF ?_
      -- sides
      refine ⟨_, rfl, rfl, _, _, rfl, rfl, by decide +kernel, Nat.le_trans (m := 200000) (by rw [slen]; omega) (by decide), fun c hc => ?_⟩
      rw [split_leq]
      have hjoin := spl_joins (S := leq) (by decide) x.length [] x (Nat.le_refl _)
      have R2 := R1.new (o := .lst (LS (TL.spl leq 0 [] x))) hc
      have kb2 : KB p H (upd H1 c (.lst (LS (TL.spl leq 0 [] x)))) := kb1.new hc
      have hc2 : (upd H1 c (.lst (LS (TL.spl leq 0 [] x)))) c = some (.lst (LS (TL.spl leq 0 [] x))) := upd_same
      generalize (upd H1 c (.lst (LS (TL.spl leq 0 [] x)))) = H2 at *
      obtain ⟨dx2, hp2⟩ := R2.ob
      refine ⟨_, rfl, p, dx2, _, rfl, hp2, nn _, _, rfl, _, _, rfl, .inl ⟨_, SqL.of hc2, rfl⟩, rfl, _, rfl, ?_⟩
      by_cases h2 : (TL.spl leq 0 [] x).length = 2
      case neg =>
        rw [decide_eq_false (show ¬ V.int ((LS (TL.spl leq 0 [] x)).length : Int) = V.int 2 from fun e => h2 (by
          have e := V.int.inj e
          rw [show (LS (TL.spl leq 0 [] x)).length = (TL.spl leq 0 [] x).length from List.length_map ..] at e
          omega))]
        exact iteF ⟨p, L, i, ls, false, rfl, R2, (fun z => nomatch z), fun _ => (eb i (rdTree_no hx hso (sides_other h2))).on R2 kb2⟩
      obtain ⟨l, r, elr⟩ := len_two h2
      rw [elr] at hc2 hjoin
      have hs := sides_two elr
      have exl : l ++ (leq ++ r) = x := hjoin
      have hlr : l.length + 4 + r.length ≤ 100000 := by
        rw [← exl] at hxl
        simp only [List.length_append] at hxl
        have : leq.length = 4 := rfl
        omega
      rw [elr, decide_eq_true (show V.int ((LS [l, r]).length : Int) = V.int 2 from rfl)]
      refine iteT ⟨_, rfl, c, _, 0, _, rfl, rfl, SqL.of hc2, atI_nat (j := 0) rfl, l, rfl, by omega, _, rfl, ?_⟩
      cases hl : isSd l with
      | false =>
        rw [hl, Bool.false_and, if_neg Bool.false_ne_true] at hs
        exact iteF ⟨p, L, i, ls, false, rfl, R2, (fun z => nomatch z), fun _ => (eb i (rdTree_no hx hso hs)).on R2 kb2⟩
      | true =>
      refine iteT ⟨_, rfl, _, rfl, c, _, -1, _, rfl, rfl, SqL.of hc2, atI_last [V.str (S l)] _, r, rfl, by omega, p, L, i, ls, isSd r, rfl, R2, fun hr' => ?_, fun hr' => ?_⟩
      case refine_2 =>
        rw [hl, hr', Bool.true_and, if_neg Bool.false_ne_true] at hs
        exact (eb i (rdTree_no hx hso hs)).on R2 kb2
      rw [hl, hr', Bool.true_and, if_pos rfl] at hs
      have hmore := rdTree_more (n := n) hx hso hs
      refine ⟨_, rfl, c, _, rfl, SqL.of hc2, rfl, _, _, rfl, _, _, rfl, rfl, ?_⟩
      -- one
      have hb2 : (S a).length + (Str.ofString "  ").length ≤ sizeLine := big _ (by rw [two_eq, slen, slen]; simp; omega)
      refine ⟨_, rfl, p, dx2, _, rfl, hp2, nb _, _, rfl, _, _, rfl, rfl, hb2, ?_⟩
      rw [two_eq, cat]
      refine ⟨p, L, i + 1, ls, a ++ two, rfl, R2, by omega, by simp; omega, hll, fun k ek => ?_, fun ta j et va H3 hva R3 kb3 => ?_⟩
      · rw [ek] at hmore
        exact (eb k hmore).on R2 kb2
      rw [et] at hmore
      obtain ⟨dx3, hp3⟩ := R3.ob
      have hat := rdTree_at n _ _ _ _ et
      have kb3' := kb2.trans kb3
      -- need(line(ahead) == right + ' < ' + left)
      have w1 : (S r).length + (Str.ofString " < ").length ≤ sizeLine := big _ (by rw [slt_eq, slen, slen]; simp; omega)
      have w2 : (S r ++ Str.ofString " < ").length + (S l).length ≤ sizeLine := big _ (by rw [slt_eq, cat, slen, slen]; simp; omega)
      refine ⟨_, rfl, p, dx3, _, rfl, hp3, nn _, _, rfl, p, dx3, _, rfl, hp3, nl _, _, rfl, p, L, j, ls, a, rfl, R3, by omega, hll', fun k ek => ?_, fun y hy H4 R4 k4 => ?_⟩
      · have e : rdTree ls (n + 1) i a = .bad k := by
          rw [hmore]
          unfold rdMore
          dsimp only
          rw [ek]
        exact (eb k e).on R3 kb3'
      have kb4 : KB p H3 H4 := fun b o hb e => by rw [k4 b hb]; exact e
      have kb4' := kb3'.trans kb4
      refine ⟨_, rfl, _, _, rfl, rfl, w1, _, rfl, _, _, rfl, rfl, w2, rfl, ?_⟩
      rw [slt_eq, cat, cat]
      refine ⟨p, L, j, ls, _, rfl, R4, fun hy' => ?_, fun hy' => ?_⟩
      case refine_2 =>
        have hne : ¬ y = (r ++ slt) ++ l := fun e => of_decide_eq_false hy' (by rw [e])
        have e : rdTree ls (n + 1) i a = .bad j := by
          rw [hmore]
          unfold rdMore
          dsimp only
          rw [hy]
          exact if_neg hne
        exact (eb j e).on R4 kb4'
      have hyes : y = (r ++ slt) ++ l := SX.S_inj (V.str.inj (of_decide_eq_true hy'))
      have e5 : rdTree ls (n + 1) i a = match rdTree ls n (j + 1) (a ++ two) with
        | .bad k => .bad k
        | .tree t2 m => .tree (.node l r ta t2) m := by
        rw [hmore]
        unfold rdMore
        dsimp only
        rw [hy]
        exact if_pos hyes
      obtain ⟨dx4, hp4⟩ := R4.ob
      refine ⟨_, rfl, _, rfl, _, rfl, _, rfl, p, dx4, _, rfl, hp4, nb _, _, rfl, _, _, rfl, rfl, hb2, ?_⟩
      rw [cat]
      have hjl := (rdLine_lt hy).1
      refine ⟨p, L, j + 1, ls, a ++ two, rfl, R4, by omega, by simp; omega, hll, fun k ek => ?_, fun tb m et2 vb H5 hvb R5 kb5 => ⟨big _ (by simp), fun d hd => ?_⟩⟩
      · rw [ek] at e5
        exact (eb k e5).on R4 kb4'
      rw [et2] at e5
      have hva4 : TrAt H4 va ta := hva.kb kb4 R3.nt
      have hva5 : TrAt H5 va ta := hva4.kb kb5 R4.nt
      exact q _ _ e5 _ _ (.node upd_same (hva5.mono (same_upd hd)) (hvb.mono (same_upd hd))) (R5.new hd) ((kb4'.trans kb5).new hd)
/-- what the whole text says -/
inductive Rd2 where
  | bad (n : Nat)
  | tree (t : Tr)
def rdText (n : Nat) (x : List Nat) : Rd2 :=
  match rdTree (TL.spl [10] 0 [] x) n 0 [] with
  | .bad k => .bad k
  | .tree t m => if m < (TL.spl [10] 0 [] x).length then .bad m else .tree t
abbrev s_read_tree : Stmt := topS 19
theorem sc_read_tree : FnScope ["text", "reader", "found"] ["text"] (defScope s_read_tree) := ⟨rfl, rfl, rfl, by decide +kernel, rfl, by decide +kernel, by decide +kernel⟩
def spReadR (CI : Addr) (n : Nat) : Sp := fun vs H Q E => ∃ (x : List Nat), vs = [.str (S x)] ∧ x.length ≤ 90000 ∧ (TL.spl [10] 0 [] x).length < n ∧
  (∀ k, rdText n x = .bad k → ∀ (d : Addr) (H' : Hp), H d = none → H' d = some (.xd [("at", .int k)]) → Same H H' → E (.ref CI) (some d) H') ∧
  ∀ t, rdText n x = .tree t → ∀ (v : V) (H' : Hp), TrAt H' v t → Same H H' → Q v H'
theorem joinL_len {S : List Nat} : ∀ {ls : List (List Nat)} {l : List Nat}, l ∈ ls → l.length ≤ (TL.joinL S ls).length
  | [x], l, h => by
    have e : l = x := by simpa using h
    subst e
    exact Nat.le_refl _
  | x :: y :: r, l, h => by
    show l.length ≤ (x ++ (S ++ TL.joinL S (y :: r))).length
    rw [List.length_append, List.length_append]
    rcases List.mem_cons.mp h with e | h
    · subst e
      omega
    · have := joinL_len (S := S) h
      omega
theorem spl_len {S x l : List Nat} (hS : S ≠ []) (h : l ∈ TL.spl S 0 [] x) : l.length ≤ x.length := by
  have e := spl_joins hS x.length [] x (Nat.le_refl _)
  have := joinL_len (S := S) h
  rw [e] at this
  exact this
theorem ok_read_tree {C CI : Addr} {n k : Nat} (B : Bi mg) (T : TtC K C) (TInvalidText : ErC K mg "InvalidText" "at" CI) (IInvalidText : ErI P w K mg base "at" CI) (F : Df K mg "read_tree" s_read_tree ["text"]) (hn : n ≤ 1000) (hk : 3 ≤ k) (hTreeText : 1 + 1 ≤ k) (GTreeText : C8.Mak P w K mg base 1 "TreeText" C (spTtI C) [])
    (Gbranch : RMet P w K mg base k C "branch" (spBranchR C CI n)) : RCal P w K mg base (k + 1) "read_tree" (spReadR CI n) := by
  refine F.rcal sc_read_tree (fun vs H Q E h => ?_) (fun f cdv A outer s H vs Q E hr h => ?_)
  · obtain ⟨x, rfl, _⟩ := h
    rfl
  · obtain ⟨x, rfl, hx, hlen, eb, q⟩ := h
    refine ⟨_, (pss_cons (ps_set (i := 1) sc_read_tree.nd rfl (Or.inl rfl) (C8.pe_mk GTreeText hr hTreeText rfl (pa_cons (pv 0) pa_nil)))
      (pss_cons (ps_set (i := 2) sc_read_tree.nd rfl (Or.inl rfl) (kr_m Gbranch hr (Nat.le_refl _) (psx rfl rfl rfl rfl) (pv 1) (pa_cons pe_str pa_nil)))
      (pss_cons (ps_if (pt_cmpR op_lt (kk_fld K rfl (pv 1) rfl) (pe_callB (kk_len K rfl) rfl B.len PySem.boot_len (pa_cons (kk_fld K rfl (pv 1) rfl) pa_nil)) (nomark _)) (pss_one (kr_raise (k := 0) TInvalidText IInvalidText (hr.mono (by omega)) rfl (L2N.takes_of rfl rfl rfl rfl) rfl (kk_fld K rfl (pv 1) rfl))) pss_nil)
      (pss_one (ps_ret (pv 2)))))), ?_⟩
    refine ⟨_, rfl, fun p dx hp hdx hne => ⟨p, dx, x, rfl, upd_same, by omega, fun L H1 hL R1 k1 => ⟨rfl, ?_⟩⟩⟩
    have s1 : Same H H1 := fun b o e => k1 b o (ne_of_none e hp) (by rw [upd_ne (ne_of_none e hp), upd_ne (ne_of_none e hdx)]; exact e)
    have hll : ∀ l ∈ TL.spl [10] 0 [] x, l.length ≤ 100000 := fun l hl => Nat.le_trans (spl_len (by decide) hl) (by omega)
    have er : ∀ k, rdText n x = .bad k → Er CI p H1 E k := fun k ek d H' hd hd' kb => by
      have hHd : H d = none := by
        cases h : H d with
        | none => rfl
        | some o =>
          have := s1 d o h
          rw [hd] at this
          cases this
      exact eb k ek d H' hHd hd' fun b o e => kb b o (ne_of_none e hp) (s1 b o e)
    obtain ⟨dy, hp1⟩ := R1.ob
    unfold rdText at er eb q
    generalize TL.spl [10] 0 [] x = ls at *
    refine ⟨_, rfl, p, dy, _, rfl, hp1, tf_no L _ (by decide +kernel) (by decide +kernel), ?_⟩
    refine ⟨p, L, 0, ls, [], rfl, R1, by omega, by simp; omega, hll, fun k ek => er k (by rw [ek]), fun t m et v H2 hv R2 kb2 => ?_⟩
    rw [et] at er q
    dsimp only at er q
    obtain ⟨dz, hp2⟩ := R2.ob
    refine ⟨_, rfl, p, C, dz, _, _, rfl, hp2, T.cl, T.nA, tf_at _ _, _, rfl, p, C, dz, _, _, rfl, hp2, T.cl, T.nL, tf_lines _ _, _, _, rfl, .inl ⟨_, SqL.of R2.lst, rfl⟩, _, _, rfl, rfl, _, rfl, ?_⟩
    by_cases hm : m < ls.length
    · rw [decide_eq_true (by rw [List.length_map]; omega)]
      refine iteT ⟨_, rfl, p, C, dz, _, _, rfl, hp2, T.cl, T.nA, tf_at _ _, ((er m (if_pos hm)).on R2 kb2).raise rfl⟩
    · rw [decide_eq_false (by rw [List.length_map]; omega)]
      exact iteF ⟨_, rfl, q t (if_neg hm) v H2 hv fun b o e => kb2 b o (ne_of_none e hp) (s1 b o e)⟩
end
end KW

/-! ## _law_refused: which of the program's errors it is -/
namespace KW
open PySem PySem.Spec PyProof.Rows L2 L2H
theorem lc_enum {K : PySem.W.Frag} {a : Addr} {xs : List V} {g : TG} {tt : TT} {te : TE} {vs : List Nat} {σ : L2.St} {H1 : Hp} {D : Addr} {Qd : Hp → Prop} (Pv : Nat → Hp → Prop) (h0 : Pv 0 (upd H1 D (.lst []))) (hl : ∀ i H, i ≤ xs.length → Pv i H → SqL K H a xs)
    (hs : ∀ i x H n, xs[i]? = some x → Pv i H → H n = none → g (.ref n) (wipe σ vs) (upd H n (.tup [.int (i : Nat), x])) fun σ2 H2 => wipe σ2 vs = wipe σ vs ∧ tt σ2 H2 fun b H3 =>
      if b = true then te σ2 H3 fun y H4 => ∃ acc, H4 D = some (.lst acc) ∧ acc.length < sizeLine ∧ Pv (i + 1) (upd H4 D (.lst (acc ++ [y]))) else Pv (i + 1) H3) (hd : ∀ H, Pv xs.length H → Qd H) :
    ∃ W : Nat → Nat → Hp → Prop, (∃ m, W 0 m (upd H1 D (.lst []))) ∧ ∀ i m H, W i m H →
      ((Ite K a).stop i H ∧ Qd H) ∨ ((Ite K a).go i H ∧ ∃ Nx : Hp → Prop, (∀ H', Nx H' → ∃ m', m' < m ∧ W (i + 1) m' H') ∧ ∀ x H', (Ite K a).yld i H x H' → g x (wipe σ vs) H' fun σ2 H2 => wipe σ2 vs = wipe σ vs ∧ tt σ2 H2 fun b H3 =>
        if b = true then te σ2 H3 fun y H4 => ∃ acc, H4 D = some (.lst acc) ∧ acc.length < sizeLine ∧ Nx (upd H4 D (.lst (acc ++ [y]))) else Nx H3) := by
  refine ⟨fun i m H => m = xs.length - i ∧ i ≤ xs.length ∧ Pv i H, ⟨xs.length, by simp, Nat.zero_le _, h0⟩, ?_⟩
  rintro i m H ⟨rfl, hi, p⟩
  have q := hl i H hi p
  by_cases hlt : i < xs.length
  · refine .inr ⟨⟨xs, xs[i], q, by simp [hlt]⟩, Pv (i + 1), fun H' p' => ⟨xs.length - (i + 1), by omega, rfl, hlt, p'⟩, fun x H' y => ?_⟩
    obtain ⟨T, x', rfl, hT, rfl, y⟩ := y
    exact hs i x' _ T (y xs q) p hT
  · have e : i = xs.length := by omega
    subst e
    exact .inl ⟨⟨xs, q, Nat.le_refl _⟩, hd H p⟩
theorem pe_gref {X : Cx} {x : Str} {C : Addr} {p : Pos} (hg : Gl X x) (hm : X.mg x = some (.ref C)) (hdb : (x == ("__debug__" : Str)) = false := by decide) : PE X (.Name x p) (tC (.ref C)) := pe_glob (v := .ref C) hg hm rfl hdb
/-- the errors' classes -/
structure RfN (mg : Str → Option Value) (cs : Nat → Addr) : Prop where
  InvalidStep : mg "InvalidStep" = some (.ref (cs 0))
  InvalidTrait : mg "InvalidTrait" = some (.ref (cs 1))
  InvalidExpr : mg "InvalidExpr" = some (.ref (cs 2))
  InvalidRow : mg "InvalidRow" = some (.ref (cs 3))
  InvalidText : mg "InvalidText" = some (.ref (cs 4))
  InvalidWorld : mg "InvalidWorld" = some (.ref (cs 5))
  InvalidStart : mg "InvalidStart" = some (.ref (cs 6))
  InvalidClaim : mg "InvalidClaim" = some (.ref (cs 7))
  NoName : mg "NoName" = some (.ref (cs 8))
  NoStep : mg "NoStep" = some (.ref (cs 9))
  NoRow : mg "NoRow" = some (.ref (cs 10))
  Impossible : mg "Impossible" = some (.ref (cs 11))
/-- D is the class number n -/
structure RfD (K : PySem.W.Frag) (cs : Nat → Addr) (D : Addr) (n : Nat) : Prop where
  exc : ExcC K D
  lt : n < 12
  is : ∀ i, i < 12 → PySem.W.kitOne K (.ref D) (.ref (cs i)) = some (decide (i = n))
def csOf (l : List Addr) (i : Nat) : Addr := l.getD i 0
theorem kit_of {K : PySem.W.Frag} {D C : Addr} {b : Bool} (hc : PySem.W.isClsIn K C = true) (ht : PySem.W.typeIn K (.ref C) = some (.type "type")) (hs : PySem.W.subIn K (.ref D) (.ref C) = some b) (self : PySem.W.subIn K (.ref D) (.ref D) = some true) : PySem.W.kitOne K (.ref D) (.ref C) = some b := by
  unfold PySem.W.kitOne
  by_cases h : (Value.ref D == Value.ref C) = true
  · rw [if_pos h]
    have e : Value.ref D = Value.ref C := eq_of_beq h
    rw [← e, self] at hs
    exact hs
  · rw [if_neg h]
    show (if ((PySem.W.clsIn K C).isSome && PySem.W.typeIn K (.ref C) == some (.type "type")) = true then PySem.W.subIn K (.ref D) (.ref C) else none) = some b
    have e2 : ((PySem.W.clsIn K C).isSome && PySem.W.typeIn K (.ref C) == some (.type "type")) = true := by
      rw [show (PySem.W.clsIn K C).isSome = true from hc, ht] <;> rfl
    rw [if_pos e2]
    exact hs
theorem refsVE_one (C : Addr) : PySem.HandSPX.refsVE [.ref C, .type "ValueError", .type "Exception", .type "BaseException", .type "object"] = true := by
  show PySem.HandSPX.refsVE [.type "ValueError", .type "Exception", .type "BaseException", .type "object"] = true
  decide +kernel
/-- the twelve answers -/
def rfB (n : Nat) : List V := (List.range 12).map fun i => V.bl (decide (i = n))
def rfX (n j : Nat) : List V := if n < j then [.int n] else []
theorem rfX_more {n j : Nat} : rfX n (j + 1) = if decide (j = n) = true then rfX n j ++ [.int j] else rfX n j := by
  unfold rfX
  by_cases h : j = n
  · subst h
    rw [if_pos (by omega), decide_eq_true rfl, if_pos rfl, if_neg (by omega)]
    rfl
  · rw [decide_eq_false h, if_neg Bool.false_ne_true]
    by_cases c : n < j
    · rw [if_pos c, if_pos (by omega)]
    · rw [if_neg c, if_neg (by omega)]
section
variable {P : Program} {w : World} {K : PySem.W.Frag} {mg : Str → Option Value} {base : Heap}
abbrev s__law_refused : Stmt := topS 29
theorem sc__law_refused : FnScope ["_law_e", "_law_found", "_law_at", "_law_one"] ["_law_e"] (defScope s__law_refused) := ⟨rfl, rfl, rfl, by decide +kernel, rfl, by decide +kernel, by decide +kernel⟩
def spRf (K : PySem.W.Frag) (cs : Nat → Addr) : KH.SpX := fun a c d vs H Q _ => ∃ (D dd : Addr) (fs : List (Str × V)) (n : Nat), c = .ref D ∧ d = some dd ∧ vs = [.ref a] ∧ H dd = some (.xd fs) ∧ RfD K cs D n ∧
  ∀ (l : Addr) (H' : Hp), H' l = some (.lst [.int n]) → Same H H' → Q (.ref l) H'
theorem ok_refused {k : Nat} {f : Addr} {fd : FuncData} {cs : Nat → Addr} (B : Bi mg) (RN : RfN mg cs) (F : Fun K "_law_refused" "_law_refused" s__law_refused f fd) : KH.FnX P w K mg base (k + 1) f fd ["_law_e"] (spRf K cs) := by
  refine KH.fnX_of F sc__law_refused (fun a c d vs H Q E h => ?_) (fun cdv A outer s H vs Q E p c d hot hz hr h => ?_)
  · obtain ⟨D, dd, fs, n, _, _, rfl, _⟩ := h
    rfl
  · obtain ⟨D, dd, fs, n, rfl, rfl, rfl, hdd, RD, q⟩ := h
    obtain ⟨a, oe⟩ := p
    have hf : ∃ vs, oe.data = .fields vs := ⟨_, hot.2.choose_spec.1⟩
    have EC := RD.exc
    have hp : (a, oe) ∈ (cxH CX0 P w K mg base ["_law_e", "_law_found", "_law_at", "_law_one"] "_law_refused" (defScope s__law_refused) f cdv A outer s H E (a, oe)).pn := List.mem_cons_self
    refine ⟨_, (pss_cons (ps_set (i := 1) sc__law_refused.nd rfl (Or.inl rfl) (pe_lst (pa_cons (pe_callB (KH.is_exc K rfl EC hp hz hf) rfl B.isinstance (by decide +kernel) (pa_cons (pv 0) (pa_cons (pe_gref rfl RN.InvalidStep) pa_nil))) (pa_cons (pe_callB (KH.is_exc K rfl EC hp hz hf) rfl B.isinstance (by decide +kernel) (pa_cons (pv 0) (pa_cons (pe_gref rfl RN.InvalidTrait) pa_nil))) (pa_cons (pe_callB (KH.is_exc K rfl EC hp hz hf) rfl B.isinstance (by decide +kernel) (pa_cons (pv 0) (pa_cons (pe_gref rfl RN.InvalidExpr) pa_nil))) pa_nil)))))
      (pss_cons (ps_set (i := 1) sc__law_refused.nd rfl (Or.inl rfl) (pe_op op_cat (pv 1) (pe_lst (pa_cons (pe_callB (KH.is_exc K rfl EC hp hz hf) rfl B.isinstance (by decide +kernel) (pa_cons (pv 0) (pa_cons (pe_gref rfl RN.InvalidRow) pa_nil))) (pa_cons (pe_callB (KH.is_exc K rfl EC hp hz hf) rfl B.isinstance (by decide +kernel) (pa_cons (pv 0) (pa_cons (pe_gref rfl RN.InvalidText) pa_nil))) (pa_cons (pe_callB (KH.is_exc K rfl EC hp hz hf) rfl B.isinstance (by decide +kernel) (pa_cons (pv 0) (pa_cons (pe_gref rfl RN.InvalidWorld) pa_nil))) pa_nil))))))
      (pss_cons (ps_set (i := 1) sc__law_refused.nd rfl (Or.inl rfl) (pe_op op_cat (pv 1) (pe_lst (pa_cons (pe_callB (KH.is_exc K rfl EC hp hz hf) rfl B.isinstance (by decide +kernel) (pa_cons (pv 0) (pa_cons (pe_gref rfl RN.InvalidStart) pa_nil))) (pa_cons (pe_callB (KH.is_exc K rfl EC hp hz hf) rfl B.isinstance (by decide +kernel) (pa_cons (pv 0) (pa_cons (pe_gref rfl RN.InvalidClaim) pa_nil))) (pa_cons (pe_callB (KH.is_exc K rfl EC hp hz hf) rfl B.isinstance (by decide +kernel) (pa_cons (pv 0) (pa_cons (pe_gref rfl RN.NoName) pa_nil))) pa_nil))))))
      (pss_cons (ps_set (i := 1) sc__law_refused.nd rfl (Or.inl rfl) (pe_op op_cat (pv 1) (pe_lst (pa_cons (pe_callB (KH.is_exc K rfl EC hp hz hf) rfl B.isinstance (by decide +kernel) (pa_cons (pv 0) (pa_cons (pe_gref rfl RN.NoStep) pa_nil))) (pa_cons (pe_callB (KH.is_exc K rfl EC hp hz hf) rfl B.isinstance (by decide +kernel) (pa_cons (pv 0) (pa_cons (pe_gref rfl RN.NoRow) pa_nil))) (pa_cons (pe_callB (KH.is_exc K rfl EC hp hz hf) rfl B.isinstance (by decide +kernel) (pa_cons (pv 0) (pa_cons (pe_gref rfl RN.Impossible) pa_nil))) pa_nil))))))
      (pss_one (ps_ret (KH.pe_lcH (own := [("_law_at", 2), ("_law_one", 3)]) hot hp sc__law_refused.nd (KH.pi_enumH rfl B.enumerate (pa_cons (pv 1) pa_nil)) (blkOk_by (own := [("_law_at", 2), ("_law_one", 3)]) (N := ["_law_e", "_law_found", "_law_at", "_law_one"]) (sc := defScope s__law_refused) (by decide +kernel)) (fun _ _ _ _ _ => (KH.pg_tupH K rfl (n := 2) ⟨_, hot, List.mem_cons_self⟩ (pgs_cons (pg_name (i := 2) sc__law_refused.nd rfl (Or.inl rfl)) (pgs_cons (pg_name (i := 3) sc__law_refused.nd rfl (Or.inl rfl)) pgs_nil)))) (fun _ _ _ _ _ => (pts_one (pt_val (pv 3)))) (fun _ _ _ _ _ => (pv 2))))))))), ?_⟩
    have b12 : ∀ m : Nat, m ≤ 12 → m ≤ sizeLine := fun m h => Nat.le_trans h (by decide)
    refine ⟨_, rfl, _, _, _, fs, rfl, .own _, hdd, RD.is 0 (by decide), ⟨_, rfl, _, _, _, fs, rfl, .own _, hdd, RD.is 1 (by decide), ⟨_, rfl, _, _, _, fs, rfl, .own _, hdd, RD.is 2 (by decide), ⟨b12 3 (by decide), fun l1 h1 => ?_⟩⟩⟩⟩
    have d1 : (upd H l1 (.lst [V.bl (decide (0 = n)), V.bl (decide (1 = n)), V.bl (decide (2 = n))])) dd = some (.xd fs) := same_upd h1 _ _ hdd
    have s1 : Same H (upd H l1 (.lst [V.bl (decide (0 = n)), V.bl (decide (1 = n)), V.bl (decide (2 = n))])) := same_upd h1
    have e1 : (upd H l1 (.lst [V.bl (decide (0 = n)), V.bl (decide (1 = n)), V.bl (decide (2 = n))])) l1 = some (.lst [V.bl (decide (0 = n)), V.bl (decide (1 = n)), V.bl (decide (2 = n))]) := upd_same
    generalize upd H l1 (.lst [V.bl (decide (0 = n)), V.bl (decide (1 = n)), V.bl (decide (2 = n))]) = H1 at *
    refine ⟨_, rfl, ⟨_, rfl, _, _, _, fs, rfl, .own _, d1, RD.is 3 (by decide), ⟨_, rfl, _, _, _, fs, rfl, .own _, d1, RD.is 4 (by decide), ⟨_, rfl, _, _, _, fs, rfl, .own _, d1, RD.is 5 (by decide), ⟨b12 3 (by decide), fun m1 g1 => ?_⟩⟩⟩⟩⟩
    have dd1 : (upd H1 m1 (.lst [V.bl (decide (3 = n)), V.bl (decide (4 = n)), V.bl (decide (5 = n))])) dd = some (.xd fs) := same_upd g1 _ _ d1
    have ss1 : Same H (upd H1 m1 (.lst [V.bl (decide (3 = n)), V.bl (decide (4 = n)), V.bl (decide (5 = n))])) := fun b o z => same_upd g1 _ _ (s1 b o z)
    have ee1 : (upd H1 m1 (.lst [V.bl (decide (3 = n)), V.bl (decide (4 = n)), V.bl (decide (5 = n))])) l1 = some (.lst [V.bl (decide (0 = n)), V.bl (decide (1 = n)), V.bl (decide (2 = n))]) := same_upd g1 _ _ e1
    have ff1 : (upd H1 m1 (.lst [V.bl (decide (3 = n)), V.bl (decide (4 = n)), V.bl (decide (5 = n))])) m1 = some (.lst [V.bl (decide (3 = n)), V.bl (decide (4 = n)), V.bl (decide (5 = n))]) := upd_same
    generalize (upd H1 m1 (.lst [V.bl (decide (3 = n)), V.bl (decide (4 = n)), V.bl (decide (5 = n))])) = I1 at *
    refine ⟨l1, m1, _, _, rfl, rfl, ee1, ff1, b12 6 (by decide), fun l2 h2 => ?_⟩
    have d2 : (upd I1 l2 (.lst [V.bl (decide (0 = n)), V.bl (decide (1 = n)), V.bl (decide (2 = n)), V.bl (decide (3 = n)), V.bl (decide (4 = n)), V.bl (decide (5 = n))])) dd = some (.xd fs) := same_upd h2 _ _ dd1
    have s2 : Same H (upd I1 l2 (.lst [V.bl (decide (0 = n)), V.bl (decide (1 = n)), V.bl (decide (2 = n)), V.bl (decide (3 = n)), V.bl (decide (4 = n)), V.bl (decide (5 = n))])) := fun b o z => same_upd h2 _ _ (ss1 b o z)
    have e2 : (upd I1 l2 (.lst [V.bl (decide (0 = n)), V.bl (decide (1 = n)), V.bl (decide (2 = n)), V.bl (decide (3 = n)), V.bl (decide (4 = n)), V.bl (decide (5 = n))])) l2 = some (.lst [V.bl (decide (0 = n)), V.bl (decide (1 = n)), V.bl (decide (2 = n)), V.bl (decide (3 = n)), V.bl (decide (4 = n)), V.bl (decide (5 = n))]) := upd_same
    replace e2 : (upd I1 l2 (.lst [V.bl (decide (0 = n)), V.bl (decide (1 = n)), V.bl (decide (2 = n)), V.bl (decide (3 = n)), V.bl (decide (4 = n)), V.bl (decide (5 = n))])) l2 = some (.lst [V.bl (decide (0 = n)), V.bl (decide (1 = n)), V.bl (decide (2 = n)), V.bl (decide (3 = n)), V.bl (decide (4 = n)), V.bl (decide (5 = n))]) := e2
    generalize hU : upd I1 l2 _ = H2
    rw [show (upd I1 l2 (.lst [V.bl (decide (0 = n)), V.bl (decide (1 = n)), V.bl (decide (2 = n)), V.bl (decide (3 = n)), V.bl (decide (4 = n)), V.bl (decide (5 = n))])) = H2 from hU] at d2 s2 e2
    refine ⟨_, rfl, ⟨_, rfl, _, _, _, fs, rfl, .own _, d2, RD.is 6 (by decide), ⟨_, rfl, _, _, _, fs, rfl, .own _, d2, RD.is 7 (by decide), ⟨_, rfl, _, _, _, fs, rfl, .own _, d2, RD.is 8 (by decide), ⟨b12 3 (by decide), fun m2 g2 => ?_⟩⟩⟩⟩⟩
    have dd2 : (upd H2 m2 (.lst [V.bl (decide (6 = n)), V.bl (decide (7 = n)), V.bl (decide (8 = n))])) dd = some (.xd fs) := same_upd g2 _ _ d2
    have ss2 : Same H (upd H2 m2 (.lst [V.bl (decide (6 = n)), V.bl (decide (7 = n)), V.bl (decide (8 = n))])) := fun b o z => same_upd g2 _ _ (s2 b o z)
    have ee2 : (upd H2 m2 (.lst [V.bl (decide (6 = n)), V.bl (decide (7 = n)), V.bl (decide (8 = n))])) l2 = some (.lst [V.bl (decide (0 = n)), V.bl (decide (1 = n)), V.bl (decide (2 = n)), V.bl (decide (3 = n)), V.bl (decide (4 = n)), V.bl (decide (5 = n))]) := same_upd g2 _ _ e2
    have ff2 : (upd H2 m2 (.lst [V.bl (decide (6 = n)), V.bl (decide (7 = n)), V.bl (decide (8 = n))])) m2 = some (.lst [V.bl (decide (6 = n)), V.bl (decide (7 = n)), V.bl (decide (8 = n))]) := upd_same
    generalize (upd H2 m2 (.lst [V.bl (decide (6 = n)), V.bl (decide (7 = n)), V.bl (decide (8 = n))])) = I2 at *
    refine ⟨l2, m2, _, _, rfl, rfl, ee2, ff2, b12 9 (by decide), fun l3 h3 => ?_⟩
    have d3 : (upd I2 l3 (.lst [V.bl (decide (0 = n)), V.bl (decide (1 = n)), V.bl (decide (2 = n)), V.bl (decide (3 = n)), V.bl (decide (4 = n)), V.bl (decide (5 = n)), V.bl (decide (6 = n)), V.bl (decide (7 = n)), V.bl (decide (8 = n))])) dd = some (.xd fs) := same_upd h3 _ _ dd2
    have s3 : Same H (upd I2 l3 (.lst [V.bl (decide (0 = n)), V.bl (decide (1 = n)), V.bl (decide (2 = n)), V.bl (decide (3 = n)), V.bl (decide (4 = n)), V.bl (decide (5 = n)), V.bl (decide (6 = n)), V.bl (decide (7 = n)), V.bl (decide (8 = n))])) := fun b o z => same_upd h3 _ _ (ss2 b o z)
    have e3 : (upd I2 l3 (.lst [V.bl (decide (0 = n)), V.bl (decide (1 = n)), V.bl (decide (2 = n)), V.bl (decide (3 = n)), V.bl (decide (4 = n)), V.bl (decide (5 = n)), V.bl (decide (6 = n)), V.bl (decide (7 = n)), V.bl (decide (8 = n))])) l3 = some (.lst [V.bl (decide (0 = n)), V.bl (decide (1 = n)), V.bl (decide (2 = n)), V.bl (decide (3 = n)), V.bl (decide (4 = n)), V.bl (decide (5 = n)), V.bl (decide (6 = n)), V.bl (decide (7 = n)), V.bl (decide (8 = n))]) := upd_same
    replace e3 : (upd I2 l3 (.lst [V.bl (decide (0 = n)), V.bl (decide (1 = n)), V.bl (decide (2 = n)), V.bl (decide (3 = n)), V.bl (decide (4 = n)), V.bl (decide (5 = n)), V.bl (decide (6 = n)), V.bl (decide (7 = n)), V.bl (decide (8 = n))])) l3 = some (.lst [V.bl (decide (0 = n)), V.bl (decide (1 = n)), V.bl (decide (2 = n)), V.bl (decide (3 = n)), V.bl (decide (4 = n)), V.bl (decide (5 = n)), V.bl (decide (6 = n)), V.bl (decide (7 = n)), V.bl (decide (8 = n))]) := e3
    generalize hU : upd I2 l3 _ = H3
    rw [show (upd I2 l3 (.lst [V.bl (decide (0 = n)), V.bl (decide (1 = n)), V.bl (decide (2 = n)), V.bl (decide (3 = n)), V.bl (decide (4 = n)), V.bl (decide (5 = n)), V.bl (decide (6 = n)), V.bl (decide (7 = n)), V.bl (decide (8 = n))])) = H3 from hU] at d3 s3 e3
    refine ⟨_, rfl, ⟨_, rfl, _, _, _, fs, rfl, .own _, d3, RD.is 9 (by decide), ⟨_, rfl, _, _, _, fs, rfl, .own _, d3, RD.is 10 (by decide), ⟨_, rfl, _, _, _, fs, rfl, .own _, d3, RD.is 11 (by decide), ⟨b12 3 (by decide), fun m3 g3 => ?_⟩⟩⟩⟩⟩
    have dd3 : (upd H3 m3 (.lst [V.bl (decide (9 = n)), V.bl (decide (10 = n)), V.bl (decide (11 = n))])) dd = some (.xd fs) := same_upd g3 _ _ d3
    have ss3 : Same H (upd H3 m3 (.lst [V.bl (decide (9 = n)), V.bl (decide (10 = n)), V.bl (decide (11 = n))])) := fun b o z => same_upd g3 _ _ (s3 b o z)
    have ee3 : (upd H3 m3 (.lst [V.bl (decide (9 = n)), V.bl (decide (10 = n)), V.bl (decide (11 = n))])) l3 = some (.lst [V.bl (decide (0 = n)), V.bl (decide (1 = n)), V.bl (decide (2 = n)), V.bl (decide (3 = n)), V.bl (decide (4 = n)), V.bl (decide (5 = n)), V.bl (decide (6 = n)), V.bl (decide (7 = n)), V.bl (decide (8 = n))]) := same_upd g3 _ _ e3
    have ff3 : (upd H3 m3 (.lst [V.bl (decide (9 = n)), V.bl (decide (10 = n)), V.bl (decide (11 = n))])) m3 = some (.lst [V.bl (decide (9 = n)), V.bl (decide (10 = n)), V.bl (decide (11 = n))]) := upd_same
    generalize (upd H3 m3 (.lst [V.bl (decide (9 = n)), V.bl (decide (10 = n)), V.bl (decide (11 = n))])) = I3 at *
    refine ⟨l3, m3, _, _, rfl, rfl, ee3, ff3, b12 12 (by decide), fun l4 h4 => ?_⟩
    have d4 : (upd I3 l4 (.lst [V.bl (decide (0 = n)), V.bl (decide (1 = n)), V.bl (decide (2 = n)), V.bl (decide (3 = n)), V.bl (decide (4 = n)), V.bl (decide (5 = n)), V.bl (decide (6 = n)), V.bl (decide (7 = n)), V.bl (decide (8 = n)), V.bl (decide (9 = n)), V.bl (decide (10 = n)), V.bl (decide (11 = n))])) dd = some (.xd fs) := same_upd h4 _ _ dd3
    have s4 : Same H (upd I3 l4 (.lst [V.bl (decide (0 = n)), V.bl (decide (1 = n)), V.bl (decide (2 = n)), V.bl (decide (3 = n)), V.bl (decide (4 = n)), V.bl (decide (5 = n)), V.bl (decide (6 = n)), V.bl (decide (7 = n)), V.bl (decide (8 = n)), V.bl (decide (9 = n)), V.bl (decide (10 = n)), V.bl (decide (11 = n))])) := fun b o z => same_upd h4 _ _ (ss3 b o z)
    have e4 : (upd I3 l4 (.lst [V.bl (decide (0 = n)), V.bl (decide (1 = n)), V.bl (decide (2 = n)), V.bl (decide (3 = n)), V.bl (decide (4 = n)), V.bl (decide (5 = n)), V.bl (decide (6 = n)), V.bl (decide (7 = n)), V.bl (decide (8 = n)), V.bl (decide (9 = n)), V.bl (decide (10 = n)), V.bl (decide (11 = n))])) l4 = some (.lst [V.bl (decide (0 = n)), V.bl (decide (1 = n)), V.bl (decide (2 = n)), V.bl (decide (3 = n)), V.bl (decide (4 = n)), V.bl (decide (5 = n)), V.bl (decide (6 = n)), V.bl (decide (7 = n)), V.bl (decide (8 = n)), V.bl (decide (9 = n)), V.bl (decide (10 = n)), V.bl (decide (11 = n))]) := upd_same
    replace e4 : (upd I3 l4 (.lst [V.bl (decide (0 = n)), V.bl (decide (1 = n)), V.bl (decide (2 = n)), V.bl (decide (3 = n)), V.bl (decide (4 = n)), V.bl (decide (5 = n)), V.bl (decide (6 = n)), V.bl (decide (7 = n)), V.bl (decide (8 = n)), V.bl (decide (9 = n)), V.bl (decide (10 = n)), V.bl (decide (11 = n))])) l4 = some (.lst (rfB n)) := e4
    generalize hU : upd I3 l4 _ = H4
    rw [show (upd I3 l4 (.lst [V.bl (decide (0 = n)), V.bl (decide (1 = n)), V.bl (decide (2 = n)), V.bl (decide (3 = n)), V.bl (decide (4 = n)), V.bl (decide (5 = n)), V.bl (decide (6 = n)), V.bl (decide (7 = n)), V.bl (decide (8 = n)), V.bl (decide (9 = n)), V.bl (decide (10 = n)), V.bl (decide (11 = n))])) = H4 from hU] at d4 s4 e4
    clear hU
    refine ⟨_, rfl, l4, _, rfl, SqL.of e4, fun D' hD => ?_⟩
    refine lc_enum (K := K) (a := l4) (xs := rfB n) (fun j H' => H' D' = some (.lst (rfX n j)) ∧ Same H4 H') ⟨upd_same, same_upd hD⟩ (fun i H' _ h => h.2.seq (SqL.of e4)) ?_ ?_
    · rintro i x H' t hx ⟨hD', sm⟩ ht
      have hi : i < 12 := by
        have := (List.getElem?_eq_some_iff.mp hx).1
        simpa [rfB] using this
      have ex : x = V.bl (decide (i = n)) := by
        unfold rfB at hx
        rw [List.getElem?_map, List.getElem?_range hi] at hx
        exact (Option.some.inj hx).symm
      subst ex
      have hDt : (upd H' t (.tup [.int (i : Nat), V.bl (decide (i = n))])) D' = some (.lst (rfX n i)) := same_upd ht _ _ hD'
      refine ⟨t, _, rfl, .inl (.inl upd_same), rfl, _, _, rfl, _, _, rfl, rfl, rfl, _, rfl, _, rfl, ?_⟩
      have more := rfX_more (n := n) (j := i)
      cases hd : decide (i = n) with
      | false =>
        rw [hd, if_neg Bool.false_ne_true] at more
        rw [hd] at hDt
        refine iteF ?_
        rw [more]
        exact ⟨hDt, fun b o z => same_upd ht _ _ (sm b o z)⟩
      | true =>
        rw [hd, if_pos rfl] at more
        rw [hd] at hDt
        refine iteT ?_
        rw [more]
        refine ⟨_, rfl, _, hDt, ?_, upd_same, fun b o z => ?_⟩
        · refine b12 _ ?_
          unfold rfX
          split <;> simp
        · have z' := sm b o z
          rw [upd_ne (ne_of_none z hD)]
          exact same_upd ht _ _ z'
    · rintro H' ⟨hD', sm⟩
      refine q D' H' ?_ fun b o z => sm b o (s4 b o z)
      rw [hD']
      show some (HO.lst (rfX n 12)) = _
      unfold rfX
      rw [if_pos RD.lt]
end
end KW

/-! ## k12: _law_told -/
namespace KW
open PySem PySem.Spec PyProof.Rows L2 L2H
theorem takes0N {X : Cx} : L2N.Takes X (fun _ _ _ _ => False) := fun _ _ x => by
  obtain ⟨_, _, _, _, _, _, _, _, _, _, _, _, _, _, _, _, z⟩ := x
  exact z.elim
section
variable {P : Program} {w : World} {K : PySem.W.Frag} {mg : Str → Option Value} {base : Heap}
abbrev s__law_told : Stmt := topS 35
theorem sc__law_told : FnScope ["_law_text", "_law_found", "_law_e"] ["_law_text"] (defScope s__law_told) := ⟨rfl, rfl, rfl, by decide +kernel, rfl, by decide +kernel, by decide +kernel⟩
/-- what is told of the text -/
def ToldAt (H : Hp) (v : V) (r : Rd2) : Prop := ∃ q : Addr, v = .ref q ∧ match r with
  | .bad k => H q = some (.tup [.str "refused", .int k])
  | .tree t => ∃ u, H q = some (.tup [.str "told", u]) ∧ TrAt H u t
def spTold (n : Nat) : Sp := fun vs H Q _ => ∃ (x : List Nat), vs = [.str (S x)] ∧ x.length ≤ 90000 ∧ (TL.spl [10] 0 [] x).length < n ∧
  ∀ (v : V) (H' : Hp), ToldAt H' v (rdText n x) → Same H H' → Q v H'
theorem ok_told {CI CW fR : Addr} {fdR : FuncData} {cs : Nat → Addr} {n k : Nat} (B : Bi mg) (F : Df K mg "_law_told" s__law_told ["_law_text"]) (TI : ErC K mg "InvalidText" "at" CI) (RD : RfD K cs CI 4)
    (GR : RCal P w K mg base k "read_tree" (spReadR CI n)) (FX : KH.FnX P w K mg base k fR fdR ["_law_e"] (spRf K cs)) (mR : mg "_law_refused" = some (.ref fR)) (kR : PySem.W.keepIn K (.ref fR) = true) (bR : Binds K fdR ["_law_e"] [])
    (mW : mg "WaysError" = some (.ref CW)) (xe : PySem.W.exmOne K (.ref CI) (.ref CW) = some true) : C8.Cal P w K mg base (k + 1) "_law_told" (spTold n) [] := by
  refine F.cal sc__law_told (fun vs H Q E h => ?_) (fun f cdv A outer s H vs Q E hr h => ?_)
  · obtain ⟨x, rfl, _⟩ := h
    rfl
  · obtain ⟨x, rfl, hx, hn, q⟩ := h
    obtain ⟨fT, fdT, psT, FT, mT, kT, bT⟩ := GR.ex
    refine ⟨_, pss_cons (ps_set (i := 1) sc__law_told.nd rfl (Or.inl rfl) pe_str)
      (pss_cons (L2N.ps_try_as (i := 2) (x := "WaysError") (c := .ref CW)
          (tb := fun W => tAsg (tTup (tCons (tC (.str "told")) (tCons (tCallS (spReadR CI n) (L2.WE W) (tCons (tVar 0) tNil)) tNil))) (gName 1))
          (ts := fun a cls d => tIfS (tTest (tOp (rEqD K) (KH.tCallX (spRf K cs) a cls d (tCons (tVar 2) tNil)) (tLst (tCons (tC (.int 4)) tNil)))) (tAsg (tTup (tCons (tC (.str "refused")) (tCons (tXf a cls d CI "at" (tVar 2)) tNil))) (gName 1)) tNext)
          (Wout := fun _ _ _ _ => False) rfl rfl sc__law_told.nd rfl rfl ⟨rfl, by decide, Or.inl mW⟩ takes0N
          (fun W pn xe tk _ => pss_one (ps_set (i := 1) sc__law_told.nd rfl (Or.inl rfl) (by exact (pe_tup (pa_cons pe_str (pa_cons (pe_callS FT hr rfl mT kT bT (fun σ => L2N.passAt tk σ) (by exact (pa_cons (pv 0) pa_nil))) pa_nil))))))
          (fun a oe cls d pn hz hf => pss_one (ps_if (pt_cmpR (kk_eqD K rfl hr.units) (KH.pe_callX FX ⟨hr.dp, hr.un⟩ ⟨rfl, hf.choose, hf.choose_spec, hz.2.2 _ hf.choose_spec⟩ List.mem_cons_self ⟨hz.1, hz.2.1⟩ rfl mR kR bR (by exact (pa_cons (pv 2) pa_nil))) (pe_lst (pa_cons pe_int pa_nil)) (nomark _))
            (pss_one (ps_set (i := 1) sc__law_told.nd rfl (Or.inl rfl) (by exact (pe_tup (pa_cons pe_str (pa_cons (pe_xf (cls := cls) (d := d) TI.xf TI.no ⟨hz.1, hz.2.1⟩ hf (pv 2)) pa_nil)))))) pss_nil)))
      (pss_one (ps_ret (pv 1)))), ?_⟩
    refine ⟨_, rfl, x, rfl, hx, hn, fun k ek d H1 hd hd' sm => ?_, fun t et v H1 hv sm => ?_⟩
    · refine ⟨true, xe, fun _ a ha => ?_, fun z => nomatch z⟩
      refine ⟨_, rfl, CI, d, _, 4, rfl, rfl, rfl, hd', RD, fun l H2 hl s2 => ⟨by show 1 ≤ sizeLine; decide, fun p hp => ?_⟩⟩
      refine ⟨.list [.int 4], .list [.int 4], .lst (SqL.of (same_upd hp _ _ hl)) (.cons (.int _) .nil), .lst (SqL.of upd_same) (.cons (.int _) .nil), rfl, rfl, _, rfl, ?_⟩
      rw [show PyData.eqv (.list [.int 4]) (.list [.int 4]) = true by decide +kernel]
      refine iteT ⟨_, rfl, rfl, rfl, d, _, .int k, rfl, same_upd hp _ _ (s2 _ _ hd'), ?_, by show 2 ≤ sizeLine; decide, fun c hc => ?_⟩
      · simp [List.lookup]
      refine ⟨_, rfl, q _ _ ⟨c, rfl, ?_⟩ fun b o z => same_upd hc _ _ (same_upd hp _ _ (s2 _ _ (sm _ _ z)))⟩
      rw [ek]
      exact upd_same
    · refine ⟨by show 2 ≤ sizeLine; decide, fun c hc => ⟨_, rfl, q _ _ ⟨c, rfl, ?_⟩ fun b o z => same_upd hc _ _ (sm _ _ z)⟩⟩
      rw [et]
      exact ⟨v, upd_same, hv.mono (same_upd hc)⟩
end
end KW

/-! ## k12: the law's own reading: _law_is_side -/
namespace KW
open PySem PySem.Spec PyProof.Rows L2
def sgn2 (c : Nat) : Bool := c == 60 || c == 61
theorem in_lteq (c : Nat) : inV (V.str (S [c])) [V.str (Str.ofString "<"), V.str (Str.ofString "=")] = sgn2 c := by
  have e : [V.str (Str.ofString "<"), V.str (Str.ofString "=")] = LS [[60], [61]] := by decide +kernel
  rw [e, inV_LS]
  unfold sgn2
  rw [Bool.eq_iff_iff]
  simp [List.contains_cons]
theorem sgns_shaped : ∀ cs : List Nat, (∀ c ∈ cs, sgn2 c = true) → SeqAt.shaped (.list (cs.map fun c => PyData.str (S [c]))) = true := fun cs h => by
  have h1 : ∀ cs : List Nat, (∀ c ∈ cs, sgn2 c = true) → PyData.canLayAll0 (cs.map fun c => PyData.str (S [c])) = true := by
    intro cs
    induction cs with
    | nil => intro _; rfl
    | cons c r ih =>
      intro h
      have hc : c = 60 ∨ c = 61 := by
        have := h c (List.mem_cons_self ..)
        simpa [sgn2] using this
      have hr := ih fun d hd => h d (List.mem_cons_of_mem _ hd)
      have hs : PyData.strOk (S [c]) = true := by
        rcases hc with rfl | rfl <;> decide +kernel
      simp only [List.map_cons, PyData.canLayAll0, PyData.canLay0, hs, hr, Bool.and_self]
  have h2 : ∀ cs : List Nat, PyData.depthAll (cs.map fun c => PyData.str (S [c])) ≤ 1 := by
    intro cs
    induction cs with
    | nil => simp [PyData.depthAll]
    | cons c r ih => simp only [List.map_cons, PyData.depthAll, PyData.depth]; omega
  unfold SeqAt.shaped
  have h3 := h1 cs h
  have h4 := h2 cs
  rw [show PyData.canLay0 (.list (cs.map fun c => PyData.str (S [c]))) = true by simp only [PyData.canLay0, h3], Bool.true_and]
  refine decide_eq_true ?_
  simp only [PyData.depth]
  omega
theorem sgns_dp {K : PySem.W.Frag} {H : Hp} : ∀ cs : List Nat, DpAll K H (cs.map fun c => V.str (S [c])) (cs.map fun c => PyData.str (S [c]))
  | [] => .nil
  | c :: r => .cons (.str _) (sgns_dp r)
theorem sgns_eqv (cs : List Nat) : PyData.eqv (.list (cs.map fun c => PyData.str (S [c]))) (.list []) = decide (cs = []) := by
  cases cs with
  | nil => simp [PyData.eqv, PyData.eqvAll]
  | cons c r => simp [PyData.eqv, PyData.eqvAll]
theorem isSd_cons (c : Nat) (t : List Nat) {z : Nat} (hz : (c :: t).getLast? = some z) : isSd (c :: t) = (decide ((c :: t).filter sgn2 = []) && (!decide (c = 32) && !decide (z = 32))) := by
  have h1 : decide ((c :: t).filter sgn2 = []) = (!((c :: t).contains 60) && !((c :: t).contains 61)) := by
    rw [Bool.eq_iff_iff]
    rw [decide_eq_true_eq, List.filter_eq_nil_iff]
    simp only [Bool.and_eq_true, Bool.not_eq_true', List.contains_eq_mem, decide_eq_false_iff_not]
    refine ⟨fun h => ⟨fun hm => h _ hm (by decide), fun hm => h _ hm (by decide)⟩, fun h a ha hs => ?_⟩
    unfold sgn2 at hs
    rw [Bool.or_eq_true, beq_iff_eq, beq_iff_eq] at hs
    rcases hs with e | e
    · exact h.1 (e ▸ ha)
    · exact h.2 (e ▸ ha)
  rw [h1]
  unfold isSd
  rw [hz]
  simp [Bool.and_assoc]
section
variable {P : Program} {w : World} {K : PySem.W.Frag} {mg : Str → Option Value} {base : Heap}
abbrev s__law_is_side : Stmt := topS 32
theorem sc__law_is_side : FnScope ["_law_text", "_law_signs", "_law_sign_here"] ["_law_text"] (defScope s__law_is_side) := ⟨rfl, rfl, rfl, by decide +kernel, rfl, by decide +kernel, by decide +kernel⟩
def spLSide : Sp := fun vs H Q _ => ∃ l : List Nat, vs = [.str (S l)] ∧ l.length ≤ 1000000 ∧ ∀ H', Same H H' → Q (.bl (isSd l)) H'
theorem ok_law_is_side {k : Nat} (B : Bi mg) (F : Df K mg "_law_is_side" s__law_is_side ["_law_text"]) : C8.Cal P w K mg base (k + 1) "_law_is_side" spLSide [] := by
  refine F.cal sc__law_is_side (fun vs H Q E h => ?_) (fun f cdv A outer s H vs Q E hr h => ?_)
  · obtain ⟨l, rfl, _⟩ := h
    rfl
  · obtain ⟨l, rfl, hlen, q⟩ := h
    refine ⟨_, (pss_cons (ps_setLc (i := 1) (own := [("_law_sign_here", 2)]) (g := gName 2) rfl sc__law_is_side.nd rfl rfl (sw_true rfl rfl rfl (by decide +kernel)) (pi_str (pv 0)) (blkOk_by (own := [("_law_sign_here", 2)]) (N := ["_law_text", "_law_signs", "_law_sign_here"]) (sc := defScope s__law_is_side) (by decide +kernel)) (fun _ _ _ _ _ => (pg_name (i := 2) sc__law_is_side.nd rfl (Or.inl rfl))) (fun _ _ _ _ _ => (pts_one (pt_cmpR (kk_in K rfl) (pv 2) (pe_tup (pa_cons pe_str (pa_cons pe_str pa_nil))) rfl))) (fun _ _ _ _ _ => (pv 2)))
      (pss_one (ps_ret (pe_and (pe_cmpR op_ne (pv 0) pe_str (nomark _)) (pe_and (pe_cmpR (kk_eqD K rfl hr.units) (pv 1) (pe_lst pa_nil) (nomark _)) (pe_and (pe_cmpR op_ne (pe_slice C8.sl_txt (pv 0) po_none (po_some pe_int)) pe_str (nomark _)) (pe_one (pe_cmpR op_ne (pe_ix ix_str (pv 0) (pe_op op_sub (pe_callB (kk_len K rfl) rfl B.len PySem.boot_len (pa_cons (pv 0) pa_nil)) pe_int) (fun _ _ => rfl)) pe_str (nomark _))))))))), ?_⟩
    refine ⟨_, rfl, S l, rfl, fun D hD => ?_⟩
    refine lc_it walk_str (fun i H' => H' D = some (.lst (((l.take i).filter sgn2).map fun c => V.str (S [c]))) ∧ Same H H') ⟨by rw [List.take_zero]; exact upd_same, same_upd hD⟩ (fun _ _ _ _ => trivial) ?_ ?_
    · rintro i x H1 H2 hi ⟨hD1, s1⟩ ⟨rfl, c, hc, rfl⟩
      have hc' : l[i]? = some c := by
        rw [← hc]
        show l[i]? = (l.toArray)[i]?
        simp
      refine ⟨rfl, _, rfl, by show 2 ≤ sizeLine; decide, fun p hp => ?_⟩
      refine ⟨p, _, rfl, .inr (SqT.of upd_same), rfl, rfl, _, rfl, ?_⟩
      have hk : (upd H2 p (.tup [V.str (Str.ofString "<"), V.str (Str.ofString "=")])) D = _ := same_upd hp _ _ hD1
      have hin : inV (V.str (⟨#[c]⟩ : Str)) [V.str (Str.ofString "<"), V.str (Str.ofString "=")] = sgn2 c := in_lteq c
      rw [show (if false = true then !inV (V.str (⟨#[c]⟩ : Str)) [V.str (Str.ofString "<"), V.str (Str.ofString "=")] else inV (V.str (⟨#[c]⟩ : Str)) [V.str (Str.ofString "<"), V.str (Str.ofString "=")]) = sgn2 c from hin]
      have etake := take_more hc'
      cases hs : sgn2 c with
      | true =>
        refine iteT ⟨_, rfl, _, hk, ?_, ?_, fun b o z => ?_⟩
        · rw [List.length_map]
          have h1 := List.length_filter_le sgn2 (l.take i)
          have h2 : (l.take i).length ≤ i := by rw [List.length_take]; omega
          have h3 : i < l.length := (List.getElem?_eq_some_iff.mp hc').1
          exact Nat.lt_of_lt_of_le (show _ < 1000001 by omega) (by decide)
        · rw [upd_same, etake, List.filter_append, List.filter_cons, hs, List.map_append]
          rfl
        · rw [upd_ne (ne_of_none z hD)]
          exact same_upd hp _ _ (s1 _ _ z)
      | false =>
        refine iteF ⟨?_, fun b o z => same_upd hp _ _ (s1 _ _ z)⟩
        rw [hk, etake, List.filter_append, List.filter_cons, hs]
        simp
    · rintro H1 ⟨hD1, s1⟩
      have hD2 : H1 D = some (.lst ((l.filter sgn2).map fun c => V.str (S [c]))) := by
        rw [hD1]
        show some (HO.lst (((l.take l.toArray.size).filter sgn2).map _)) = _
        rw [List.take_of_length_le (by simp)]
      cases l with
      | nil =>
        refine ⟨_, rfl, rfl, false, ?_, iteF (q _ s1)⟩
        rw [decide_eq_true (show V.str (S []) = V.str (Str.ofString "") by rw [nil_eq])]
        rfl
      | cons c t =>
        have big : (S (c :: t)).length ≤ sizeLine := Nat.le_trans (by rw [slen]; exact hlen) (show 1000000 ≤ sizeLine by decide)
        obtain ⟨b, z, hb⟩ : ∃ (b : List Nat) (z : Nat), c :: t = b ++ [z] := ⟨(c :: t).dropLast, (c :: t).getLast (List.cons_ne_nil _ _), (List.dropLast_concat_getLast _).symm⟩
        have hla : (c :: t).getLast? = some z := by rw [hb]; simp
        have esd := isSd_cons c t hla
        have sp1 : ∀ y : Nat, (V.bl (!decide (V.str (S [y]) = V.str (Str.ofString " ")))) = V.bl (!decide (y = 32)) := fun y => by
          congr 2
          refine decide_eq_decide.mpr ⟨fun e => ?_, fun e => ?_⟩
          · have e1 : S [y] = S [32] := (V.str.inj e).trans (by decide +kernel)
            have := SX.S_inj e1
            simpa using this
          · subst e
            decide +kernel
        refine ⟨_, rfl, rfl, true, ?_, iteT ?_⟩
        · rw [decide_eq_false fun e => by
            have e1 : S (c :: t) = S [] := (V.str.inj e).trans nil_eq
            cases SX.S_inj e1]
          rfl
        refine ⟨_, rfl, by show 0 ≤ sizeLine; decide, fun p hp => ?_⟩
        have sx : Same H (upd H1 p (.lst [])) := fun b' o z' => same_upd hp _ _ (s1 _ _ z')
        refine ⟨.list (((c :: t).filter sgn2).map fun c => PyData.str (S [c])), .list [], .lst (SqL.of (same_upd hp _ _ hD2)) (sgns_dp _), .lst (SqL.of upd_same) .nil, sgns_shaped _ (fun d hd => (List.mem_filter.mp hd).2), by decide, _, rfl, ?_⟩
        rw [sgns_eqv]
        cases hs : decide ((c :: t).filter sgn2 = []) with
        | false =>
          rw [hs, Bool.false_and] at esd
          rw [esd] at q
          exact iteF (q _ sx)
        | true =>
          rw [hs, Bool.true_and] at esd
          rw [esd] at q
          refine iteT ⟨_, rfl, _, rfl, S (c :: t), rfl, big, rfl, !decide (c = 32), ?_, ?_⟩
          · rw [SX.slice_to (by decide)]
            exact sp1 c
          by_cases hc : c = 32
          · rw [decide_eq_true hc] at q ⊢
            exact iteF (q _ sx)
          · rw [decide_eq_false hc] at q ⊢
            refine iteT ⟨_, rfl, _, rfl, _, _, rfl, ⟨big, rfl⟩, _, _, rfl, rfl, S (c :: t), _, z, rfl, rfl, big, ?_, rfl, ?_⟩
            · show atI (c :: t) (((S (c :: t)).length : Int) - 1) = some z
              rw [slen, hb, List.length_append, show (((b.length + [z].length : Nat) : Int) - 1) = (b.length : Int) by simp]
              exact atI_nat (by simp)
            have e2 : (V.bl (!decide (V.str (⟨#[z]⟩ : Str) = V.str (Str.ofString " ")))) = V.bl (!decide (z = 32)) := sp1 z
            rw [e2]
            exact q _ sx
end
end KW

/-! ## k12: the law's own reading: _law_branch, _law_due -/
namespace KW
open PySem PySem.Spec PyProof.Rows L2
/-- what _law_branch answers -/
def BrAt (H : Hp) (v : V) : RdT → Prop
  | .bad k => ∃ q : Addr, v = .ref q ∧ H q = some (.tup [.str "bad", .int k, .int 0])
  | .tree t m => ∃ (q : Addr) (u : V), v = .ref q ∧ H q = some (.tup [.str "tree", u, .int m]) ∧ TrAt H u t
theorem rdLine_at {ls : List (List Nat)} {i : Nat} {a y : List Nat} (h : ls[i]? = some y) : rdLine ls i a = if y.take a.length = a then .ok (y.drop a.length) else .bad i := by
  unfold rdLine
  rw [h]
  dsimp only
  unfold TL.pre
  by_cases c : y.take a.length = a
  · rw [if_pos c, if_pos (by rw [c]; exact beq_self_eq_true a)]
  · rw [if_neg c, if_neg (fun e => c (eq_of_beq e))]
theorem rdMore_tree {ls : List (List Nat)} {n j : Nat} {l r a : List Nat} {t1 : Tr} (hj : j ≤ ls.length) :
    rdMore ls n l r a (.tree t1 j) = if ls[j]? = some (a ++ ((r ++ slt) ++ l)) then (match rdTree ls n (j + 1) (a ++ two) with
        | .bad k => .bad k
        | .tree t2 m => .tree (.node l r t1 t2) m) else .bad j := by
  unfold rdMore
  dsimp only
  cases e : ls[j]? with
  | none =>
    have hl : ls.length ≤ j := by
      rw [List.getElem?_eq_none_iff] at e
      exact e
    rw [show rdLine ls j a = .bad ls.length by unfold rdLine; rw [e]]
    rw [if_neg (by simp)]
    dsimp only
    rw [show ls.length = j by omega]
  | some y =>
    rw [rdLine_at e]
    by_cases c : y.take a.length = a
    · rw [if_pos c]
      dsimp only
      have ey : y = a ++ y.drop a.length := by
        have e3 := List.take_append_drop a.length y
        rw [c] at e3
        exact e3.symm
      by_cases c2 : y.drop a.length = (r ++ slt) ++ l
      · rw [if_pos c2, if_pos (by rw [ey, c2])] <;> (cases rdTree ls n (j + 1) (a ++ two) <;> rfl)
      · rw [if_neg c2, if_neg (fun z => c2 (by
          have z := Option.some.inj z
          rw [z, List.drop_left]))]
    · rw [if_neg c]
      dsimp only
      rw [if_neg (fun z => c (by
          have z := Option.some.inj z
          rw [z, List.take_left]))]
section
variable {P : Program} {w : World} {K : PySem.W.Frag} {mg : Str → Option Value} {base : Heap}
abbrev s__law_branch : Stmt := topS 33
theorem sc__law_branch : FnScope ["_law_lines", "_law_at", "_law_ahead", "_law_rest", "_law_sides", "_law_one", "_law_other"] ["_law_lines", "_law_at", "_law_ahead"] (defScope s__law_branch) := ⟨rfl, rfl, rfl, by decide +kernel, rfl, by decide +kernel, by decide +kernel⟩
def spLB (n : Nat) : Sp := fun vs H Q _ => ∃ (p : Addr) (i : Nat) (ls : List (List Nat)) (a : List Nat), vs = [.ref p, .int i, .str (S a)] ∧ H p = some (.lst (LS ls)) ∧ ls.length - i < n ∧ a.length + 2 * n ≤ 1000000 ∧ (∀ l ∈ ls, l.length ≤ 100000) ∧
  ∀ (v : V) (H' : Hp), BrAt H' v (rdTree ls n i a) → Same H H' → Q v H'
theorem bad_ne_tree : ¬ V.str (Str.ofString "tree") = V.str (Str.ofString "bad") := by
  intro e
  exact absurd (V.str.inj e) (by decide +kernel)
theorem ok_law_branch (B : Bi mg) (F : Df K mg "_law_branch" s__law_branch ["_law_lines", "_law_at", "_law_ahead"]) (G0 : C8.Cal P w K mg base 1 "_law_is_side" spLSide []) : ∀ n : Nat, C8.Cal P w K mg base (n + 1) "_law_branch" (spLB n) []
  | 0 => by
      refine calMono (F.never fun vs H Q E h => ?_) (Nat.zero_le _)
      obtain ⟨p, i, ls, a, _, _, h, _⟩ := h
      exact absurd h (Nat.not_lt_zero _)
  | n + 1 => by
    have G_law_branch := ok_law_branch B F G0 n
    have G_law_is_side := calMono G0 (show 1 ≤ n + 1 by omega)
    refine F.cal sc__law_branch (fun vs H Q E h => ?_) (fun f cdv A outer s H vs Q E hr h => ?_)
    · obtain ⟨p, i, ls, a, rfl, _⟩ := h
      rfl
    · obtain ⟨p, i, ls, a, rfl, hp, hn, hal, hll, q⟩ := h
      refine ⟨_, (pss_cons (ps_if (pt_cmpR op_ge (pv 1) (pe_callB (kk_len K rfl) rfl B.len PySem.boot_len (pa_cons (pv 0) pa_nil)) (nomark _)) (pss_one (ps_ret (pe_tup (pa_cons pe_str (pa_cons (pe_callB (kk_len K rfl) rfl B.len PySem.boot_len (pa_cons (pv 0) pa_nil)) (pa_cons pe_int pa_nil)))))) pss_nil)
      (pss_cons (ps_if (pt_cmpR op_ne (pe_slice C8.sl_txt (pe_ix (kk_ixL K rfl) (pv 0) (pv 1) (fun _ _ => rfl)) po_none (po_some (pe_callB (kk_len K rfl) rfl B.len PySem.boot_len (pa_cons (pv 2) pa_nil)))) (pv 2) (nomark _)) (pss_one (ps_ret (pe_tup (pa_cons pe_str (pa_cons (pv 1) (pa_cons pe_int pa_nil)))))) pss_nil)
      (pss_cons (ps_set (i := 3) sc__law_branch.nd rfl (Or.inl rfl) (pe_slice C8.sl_txt (pe_ix (kk_ixL K rfl) (pv 0) (pv 1) (fun _ _ => rfl)) (po_some (pe_callB (kk_len K rfl) rfl B.len PySem.boot_len (pa_cons (pv 2) pa_nil))) po_none))
      (pss_cons (ps_if (pt_cmpR op_eq (pv 3) pe_str (nomark _)) (pss_one (ps_ret (pe_tup (pa_cons pe_str (pa_cons (pe_tup pa_nil) (pa_cons (pe_op op_add (pv 1) pe_int) pa_nil)))))) pss_nil)
      (pss_cons (ps_set (i := 4) sc__law_branch.nd rfl (Or.inl rfl) (kk_bm K rfl PySem.F.plainAttrs_str PySem.F.slot_str_split PySem.F.type_str_split mt_split (pv 3) (pa_cons pe_str pa_nil)))
      (pss_cons (ps_if (PW.pt (pw_or (pt_cmpR op_ne (pe_callB (kk_len K rfl) rfl B.len PySem.boot_len (pa_cons (pv 4) pa_nil)) pe_int (nomark _)) (pw_or (pt_not (pt_val (C8.pe_c G_law_is_side hr (Nat.le_refl _) rfl (pa_cons (pe_ix (kk_ixL K rfl) (pv 4) pe_int (fun _ _ => rfl)) pa_nil)))) (pw_or1 (pt_not (pt_val (C8.pe_c G_law_is_side hr (Nat.le_refl _) rfl (pa_cons (pe_ix (kk_ixL K rfl) (pv 4) pe_int (fun _ _ => rfl)) pa_nil)))))))) (pss_one (ps_ret (pe_tup (pa_cons pe_str (pa_cons (pv 1) (pa_cons pe_int pa_nil)))))) pss_nil)
      (pss_cons (ps_set (i := 5) sc__law_branch.nd rfl (Or.inl rfl) (C8.pe_c G_law_branch hr (Nat.le_refl _) rfl (pa_cons (pv 0) (pa_cons (pe_op op_add (pv 1) pe_int) (pa_cons (pe_op op_add_str (pv 2) pe_str) pa_nil)))))
      (pss_cons (ps_if (pt_cmpR op_eq (pe_ix (kk_ixT K rfl) (pv 5) pe_int (fun _ _ => rfl)) pe_str (nomark _)) (pss_one (ps_ret (pv 5))) pss_nil)
      (pss_cons (ps_if (PW.pt (pw_or (pt_cmpR op_ge (pe_ix (kk_ixT K rfl) (pv 5) pe_int (fun _ _ => rfl)) (pe_callB (kk_len K rfl) rfl B.len PySem.boot_len (pa_cons (pv 0) pa_nil)) (nomark _)) (pw_or1 (pt_cmpR op_ne (pe_ix (kk_ixL K rfl) (pv 0) (pe_ix (kk_ixT K rfl) (pv 5) pe_int (fun _ _ => rfl)) (fun _ _ => rfl)) (pe_op op_add_str (pe_op op_add_str (pe_op op_add_str (pv 2) (pe_ix (kk_ixL K rfl) (pv 4) pe_int (fun _ _ => rfl))) pe_str) (pe_ix (kk_ixL K rfl) (pv 4) pe_int (fun _ _ => rfl))) (nomark _))))) (pss_one (ps_ret (pe_tup (pa_cons pe_str (pa_cons (pe_ix (kk_ixT K rfl) (pv 5) pe_int (fun _ _ => rfl)) (pa_cons pe_int pa_nil)))))) pss_nil)
      (pss_cons (ps_set (i := 6) sc__law_branch.nd rfl (Or.inl rfl) (C8.pe_c G_law_branch hr (Nat.le_refl _) rfl (pa_cons (pv 0) (pa_cons (pe_op op_add (pe_ix (kk_ixT K rfl) (pv 5) pe_int (fun _ _ => rfl)) pe_int) (pa_cons (pe_op op_add_str (pv 2) pe_str) pa_nil)))))
      (pss_cons (ps_if (pt_cmpR op_eq (pe_ix (kk_ixT K rfl) (pv 6) pe_int (fun _ _ => rfl)) pe_str (nomark _)) (pss_one (ps_ret (pv 6))) pss_nil)
      (pss_one (ps_ret (pe_tup (pa_cons pe_str (pa_cons (pe_tup (pa_cons (pe_ix (kk_ixL K rfl) (pv 4) pe_int (fun _ _ => rfl)) (pa_cons (pe_ix (kk_ixL K rfl) (pv 4) pe_int (fun _ _ => rfl)) (pa_cons (pe_ix (kk_ixT K rfl) (pv 5) pe_int (fun _ _ => rfl)) (pa_cons (pe_ix (kk_ixT K rfl) (pv 6) pe_int (fun _ _ => rfl)) pa_nil))))) (pa_cons (pe_ix (kk_ixT K rfl) (pv 6) pe_int (fun _ _ => rfl)) pa_nil))))))))))))))))), ?_⟩
      have big : ∀ m : Nat, m ≤ 2000000 → m ≤ sizeLine := fun m h => Nat.le_trans h (by decide)
      have bad : ∀ (k : Nat) (H1 : Hp), rdTree ls (n + 1) i a = .bad k → Same H H1 → ∀ c, H1 c = none → Q (.ref c) (upd H1 c (.tup [.str "bad", .int k, .int 0])) := fun k H1 e s1 c hc =>
        q _ _ (by rw [e]; exact ⟨c, rfl, upd_same⟩) fun b o z => same_upd hc _ _ (s1 _ _ z)
      have three : ∀ (x y z : V), [x, y, z].length ≤ sizeLine := fun _ _ _ => by show 3 ≤ sizeLine; decide
      refine ⟨_, rfl, _, rfl, _, _, rfl, .inl ⟨_, SqL.of hp, rfl⟩, _, _, rfl, rfl, _, rfl, ?_⟩
      by_cases hi : i < ls.length
      case neg =>
        rw [decide_eq_true (by rw [List.length_map]; omega)]
        refine iteT ⟨_, rfl, _, _, rfl, .inl ⟨_, SqL.of hp, rfl⟩, three _ _ _, fun c hc => ?_⟩
        rw [List.length_map]
        refine bad _ H (rdTree_bad0 ?_) (fun _ _ z => z) c hc
        unfold rdLine
        rw [List.getElem?_eq_none (by omega)]
      rw [decide_eq_false (by rw [List.length_map]; omega)]
      have hi' : ls[i]? = some ls[i] := List.getElem?_eq_getElem hi
      have hy := hll _ (List.getElem_mem hi)
      generalize ls[i] = y at hi' hy
      have hix : atI (LS ls) (i : Int) = some (V.str (S y)) := atI_nat (by rw [List.getElem?_map, hi']; rfl)
      have bigy : (S y).length ≤ sizeLine := big _ (by rw [slen]; omega)
      have biga : (S a).length ≤ sizeLine := big _ (by rw [slen]; omega)
      refine iteF ⟨_, rfl, _, rfl, p, _, _, V.str (S y), rfl, rfl, SqL.of hp, hix, _, rfl, _, _, rfl, ⟨biga, rfl⟩, _, rfl, S y, rfl, bigy, _, rfl, rfl, _, rfl, ?_⟩
      rw [show ((S a).length : Int) = (a.length : Int) by rw [slen], SX.slice_to (by omega), Int.toNat_natCast]
      have hline := rdLine_at (a := a) hi'
      by_cases hpre : y.take a.length = a
      case neg =>
        rw [decide_eq_false (show ¬ V.str (S (y.take a.length)) = V.str (S a) from fun e => hpre (SX.S_inj (V.str.inj e)))]
        rw [if_neg hpre] at hline
        exact iteT ⟨_, rfl, three _ _ _, bad i H (rdTree_bad0 hline) (fun _ _ z => z)⟩
      rw [if_pos hpre] at hline
      rw [decide_eq_true (show V.str (S (y.take a.length)) = V.str (S a) by rw [hpre])]
      refine iteF ⟨_, rfl, _, rfl, p, _, _, V.str (S y), rfl, rfl, SqL.of hp, hix, _, rfl, _, _, rfl, ⟨biga, rfl⟩, _, rfl, S y, rfl, bigy, ?_⟩
      rw [show ((S a).length : Int) = (a.length : Int) by rw [slen], SX.slice_from (by omega), Int.toNat_natCast]
      have hxl : (y.drop a.length).length ≤ 100000 := by rw [List.length_drop]; omega
      generalize y.drop a.length = x at hline hxl
      refine ⟨_, rfl, rfl, _, rfl, ?_⟩
      by_cases hso : x = so
      · subst hso
        rw [decide_eq_true (show V.str (S so) = V.str (Str.ofString "so") by rw [so_eq])]
        refine iteT ⟨Nat.zero_le _, fun c hc => ⟨_, rfl, _, _, rfl, rfl, three _ _ _, fun d hd => ?_⟩⟩
        refine q _ _ ?_ fun b o z => same_upd hd _ _ (same_upd hc _ _ z)
        rw [rdTree_so hline]
        exact ⟨d, _, rfl, upd_same, .leaf (same_upd hd _ _ upd_same)⟩
      rw [decide_eq_false (show ¬ V.str (S x) = V.str (Str.ofString "so") from fun e => hso (SX.S_inj ((V.str.inj e).trans so_eq)))]
      refine iteF ?_
      refine ⟨_, rfl, rfl, _, _, rfl, rfl, by decide +kernel, Nat.le_trans (m := 200000) (by rw [slen]; omega) (by decide), fun c hc => ?_⟩
      rw [split_leq]
      have hjoin := spl_joins (S := leq) (by decide) x.length [] x (Nat.le_refl _)
      have s2 : Same H (upd H c (.lst (LS (TL.spl leq 0 [] x)))) := same_upd hc
      have hc2 : (upd H c (.lst (LS (TL.spl leq 0 [] x)))) c = some (.lst (LS (TL.spl leq 0 [] x))) := upd_same
      generalize (upd H c (.lst (LS (TL.spl leq 0 [] x)))) = H2 at *
      refine ⟨_, rfl, _, _, rfl, .inl ⟨_, SqL.of hc2, rfl⟩, rfl, _, rfl, ?_⟩
      by_cases h2 : (TL.spl leq 0 [] x).length = 2
      case neg =>
        rw [decide_eq_false (show ¬ V.int ((LS (TL.spl leq 0 [] x)).length : Int) = V.int 2 from fun e => h2 (by
          have e := V.int.inj e
          rw [show (LS (TL.spl leq 0 [] x)).length = (TL.spl leq 0 [] x).length from List.length_map ..] at e
          omega))]
        exact iteT (iteT ⟨_, rfl, three _ _ _, bad i H2 (rdTree_no hline hso (sides_other h2)) s2⟩)
      obtain ⟨l, r, elr⟩ := len_two h2
      rw [elr] at hc2 hjoin
      have hs := sides_two elr
      have exl : l ++ (leq ++ r) = x := hjoin
      have hlr : l.length + 4 + r.length ≤ 100000 := by
        rw [← exl] at hxl
        simp only [List.length_append] at hxl
        have : leq.length = 4 := rfl
        omega
      rw [elr, decide_eq_true (show V.int ((LS [l, r]).length : Int) = V.int 2 from rfl)]
      refine iteF ⟨_, rfl, c, _, 0, _, rfl, rfl, SqL.of hc2, atI_nat (j := 0) rfl, l, rfl, by omega, fun H3 s3 => ⟨_, rfl, ?_⟩⟩
      have hc3 := s3 _ _ hc2
      have s3' : Same H H3 := fun b o z => s3 _ _ (s2 _ _ z)
      cases hl : isSd l with
      | false =>
        rw [hl, Bool.false_and, if_neg Bool.false_ne_true] at hs
        exact iteT (iteT ⟨_, rfl, three _ _ _, bad i H3 (rdTree_no hline hso hs) s3'⟩)
      | true =>
      refine iteF ⟨_, rfl, c, _, 1, _, rfl, rfl, SqL.of hc3, atI_nat (j := 1) rfl, r, rfl, by omega, fun H4 s4 => ⟨_, rfl, ?_⟩⟩
      have hc4 := s4 _ _ hc3
      have s4' : Same H H4 := fun b o z => s4 _ _ (s3' _ _ z)
      cases hr' : isSd r with
      | false =>
        rw [hl, hr', Bool.true_and, if_neg Bool.false_ne_true] at hs
        exact iteT ⟨_, rfl, three _ _ _, bad i H4 (rdTree_no hline hso hs) s4'⟩
      | true =>
      rw [hl, hr', Bool.true_and, if_pos rfl] at hs
      have hmore := rdTree_more (n := n) hline hso hs
      have hp4 := s4' _ _ hp
      have hb2 : (S a).length + (Str.ofString "  ").length ≤ sizeLine := big _ (by rw [two_eq, slen, slen]; simp; omega)
      refine iteF ⟨_, rfl, _, rfl, _, _, rfl, rfl, _, rfl, _, _, rfl, rfl, hb2, ?_⟩
      rw [two_eq, cat]
      refine ⟨p, i + 1, ls, a ++ two, rfl, hp4, by omega, by simp; omega, hll, fun v1 H5 hv1 s5 => ?_⟩
      have s5' : Same H H5 := fun b o z => s5 _ _ (s4' _ _ z)
      cases hone : rdTree ls n (i + 1) (a ++ two) with
      | bad k =>
        rw [hone] at hv1 hmore
        obtain ⟨v1p, rfl, hv1t⟩ := hv1
        refine ⟨_, rfl, v1p, _, 0, _, rfl, rfl, SqT.of hv1t, atI_nat (j := 0) rfl, rfl, _, rfl, ?_⟩
        rw [decide_eq_true rfl]
        refine iteT ⟨_, rfl, q _ _ ?_ s5'⟩
        rw [hmore]
        exact ⟨v1p, rfl, hv1t⟩
      | tree t1 j =>
      have hat := rdTree_at n _ _ _ _ hone
      rw [hone] at hv1
      rw [hone, rdMore_tree hat.2] at hmore
      obtain ⟨v1p, u1, rfl, hv1t, htr1⟩ := hv1
      refine ⟨_, rfl, v1p, _, 0, _, rfl, rfl, SqT.of hv1t, atI_nat (j := 0) rfl, rfl, _, rfl, ?_⟩
      rw [decide_eq_false bad_ne_tree]
      have hp5 := s5 _ _ hp4
      have hc5 := s5 _ _ hc4
      refine iteF ⟨_, rfl, v1p, _, 2, _, rfl, rfl, SqT.of hv1t, atI_nat (j := 2) rfl, _, rfl, _, _, rfl, .inl ⟨_, SqL.of hp5, rfl⟩, _, _, rfl, rfl, _, rfl, ?_⟩
      by_cases hj : j < ls.length
      case neg =>
        rw [decide_eq_true (by rw [List.length_map]; omega)]
        rw [if_neg (by rw [List.getElem?_eq_none (by omega)]; simp)] at hmore
        exact iteT (iteT ⟨_, rfl, v1p, _, 2, _, rfl, rfl, SqT.of hv1t, atI_nat (j := 2) rfl, three _ _ _, bad j H5 hmore s5'⟩)
      rw [decide_eq_false (by rw [List.length_map]; omega)]
      have hj' : ls[j]? = some ls[j] := List.getElem?_eq_getElem hj
      generalize ls[j] = y2 at hj'
      have w1 : (S a).length + (S r).length ≤ sizeLine := big _ (by rw [slen, slen]; omega)
      have w2 : (S a ++ S r).length + (Str.ofString " < ").length ≤ sizeLine := big _ (by rw [cat, slt_eq, slen, slen]; simp; omega)
      have w3 : (S a ++ S r ++ Str.ofString " < ").length + (S l).length ≤ sizeLine := big _ (by rw [cat, slt_eq, cat, slen, slen]; simp; omega)
      refine iteF ⟨_, rfl, _, rfl, v1p, _, 2, _, rfl, rfl, SqT.of hv1t, atI_nat (j := 2) rfl, p, _, _, V.str (S y2), rfl, rfl, SqL.of hp5, atI_nat (by rw [List.getElem?_map, hj']; rfl), _, rfl, _, rfl, c, _, 1, _, rfl, rfl, SqL.of hc5, atI_nat (j := 1) rfl, _, _, rfl, rfl, w1, _, _, rfl, rfl, w2, _, rfl, c, _, 0, _, rfl, rfl, SqL.of hc5, atI_nat (j := 0) rfl, _, _, rfl, rfl, w3, rfl, _, rfl, ?_⟩
      rw [slt_eq, cat, cat, cat, show ((a ++ r) ++ slt) ++ l = a ++ ((r ++ slt) ++ l) by simp]
      by_cases hyes : y2 = a ++ ((r ++ slt) ++ l)
      case neg =>
        rw [decide_eq_false (show ¬ V.str (S y2) = V.str (S (a ++ ((r ++ slt) ++ l))) from fun e => hyes (SX.S_inj (V.str.inj e)))]
        rw [hj', if_neg (fun e => hyes (Option.some.inj e))] at hmore
        exact iteT ⟨_, rfl, v1p, _, 2, _, rfl, rfl, SqT.of hv1t, atI_nat (j := 2) rfl, three _ _ _, bad j H5 hmore s5'⟩
      rw [decide_eq_true (show V.str (S y2) = V.str (S (a ++ ((r ++ slt) ++ l))) by rw [hyes])]
      rw [hj', if_pos (by rw [hyes])] at hmore
      refine iteF ⟨_, rfl, _, rfl, v1p, _, 2, _, rfl, rfl, SqT.of hv1t, atI_nat (j := 2) rfl, _, _, rfl, rfl, _, rfl, _, _, rfl, rfl, hb2, ?_⟩
      rw [cat]
      refine ⟨p, j + 1, ls, a ++ two, rfl, hp5, by omega, by simp; omega, hll, fun v2 H6 hv2 s6 => ?_⟩
      have s6' : Same H H6 := fun b o z => s6 _ _ (s5' _ _ z)
      cases htwo : rdTree ls n (j + 1) (a ++ two) with
      | bad k =>
        rw [htwo] at hv2 hmore
        obtain ⟨v2p, rfl, hv2t⟩ := hv2
        refine ⟨_, rfl, v2p, _, 0, _, rfl, rfl, SqT.of hv2t, atI_nat (j := 0) rfl, rfl, _, rfl, ?_⟩
        rw [decide_eq_true rfl]
        refine iteT ⟨_, rfl, q _ _ ?_ s6'⟩
        rw [hmore]
        exact ⟨v2p, rfl, hv2t⟩
      | tree t2 m =>
      rw [htwo] at hv2 hmore
      obtain ⟨v2p, u2, rfl, hv2t, htr2⟩ := hv2
      refine ⟨_, rfl, v2p, _, 0, _, rfl, rfl, SqT.of hv2t, atI_nat (j := 0) rfl, rfl, _, rfl, ?_⟩
      rw [decide_eq_false bad_ne_tree]
      have hc6 := s6 _ _ hc5
      have hv16 := s6 _ _ hv1t
      refine iteF ⟨_, rfl, c, _, 0, _, rfl, rfl, SqL.of hc6, atI_nat (j := 0) rfl, _, rfl, c, _, 1, _, rfl, rfl, SqL.of hc6, atI_nat (j := 1) rfl, _, rfl, v1p, _, 1, _, rfl, rfl, SqT.of hv16, atI_nat (j := 1) rfl, _, rfl, v2p, _, 1, _, rfl, rfl, SqT.of hv2t, atI_nat (j := 1) rfl, by show 4 ≤ sizeLine; decide, fun d hd => ?_⟩
      refine ⟨_, rfl, v2p, _, 2, _, rfl, rfl, SqT.of (same_upd hd _ _ hv2t), atI_nat (j := 2) rfl, three _ _ _, fun e he => ?_⟩
      refine q _ _ ?_ fun b o z => same_upd he _ _ (same_upd hd _ _ (s6' _ _ z))
      rw [hmore]
      exact ⟨e, _, rfl, upd_same, .node (same_upd he _ _ upd_same) (((htr1.mono s6).mono (same_upd hd)).mono (same_upd he)) ((htr2.mono (same_upd hd)).mono (same_upd he))⟩
end
end KW

/-! ## k12: changed texts, the plain part -/
namespace KW
open PySem PySem.Spec PyProof.Rows L2
def Prn (l : List Nat) : Prop := ∀ c ∈ l, 32 ≤ c ∧ c ≤ 126
/-- a text of printable signs, of at most m signs and k lines -/
structure Tx (m k : Nat) (x : List Nat) : Prop where
  chr : ∀ c ∈ x, c = 10 ∨ (32 ≤ c ∧ c ≤ 126)
  len : x.length ≤ m
  row : x.count 10 < k
def tot (ls : List (List Nat)) : Nat := (ls.map (fun l : List Nat => l.length)).sum
theorem tot_app (a b : List (List Nat)) : tot (a ++ b) = tot a + tot b := by
  unfold tot
  rw [List.map_append, List.sum_append]
theorem tot_cons (a : List Nat) (b : List (List Nat)) : tot (a :: b) = a.length + tot b := by
  unfold tot
  rw [List.map_cons, List.sum_cons]
theorem tot_nil : tot [] = 0 := rfl
theorem pre10 (c : Nat) (r : List Nat) : TL.pre [10] (c :: r) = (c == 10) := by
  unfold TL.pre
  show ([c] == [10]) = (c == 10)
  rw [Bool.eq_iff_iff]
  simp
theorem spl_rows : ∀ (x acc : List Nat), (TL.spl [10] 0 acc x).length = x.count 10 + 1
  | [], acc => by rw [TL.spl_nil]; rfl
  | c :: r, acc => by
    cases h : (c == 10) with
    | true =>
      rw [TL.spl_hit (by rw [pre10]; exact h)]
      show (TL.spl [10] 0 [] r).length + 1 = _
      rw [spl_rows r [], List.count_cons, h]
      rfl
    | false =>
      rw [TL.spl_miss (by rw [pre10]; exact h), spl_rows r _, List.count_cons, h]
      rfl
theorem spl_signs : ∀ (x acc : List Nat), 10 ∉ acc → ∀ l ∈ TL.spl [10] 0 acc x, 10 ∉ l ∧ ∀ c ∈ l, c ∈ acc ∨ c ∈ x
  | [], acc, h, l, hl => by
    rw [TL.spl_nil] at hl
    have e : l = acc := by simpa using hl
    subst e
    exact ⟨h, fun c hc => .inl hc⟩
  | c :: r, acc, h, l, hl => by
    cases hc : (c == 10) with
    | true =>
      rw [TL.spl_hit (by rw [pre10]; exact hc)] at hl
      rcases List.mem_cons.mp hl with e | hl
      · subst e
        exact ⟨h, fun c hc => .inl hc⟩
      · obtain ⟨h1, h2⟩ := spl_signs r [] (by simp) l hl
        exact ⟨h1, fun d hd => .inr (List.mem_cons_of_mem _ ((h2 d hd).resolve_left (by simp)))⟩
    | false =>
      rw [TL.spl_miss (by rw [pre10]; exact hc)] at hl
      have hne : c ≠ 10 := by simpa using hc
      obtain ⟨h1, h2⟩ := spl_signs r (acc ++ [c]) (by simp; exact ⟨h, fun e => hne e.symm⟩) l hl
      refine ⟨h1, fun d hd => ?_⟩
      rcases h2 d hd with z | z
      · rcases List.mem_append.mp z with z | z
        · exact .inl z
        · exact .inr (by simp at z; simp [z])
      · exact .inr (List.mem_cons_of_mem _ z)
theorem join_len : ∀ ls : List (List Nat), ls ≠ [] → (TL.joinL [10] ls).length + 1 = tot ls + ls.length
  | [], h => absurd rfl h
  | [l], _ => by
    show l.length + 1 = _
    rw [tot_cons, tot_nil]
    rfl
  | l :: m :: r, _ => by
    show (l ++ ([10] ++ TL.joinL [10] (m :: r))).length + 1 = _
    have ih := join_len (m :: r) (by simp)
    rw [tot_cons, List.length_append, List.length_append, List.length_cons (a := l)]
    simp only [List.length_cons, List.length_nil] at ih ⊢
    omega
theorem join_row : ∀ ls : List (List Nat), (∀ l ∈ ls, 10 ∉ l) → (TL.joinL [10] ls).count 10 ≤ ls.length - 1
  | [], _ => by simp [TL.joinL]
  | [l], h => by
    show l.count 10 ≤ 0
    rw [List.count_eq_zero_of_not_mem (h l (List.mem_singleton.mpr rfl))]
    exact Nat.le_refl _
  | l :: m :: r, h => by
    show (l ++ ([10] ++ TL.joinL [10] (m :: r))).count 10 ≤ _
    have ih := join_row (m :: r) fun z hz => h z (List.mem_cons_of_mem _ hz)
    rw [List.count_append, List.count_append, List.count_eq_zero_of_not_mem (h l (List.mem_cons_self ..))]
    simp only [List.length_cons, List.count_cons, List.count_nil] at ih ⊢
    simp
    omega
theorem join_chr : ∀ (ls : List (List Nat)) (c : Nat), c ∈ TL.joinL [10] ls → c = 10 ∨ ∃ l ∈ ls, c ∈ l
  | [], c, h => by simp [TL.joinL] at h
  | [l], c, h => .inr ⟨l, List.mem_singleton.mpr rfl, h⟩
  | l :: m :: r, c, h => by
    have h' : c ∈ l ++ ([10] ++ TL.joinL [10] (m :: r)) := h
    rcases List.mem_append.mp h' with h | h
    · exact .inr ⟨l, List.mem_cons_self .., h⟩
    · rcases List.mem_append.mp h with h | h
      · exact .inl (by simpa using h)
      · rcases join_chr (m :: r) c h with h | ⟨z, hz, hc⟩
        · exact .inl h
        · exact .inr ⟨z, List.mem_cons_of_mem _ hz, hc⟩
theorem Prn.no10 {l : List Nat} (h : Prn l) : 10 ∉ l := fun hm => by
  have := h 10 hm
  omega
/-- rows joined -/
theorem tx_rows {m k : Nat} {ls : List (List Nat)} (h : ∀ l ∈ ls, Prn l) (h1 : tot ls + ls.length ≤ m + 1) (h2 : ls.length ≤ k) (h3 : 0 < k) : Tx m k (TL.joinL [10] ls) := by
  refine ⟨fun c hc => ?_, ?_, ?_⟩
  · rcases join_chr ls c hc with e | ⟨l, hl, hc⟩
    · exact .inl e
    · exact .inr (h l hl c hc)
  · cases ls with
    | nil => exact Nat.zero_le _
    | cons l r =>
      have := join_len (l :: r) (by simp)
      omega
  · have := join_row ls fun l hl => (h l hl).no10
    omega
/-- a text cut into its rows -/
theorem Tx.rows {m k : Nat} {x : List Nat} (h : Tx m k x) : (∀ l ∈ TL.spl [10] 0 [] x, Prn l) ∧ tot (TL.spl [10] 0 [] x) + (TL.spl [10] 0 [] x).length ≤ m + 1 ∧ (TL.spl [10] 0 [] x).length ≤ k ∧ 0 < (TL.spl [10] 0 [] x).length := by
  have hr := spl_rows x []
  have hne : TL.spl [10] 0 [] x ≠ [] := fun e => by rw [e] at hr; simp at hr
  have hj := join_len _ hne
  rw [spl_joins (by decide) x.length [] x (Nat.le_refl _), List.nil_append] at hj
  have h1 := h.len
  have h2 := h.row
  refine ⟨fun l hl c hc => ?_, by omega, by omega, by omega⟩
  obtain ⟨n1, n2⟩ := spl_signs x [] (by simp) l hl
  have hx := (n2 c hc).resolve_left (by simp)
  rcases h.chr c hx with e | e
  · exact absurd (e ▸ hc) n1
  · exact e
theorem Tx.mono {m m' k k' : Nat} {x : List Nat} (h : Tx m k x) (h1 : m ≤ m') (h2 : k ≤ k') : Tx m' k' x := ⟨h.chr, Nat.le_trans h.len h1, Nat.lt_of_lt_of_le h.row h2⟩
/-- parts of a text -/
theorem tx_parts {m k : Nat} {x a b : List Nat} (h : Tx m k x) (ha : ∀ c ∈ a, c ∈ x) (hb : ∀ c ∈ b, c = 10 ∨ (32 ≤ c ∧ c ≤ 126)) {m' k' : Nat} (hl : (a ++ b).length ≤ m') (hc : (a ++ b).count 10 < k') : Tx m' k' (a ++ b) :=
  ⟨fun c hm => (List.mem_append.mp hm).elim (fun z => h.chr c (ha c z)) (hb c), hl, hc⟩
theorem count_cut (x : List Nat) (i : Nat) : (x.take i).count 10 + (x.drop i).count 10 = x.count 10 := by
  rw [← List.count_append, List.take_append_drop]
theorem count_drop1 (x : List Nat) (i : Nat) : (x.drop (i + 1)).count 10 ≤ (x.drop i).count 10 := by
  rw [← List.drop_drop]
  exact (List.drop_sublist 1 (x.drop i)).count_le 10
theorem count_take1 (x : List Nat) (i : Nat) : (x.take (i + 1)).count 10 ≤ (x.take i).count 10 + 1 := by
  by_cases h : i < x.length
  · rw [List.take_succ_eq_append_getElem h, List.count_append]
    have : [x[i]].count 10 ≤ 1 := List.count_le_length
    omega
  · rw [List.take_of_length_le (by omega), List.take_of_length_le (by omega)]
    omega
/-- bent in one of four ways -/
theorem tx_bent0 {m k i c : Nat} {x : List Nat} (h : Tx m k x) (hc : c = 10 ∨ (32 ≤ c ∧ c ≤ 126)) : Tx (m + 1) (k + 1) (x.take i ++ [c] ++ x.drop i) := by
  have h1 := h.len
  have h2 := h.row
  have h3 := count_cut x i
  refine ⟨fun d hd => ?_, ?_, ?_⟩
  · rcases List.mem_append.mp hd with hd | hd
    · rcases List.mem_append.mp hd with hd | hd
      · exact h.chr d (List.mem_of_mem_take hd)
      · have e : d = c := by simpa using hd
        rw [e]; exact hc
    · exact h.chr d (List.mem_of_mem_drop hd)
  · simp only [List.length_append, List.length_take, List.length_drop, List.length_cons, List.length_nil]
    omega
  · have h4 : [c].count 10 ≤ 1 := List.count_le_length
    rw [List.count_append, List.count_append]
    omega
theorem tx_bent1 {m k i c : Nat} {x : List Nat} (h : Tx m k x) (hc : c = 10 ∨ (32 ≤ c ∧ c ≤ 126)) : Tx (m + 1) (k + 1) (x.take i ++ [c] ++ x.drop (i + 1)) := by
  have h1 := h.len
  have h2 := h.row
  have h3 := count_cut x i
  have h5 := count_drop1 x i
  refine ⟨fun d hd => ?_, ?_, ?_⟩
  · rcases List.mem_append.mp hd with hd | hd
    · rcases List.mem_append.mp hd with hd | hd
      · exact h.chr d (List.mem_of_mem_take hd)
      · have e : d = c := by simpa using hd
        rw [e]; exact hc
    · exact h.chr d (List.mem_of_mem_drop hd)
  · simp only [List.length_append, List.length_take, List.length_drop, List.length_cons, List.length_nil]
    omega
  · have h4 : [c].count 10 ≤ 1 := List.count_le_length
    rw [List.count_append, List.count_append]
    omega
theorem tx_bent2 {m k i : Nat} {x : List Nat} (h : Tx m k x) : Tx (m + 1) (k + 1) (x.take i ++ x.drop (i + 1)) := by
  have h1 := h.len
  have h2 := h.row
  have h3 := count_cut x i
  have h5 := count_drop1 x i
  refine ⟨fun d hd => ?_, ?_, ?_⟩
  · rcases List.mem_append.mp hd with hd | hd
    · exact h.chr d (List.mem_of_mem_take hd)
    · exact h.chr d (List.mem_of_mem_drop hd)
  · simp only [List.length_append, List.length_take, List.length_drop]
    omega
  · rw [List.count_append]
    omega
theorem tx_bent3 {m k i : Nat} {x : List Nat} (h : Tx m k x) : Tx (m + 1) (k + 1) (x.take (i + 1) ++ x.drop i) := by
  have h1 := h.len
  have h2 := h.row
  have h3 := count_cut x i
  have h5 := count_take1 x i
  refine ⟨fun d hd => ?_, ?_, ?_⟩
  · rcases List.mem_append.mp hd with hd | hd
    · exact h.chr d (List.mem_of_mem_take hd)
    · exact h.chr d (List.mem_of_mem_drop hd)
  · simp only [List.length_append, List.length_take, List.length_drop]
    omega
  · rw [List.count_append]
    omega
/-- slices of rows -/
theorem cut_to (xs : List V) (i : Nat) : cutV xs none (some (i : Int)) = xs.take i := by
  unfold cutV
  rw [HT.sIx_nat, HT.sIx_none, List.drop_zero, Nat.sub_zero]
  by_cases h : i ≤ xs.length
  · rw [Nat.min_eq_left h]
  · rw [Nat.min_eq_right (by omega), List.take_of_length_le (by omega), List.take_of_length_le (by omega)]
theorem cut_from (xs : List V) (i : Nat) : cutV xs (some (i : Int)) none = xs.drop i := by
  unfold cutV
  rw [HT.sIx_nat, HT.sIx_none]
  by_cases h : i ≤ xs.length
  · rw [Nat.min_eq_left h, List.take_of_length_le (by rw [List.length_drop]; omega)]
  · rw [Nat.min_eq_right (by omega), List.drop_eq_nil_of_le (Nat.le_refl _), List.drop_eq_nil_of_le (by omega)]
    simp
theorem cut_mid (xs : List V) (i : Nat) : cutV xs (some (i : Int)) (some ((i : Int) + 1)) = (xs.drop i).take 1 := by
  unfold cutV
  have e : ((i : Int) + 1) = ((i + 1 : Nat) : Int) := by omega
  rw [e, HT.sIx_nat, HT.sIx_nat]
  by_cases h : i < xs.length
  · rw [Nat.min_eq_left (by omega), Nat.min_eq_left (by omega), show i + 1 - i = 1 by omega]
  · rw [Nat.min_eq_right (by omega), Nat.min_eq_right (by omega), List.drop_eq_nil_of_le (Nat.le_refl _), List.drop_eq_nil_of_le (by omega)]
    simp
section
variable {X : Cx}
theorem op_repS : OpR X (binaryOp .Mult) (fun x y H Q => ∃ (i : Str) (k : Int), x = .str i ∧ y = .int k ∧ MulOk i k ∧ Q (.str (Txt.mul i k)) H) := by
  intro pins s σ H x y v u Q I rx ry h
  obtain ⟨i, k, rfl, rfl, ok, q⟩ := h
  obtain ⟨t, rfl⟩ := rx
  obtain ⟨t', rfl⟩ := ry
  exact SB.mul ok fun t' k' => ⟨.str (Txt.mul i k), H, I.tok _, ⟨_, rfl⟩, q⟩
end
end KW

/-! ## k12: _law_due, _law_sign, _law_bent -/
namespace KW
open PySem PySem.Spec PyProof.Rows L2
section
variable {P : Program} {w : World} {K : PySem.W.Frag} {mg : Str → Option Value} {base : Heap}
abbrev s__law_due : Stmt := topS 34
theorem sc__law_due : FnScope ["_law_text", "_law_lines", "_law_found"] ["_law_text"] (defScope s__law_due) := ⟨rfl, rfl, rfl, by decide +kernel, rfl, by decide +kernel, by decide +kernel⟩
theorem ok_due {n k : Nat} (B : Bi mg) (F : Df K mg "_law_due" s__law_due ["_law_text"]) (hn : n ≤ 1000) (G_law_branch : C8.Cal P w K mg base k "_law_branch" (spLB n) []) : C8.Cal P w K mg base (k + 1) "_law_due" (spTold n) [] := by
  refine F.cal sc__law_due (fun vs H Q E h => ?_) (fun f cdv A outer s H vs Q E hr h => ?_)
  · obtain ⟨x, rfl, _⟩ := h
    rfl
  · obtain ⟨x, rfl, hx, hlen, q⟩ := h
    refine ⟨_, (pss_cons (ps_set (i := 1) sc__law_due.nd rfl (Or.inl rfl) (kk_bm K rfl PySem.F.plainAttrs_str PySem.F.slot_str_split PySem.F.type_str_split mt_split (pv 0) (pa_cons pe_str pa_nil)))
      (pss_cons (ps_set (i := 2) sc__law_due.nd rfl (Or.inl rfl) (C8.pe_c G_law_branch hr (Nat.le_refl _) rfl (pa_cons (pv 1) (pa_cons pe_int (pa_cons pe_str pa_nil)))))
      (pss_cons (ps_if (PW.pt (pw_and (pt_cmpR op_eq (pe_ix (kk_ixT K rfl) (pv 2) pe_int (fun _ _ => rfl)) pe_str (nomark _)) (pw_and1 (pt_cmpR op_lt (pe_ix (kk_ixT K rfl) (pv 2) pe_int (fun _ _ => rfl)) (pe_callB (kk_len K rfl) rfl B.len PySem.boot_len (pa_cons (pv 1) pa_nil)) (nomark _))))) (pss_one (ps_ret (pe_tup (pa_cons pe_str (pa_cons (pe_ix (kk_ixT K rfl) (pv 2) pe_int (fun _ _ => rfl)) pa_nil))))) pss_nil)
      (pss_one (ps_ret (pe_ifExp (pt_cmpR op_eq (pe_ix (kk_ixT K rfl) (pv 2) pe_int (fun _ _ => rfl)) pe_str (nomark _)) (pe_tup (pa_cons pe_str (pa_cons (pe_ix (kk_ixT K rfl) (pv 2) pe_int (fun _ _ => rfl)) pa_nil))) (pe_tup (pa_cons pe_str (pa_cons (pe_ix (kk_ixT K rfl) (pv 2) pe_int (fun _ _ => rfl)) pa_nil))))))))), ?_⟩
    refine ⟨_, rfl, rfl, _, _, rfl, rfl, by decide +kernel, Nat.le_trans (Nat.add_le_add_right (by rw [slen]; exact hx) 2) (by decide), fun p hp => ?_⟩
    have e1 : (Txt.split (S x) (Str.ofString "\n")).map V.str = LS (TL.spl [10] 0 [] x) := by
      rw [nl_eq, SX.split_S (by decide) (by decide), List.map_map]
      rfl
    rw [e1]
    have hll : ∀ l ∈ TL.spl [10] 0 [] x, l.length ≤ 100000 := fun l hl => Nat.le_trans (spl_len (by decide) hl) (by omega)
    unfold rdText at q
    generalize TL.spl [10] 0 [] x = ls at *
    have s1 : Same H (upd H p (.lst (LS ls))) := same_upd hp
    have hp1 : (upd H p (.lst (LS ls))) p = some (.lst (LS ls)) := upd_same
    generalize upd H p (.lst (LS ls)) = H1 at *
    refine ⟨_, rfl, p, 0, ls, [], ?_, hp1, by omega, by simp; omega, hll, fun v H2 hv s2 => ?_⟩
    · rw [nil_eq]
      rfl
    have s2' : Same H H2 := fun b o z => s2 _ _ (s1 _ _ z)
    have two' : ∀ (x y : V), [x, y].length ≤ sizeLine := fun _ _ => by show 2 ≤ sizeLine; decide
    cases hr' : rdTree ls n 0 [] with
    | bad k =>
      rw [hr'] at hv q
      obtain ⟨vp, rfl, hvt⟩ := hv
      have tb : decide (V.str (Str.ofString "bad") = V.str (Str.ofString "tree")) = false := decide_eq_false fun e => bad_ne_tree e.symm
      refine ⟨_, rfl, vp, _, 0, _, rfl, rfl, SqT.of hvt, atI_nat (j := 0) rfl, rfl, _, rfl, ?_⟩
      rw [tb]
      refine iteF (iteF ⟨_, rfl, vp, _, 0, _, rfl, rfl, SqT.of hvt, atI_nat (j := 0) rfl, rfl, _, rfl, ?_⟩)
      rw [tb]
      refine iteF ⟨_, rfl, vp, _, 1, _, rfl, rfl, SqT.of hvt, atI_nat (j := 1) rfl, two' _ _, fun c hc => ?_⟩
      exact q _ _ ⟨c, rfl, upd_same⟩ fun b o z => same_upd hc _ _ (s2' _ _ z)
    | tree t m =>
      rw [hr'] at hv q
      obtain ⟨vp, u, rfl, hvt, htr⟩ := hv
      refine ⟨_, rfl, vp, _, 0, _, rfl, rfl, SqT.of hvt, atI_nat (j := 0) rfl, rfl, _, rfl, ?_⟩
      rw [decide_eq_true rfl]
      have hp2 := s2 _ _ hp1
      refine iteT ⟨_, rfl, vp, _, 2, _, rfl, rfl, SqT.of hvt, atI_nat (j := 2) rfl, _, rfl, _, _, rfl, .inl ⟨_, SqL.of hp2, rfl⟩, _, _, rfl, rfl, _, rfl, ?_⟩
      by_cases hm : m < ls.length
      · rw [decide_eq_true (by rw [List.length_map]; omega)]
        refine iteT ⟨_, rfl, vp, _, 2, _, rfl, rfl, SqT.of hvt, atI_nat (j := 2) rfl, two' _ _, fun c hc => ?_⟩
        refine q _ _ ⟨c, rfl, ?_⟩ fun b o z => same_upd hc _ _ (s2' _ _ z)
        dsimp only
        rw [if_pos hm]
        exact upd_same
      · rw [decide_eq_false (by rw [List.length_map]; omega)]
        refine iteF ⟨_, rfl, vp, _, 0, _, rfl, rfl, SqT.of hvt, atI_nat (j := 0) rfl, rfl, _, rfl, ?_⟩
        rw [decide_eq_true rfl]
        refine iteT ⟨_, rfl, vp, _, 1, _, rfl, rfl, SqT.of hvt, atI_nat (j := 1) rfl, two' _ _, fun c hc => ?_⟩
        refine q _ _ ⟨c, rfl, ?_⟩ fun b o z => same_upd hc _ _ (s2' _ _ z)
        dsimp only
        rw [if_neg hm]
        exact ⟨u, upd_same, htr.mono (same_upd hc)⟩
abbrev s__law_sign : Stmt := topS 27
theorem sc__law_sign : FnScope ["_law_feed_here", "_law_signs"] ["_law_feed_here"] (defScope s__law_sign) := ⟨rfl, rfl, rfl, by decide +kernel, rfl, by decide +kernel, by decide +kernel⟩
def spSign : Sp := fun vs H Q _ => ∃ (a : Addr), vs = [.ref a] ∧ Fd H a ∧ ∀ (c : Nat) (H' : Hp), (c = 10 ∨ (32 ≤ c ∧ c ≤ 126)) → Fd H' a → KB a H H' → Q (.str (S [c])) H'
theorem ok_sign {k : Nat} (B : Bi mg) (F : Df K mg "_law_sign" s__law_sign ["_law_feed_here"]) (G_law_pick : C8.Cal P w K mg base k "_law_pick" (spPick K) []) : C8.Cal P w K mg base (k + 1) "_law_sign" spSign [] := by
  refine F.cal sc__law_sign (fun vs H Q E h => ?_) (fun f cdv A outer s H vs Q E hr h => ?_)
  · obtain ⟨a, rfl, _⟩ := h
    rfl
  · obtain ⟨a, rfl, f0, q⟩ := h
    refine ⟨_, (pss_cons (ps_set (i := 1) sc__law_sign.nd rfl (Or.inl rfl) pe_str)
      (pss_cons (ps_set (i := 1) sc__law_sign.nd rfl (Or.inl rfl) (pe_op op_add_str (pv 1) pe_str))
      (pss_one (ps_ret (C8.pe_c G_law_pick hr (Nat.le_refl _) rfl (pa_cons (pv 0) (pa_cons (pv 1) pa_nil))))))), ?_⟩
    refine ⟨_, rfl, _, _, rfl, rfl, by decide +kernel, _, rfl, _, rfl, a, _, rfl, f0, .inl ⟨_, rfl, by decide +kernel, by decide +kernel, fun c H1 hc f1 k1 => ?_⟩⟩
    refine q c H1 ?_ f1 k1
    revert hc
    revert c
    decide +kernel
abbrev s__law_bent : Stmt := topS 28
theorem sc__law_bent : FnScope ["_law_feed_here", "_law_text", "_law_at", "_law_way", "_law_sign_here"] ["_law_feed_here", "_law_text"] (defScope s__law_bent) := ⟨rfl, rfl, rfl, by decide +kernel, rfl, by decide +kernel, by decide +kernel⟩
def spBent : Sp := fun vs H Q _ => ∃ (a : Addr) (x : List Nat) (m k : Nat), vs = [.ref a, .str (S x)] ∧ Fd H a ∧ Tx m k x ∧ m ≤ 60000 ∧ ∀ (y : List Nat) (H' : Hp), Tx (m + 1) (k + 1) y → Fd H' a → KB a H H' → Q (.str (S y)) H'
theorem ok_bent {k : Nat} (B : Bi mg) (F : Df K mg "_law_bent" s__law_bent ["_law_feed_here", "_law_text"]) (G_law_draw : C8.Cal P w K mg base k "_law_draw" spDraw []) (G_law_sign : C8.Cal P w K mg base k "_law_sign" spSign []) : C8.Cal P w K mg base (k + 1) "_law_bent" spBent [] := by
  refine F.cal sc__law_bent (fun vs H Q E h => ?_) (fun f cdv A outer s H vs Q E hr h => ?_)
  · obtain ⟨a, x, m, k, rfl, _⟩ := h
    rfl
  · obtain ⟨a, x, m, kk, rfl, f0, hx, hm, q⟩ := h
    refine ⟨_, (pss_cons (ps_par3 rfl sc__law_bent.nd (i := 2) (j := 3) (l := 4) rfl rfl rfl  (by decide) (by decide) (by decide) rfl rfl rfl  (pa_cons (C8.pe_c G_law_draw hr (Nat.le_refl _) rfl (pa_cons (pv 0) (pa_cons (pe_op op_add (pe_callB (kk_len K rfl) rfl B.len PySem.boot_len (pa_cons (pv 1) pa_nil)) pe_int) pa_nil))) (pa_cons (C8.pe_c G_law_draw hr (Nat.le_refl _) rfl (pa_cons (pv 0) (pa_cons pe_int pa_nil))) (pa_cons (C8.pe_c G_law_sign hr (Nat.le_refl _) rfl (pa_cons (pv 0) pa_nil)) pa_nil))) (by rfl))
      (pss_cons (ps_if (pt_cmpR op_eq (pv 3) pe_int (nomark _)) (pss_one (ps_ret (pe_op op_add_str (pe_op op_add_str (pe_slice C8.sl_txt (pv 1) po_none (po_some (pv 2))) (pv 4)) (pe_slice C8.sl_txt (pv 1) (po_some (pv 2)) po_none)))) pss_nil)
      (pss_cons (ps_if (pt_cmpR op_eq (pv 3) pe_int (nomark _)) (pss_one (ps_ret (pe_op op_add_str (pe_op op_add_str (pe_slice C8.sl_txt (pv 1) po_none (po_some (pv 2))) (pv 4)) (pe_slice C8.sl_txt (pv 1) (po_some (pe_op op_add (pv 2) pe_int)) po_none)))) pss_nil)
      (pss_cons (ps_if (pt_cmpR op_eq (pv 3) pe_int (nomark _)) (pss_one (ps_ret (pe_op op_add_str (pe_slice C8.sl_txt (pv 1) po_none (po_some (pv 2))) (pe_slice C8.sl_txt (pv 1) (po_some (pe_op op_add (pv 2) pe_int)) po_none)))) pss_nil)
      (pss_one (ps_ret (pe_op op_add_str (pe_slice C8.sl_txt (pv 1) po_none (po_some (pe_op op_add (pv 2) pe_int))) (pe_slice C8.sl_txt (pv 1) (po_some (pv 2)) po_none)))))))), ?_⟩
    have hlen := hx.len
    have big : (S x).length ≤ sizeLine := Nat.le_trans (by rw [slen]; exact Nat.le_trans hlen hm) (show 60000 ≤ sizeLine by decide)
    have small : ∀ z : List Nat, z.length ≤ 200000 → ∀ y : List Nat, y.length ≤ 200000 → (S z).length + (S y).length ≤ sizeLine := fun z hz y hy => Nat.le_trans (by rw [slen, slen]; omega) (show 400000 ≤ sizeLine by decide)
    have lt : ∀ i, (x.take i).length ≤ 60000 := fun i => by rw [List.length_take]; omega
    have ld : ∀ i, (x.drop i).length ≤ 60000 := fun i => by rw [List.length_drop]; omega
    refine ⟨_, rfl, _, rfl, _, _, rfl, ⟨big, rfl⟩, _, _, rfl, rfl, a, _, rfl, f0, by omega, by rw [slen]; omega, fun r H1 r0 r1 f1 k1 => ?_⟩
    obtain ⟨r, rfl⟩ : ∃ e : Nat, r = (e : Int) := ⟨r.toNat, by omega⟩
    refine ⟨_, rfl, a, _, rfl, f1, by decide, by decide, fun wy H2 w0 w1 f2 k2 => ?_⟩
    refine ⟨_, rfl, a, rfl, f2, fun c H3 hc f3 k3 => ⟨_, _, _, rfl, ?_⟩⟩
    have k4 := (k1.trans k2).trans k3
    have er : ∀ j : Nat, ((j : Int) + 1) = ((j + 1 : Nat) : Int) := fun j => by omega
    refine ⟨_, rfl, rfl, _, rfl, ite2 (fun h => ?_) (fun h => ?_)⟩
    · refine ⟨_, rfl, _, rfl, _, rfl, S x, rfl, big, ?_⟩
      rw [SX.slice_to (by omega), Int.toNat_natCast]
      refine ⟨_, rfl, _, _, rfl, rfl, small _ (Nat.le_trans (lt r) (by decide)) [c] (by simp), _, rfl, _, rfl, _, rfl, S x, rfl, big, ?_⟩
      rw [SX.slice_from (by omega), Int.toNat_natCast]
      refine ⟨_, _, rfl, rfl, ?_, ?_⟩
      · rw [cat]
        have := lt r
        exact small _ (by rw [List.length_append]; simp; omega) _ (Nat.le_trans (ld r) (by decide))
      rw [cat, cat]
      exact q _ _ (tx_bent0 hx hc) f3 k4
    refine ⟨_, rfl, rfl, _, rfl, ite2 (fun h => ?_) (fun h => ?_)⟩
    · refine ⟨_, rfl, _, rfl, _, rfl, S x, rfl, big, ?_⟩
      rw [SX.slice_to (by omega), Int.toNat_natCast]
      refine ⟨_, rfl, _, _, rfl, rfl, small _ (Nat.le_trans (lt r) (by decide)) [c] (by simp), _, rfl, _, rfl, _, _, rfl, rfl, _, rfl, S x, rfl, big, ?_⟩
      rw [er, SX.slice_from (by omega), Int.toNat_natCast]
      refine ⟨_, _, rfl, rfl, ?_, ?_⟩
      · rw [cat]
        have := lt r
        exact small _ (by rw [List.length_append]; simp; omega) _ (Nat.le_trans (ld _) (by decide))
      rw [cat, cat]
      exact q _ _ (tx_bent1 hx hc) f3 k4
    refine ⟨_, rfl, rfl, _, rfl, ite2 (fun h => ?_) (fun h => ?_)⟩
    · refine ⟨_, rfl, _, rfl, _, rfl, S x, rfl, big, ?_⟩
      rw [SX.slice_to (by omega), Int.toNat_natCast]
      refine ⟨_, rfl, _, rfl, _, _, rfl, rfl, _, rfl, S x, rfl, big, ?_⟩
      rw [er, SX.slice_from (by omega), Int.toNat_natCast]
      refine ⟨_, _, rfl, rfl, small _ (Nat.le_trans (lt r) (by decide)) _ (Nat.le_trans (ld _) (by decide)), ?_⟩
      rw [cat]
      exact q _ _ (tx_bent2 hx) f3 k4
    · refine ⟨_, rfl, _, rfl, _, _, rfl, rfl, _, rfl, S x, rfl, big, ?_⟩
      rw [er, SX.slice_to (by omega), Int.toNat_natCast]
      refine ⟨_, rfl, _, rfl, _, rfl, S x, rfl, big, ?_⟩
      rw [SX.slice_from (by omega), Int.toNat_natCast]
      refine ⟨_, _, rfl, rfl, small _ (Nat.le_trans (lt _) (by decide)) _ (Nat.le_trans (ld _) (by decide)), ?_⟩
      rw [cat]
      exact q _ _ (tx_bent3 hx) f3 k4
end
end KW

/-! ## k12: _law_changed -/
namespace KW
open PySem PySem.Spec PyProof.Rows L2
def somes : List (List Nat) := ["so", "", "  so", "x <= y", "x < y", "so so", "x <= y <= z", "x <=  y", " x <= y", "x<=y", "x <= ", "  "].map fun s => s.toList.map Char.toNat
theorem somes_prn : ∀ l ∈ somes, Prn l ∧ l.length ≤ 12 := by
  unfold Prn
  decide +kernel
theorem somes_eq : ([V.str (Str.ofString "so"), V.str (Str.ofString ""), V.str (Str.ofString "  so"), V.str (Str.ofString "x <= y"), V.str (Str.ofString "x < y"), V.str (Str.ofString "so so"), V.str (Str.ofString "x <= y <= z")] ++
    [V.str (Str.ofString "x <=  y"), V.str (Str.ofString " x <= y"), V.str (Str.ofString "x<=y"), V.str (Str.ofString "x <= "), V.str (Str.ofString "  ")]) = LS somes := by decide +kernel
theorem mulOk1 {k : Int} (h : k = 1 ∨ k = 2) : MulOk (Str.ofString " ") k := by
  rcases h with rfl | rfl
  · exact ⟨by decide +kernel, by decide +kernel, by decide +kernel⟩
  · exact ⟨by decide +kernel, by decide +kernel, by decide +kernel⟩
theorem mul_sp {k : Int} (h : k = 1 ∨ k = 2) : ∃ z : List Nat, Txt.mul (Str.ofString " ") k = S z ∧ Prn z ∧ z.length ≤ 2 := by
  rcases h with rfl | rfl
  · exact ⟨[32], by decide +kernel, by unfold Prn; decide, by decide⟩
  · exact ⟨[32, 32], by decide +kernel, by unfold Prn; decide, by decide⟩
theorem LS_len (ls : List (List Nat)) : (LS ls).length = ls.length := List.length_map ..
section
variable {P : Program} {w : World} {K : PySem.W.Frag} {mg : Str → Option Value} {base : Heap}
abbrev s__law_changed : Stmt := topS 36
theorem sc__law_changed : FnScope ["_law_feed_here", "_law_text", "_law_at", "_law_line", "_law_some", "_law_way", "_law_lines", "_law_more"] ["_law_feed_here", "_law_text"] (defScope s__law_changed) := ⟨rfl, rfl, rfl, by decide +kernel, rfl, by decide +kernel, by decide +kernel⟩
def spChg : Sp := fun vs H Q _ => ∃ (a : Addr) (x : List Nat) (m k : Nat), vs = [.ref a, .str (S x)] ∧ Fd H a ∧ Tx m k x ∧ m ≤ 60000 ∧ k ≤ 100 ∧ ∀ (y : List Nat) (H' : Hp), Tx (2 * m + 20) (k + 1) y → Fd H' a → KB a H H' → Q (.str (S y)) H'
theorem ok_changed {k : Nat} (B : Bi mg) (F : Df K mg "_law_changed" s__law_changed ["_law_feed_here", "_law_text"]) (G_law_draw : C8.Cal P w K mg base k "_law_draw" spDraw []) (G_law_pick : C8.Cal P w K mg base k "_law_pick" (spPick K) []) (G_law_bent : C8.Cal P w K mg base k "_law_bent" spBent []) : C8.Cal P w K mg base (k + 1) "_law_changed" spChg [] := by
  refine F.cal sc__law_changed (fun vs H Q E h => ?_) (fun f cdv A outer s H vs Q E hr h => ?_)
  · obtain ⟨a, x, m, k, rfl, _⟩ := h
    rfl
  · obtain ⟨a, x, m, kk, rfl, f0, hx, hm, hkk, q⟩ := h
    refine ⟨_, (pss_cons (ps_par rfl sc__law_changed.nd (i := 5) (j := 6) rfl rfl  (by decide) rfl rfl  (pa_cons (C8.pe_c G_law_draw hr (Nat.le_refl _) rfl (pa_cons (pv 0) (pa_cons pe_int pa_nil))) (pa_cons (kk_bm K rfl PySem.F.plainAttrs_str PySem.F.slot_str_split PySem.F.type_str_split mt_split (pv 1) (pa_cons pe_str pa_nil)) pa_nil)) (by rfl))
      (pss_cons (ps_set (i := 2) sc__law_changed.nd rfl (Or.inl rfl) (C8.pe_c G_law_draw hr (Nat.le_refl _) rfl (pa_cons (pv 0) (pa_cons (pe_callB (kk_len K rfl) rfl B.len PySem.boot_len (pa_cons (pv 6) pa_nil)) pa_nil))))
      (pss_cons (ps_set (i := 3) sc__law_changed.nd rfl (Or.inl rfl) (pe_ix (kk_ixL K rfl) (pv 6) (pv 2) (fun _ _ => rfl)))
      (pss_cons (ps_set (i := 4) sc__law_changed.nd rfl (Or.inl rfl) (pe_lst (pa_cons pe_str (pa_cons pe_str (pa_cons pe_str (pa_cons pe_str (pa_cons pe_str (pa_cons pe_str (pa_cons pe_str pa_nil)))))))))
      (pss_cons (ps_set (i := 4) sc__law_changed.nd rfl (Or.inl rfl) (pe_op op_cat (pv 4) (pe_lst (pa_cons pe_str (pa_cons pe_str (pa_cons pe_str (pa_cons pe_str (pa_cons pe_str pa_nil))))))))
      (pss_cons (ps_if (pt_cmpR op_lt (pv 5) pe_int (nomark _)) (pss_one (ps_ret (C8.pe_c G_law_bent hr (Nat.le_refl _) rfl (pa_cons (pv 0) (pa_cons (pv 1) pa_nil))))) pss_nil)
      (pss_cons (ps_if (pt_cmpR op_eq (pv 5) pe_int (nomark _)) (pss_one (ps_ret (kk_bm K rfl PySem.F.plainAttrs_str PySem.F.slot_str_join PySem.F.type_str_join (kk_join K rfl) pe_str (pa_cons (pe_op op_cat (pe_slice (kk_slL K rfl) (pv 6) po_none (po_some (pv 2))) (pe_slice (kk_slL K rfl) (pv 6) (po_some (pe_op op_add (pv 2) pe_int)) po_none)) pa_nil)))) pss_nil)
      (pss_cons (ps_if (pt_cmpR op_eq (pv 5) pe_int (nomark _)) (pss_one (ps_ret (kk_bm K rfl PySem.F.plainAttrs_str PySem.F.slot_str_join PySem.F.type_str_join (kk_join K rfl) pe_str (pa_cons (pe_op op_cat (pe_slice (kk_slL K rfl) (pv 6) po_none (po_some (pe_op op_add (pv 2) pe_int))) (pe_slice (kk_slL K rfl) (pv 6) (po_some (pv 2)) po_none)) pa_nil)))) pss_nil)
      (pss_cons (ps_if (pt_cmpR op_eq (pv 5) pe_int (nomark _)) (pss_cons (ps_set (i := 7) sc__law_changed.nd rfl (Or.inl rfl) (pe_op op_cat (pe_slice (kk_slL K rfl) (pv 6) (po_some (pe_op op_add (pv 2) pe_int)) (po_some (pe_op op_add (pv 2) pe_int))) (pe_lst (pa_cons (pv 3) pa_nil))))
      (pss_one (ps_ret (kk_bm K rfl PySem.F.plainAttrs_str PySem.F.slot_str_join PySem.F.type_str_join (kk_join K rfl) pe_str (pa_cons (pe_op op_cat (pe_op op_cat (pe_slice (kk_slL K rfl) (pv 6) po_none (po_some (pv 2))) (pv 7)) (pe_slice (kk_slL K rfl) (pv 6) (po_some (pe_op op_add (pv 2) pe_int)) po_none)) pa_nil))))) pss_nil)
      (pss_cons (ps_if (pt_cmpR op_eq (pv 5) pe_int (nomark _)) (pss_cons (ps_set (i := 3) sc__law_changed.nd rfl (Or.inl rfl) (pe_op op_add_str (pe_op op_repS pe_str (pe_op op_add pe_int (C8.pe_c G_law_draw hr (Nat.le_refl _) rfl (pa_cons (pv 0) (pa_cons pe_int pa_nil))))) (pv 3)))
      (pss_one (ps_ret (kk_bm K rfl PySem.F.plainAttrs_str PySem.F.slot_str_join PySem.F.type_str_join (kk_join K rfl) pe_str (pa_cons (pe_op op_cat (pe_op op_cat (pe_slice (kk_slL K rfl) (pv 6) po_none (po_some (pv 2))) (pe_lst (pa_cons (pv 3) pa_nil))) (pe_slice (kk_slL K rfl) (pv 6) (po_some (pe_op op_add (pv 2) pe_int)) po_none)) pa_nil))))) pss_nil)
      (pss_cons (ps_if (pt_cmpR op_eq (pv 5) pe_int (nomark _)) (pss_cons (ps_set (i := 3) sc__law_changed.nd rfl (Or.inl rfl) (pe_slice C8.sl_txt (pv 3) (po_some (pe_callB (call_min2 rfl) rfl B.min (by decide +kernel) (pa_cons (pe_callB (kk_len K rfl) rfl B.len PySem.boot_len (pa_cons (pv 3) pa_nil)) (pa_cons (pe_op op_add pe_int (C8.pe_c G_law_draw hr (Nat.le_refl _) rfl (pa_cons (pv 0) (pa_cons pe_int pa_nil)))) pa_nil)))) po_none))
      (pss_one (ps_ret (kk_bm K rfl PySem.F.plainAttrs_str PySem.F.slot_str_join PySem.F.type_str_join (kk_join K rfl) pe_str (pa_cons (pe_op op_cat (pe_op op_cat (pe_slice (kk_slL K rfl) (pv 6) po_none (po_some (pv 2))) (pe_lst (pa_cons (pv 3) pa_nil))) (pe_slice (kk_slL K rfl) (pv 6) (po_some (pe_op op_add (pv 2) pe_int)) po_none)) pa_nil))))) pss_nil)
      (pss_one (ps_ret (kk_bm K rfl PySem.F.plainAttrs_str PySem.F.slot_str_join PySem.F.type_str_join (kk_join K rfl) pe_str (pa_cons (pe_op op_cat (pe_op op_cat (pe_slice (kk_slL K rfl) (pv 6) po_none (po_some (pv 2))) (pe_lst (pa_cons (C8.pe_c G_law_pick hr (Nat.le_refl _) rfl (pa_cons (pv 0) (pa_cons (pv 4) pa_nil))) pa_nil))) (pe_slice (kk_slL K rfl) (pv 6) (po_some (pe_op op_add (pv 2) pe_int)) po_none)) pa_nil))))))))))))))), ?_⟩
    have hlen := hx.len
    obtain ⟨hprn, htot, hrows, hpos⟩ := hx.rows
    refine ⟨_, rfl, a, _, rfl, f0, by decide, by decide, fun wy H1 w0 w1 f1 k1 => ?_⟩
    refine ⟨_, rfl, rfl, _, _, rfl, rfl, by decide +kernel, Nat.le_trans (m := 100000) (by rw [slen]; omega) (by decide), fun p hp => ⟨_, _, rfl, ?_⟩⟩
    have e1 : (Txt.split (S x) (Str.ofString "\n")).map V.str = LS (TL.spl [10] 0 [] x) := by
      rw [nl_eq, SX.split_S (by decide) (by decide), List.map_map]
      rfl
    rw [e1]
    generalize TL.spl [10] 0 [] x = ls at *
    have hpa : p ≠ a := f1.ne hp
    have f2 := f1.new (o := .lst (LS ls)) hp
    have k2 := k1.new (o := .lst (LS ls)) hp
    have hp2 : (upd H1 p (.lst (LS ls))) p = some (.lst (LS ls)) := upd_same
    generalize upd H1 p (.lst (LS ls)) = H2 at *
    refine ⟨_, rfl, _, rfl, _, _, rfl, .inl ⟨_, SqL.of hp2, rfl⟩, a, _, rfl, f2, by rw [LS_len]; omega, by rw [LS_len]; omega, fun r H3 r0 r1 f3 k3 => ?_⟩
    obtain ⟨r, rfl⟩ : ∃ e : Nat, r = (e : Int) := ⟨r.toNat, by omega⟩
    rw [LS_len] at r1
    have hp3 := k3 p _ hpa hp2
    have hr' : r < ls.length := by omega
    obtain ⟨pre, line, post, els, epre⟩ : ∃ pre line post, ls = pre ++ line :: post ∧ pre.length = r := by
      refine ⟨ls.take r, ls[r], ls.drop (r + 1), ?_, by rw [List.length_take]; omega⟩
      rw [← List.drop_eq_getElem_cons hr', List.take_append_drop]
    have hget : atI (LS ls) (r : Int) = some (V.str (S line)) := atI_nat (by
      rw [List.getElem?_map, els, List.getElem?_append_right (by omega), show r - pre.length = 0 by omega]
      rfl)
    have tall : tot ls = tot pre + (line.length + tot post) := by rw [els, tot_app, tot_cons]
    have lall : ls.length = pre.length + (post.length + 1) := by rw [els, List.length_append, List.length_cons]
    have p1 : ∀ l ∈ pre, Prn l := fun l hl => hprn l (by rw [els]; simp [hl])
    have p2 : Prn line := hprn line (by rw [els]; simp)
    have p3 : ∀ l ∈ post, Prn l := fun l hl => hprn l (by rw [els]; simp [hl])
    have eLS : LS ls = LS pre ++ (V.str (S line) :: LS post) := by rw [els, ← LS_app]; rfl
    have lpre : (LS pre).length = r := by rw [LS_len, epre]
    have i1 : ((r : Int) + 1) = ((r + 1 : Nat) : Int) := by omega
    have i2 : ((r : Int) + 2) = ((r + 1 : Nat) : Int) + 1 := by omega
    have c1 : cutV (LS ls) none (some (r : Int)) = LS pre := by rw [cut_to, eLS, ← lpre, List.take_left]
    have d1 : (LS ls).drop (r + 1) = LS post := by rw [eLS, ← lpre, ← List.drop_drop, List.drop_left]; rfl
    have c2 : cutV (LS ls) (some ((r : Int) + 1)) none = LS post := by rw [i1, cut_from, d1]
    have c3 : cutV (LS ls) none (some ((r : Int) + 1)) = LS (pre ++ [line]) := by
      rw [i1, cut_to, eLS, show LS pre ++ V.str (S line) :: LS post = (LS pre ++ [V.str (S line)]) ++ LS post by simp, List.take_left' (by simp [epre]), ← LS_app]
      rfl
    have c4 : cutV (LS ls) (some (r : Int)) none = LS (line :: post) := by rw [cut_from, eLS, ← lpre, List.drop_left]; rfl
    have c5 : cutV (LS ls) (some ((r : Int) + 1)) (some ((r : Int) + 2)) = LS (post.take 1) := by rw [i2, i1, cut_mid, d1, LS, LS, List.map_take]
    have c6 : cutV (LS ls) (some ((r : Int) + 2)) none = LS (post.drop 1) := by
      rw [i2, show (((r + 1 : Nat) : Int) + 1) = ((r + 1 + 1 : Nat) : Int) by omega, cut_from, ← List.drop_drop, d1, LS, LS, List.map_drop]
    refine ⟨_, rfl, _, rfl, p, _, _, V.str (S line), rfl, rfl, SqL.of hp3, hget, ?_⟩
    refine ⟨by show 7 ≤ sizeLine; decide, fun g1 hg1 => ?_⟩
    refine ⟨_, rfl, by show 5 ≤ sizeLine; decide, fun g2 hg2 => ⟨g1, g2, _, _, rfl, rfl, same_upd hg2 _ _ upd_same, upd_same, by show 12 ≤ sizeLine; decide, fun g hg => ?_⟩⟩
    rw [somes_eq]
    have f4 := ((f3.new (o := .lst [V.str (Str.ofString "so"), V.str (Str.ofString ""), V.str (Str.ofString "  so"), V.str (Str.ofString "x <= y"), V.str (Str.ofString "x < y"), V.str (Str.ofString "so so"), V.str (Str.ofString "x <= y <= z")]) hg1).new (o := .lst [V.str (Str.ofString "x <=  y"), V.str (Str.ofString " x <= y"), V.str (Str.ofString "x<=y"), V.str (Str.ofString "x <= "), V.str (Str.ofString "  ")]) hg2).new (o := .lst (LS somes)) hg
    have k4 := (((k2.trans k3).new (o := .lst [V.str (Str.ofString "so"), V.str (Str.ofString ""), V.str (Str.ofString "  so"), V.str (Str.ofString "x <= y"), V.str (Str.ofString "x < y"), V.str (Str.ofString "so so"), V.str (Str.ofString "x <= y <= z")]) hg1).new (o := .lst [V.str (Str.ofString "x <=  y"), V.str (Str.ofString " x <= y"), V.str (Str.ofString "x<=y"), V.str (Str.ofString "x <= "), V.str (Str.ofString "  ")]) hg2).new (o := .lst (LS somes)) hg
    have hp4 := same_upd (o := .lst (LS somes)) hg _ _ (same_upd (o := .lst [V.str (Str.ofString "x <=  y"), V.str (Str.ofString " x <= y"), V.str (Str.ofString "x<=y"), V.str (Str.ofString "x <= "), V.str (Str.ofString "  ")]) hg2 _ _ (same_upd (o := .lst [V.str (Str.ofString "so"), V.str (Str.ofString ""), V.str (Str.ofString "  so"), V.str (Str.ofString "x <= y"), V.str (Str.ofString "x < y"), V.str (Str.ofString "so so"), V.str (Str.ofString "x <= y <= z")]) hg1 _ _ hp3))
    have hg4 := upd_same (H := upd (upd H3 g1 (.lst [V.str (Str.ofString "so"), V.str (Str.ofString ""), V.str (Str.ofString "  so"), V.str (Str.ofString "x <= y"), V.str (Str.ofString "x < y"), V.str (Str.ofString "so so"), V.str (Str.ofString "x <= y <= z")])) g2 (.lst [V.str (Str.ofString "x <=  y"), V.str (Str.ofString " x <= y"), V.str (Str.ofString "x<=y"), V.str (Str.ofString "x <= "), V.str (Str.ofString "  ")])) (a := g) (o := .lst (LS somes))
    generalize upd (upd (upd H3 g1 (.lst [V.str (Str.ofString "so"), V.str (Str.ofString ""), V.str (Str.ofString "  so"), V.str (Str.ofString "x <= y"), V.str (Str.ofString "x < y"), V.str (Str.ofString "so so"), V.str (Str.ofString "x <= y <= z")])) g2 (.lst [V.str (Str.ofString "x <=  y"), V.str (Str.ofString " x <= y"), V.str (Str.ofString "x<=y"), V.str (Str.ofString "x <= "), V.str (Str.ofString "  ")])) g (.lst (LS somes)) = H4 at *
    have hga : g ≠ a := by
      obtain ⟨y1, y2, e⟩ := f4
      exact fun z => by
        rw [z, e] at hg4
        have := Option.some.inj hg4
        have h2 := HO.lst.inj this
        have h3 := congrArg List.length h2
        rw [LS_len] at h3
        exact absurd (show 2 = somes.length from h3) (by decide)
    -- the end: rows joined
    have fin : ∀ (H5 : Hp) (d : Addr) (rows : List (List Nat)), H5 d = some (.lst (LS rows)) → (∀ l ∈ rows, Prn l) → tot rows + rows.length ≤ 2 * m + 21 → rows.length ≤ kk + 1 → Fd H5 a → KB a H H5 →
        ∃ (a' : Str) (p' : Addr) (ys : List Str), V.str (Str.ofString "\n") = .str a' ∧ [V.ref d] = [V.ref p'] ∧ (SqL K H5 p' (ys.map V.str) ∨ SqT K H5 p' (ys.map V.str)) ∧ (ys.map (·.length)).sum + ys.length * a'.length ≤ 16777216 ∧ Q (.str (Txt.join a' ys)) H5 := fun H5 d rows hd hP ht hl f5 k5 => by
      refine ⟨_, d, rows.map S, rfl, rfl, .inl (SqL.of (by rw [hd, List.map_map]; rfl)), ?_, ?_⟩
      · have h4 : (Str.ofString "\n").length = 1 := by decide +kernel
        have h5 : ((rows.map S).map (·.length)) = rows.map (fun l : List Nat => l.length) := SX.lens rows
        have h6 : (rows.map (fun l : List Nat => l.length)).sum = tot rows := rfl
        rw [List.length_map, h4, h5, h6]
        omega
      · have ej : Txt.join (Str.ofString "\n") (rows.map S) = S (TL.joinL [10] rows) := by
          rw [nl_eq]
          exact SX.join_S [10] rows
        rw [ej]
        exact q _ _ (tx_rows hP (by omega) hl (by omega)) f5 k5
    have lb : ∀ n : Nat, n ≤ 1000 → n ≤ sizeLine := fun n h => Nat.le_trans h (by decide)
    refine ⟨_, rfl, _, _, rfl, rfl, _, rfl, ite2 (fun h => ?_) (fun h => ?_)⟩
    · exact ⟨_, rfl, _, rfl, a, x, m, kk, rfl, f4, hx, hm, fun y H' ty f' k' => q y H' (ty.mono (by omega) (by omega)) f' (k4.trans k')⟩
    refine ⟨_, rfl, rfl, _, rfl, ite2 (fun h => ?_) (fun h => ?_)⟩
    · refine ⟨rfl, _, rfl, _, rfl, _, rfl, p, _, rfl, SqL.of hp4, fun d1 hd1 => ?_⟩
      rw [c1]
      refine ⟨_, rfl, _, rfl, _, _, rfl, rfl, _, rfl, p, _, rfl, SqL.of (same_upd hd1 _ _ hp4), fun d2 hd2 => ?_⟩
      rw [c2]
      refine ⟨d1, d2, _, _, rfl, rfl, same_upd hd2 _ _ upd_same, upd_same, lb _ (by rw [LS_len, LS_len]; omega), fun d3 hd3 => ?_⟩
      rw [LS_app]
      refine fin _ d3 _ upd_same (fun l hl => (List.mem_append.mp hl).elim (p1 l) (p3 l)) ?_ ?_ (((f4.new hd1).new hd2).new hd3) (((k4.new hd1).new hd2).new hd3)
      · rw [tot_app, List.length_append]; omega
      · rw [List.length_append]; omega
    refine ⟨_, rfl, rfl, _, rfl, ite2 (fun h => ?_) (fun h => ?_)⟩
    · refine ⟨rfl, _, rfl, _, rfl, _, _, rfl, rfl, _, rfl, p, _, rfl, SqL.of hp4, fun d1 hd1 => ?_⟩
      rw [c3]
      refine ⟨_, rfl, _, rfl, _, rfl, p, _, rfl, SqL.of (same_upd hd1 _ _ hp4), fun d2 hd2 => ?_⟩
      rw [c4]
      refine ⟨d1, d2, _, _, rfl, rfl, same_upd hd2 _ _ upd_same, upd_same, lb _ (by rw [LS_len, LS_len, List.length_append, List.length_cons, List.length_cons, List.length_nil]; omega), fun d3 hd3 => ?_⟩
      rw [LS_app]
      refine fin _ d3 _ upd_same (fun l hl => ?_) ?_ ?_ (((f4.new hd1).new hd2).new hd3) (((k4.new hd1).new hd2).new hd3)
      · simp only [List.mem_append, List.mem_cons, List.not_mem_nil, or_false] at hl
        rcases hl with (hl | hl) | hl | hl
        · exact p1 l hl
        · rw [hl]; exact p2
        · rw [hl]; exact p2
        · exact p3 l hl
      · simp only [tot_app, tot_cons, tot_nil, List.length_append, List.length_cons, List.length_nil]; omega
      · simp only [List.length_append, List.length_cons, List.length_nil]; omega
    refine ⟨_, rfl, rfl, _, rfl, ite2 (fun h => ?_) (fun h => ?_)⟩
    · refine ⟨_, rfl, _, rfl, _, _, rfl, rfl, _, rfl, _, rfl, _, _, rfl, rfl, _, rfl, p, _, rfl, SqL.of hp4, fun d1 hd1 => ?_⟩
      rw [c5]
      refine ⟨_, rfl, lb 1 (by decide), fun d2 hd2 => ⟨d1, d2, _, _, rfl, rfl, same_upd hd2 _ _ upd_same, upd_same, lb _ (by rw [LS_len, List.length_take]; show _ + 1 ≤ _; omega), fun d3 hd3 => ?_⟩⟩
      rw [LS_snoc]
      have f5 := ((f4.new (o := .lst (LS (post.take 1))) hd1).new (o := .lst [V.str (S line)]) hd2).new (o := .lst (LS (post.take 1 ++ [line]))) hd3
      have k5 := ((k4.new (o := .lst (LS (post.take 1))) hd1).new (o := .lst [V.str (S line)]) hd2).new (o := .lst (LS (post.take 1 ++ [line]))) hd3
      have hp5 := same_upd (o := .lst (LS (post.take 1 ++ [line]))) hd3 _ _ (same_upd (o := .lst [V.str (S line)]) hd2 _ _ (same_upd (o := .lst (LS (post.take 1))) hd1 _ _ hp4))
      have hd5 := upd_same (H := upd (upd H4 d1 (.lst (LS (post.take 1)))) d2 (.lst [V.str (S line)])) (a := d3) (o := .lst (LS (post.take 1 ++ [line])))
      generalize upd (upd (upd H4 d1 (.lst (LS (post.take 1)))) d2 (.lst [V.str (S line)])) d3 (.lst (LS (post.take 1 ++ [line]))) = H5 at *
      refine ⟨rfl, _, rfl, _, rfl, _, rfl, p, _, rfl, SqL.of hp5, fun e1 he1 => ?_⟩
      rw [c1]
      refine ⟨_, rfl, e1, d3, _, _, rfl, rfl, upd_same, same_upd he1 _ _ hd5, lb _ (by rw [LS_len, LS_len, List.length_append, List.length_take]; simp; omega), fun e2 he2 => ?_⟩
      rw [LS_app]
      refine ⟨_, rfl, _, rfl, _, _, rfl, rfl, _, rfl, p, _, rfl, SqL.of (same_upd he2 _ _ (same_upd he1 _ _ hp5)), fun e3 he3 => ?_⟩
      rw [c6]
      refine ⟨e2, e3, _, _, rfl, rfl, same_upd he3 _ _ upd_same, upd_same, lb _ (by rw [LS_len, LS_len, List.length_append, List.length_append, List.length_take, List.length_drop]; simp; omega), fun e4 he4 => ?_⟩
      rw [LS_app]
      have ht1 : tot (post.take 1) + tot (post.drop 1) = tot post := by rw [← tot_app, List.take_append_drop]
      have hl1 : (post.take 1).length + (post.drop 1).length = post.length := by rw [← List.length_append, List.take_append_drop]
      refine fin _ e4 _ upd_same (fun l hl => ?_) ?_ ?_ ((((f5.new he1).new he2).new he3).new he4) ((((k5.new he1).new he2).new he3).new he4)
      · simp only [List.mem_append, List.mem_singleton] at hl
        rcases hl with (hl | hl | hl) | hl
        · exact p1 l hl
        · exact p3 l (List.mem_of_mem_take hl)
        · rw [hl]; exact p2
        · exact p3 l (List.mem_of_mem_drop hl)
      · simp only [tot_app, tot_cons, tot_nil, List.length_append, List.length_cons, List.length_nil]; omega
      · simp only [List.length_append, List.length_cons, List.length_nil]; omega
    refine ⟨_, rfl, rfl, _, rfl, ite2 (fun h => ?_) (fun h => ?_)⟩
    · refine ⟨_, rfl, a, _, rfl, f4, by decide, by decide, fun r2 H5 s0 s1 f5 k45 => ?_⟩
      have hr2 : (1 + r2 = 1) ∨ (1 + r2 = 2) := by omega
      obtain ⟨z, ez, pz0, lz⟩ := mul_sp hr2
      have hp5 := k45 p _ hpa hp4
      have k5 := k4.trans k45
      refine ⟨_, _, rfl, rfl, _, _, rfl, rfl, mulOk1 hr2, ?_⟩
      rw [ez]
      refine ⟨_, rfl, _, _, rfl, rfl, Nat.le_trans (m := 100000) (by rw [slen, slen]; omega) (by decide), ?_⟩
      rw [cat]
      have pz : Prn (z ++ line) := fun c hc => (List.mem_append.mp hc).elim (pz0 c) (p2 c)
      have lz2 : (z ++ line).length ≤ 2 + line.length := by rw [List.length_append]; omega
      generalize z ++ line = nl at *
      refine ⟨rfl, _, rfl, _, rfl, _, rfl, p, _, rfl, SqL.of hp5, fun e1 he1 => ?_⟩
      rw [c1]
      refine ⟨_, rfl, lb 1 (by decide), fun e2 he2 => ⟨e1, e2, _, _, rfl, rfl, same_upd he2 _ _ upd_same, upd_same, lb _ (by rw [LS_len]; show _ + 1 ≤ _; omega), fun e3 he3 => ?_⟩⟩
      rw [LS_snoc]
      refine ⟨_, rfl, _, rfl, _, _, rfl, rfl, _, rfl, p, _, rfl, SqL.of (same_upd he3 _ _ (same_upd he2 _ _ (same_upd he1 _ _ hp5))), fun e4 he4 => ?_⟩
      rw [c2]
      refine ⟨e3, e4, _, _, rfl, rfl, same_upd he4 _ _ upd_same, upd_same, lb _ (by rw [LS_len, LS_len, List.length_append]; simp; omega), fun e5 he5 => ?_⟩
      rw [LS_app]
      refine fin _ e5 _ upd_same (fun l hl => ?_) ?_ ?_ (((((f5.new he1).new he2).new he3).new he4).new he5) (((((k5.new he1).new he2).new he3).new he4).new he5)
      · simp only [List.mem_append, List.mem_singleton] at hl
        rcases hl with (hl | hl) | hl
        · exact p1 l hl
        · rw [hl]; exact pz
        · exact p3 l hl
      · simp only [tot_app, tot_cons, tot_nil, List.length_append, List.length_cons, List.length_nil]; omega
      · simp only [List.length_append, List.length_cons, List.length_nil]; omega
    refine ⟨_, rfl, rfl, _, rfl, ite2 (fun h => ?_) (fun h => ?_)⟩
    · have bigl : (S line).length ≤ sizeLine := Nat.le_trans (m := 100000) (by rw [slen]; omega) (by decide)
      refine ⟨_, rfl, _, rfl, _, _, rfl, ⟨bigl, rfl⟩, _, rfl, a, _, rfl, f4, by decide, by decide, fun r2 H5 s0 s1 f5 k45 => ?_⟩
      have hp5 := k45 p _ hpa hp4
      have k5 := k4.trans k45
      refine ⟨_, _, rfl, rfl, _, _, rfl, _, rfl, S line, rfl, bigl, ?_⟩
      rw [SX.slice_from (by split <;> omega)]
      have pz : ∀ n : Nat, Prn (line.drop n) := fun n c hc => p2 c (List.mem_of_mem_drop hc)
      have lz : ∀ n : Nat, (line.drop n).length ≤ line.length := fun n => by rw [List.length_drop]; omega
      generalize (if 1 + r2 < ((S line).length : Int) then 1 + r2 else ((S line).length : Int)).toNat = n0
      replace pz := pz n0
      replace lz := lz n0
      generalize line.drop n0 = nl at *
      refine ⟨rfl, _, rfl, _, rfl, _, rfl, p, _, rfl, SqL.of hp5, fun e1 he1 => ?_⟩
      rw [c1]
      refine ⟨_, rfl, lb 1 (by decide), fun e2 he2 => ⟨e1, e2, _, _, rfl, rfl, same_upd he2 _ _ upd_same, upd_same, lb _ (by rw [LS_len]; show _ + 1 ≤ _; omega), fun e3 he3 => ?_⟩⟩
      rw [LS_snoc]
      refine ⟨_, rfl, _, rfl, _, _, rfl, rfl, _, rfl, p, _, rfl, SqL.of (same_upd he3 _ _ (same_upd he2 _ _ (same_upd he1 _ _ hp5))), fun e4 he4 => ?_⟩
      rw [c2]
      refine ⟨e3, e4, _, _, rfl, rfl, same_upd he4 _ _ upd_same, upd_same, lb _ (by rw [LS_len, LS_len, List.length_append]; simp; omega), fun e5 he5 => ?_⟩
      rw [LS_app]
      refine fin _ e5 _ upd_same (fun l hl => ?_) ?_ ?_ (((((f5.new he1).new he2).new he3).new he4).new he5) (((((k5.new he1).new he2).new he3).new he4).new he5)
      · simp only [List.mem_append, List.mem_singleton] at hl
        rcases hl with (hl | hl) | hl
        · exact p1 l hl
        · rw [hl]; exact pz
        · exact p3 l hl
      · simp only [tot_app, tot_cons, tot_nil, List.length_append, List.length_cons, List.length_nil]; omega
      · simp only [List.length_append, List.length_cons, List.length_nil]; omega
    · refine ⟨rfl, _, rfl, _, rfl, _, rfl, p, _, rfl, SqL.of hp4, fun e1 he1 => ?_⟩
      rw [c1]
      have he1a : e1 ≠ a := f4.ne he1
      refine ⟨_, rfl, _, rfl, a, _, rfl, f4.new he1, .inr ⟨g, _, rfl, hga, .inl (SqL.of (same_upd he1 _ _ hg4)), by decide +kernel, by rw [LS_len]; decide, fun v H5 hv f5 k45 => ?_⟩⟩
      obtain ⟨nl, hnl, rfl⟩ := List.mem_map.mp hv
      obtain ⟨pz, lz⟩ := somes_prn nl hnl
      have hp5 := k45 p _ hpa (same_upd he1 _ _ hp4)
      have h15 := k45 e1 _ he1a (upd_same (H := H4) (a := e1) (o := .lst (LS pre)))
      have k5 := (k4.new (o := .lst (LS pre)) he1).trans k45
      refine ⟨lb 1 (by decide), fun e2 he2 => ⟨e1, e2, _, _, rfl, rfl, same_upd he2 _ _ h15, upd_same, lb _ (by rw [LS_len]; show _ + 1 ≤ _; omega), fun e3 he3 => ?_⟩⟩
      rw [LS_snoc]
      refine ⟨_, rfl, _, rfl, _, _, rfl, rfl, _, rfl, p, _, rfl, SqL.of (same_upd he3 _ _ (same_upd he2 _ _ hp5)), fun e4 he4 => ?_⟩
      rw [c2]
      refine ⟨e3, e4, _, _, rfl, rfl, same_upd he4 _ _ upd_same, upd_same, lb _ (by rw [LS_len, LS_len, List.length_append]; simp; omega), fun e5 he5 => ?_⟩
      rw [LS_app]
      refine fin _ e5 _ upd_same (fun l hl => ?_) ?_ ?_ ((((f5.new he2).new he3).new he4).new he5) ((((k5.new he2).new he3).new he4).new he5)
      · simp only [List.mem_append, List.mem_singleton] at hl
        rcases hl with (hl | hl) | hl
        · exact p1 l hl
        · rw [hl]; exact pz
        · exact p3 l hl
      · simp only [tot_app, tot_cons, tot_nil, List.length_append, List.length_cons, List.length_nil]; omega
      · simp only [List.length_append, List.length_cons, List.length_nil]; omega
end
end KW

/-! ## k12: the law -/
namespace KW
open PySem PySem.Spec PyProof.Rows L2
theorem cutV_len (xs : List V) (lo hi : Option Int) : (cutV xs lo hi).length ≤ xs.length := by
  unfold cutV
  rw [List.length_take, List.length_drop]
  omega
theorem KB.same {p : Addr} {H H1 H2 : Hp} (k : KB p H1 H2) (hp : H p = none) (s : Same H H1) : Same H H2 := fun b o e => k b o (ne_of_none e hp) (s b o e)
theorem Tr.sizeD : ∀ t : Tr, KW.sizeD t.data ≤ 10 * t.sz + 1
  | .leaf => by simp [Tr.data, KW.sizeD, sizeAll, Tr.sz]
  | .node l r a b => by
    have h1 := Tr.sizeD a
    have h2 := Tr.sizeD b
    simp only [Tr.data, KW.sizeD, sizeAll, Tr.sz]
    omega
theorem Tr.sm_lines : ∀ (t : Tr), t.sm → ∀ x ∈ t.lines, x.length ≤ 204 + 2 * t.dep
  | .leaf, _, x, hx => by
    have e : x = so := by simpa [Tr.lines] using hx
    subst e
    show 2 ≤ 204 + 2 * 0
    decide
  | .node l r a b, ⟨hl, hr, ha, hb⟩, x, hx => by
    have hd : (Tr.node l r a b).dep = max a.dep b.dep + 1 := rfl
    simp only [Tr.lines, List.mem_append, List.mem_singleton, List.mem_map] at hx
    rcases hx with ((rfl | ⟨y, hy, rfl⟩) | rfl) | ⟨y, hy, rfl⟩
    · simp only [List.length_append, List.length_cons, List.length_nil]; omega
    · have h2 := Tr.sm_lines a ha y hy
      rw [List.length_append]; simp only [List.length_cons, List.length_nil]; omega
    · simp only [List.length_append, List.length_cons, List.length_nil]; omega
    · have h2 := Tr.sm_lines b hb y hy
      rw [List.length_append]; simp only [List.length_cons, List.length_nil]; omega
theorem good_tx {t : Tr} (ho : t.ok) (hs : t.sm) (hz : t.sz ≤ 6) : Tx 4200 19 t.text := by
  have hd := t.dep_le
  have hl := t.lines_len
  have h1 := sum_le (fun l : List Nat => l.length) (204 + 2 * t.dep) t.lines fun x hx => t.sm_lines hs x hx
  have h2 : tot t.lines ≤ t.lines.length * (204 + 2 * t.dep) := h1
  rw [hl] at h2
  have h3 : (3 * t.sz + 1) * (204 + 2 * t.dep) ≤ 19 * 216 := Nat.mul_le_mul (by omega) (by omega)
  refine tx_rows (fun l hl => (t.lines_ok ho l hl).1) ?_ (by omega) (by decide)
  rw [hl]
  omega
def mx : Nat → Nat
  | 0 => 4200
  | n + 1 => 2 * mx n + 20
theorem mx_le {l : Nat} (h : l ≤ 3) : mx l ≤ 34000 := by
  match l, h with
  | 0, _ => decide
  | 1, _ => decide
  | 2, _ => decide
  | 3, _ => decide
/-- a side that was read -/
theorem isSd_sd {l : List Nat} (h : isSd l = true) (hp : Prn l) (hl : l.length ≤ 40000) : Sd l := by
  unfold isSd at h
  simp only [Bool.and_eq_true, Bool.not_eq_true', decide_eq_true_eq, List.contains_eq_mem, decide_eq_false_iff_not] at h
  obtain ⟨⟨⟨⟨h1, h2⟩, h3⟩, h4⟩, h5⟩ := h
  refine ⟨fun e => by rw [e] at h1; simp at h1, hl, fun c hc => ⟨(hp c hc).1, (hp c hc).2, fun e => h2 (e ▸ hc), fun e => h3 (e ▸ hc)⟩, h4, h5⟩
theorem rdTree_ok {ls : List (List Nat)} (hp : ∀ l ∈ ls, Prn l) (hl : ∀ l ∈ ls, l.length ≤ 40000) : ∀ (n i : Nat) (a : List Nat) (t : Tr) (m : Nat), rdTree ls n i a = .tree t m → t.ok
  | 0, _, _, _, _, h => by cases h
  | n + 1, i, a, t, m, h => by
    unfold rdTree at h
    split at h
    · cases h
    · rename_i x hx
      have hline := List.mem_of_getElem? (rdLine_lt hx).2
      have hpx := hp _ hline
      have hlx := hl _ hline
      split at h
      · cases h
        trivial
      · split at h
        · cases h
        · rename_i l r hs
          obtain ⟨ex, s1, s2⟩ := sides_eq hs
          split at h
          · cases h
          · rename_i t1 j h1
            have i1 := rdTree_ok hp hl n _ _ _ _ h1
            split at h
            · cases h
            · split at h
              · split at h
                · cases h
                · rename_i t2 m2 h2
                  have i2 := rdTree_ok hp hl n _ _ _ _ h2
                  cases h
                  subst ex
                  simp only [List.length_append] at hlx
                  refine ⟨isSd_sd s1 (fun c hc => hpx c (by simp [hc])) (by omega), isSd_sd s2 (fun c hc => hpx c (by simp [hc])) (by omega), i1, i2⟩
              · cases h
/-- a text that was read as a tree is that tree's text -/
theorem rdText_tree {n m k : Nat} {x : List Nat} {t : Tr} (hx : Tx m k x) (hm : m ≤ 40000) (hk : k ≤ 60) (h : rdText n x = .tree t) : t.ok ∧ t.sz ≤ 20 ∧ t.dep ≤ 20 ∧ t.text = x := by
  unfold rdText at h
  obtain ⟨hprn, htot, hrows, hpos⟩ := hx.rows
  have hj := spl_joins (S := [10]) (by decide) x.length [] x (Nat.le_refl _)
  have hll : ∀ l ∈ TL.spl [10] 0 [] x, l.length ≤ 40000 := fun l hl => Nat.le_trans (spl_len (by decide) hl) (Nat.le_trans hx.len hm)
  generalize TL.spl [10] 0 [] x = ls at *
  cases e : rdTree ls n 0 [] with
  | bad k => rw [e] at h; cases h
  | tree t' m' =>
    rw [e] at h
    dsimp only at h
    split at h
    · cases h
    · rename_i hlt
      cases h
      have hat := rdTree_at n _ _ _ _ e
      have em : m' = ls.length := by omega
      subst em
      have hw := rd_whole e
      have hlen := t.lines_len
      have hd := t.dep_le
      rw [hw] at hlen
      refine ⟨rdTree_ok hprn hll n _ _ _ _ e, by omega, by omega, ?_⟩
      unfold Tr.text
      rw [hw, hj]
      rfl
/-- what is told, as data -/
def Rd2.data : Rd2 → PyData
  | .bad k => .tuple [.str "refused", .int k]
  | .tree t => .tuple [.str "told", t.data]
theorem ToldAt.dp {K : PySem.W.Frag} {H : Hp} {v : V} {r : Rd2} (h : ToldAt H v r) : Dp K H v r.data := by
  obtain ⟨q, rfl, h⟩ := h
  cases r with
  | bad k => exact .tup (SqT.of h) (.cons (.str _) (.cons (.int _) .nil))
  | tree t =>
    obtain ⟨u, h, ht⟩ := h
    exact .tup (SqT.of h) (.cons (.str _) (.cons ht.dp .nil))
theorem ToldAt.mono {H H' : Hp} {v : V} {r : Rd2} (h : ToldAt H v r) (s : Same H H') : ToldAt H' v r := by
  obtain ⟨q, rfl, h⟩ := h
  cases r with
  | bad k => exact ⟨q, rfl, s _ _ h⟩
  | tree t =>
    obtain ⟨u, h, ht⟩ := h
    exact ⟨q, rfl, u, s _ _ h, ht.mono s⟩
theorem Rd2.fit {r : Rd2} (h : ∀ t, r = .tree t → t.ok ∧ t.sz ≤ 20 ∧ t.dep ≤ 20) : r.data.canLay0 = true ∧ r.data.depth < 30 ∧ KW.sizeD r.data ≤ 100000 := by
  cases r with
  | bad k =>
    refine ⟨?_, ?_, ?_⟩
    · simp only [Rd2.data, PyData.canLay0, PyData.canLayAll0]
      decide +kernel
    · simp [Rd2.data, PyData.depth, PyData.depthAll]
    · simp [Rd2.data, KW.sizeD, sizeAll]
  | tree t =>
    obtain ⟨h1, h2, h3⟩ := h t rfl
    have hc := t.canLay h1
    have hd := t.depth
    have hs := t.sizeD
    refine ⟨?_, ?_, ?_⟩
    · have e : PyData.strOk (Str.ofString "told") = true := by decide +kernel
      simp only [Rd2.data, PyData.canLay0, PyData.canLayAll0, hc, e, Bool.and_self]
    · simp only [Rd2.data, PyData.depth, PyData.depthAll]
      omega
    · simp only [Rd2.data, KW.sizeD, sizeAll]
      omega
section
variable {P : Program} {w : World} {K : PySem.W.Frag} {mg : Str → Option Value} {base : Heap}
abbrev s_law : Stmt := topS 37
theorem sc_law : FnScope ["_law_script", "_law_k", "_law_feed_here", "_law_names", "_law_good", "_law_turn", "_law_text", "_law_more", "_law_due_here"] ["_law_script"] (defScope s_law) := ⟨rfl, rfl, rfl, by decide +kernel, rfl, by decide +kernel, by decide +kernel⟩
def spLaw (K : PySem.W.Frag) : Sp := fun vs H Q _ => ∃ (a : Addr) (ns : List Int), vs = [.ref a] ∧ SqL K H a (ns.map V.int) ∧ ns.length ≤ 63 ∧ ∀ H', Q (.bl true) H'
theorem ok_law {k : Nat} {f : Addr} {fd : FuncData} (B : Bi mg) (F : Fun K "law" "law" s_law f fd) (G_law_feed : C8.Cal P w K mg base k "_law_feed" (spFeed K) []) (G_law_draw : C8.Cal P w K mg base k "_law_draw" spDraw [])
    (G_law_words : C8.Cal P w K mg base k "_law_words" spWords []) (G_law_tree : C8.Cal P w K mg base k "_law_tree" (spTree 7) []) (G_law_same : C8.Cal P w K mg base k "_law_same" (spSame K 30) [])
    (Gshow_tree : C8.Cal P w K mg base k "show_tree" (spShow 27) []) (G_law_changed : C8.Cal P w K mg base k "_law_changed" spChg []) (G_law_due : C8.Cal P w K mg base k "_law_due" (spTold 24) []) (G_law_told : C8.Cal P w K mg base k "_law_told" (spTold 24) []) : FnOk P w K mg base CX0 (k + 1) f fd ["_law_script"] (spLaw K) := by
  refine F.ok sc_law (fun vs H Q E h => ?_) (fun cdv A outer s H vs Q E hr h => ?_)
  · obtain ⟨a, ns, rfl, _⟩ := h
    rfl
  · obtain ⟨a, ns, rfl, hS, hlen, q⟩ := h
    refine ⟨_, (pss_cons (ps_for PassesOwn.never rfl (pi_range1 rfl B.range (pa_cons (pe_op op_add pe_int (pe_callB (kk_len K rfl) rfl B.len PySem.boot_len (pa_cons (pe_slice (kk_slL K rfl) (pv 0) po_none (po_some pe_int)) pa_nil))) pa_nil)) (pg_name (i := 1) sc_law.nd rfl (Or.inl rfl)) (pss_cons (ps_set (i := 2) sc_law.nd rfl (Or.inl rfl) (C8.pe_c G_law_feed hr (Nat.le_refl _) rfl (pa_cons (pv 0) (pa_cons (pv 1) pa_nil))))
      (pss_cons (ps_set (i := 3) sc_law.nd rfl (Or.inl rfl) (C8.pe_c G_law_words hr (Nat.le_refl _) rfl (pa_cons (pv 2) (pa_cons pe_int pa_nil))))
      (pss_cons (ps_set (i := 4) sc_law.nd rfl (Or.inl rfl) (C8.pe_c Gshow_tree hr (Nat.le_refl _) rfl (pa_cons (C8.pe_c G_law_tree hr (Nat.le_refl _) rfl (pa_cons (pv 2) (pa_cons (pv 3) (pa_cons (C8.pe_c G_law_draw hr (Nat.le_refl _) rfl (pa_cons (pv 2) (pa_cons pe_int pa_nil))) (pa_cons pe_int pa_nil))))) pa_nil)))
      (pss_one (ps_for PassesOwn.never rfl (pi_range1 rfl B.range (pa_cons pe_int pa_nil)) (pg_name (i := 5) sc_law.nd rfl (Or.inl rfl)) (pss_cons (ps_set (i := 6) sc_law.nd rfl (Or.inl rfl) (pv 4))
      (pss_cons (ps_for PassesOwn.never rfl (pi_range1 rfl B.range (pa_cons (pe_op op_add pe_int (C8.pe_c G_law_draw hr (Nat.le_refl _) rfl (pa_cons (pv 2) (pa_cons pe_int pa_nil)))) pa_nil)) (pg_name (i := 7) sc_law.nd rfl (Or.inl rfl)) (pss_one (ps_set (i := 6) sc_law.nd rfl (Or.inl rfl) (C8.pe_c G_law_changed hr (Nat.le_refl _) rfl (pa_cons (pv 2) (pa_cons (pv 6) pa_nil))))))
      (pss_cons (ps_set (i := 8) sc_law.nd rfl (Or.inl rfl) (C8.pe_c G_law_due hr (Nat.le_refl _) rfl (pa_cons (pv 6) pa_nil)))
      (C8.pss_cut (ps_if (PW.pt (pw_and (pt_cmpR op_lt (pe_callB (kk_len K rfl) rfl B.len PySem.boot_len (pa_cons (pv 6) pa_nil)) pe_int (nomark _)) (pw_and1 (pt_not (pt_val (C8.pe_c G_law_same hr (Nat.le_refl _) rfl (pa_cons (C8.pe_c G_law_told hr (Nat.le_refl _) rfl (pa_cons (pv 6) pa_nil)) (pa_cons (pv 8) pa_nil)))))))) (pss_one (ps_ret pe_bl)) pss_nil)
      (C8.pss_cut (ps_if (PW.pt (pw_and (pt_cmpR op_eq (pe_ix (kk_ixT K rfl) (pv 8) pe_int (fun _ _ => rfl)) pe_str (nomark _)) (pw_and1 (pt_cmpR op_ne (C8.pe_c Gshow_tree hr (Nat.le_refl _) rfl (pa_cons (pe_ix (kk_ixT K rfl) (pv 8) pe_int (fun _ _ => rfl)) pa_nil)) (pv 6) (nomark _))))) (pss_one (ps_ret pe_bl)) pss_nil)
      (pss_one (ps_if (pt_not (pt_val (C8.pe_c G_law_same hr (Nat.le_refl _) rfl (pa_cons (C8.pe_c G_law_told hr (Nat.le_refl _) rfl (pa_cons (pv 4) pa_nil)) (pa_cons (C8.pe_c G_law_due hr (Nat.le_refl _) rfl (pa_cons (pv 4) pa_nil)) pa_nil))))) (pss_one (ps_ret pe_bl)) pss_nil)))))))))))))
      (pss_one (ps_ret pe_bl))), ?_⟩
    -- range(1 + len(script[:2]))
    have hlm : (ns.map V.int).length ≤ 63 := by rw [List.length_map]; exact hlen
    refine ⟨_, rfl, 2, rfl, a, _, rfl, hS, fun c hc => ?_⟩
    have sc := same_upd (o := .lst (cutV (ns.map V.int) none (some 2))) hc
    have hcl : (cutV (ns.map V.int) none (some 2)).length ≤ 63 := Nat.le_trans (cutV_len _ _ _) hlm
    refine ⟨_, _, rfl, .inl ⟨_, SqL.of upd_same, rfl⟩, _, _, rfl, rfl, _, rfl, by omega, by omega, ?_⟩
    refine for_range (lo := 0) (fun i σ H2 => ∃ (v1 v2 v3 v4 v5 v6 v7 v8 : Option V), σ = [some (.ref a), v1, v2, v3, v4, v5, v6, v7, v8] ∧ Same H H2) ?_ ?_ ?_
    · exact ⟨none, none, none, none, none, none, none, none, rfl, sc⟩
    · rintro i σ H2 hi ⟨v1, v2, v3, v4, v5, v6, v7, v8, rfl, sH2⟩
      -- feed, names
      refine ⟨_, rfl, _, rfl, a, ns, _, rfl, sH2.seq hS, by omega, fun p H3 hp s3 f3 => ?_⟩
      have hpH : H p = none := sH2.free hp
      refine ⟨_, rfl, p, 3, rfl, f3, by decide, fun n ls H4 hn hls hnm hnd hn4 f4 k4 => ?_⟩
      have hnp : n ≠ p := f3.ne hn
      have hN4 : NmsAt H4 p n ls := ⟨hn4, hnp, hnm, by intro e; rw [e] at hls; simp at hls, by omega⟩
      have sH3 : Same H H3 := sH2.trans s3
      have sH4 : Same H H4 := k4.same hpH sH3
      -- good
      refine ⟨_, rfl, _, rfl, _, rfl, p, 7, rfl, f4, by decide, by decide, fun r H5 r0 r1 f5 k5 => ?_⟩
      obtain ⟨r, rfl⟩ : ∃ e : Nat, r = (e : Int) := ⟨r.toNat, by omega⟩
      refine ⟨p, n, ls, r, 5, rfl, f5, hN4.kb k5, by decide, by omega, fun v t H6 ht ho hsm hz hd f6 k6 => ?_⟩
      have sH6 : Same H H6 := k6.same hpH (k5.same hpH sH4)
      refine ⟨v, t, rfl, ht.mono hid_same, ho, by omega, by omega, fun H7 s7 => ?_⟩
      have sH7 : Same H H7 := sH6.trans s7
      have f7 := f6.same s7
      have hgood := good_tx ho hsm (by omega)
      generalize t.text = good at hgood
      -- five turns
      refine ⟨_, rfl, by decide, by decide, ?_⟩
      refine for_range (lo := 0) (n := 5) (fun j σ H8 => ∃ (u5 u6 u7 u8 : Option V), σ = [some (.ref a), some (.int (0 + i)), some (.ref p), some (.ref n), some (.str (S good)), u5, u6, u7, u8] ∧ Fd H8 p ∧ Same H H8) ?_ ?_ ?_
      · exact ⟨_, _, _, _, rfl, f7, sH7⟩
      · rintro j σ H8 hj ⟨u5, u6, u7, u8, rfl, f8, sH8⟩
        refine ⟨_, rfl, ?_⟩
        refine ⟨_, rfl, p, 3, rfl, f8, by decide, by decide, fun r2 H9 r0 r1 f9 k9 => ⟨_, _, rfl, rfl, _, rfl, by omega, by omega, ?_⟩⟩
        have sH9 : Same H H9 := k9.same hpH sH8
        refine for_range (lo := 0) (fun l σ H10 => ∃ (x : List Nat) (w7 : Option V), σ = [some (.ref a), some (.int (0 + i)), some (.ref p), some (.ref n), some (.str (S good)), some (.int (0 + j)), some (.str (S x)), w7, u8] ∧ Tx (mx l) (19 + l) x ∧ Fd H10 p ∧ Same H H10) ?_ ?_ ?_
        · exact ⟨good, _, rfl, hgood, f9, sH9⟩
        · rintro l σ H10 hl ⟨x, w7, rfl, hx, f10, sH10⟩
          have hl3 : l < 3 := by omega
          have hmx : mx l ≤ 20000 := by
            match l, hl3 with
            | 0, _ => decide
            | 1, _ => decide
            | 2, _ => decide
          refine ⟨_, rfl, _, rfl, p, x, _, _, rfl, f10, hx, by omega, by omega, fun y H11 hy f11 k11 => ?_⟩
          exact ⟨y, _, rfl, hy, f11, k11.same hpH sH10⟩
        · rintro σ H10 ⟨x, w7, rfl, hx0, f10, sH10⟩
          have hx : Tx 34000 22 x := hx0.mono (mx_le (by omega)) (by omega)
          have rows : ∀ {m k : Nat} {z : List Nat}, Tx m k z → k ≤ 22 → (TL.spl [10] 0 [] z).length < 24 := fun h hk => by
            have := h.rows.2.2.1
            omega
          have hxl := hx.len
          have hgl := hgood.len
          refine ⟨_, rfl, x, rfl, by omega, rows hx (by decide), fun dv H11 hdv s11 => ?_⟩
          have fit : ∀ {m k : Nat} {z : List Nat}, Tx m k z → m ≤ 40000 → k ≤ 22 → _ := fun {m k z} h hm hk => Rd2.fit (r := rdText 24 z) fun t ht => let g := rdText_tree h hm (by omega) ht; ⟨g.1, g.2.1, g.2.2.1⟩
          have bigx : (S x).length ≤ sizeLine := Nat.le_trans (m := 34000) (by rw [slen]; exact hxl) (by decide)
          refine ⟨fun σ H12 => σ = [some (.ref a), some (.int (0 + i)), some (.ref p), some (.ref n), some (.str (S good)), some (.int (0 + j)), some (.str (S x)), w7, some dv] ∧ Same H11 H12, ?_, ?_⟩
          · refine ⟨_, rfl, _, _, rfl, ⟨bigx, rfl⟩, _, _, rfl, rfl, _, rfl, ite2 (fun h => ?_) (fun h => ?_)⟩
            · obtain ⟨g1, g2, g3⟩ := fit hx (by decide) (by decide)
              refine ⟨_, rfl, x, rfl, by omega, rows hx (by decide), fun tv H12 htv s12 => ⟨_, rfl, tv, dv, (rdText 24 x).data, rfl, htv.dp, (hdv.mono s12).dp, g1, g2, by decide, g3, fun H13 s13 => ⟨true, rfl, iteF ?_⟩⟩⟩
              exact ⟨rfl, s12.trans s13⟩
            · exact iteF ⟨rfl, fun _ _ z => z⟩
          rintro σ H12 ⟨rfl, s12⟩
          refine ⟨fun σ H13 => σ = [some (.ref a), some (.int (0 + i)), some (.ref p), some (.ref n), some (.str (S good)), some (.int (0 + j)), some (.str (S x)), w7, some dv] ∧ Same H11 H13, ?_, ?_⟩
          · have hdv2 := hdv.mono s12
            obtain ⟨dq, rfl, hd3⟩ := hdv2
            cases hrd : rdText 24 x with
            | bad k =>
              rw [hrd] at hd3
              refine ⟨_, rfl, dq, _, 0, _, rfl, rfl, SqT.of hd3, atI_nat (j := 0) rfl, rfl, _, rfl, ?_⟩
              rw [decide_eq_false (show ¬ V.str (Str.ofString "refused") = V.str (Str.ofString "told") from fun e => absurd (V.str.inj e) (by decide +kernel))]
              exact iteF (iteF ⟨rfl, s12⟩)
            | tree t2 =>
              rw [hrd] at hd3
              obtain ⟨u, hu, htr⟩ := hd3
              obtain ⟨o2, z2, d2, e2⟩ := rdText_tree hx (by decide) (by decide) hrd
              refine ⟨_, rfl, dq, _, 0, _, rfl, rfl, SqT.of hu, atI_nat (j := 0) rfl, rfl, _, rfl, ?_⟩
              rw [decide_eq_true rfl]
              refine iteT ⟨_, rfl, dq, _, 1, _, rfl, rfl, SqT.of hu, atI_nat (j := 1) rfl, u, t2, rfl, htr, o2, by omega, by omega, fun H13 s13 => ⟨_, rfl, rfl, _, rfl, ?_⟩⟩
              rw [e2, decide_eq_true rfl]
              exact iteF ⟨rfl, s12.trans s13⟩
          rintro σ H13 ⟨rfl, s13⟩
          obtain ⟨g1, g2, g3⟩ := fit hgood (by decide) (by decide)
          refine ⟨_, rfl, good, rfl, by omega, rows hgood (by decide), fun tv H14 htv s14 => ⟨_, rfl, good, rfl, by omega, rows hgood (by decide), fun ev H15 hev s15 => ⟨tv, ev, (rdText 24 good).data, rfl, (htv.mono s15).dp, hev.dp, g1, g2, by decide, g3, fun H16 s16 => ⟨true, rfl, iteF ?_⟩⟩⟩⟩
          have sall : Same H10 H16 := ((((s11.trans s13).trans s14).trans s15).trans s16)
          exact ⟨_, _, _, _, rfl, f10.same sall, sH10.trans sall⟩
      · rintro σ H8 ⟨u5, u6, u7, u8, rfl, f8, sH8⟩
        exact ⟨_, _, _, _, _, _, _, _, rfl, sH8⟩
    · rintro σ H2 ⟨v1, v2, v3, v4, v5, v6, v7, v8, rfl, sH2⟩
      exact q _
end
end KW

/-! ## the end -/
namespace KW
open PySem PySem.Spec PyProof.Rows L2
theorem all_mk {l : PySem.W.OpenLaw} {w : World} {K : PySem.W.Frag} {h : Heap} {mg : Str → Option Value} {fa : Addr} (X : K.In h) (G : h.Ns mainGlobals mg) (hfa : mg "law" = some (.ref fa))
    {od__law_feed an__law_feed : Option Addr} {sl__law_feed : Array (Option Value)} {oc__law_feed kV__law_feed dc__law_feed pm__law_feed cd__law_feed ct__law_feed : Value} {f__law_feed : Addr}
    {od__law_draw an__law_draw : Option Addr} {sl__law_draw : Array (Option Value)} {oc__law_draw kV__law_draw dc__law_draw pm__law_draw cd__law_draw ct__law_draw : Value} {f__law_draw : Addr}
    {od__law_pick an__law_pick : Option Addr} {sl__law_pick : Array (Option Value)} {oc__law_pick kV__law_pick dc__law_pick pm__law_pick cd__law_pick ct__law_pick : Value} {f__law_pick : Addr}
    {od__law_word an__law_word : Option Addr} {sl__law_word : Array (Option Value)} {oc__law_word kV__law_word dc__law_word pm__law_word cd__law_word ct__law_word : Value} {f__law_word : Addr}
    {od__law_words an__law_words : Option Addr} {sl__law_words : Array (Option Value)} {oc__law_words kV__law_words dc__law_words pm__law_words cd__law_words ct__law_words : Value} {f__law_words : Addr}
    {od__law_same an__law_same : Option Addr} {sl__law_same : Array (Option Value)} {oc__law_same kV__law_same dc__law_same pm__law_same cd__law_same ct__law_same : Value} {f__law_same : Addr}
    {od__law_term an__law_term : Option Addr} {sl__law_term : Array (Option Value)} {oc__law_term kV__law_term dc__law_term pm__law_term cd__law_term ct__law_term : Value} {f__law_term : Addr}
    {od__law_tree an__law_tree : Option Addr} {sl__law_tree : Array (Option Value)} {oc__law_tree kV__law_tree dc__law_tree pm__law_tree cd__law_tree ct__law_tree : Value} {f__law_tree : Addr}
    {od_tree_lines an_tree_lines : Option Addr} {sl_tree_lines : Array (Option Value)} {oc_tree_lines kV_tree_lines dc_tree_lines pm_tree_lines cd_tree_lines ct_tree_lines : Value} {f_tree_lines : Addr}
    {od_show_tree an_show_tree : Option Addr} {sl_show_tree : Array (Option Value)} {oc_show_tree kV_show_tree dc_show_tree pm_show_tree cd_show_tree ct_show_tree : Value} {f_show_tree : Addr}
    {od_is_side an_is_side : Option Addr} {sl_is_side : Array (Option Value)} {oc_is_side kV_is_side dc_is_side pm_is_side cd_is_side ct_is_side : Value} {f_is_side : Addr}
    {od_read_tree an_read_tree : Option Addr} {sl_read_tree : Array (Option Value)} {oc_read_tree kV_read_tree dc_read_tree pm_read_tree cd_read_tree ct_read_tree : Value} {f_read_tree : Addr}
    {od__law_refused an__law_refused : Option Addr} {sl__law_refused : Array (Option Value)} {oc__law_refused kV__law_refused dc__law_refused pm__law_refused cd__law_refused ct__law_refused : Value} {f__law_refused : Addr}
    {od__law_is_side an__law_is_side : Option Addr} {sl__law_is_side : Array (Option Value)} {oc__law_is_side kV__law_is_side dc__law_is_side pm__law_is_side cd__law_is_side ct__law_is_side : Value} {f__law_is_side : Addr}
    {od__law_branch an__law_branch : Option Addr} {sl__law_branch : Array (Option Value)} {oc__law_branch kV__law_branch dc__law_branch pm__law_branch cd__law_branch ct__law_branch : Value} {f__law_branch : Addr}
    {od__law_due an__law_due : Option Addr} {sl__law_due : Array (Option Value)} {oc__law_due kV__law_due dc__law_due pm__law_due cd__law_due ct__law_due : Value} {f__law_due : Addr}
    {od__law_sign an__law_sign : Option Addr} {sl__law_sign : Array (Option Value)} {oc__law_sign kV__law_sign dc__law_sign pm__law_sign cd__law_sign ct__law_sign : Value} {f__law_sign : Addr}
    {od__law_bent an__law_bent : Option Addr} {sl__law_bent : Array (Option Value)} {oc__law_bent kV__law_bent dc__law_bent pm__law_bent cd__law_bent ct__law_bent : Value} {f__law_bent : Addr}
    {od__law_changed an__law_changed : Option Addr} {sl__law_changed : Array (Option Value)} {oc__law_changed kV__law_changed dc__law_changed pm__law_changed cd__law_changed ct__law_changed : Value} {f__law_changed : Addr}
    {od__law_told an__law_told : Option Addr} {sl__law_told : Array (Option Value)} {oc__law_told kV__law_told dc__law_told pm__law_told cd__law_told ct__law_told : Value} {f__law_told : Addr}
    {C_TreeText : Addr}
    {od_TreeText___init__ an_TreeText___init__ : Option Addr} {sl_TreeText___init__ : Array (Option Value)} {oc_TreeText___init__ kV_TreeText___init__ dc_TreeText___init__ pm_TreeText___init__ cd_TreeText___init__ ct_TreeText___init__ : Value} {f_TreeText___init__ : Addr}
    {od_TreeText_line an_TreeText_line : Option Addr} {sl_TreeText_line : Array (Option Value)} {oc_TreeText_line kV_TreeText_line dc_TreeText_line pm_TreeText_line cd_TreeText_line ct_TreeText_line : Value} {f_TreeText_line : Addr}
    {od_TreeText_need an_TreeText_need : Option Addr} {sl_TreeText_need : Array (Option Value)} {oc_TreeText_need kV_TreeText_need dc_TreeText_need pm_TreeText_need cd_TreeText_need ct_TreeText_need : Value} {f_TreeText_need : Addr}
    {od_TreeText_branch an_TreeText_branch : Option Addr} {sl_TreeText_branch : Array (Option Value)} {oc_TreeText_branch kV_TreeText_branch dc_TreeText_branch pm_TreeText_branch cd_TreeText_branch ct_TreeText_branch : Value} {f_TreeText_branch : Addr}
    {C_WaysError : Addr}
    {C_InvalidStep : Addr}
    {C_InvalidTrait : Addr}
    {C_InvalidExpr : Addr}
    {C_InvalidRow : Addr}
    {C_InvalidText : Addr}
    {C_InvalidWorld : Addr}
    {C_InvalidStart : Addr}
    {C_InvalidClaim : Addr}
    {C_NoName : Addr}
    {C_NoStep : Addr}
    {C_NoRow : Addr}
    {C_Impossible : Addr}
    {nm_InvalidText qn_InvalidText : Str} {N_InvalidText : Addr} {bs_InvalidText : List Value} {sn_InvalidText : List Str} {su_InvalidText : List Value} {ab_InvalidText : Bool} {co_InvalidText : Option Bool} {dd_InvalidText : Option Addr} {m0_InvalidText m1_InvalidText m2_InvalidText m3_InvalidText m5_InvalidText : Option Value}
    {od_InvalidText___init__ an_InvalidText___init__ : Option Addr} {sl_InvalidText___init__ : Array (Option Value)} {oc_InvalidText___init__ kV_InvalidText___init__ dc_InvalidText___init__ pm_InvalidText___init__ cd_InvalidText___init__ ct_InvalidText___init__ : Value} {f_InvalidText___init__ : Addr}
    {od_law an_law : Option Addr} {sl_law : Array (Option Value)} {oc_law kV_law dc_law pm_law cd_law ct_law : Value} {f_law : Addr}
    (a__law_feed : PySem.W.nsIn K mainGlobals "_law_feed" = some (some (.ref f__law_feed)))
    (l__law_feed : K.lookup f__law_feed = some ⟨oc__law_feed, od__law_feed, .func (PySem.W.fnOf "_law_feed" "_law_feed" (defArgs s__law_feed) (defBody s__law_feed) (defScope s__law_feed) .none kV__law_feed dc__law_feed pm__law_feed an__law_feed cd__law_feed ct__law_feed), sl__law_feed⟩)
    (c__law_feed : PySem.W.codeIn K cd__law_feed "_law_feed" = true)
    (k__law_feed : PySem.W.keepIn K (.ref f__law_feed) = true)
    (a__law_draw : PySem.W.nsIn K mainGlobals "_law_draw" = some (some (.ref f__law_draw)))
    (l__law_draw : K.lookup f__law_draw = some ⟨oc__law_draw, od__law_draw, .func (PySem.W.fnOf "_law_draw" "_law_draw" (defArgs s__law_draw) (defBody s__law_draw) (defScope s__law_draw) .none kV__law_draw dc__law_draw pm__law_draw an__law_draw cd__law_draw ct__law_draw), sl__law_draw⟩)
    (c__law_draw : PySem.W.codeIn K cd__law_draw "_law_draw" = true)
    (k__law_draw : PySem.W.keepIn K (.ref f__law_draw) = true)
    (a__law_pick : PySem.W.nsIn K mainGlobals "_law_pick" = some (some (.ref f__law_pick)))
    (l__law_pick : K.lookup f__law_pick = some ⟨oc__law_pick, od__law_pick, .func (PySem.W.fnOf "_law_pick" "_law_pick" (defArgs s__law_pick) (defBody s__law_pick) (defScope s__law_pick) .none kV__law_pick dc__law_pick pm__law_pick an__law_pick cd__law_pick ct__law_pick), sl__law_pick⟩)
    (c__law_pick : PySem.W.codeIn K cd__law_pick "_law_pick" = true)
    (k__law_pick : PySem.W.keepIn K (.ref f__law_pick) = true)
    (a__law_word : PySem.W.nsIn K mainGlobals "_law_word" = some (some (.ref f__law_word)))
    (l__law_word : K.lookup f__law_word = some ⟨oc__law_word, od__law_word, .func (PySem.W.fnOf "_law_word" "_law_word" (defArgs s__law_word) (defBody s__law_word) (defScope s__law_word) .none kV__law_word dc__law_word pm__law_word an__law_word cd__law_word ct__law_word), sl__law_word⟩)
    (c__law_word : PySem.W.codeIn K cd__law_word "_law_word" = true)
    (k__law_word : PySem.W.keepIn K (.ref f__law_word) = true)
    (a__law_words : PySem.W.nsIn K mainGlobals "_law_words" = some (some (.ref f__law_words)))
    (l__law_words : K.lookup f__law_words = some ⟨oc__law_words, od__law_words, .func (PySem.W.fnOf "_law_words" "_law_words" (defArgs s__law_words) (defBody s__law_words) (defScope s__law_words) .none kV__law_words dc__law_words pm__law_words an__law_words cd__law_words ct__law_words), sl__law_words⟩)
    (c__law_words : PySem.W.codeIn K cd__law_words "_law_words" = true)
    (k__law_words : PySem.W.keepIn K (.ref f__law_words) = true)
    (a__law_same : PySem.W.nsIn K mainGlobals "_law_same" = some (some (.ref f__law_same)))
    (l__law_same : K.lookup f__law_same = some ⟨oc__law_same, od__law_same, .func (PySem.W.fnOf "_law_same" "_law_same" (defArgs s__law_same) (defBody s__law_same) (defScope s__law_same) .none kV__law_same dc__law_same pm__law_same an__law_same cd__law_same ct__law_same), sl__law_same⟩)
    (c__law_same : PySem.W.codeIn K cd__law_same "_law_same" = true)
    (k__law_same : PySem.W.keepIn K (.ref f__law_same) = true)
    (a__law_term : PySem.W.nsIn K mainGlobals "_law_term" = some (some (.ref f__law_term)))
    (l__law_term : K.lookup f__law_term = some ⟨oc__law_term, od__law_term, .func (PySem.W.fnOf "_law_term" "_law_term" (defArgs s__law_term) (defBody s__law_term) (defScope s__law_term) .none kV__law_term dc__law_term pm__law_term an__law_term cd__law_term ct__law_term), sl__law_term⟩)
    (c__law_term : PySem.W.codeIn K cd__law_term "_law_term" = true)
    (k__law_term : PySem.W.keepIn K (.ref f__law_term) = true)
    (a__law_tree : PySem.W.nsIn K mainGlobals "_law_tree" = some (some (.ref f__law_tree)))
    (l__law_tree : K.lookup f__law_tree = some ⟨oc__law_tree, od__law_tree, .func (PySem.W.fnOf "_law_tree" "_law_tree" (defArgs s__law_tree) (defBody s__law_tree) (defScope s__law_tree) .none kV__law_tree dc__law_tree pm__law_tree an__law_tree cd__law_tree ct__law_tree), sl__law_tree⟩)
    (c__law_tree : PySem.W.codeIn K cd__law_tree "_law_tree" = true)
    (k__law_tree : PySem.W.keepIn K (.ref f__law_tree) = true)
    (a_tree_lines : PySem.W.nsIn K mainGlobals "tree_lines" = some (some (.ref f_tree_lines)))
    (l_tree_lines : K.lookup f_tree_lines = some ⟨oc_tree_lines, od_tree_lines, .func (PySem.W.fnOf "tree_lines" "tree_lines" (defArgs s_tree_lines) (defBody s_tree_lines) (defScope s_tree_lines) .none kV_tree_lines dc_tree_lines pm_tree_lines an_tree_lines cd_tree_lines ct_tree_lines), sl_tree_lines⟩)
    (c_tree_lines : PySem.W.codeIn K cd_tree_lines "tree_lines" = true)
    (k_tree_lines : PySem.W.keepIn K (.ref f_tree_lines) = true)
    (a_show_tree : PySem.W.nsIn K mainGlobals "show_tree" = some (some (.ref f_show_tree)))
    (l_show_tree : K.lookup f_show_tree = some ⟨oc_show_tree, od_show_tree, .func (PySem.W.fnOf "show_tree" "show_tree" (defArgs s_show_tree) (defBody s_show_tree) (defScope s_show_tree) .none kV_show_tree dc_show_tree pm_show_tree an_show_tree cd_show_tree ct_show_tree), sl_show_tree⟩)
    (c_show_tree : PySem.W.codeIn K cd_show_tree "show_tree" = true)
    (k_show_tree : PySem.W.keepIn K (.ref f_show_tree) = true)
    (a_is_side : PySem.W.nsIn K mainGlobals "is_side" = some (some (.ref f_is_side)))
    (l_is_side : K.lookup f_is_side = some ⟨oc_is_side, od_is_side, .func (PySem.W.fnOf "is_side" "is_side" (defArgs s_is_side) (defBody s_is_side) (defScope s_is_side) .none kV_is_side dc_is_side pm_is_side an_is_side cd_is_side ct_is_side), sl_is_side⟩)
    (c_is_side : PySem.W.codeIn K cd_is_side "is_side" = true)
    (k_is_side : PySem.W.keepIn K (.ref f_is_side) = true)
    (a_read_tree : PySem.W.nsIn K mainGlobals "read_tree" = some (some (.ref f_read_tree)))
    (l_read_tree : K.lookup f_read_tree = some ⟨oc_read_tree, od_read_tree, .func (PySem.W.fnOf "read_tree" "read_tree" (defArgs s_read_tree) (defBody s_read_tree) (defScope s_read_tree) .none kV_read_tree dc_read_tree pm_read_tree an_read_tree cd_read_tree ct_read_tree), sl_read_tree⟩)
    (c_read_tree : PySem.W.codeIn K cd_read_tree "read_tree" = true)
    (k_read_tree : PySem.W.keepIn K (.ref f_read_tree) = true)
    (a__law_refused : PySem.W.nsIn K mainGlobals "_law_refused" = some (some (.ref f__law_refused)))
    (l__law_refused : K.lookup f__law_refused = some ⟨oc__law_refused, od__law_refused, .func (PySem.W.fnOf "_law_refused" "_law_refused" (defArgs s__law_refused) (defBody s__law_refused) (defScope s__law_refused) .none kV__law_refused dc__law_refused pm__law_refused an__law_refused cd__law_refused ct__law_refused), sl__law_refused⟩)
    (c__law_refused : PySem.W.codeIn K cd__law_refused "_law_refused" = true)
    (k__law_refused : PySem.W.keepIn K (.ref f__law_refused) = true)
    (a__law_is_side : PySem.W.nsIn K mainGlobals "_law_is_side" = some (some (.ref f__law_is_side)))
    (l__law_is_side : K.lookup f__law_is_side = some ⟨oc__law_is_side, od__law_is_side, .func (PySem.W.fnOf "_law_is_side" "_law_is_side" (defArgs s__law_is_side) (defBody s__law_is_side) (defScope s__law_is_side) .none kV__law_is_side dc__law_is_side pm__law_is_side an__law_is_side cd__law_is_side ct__law_is_side), sl__law_is_side⟩)
    (c__law_is_side : PySem.W.codeIn K cd__law_is_side "_law_is_side" = true)
    (k__law_is_side : PySem.W.keepIn K (.ref f__law_is_side) = true)
    (a__law_branch : PySem.W.nsIn K mainGlobals "_law_branch" = some (some (.ref f__law_branch)))
    (l__law_branch : K.lookup f__law_branch = some ⟨oc__law_branch, od__law_branch, .func (PySem.W.fnOf "_law_branch" "_law_branch" (defArgs s__law_branch) (defBody s__law_branch) (defScope s__law_branch) .none kV__law_branch dc__law_branch pm__law_branch an__law_branch cd__law_branch ct__law_branch), sl__law_branch⟩)
    (c__law_branch : PySem.W.codeIn K cd__law_branch "_law_branch" = true)
    (k__law_branch : PySem.W.keepIn K (.ref f__law_branch) = true)
    (a__law_due : PySem.W.nsIn K mainGlobals "_law_due" = some (some (.ref f__law_due)))
    (l__law_due : K.lookup f__law_due = some ⟨oc__law_due, od__law_due, .func (PySem.W.fnOf "_law_due" "_law_due" (defArgs s__law_due) (defBody s__law_due) (defScope s__law_due) .none kV__law_due dc__law_due pm__law_due an__law_due cd__law_due ct__law_due), sl__law_due⟩)
    (c__law_due : PySem.W.codeIn K cd__law_due "_law_due" = true)
    (k__law_due : PySem.W.keepIn K (.ref f__law_due) = true)
    (a__law_sign : PySem.W.nsIn K mainGlobals "_law_sign" = some (some (.ref f__law_sign)))
    (l__law_sign : K.lookup f__law_sign = some ⟨oc__law_sign, od__law_sign, .func (PySem.W.fnOf "_law_sign" "_law_sign" (defArgs s__law_sign) (defBody s__law_sign) (defScope s__law_sign) .none kV__law_sign dc__law_sign pm__law_sign an__law_sign cd__law_sign ct__law_sign), sl__law_sign⟩)
    (c__law_sign : PySem.W.codeIn K cd__law_sign "_law_sign" = true)
    (k__law_sign : PySem.W.keepIn K (.ref f__law_sign) = true)
    (a__law_bent : PySem.W.nsIn K mainGlobals "_law_bent" = some (some (.ref f__law_bent)))
    (l__law_bent : K.lookup f__law_bent = some ⟨oc__law_bent, od__law_bent, .func (PySem.W.fnOf "_law_bent" "_law_bent" (defArgs s__law_bent) (defBody s__law_bent) (defScope s__law_bent) .none kV__law_bent dc__law_bent pm__law_bent an__law_bent cd__law_bent ct__law_bent), sl__law_bent⟩)
    (c__law_bent : PySem.W.codeIn K cd__law_bent "_law_bent" = true)
    (k__law_bent : PySem.W.keepIn K (.ref f__law_bent) = true)
    (a__law_changed : PySem.W.nsIn K mainGlobals "_law_changed" = some (some (.ref f__law_changed)))
    (l__law_changed : K.lookup f__law_changed = some ⟨oc__law_changed, od__law_changed, .func (PySem.W.fnOf "_law_changed" "_law_changed" (defArgs s__law_changed) (defBody s__law_changed) (defScope s__law_changed) .none kV__law_changed dc__law_changed pm__law_changed an__law_changed cd__law_changed ct__law_changed), sl__law_changed⟩)
    (c__law_changed : PySem.W.codeIn K cd__law_changed "_law_changed" = true)
    (k__law_changed : PySem.W.keepIn K (.ref f__law_changed) = true)
    (a__law_told : PySem.W.nsIn K mainGlobals "_law_told" = some (some (.ref f__law_told)))
    (l__law_told : K.lookup f__law_told = some ⟨oc__law_told, od__law_told, .func (PySem.W.fnOf "_law_told" "_law_told" (defArgs s__law_told) (defBody s__law_told) (defScope s__law_told) .none kV__law_told dc__law_told pm__law_told an__law_told cd__law_told ct__law_told), sl__law_told⟩)
    (c__law_told : PySem.W.codeIn K cd__law_told "_law_told" = true)
    (k__law_told : PySem.W.keepIn K (.ref f__law_told) = true)
    (a_TreeText : PySem.W.nsIn K mainGlobals "TreeText" = some (some (.ref C_TreeText)))
    (pg_TreeText : PySem.W.plainGet K C_TreeText Str.empty = true) (hd_TreeText : PySem.W.hasDictIn K C_TreeText = true) (po_TreeText : PySem.W.plainOver K C_TreeText = true) (sa_TreeText : PySem.W.findIn K (.ref C_TreeText) "__setattr__" = some (some (.builtin "object.__setattr__"))) (mk_TreeText : PySem.W.makesIn K C_TreeText = true) (kc_TreeText : PySem.W.keepIn K (.ref C_TreeText) = true)
    (n_TreeText_lines : PySem.W.findIn K (.ref C_TreeText) "lines" = some none)
    (n_TreeText_at : PySem.W.findIn K (.ref C_TreeText) "at" = some none)
    (a_TreeText___init__ : PySem.W.findIn K (.ref C_TreeText) "__init__" = some (some (.ref f_TreeText___init__)))
    (i_TreeText___init__ : PySem.W.isFn K (.ref f_TreeText___init__) = true)
    (l_TreeText___init__ : K.lookup f_TreeText___init__ = some ⟨oc_TreeText___init__, od_TreeText___init__, .func (PySem.W.fnOf "__init__" "TreeText.__init__" (defArgs s_TreeText___init__) (defBody s_TreeText___init__) (defScope s_TreeText___init__) .none kV_TreeText___init__ dc_TreeText___init__ pm_TreeText___init__ an_TreeText___init__ cd_TreeText___init__ ct_TreeText___init__), sl_TreeText___init__⟩)
    (c_TreeText___init__ : PySem.W.codeIn K cd_TreeText___init__ "TreeText.__init__" = true)
    (k_TreeText___init__ : PySem.W.keepIn K (.ref f_TreeText___init__) = true)
    (a_TreeText_line : PySem.W.findIn K (.ref C_TreeText) "line" = some (some (.ref f_TreeText_line)))
    (i_TreeText_line : PySem.W.isFn K (.ref f_TreeText_line) = true)
    (l_TreeText_line : K.lookup f_TreeText_line = some ⟨oc_TreeText_line, od_TreeText_line, .func (PySem.W.fnOf "line" "TreeText.line" (defArgs s_TreeText_line) (defBody s_TreeText_line) (defScope s_TreeText_line) .none kV_TreeText_line dc_TreeText_line pm_TreeText_line an_TreeText_line cd_TreeText_line ct_TreeText_line), sl_TreeText_line⟩)
    (c_TreeText_line : PySem.W.codeIn K cd_TreeText_line "TreeText.line" = true)
    (k_TreeText_line : PySem.W.keepIn K (.ref f_TreeText_line) = true)
    (a_TreeText_need : PySem.W.findIn K (.ref C_TreeText) "need" = some (some (.ref f_TreeText_need)))
    (i_TreeText_need : PySem.W.isFn K (.ref f_TreeText_need) = true)
    (l_TreeText_need : K.lookup f_TreeText_need = some ⟨oc_TreeText_need, od_TreeText_need, .func (PySem.W.fnOf "need" "TreeText.need" (defArgs s_TreeText_need) (defBody s_TreeText_need) (defScope s_TreeText_need) .none kV_TreeText_need dc_TreeText_need pm_TreeText_need an_TreeText_need cd_TreeText_need ct_TreeText_need), sl_TreeText_need⟩)
    (c_TreeText_need : PySem.W.codeIn K cd_TreeText_need "TreeText.need" = true)
    (k_TreeText_need : PySem.W.keepIn K (.ref f_TreeText_need) = true)
    (a_TreeText_branch : PySem.W.findIn K (.ref C_TreeText) "branch" = some (some (.ref f_TreeText_branch)))
    (i_TreeText_branch : PySem.W.isFn K (.ref f_TreeText_branch) = true)
    (l_TreeText_branch : K.lookup f_TreeText_branch = some ⟨oc_TreeText_branch, od_TreeText_branch, .func (PySem.W.fnOf "branch" "TreeText.branch" (defArgs s_TreeText_branch) (defBody s_TreeText_branch) (defScope s_TreeText_branch) .none kV_TreeText_branch dc_TreeText_branch pm_TreeText_branch an_TreeText_branch cd_TreeText_branch ct_TreeText_branch), sl_TreeText_branch⟩)
    (c_TreeText_branch : PySem.W.codeIn K cd_TreeText_branch "TreeText.branch" = true)
    (k_TreeText_branch : PySem.W.keepIn K (.ref f_TreeText_branch) = true)
    (a_WaysError : PySem.W.nsIn K mainGlobals "WaysError" = some (some (.ref C_WaysError))) (ic_WaysError : PySem.W.isClsIn K C_WaysError = true) (ty_WaysError : PySem.W.typeIn K (.ref C_WaysError) = some (.type "type"))
    (a_InvalidStep : PySem.W.nsIn K mainGlobals "InvalidStep" = some (some (.ref C_InvalidStep))) (ic_InvalidStep : PySem.W.isClsIn K C_InvalidStep = true) (ty_InvalidStep : PySem.W.typeIn K (.ref C_InvalidStep) = some (.type "type"))
    (a_InvalidTrait : PySem.W.nsIn K mainGlobals "InvalidTrait" = some (some (.ref C_InvalidTrait))) (ic_InvalidTrait : PySem.W.isClsIn K C_InvalidTrait = true) (ty_InvalidTrait : PySem.W.typeIn K (.ref C_InvalidTrait) = some (.type "type"))
    (a_InvalidExpr : PySem.W.nsIn K mainGlobals "InvalidExpr" = some (some (.ref C_InvalidExpr))) (ic_InvalidExpr : PySem.W.isClsIn K C_InvalidExpr = true) (ty_InvalidExpr : PySem.W.typeIn K (.ref C_InvalidExpr) = some (.type "type"))
    (a_InvalidRow : PySem.W.nsIn K mainGlobals "InvalidRow" = some (some (.ref C_InvalidRow))) (ic_InvalidRow : PySem.W.isClsIn K C_InvalidRow = true) (ty_InvalidRow : PySem.W.typeIn K (.ref C_InvalidRow) = some (.type "type"))
    (a_InvalidText : PySem.W.nsIn K mainGlobals "InvalidText" = some (some (.ref C_InvalidText))) (ic_InvalidText : PySem.W.isClsIn K C_InvalidText = true) (ty_InvalidText : PySem.W.typeIn K (.ref C_InvalidText) = some (.type "type"))
    (a_InvalidWorld : PySem.W.nsIn K mainGlobals "InvalidWorld" = some (some (.ref C_InvalidWorld))) (ic_InvalidWorld : PySem.W.isClsIn K C_InvalidWorld = true) (ty_InvalidWorld : PySem.W.typeIn K (.ref C_InvalidWorld) = some (.type "type"))
    (a_InvalidStart : PySem.W.nsIn K mainGlobals "InvalidStart" = some (some (.ref C_InvalidStart))) (ic_InvalidStart : PySem.W.isClsIn K C_InvalidStart = true) (ty_InvalidStart : PySem.W.typeIn K (.ref C_InvalidStart) = some (.type "type"))
    (a_InvalidClaim : PySem.W.nsIn K mainGlobals "InvalidClaim" = some (some (.ref C_InvalidClaim))) (ic_InvalidClaim : PySem.W.isClsIn K C_InvalidClaim = true) (ty_InvalidClaim : PySem.W.typeIn K (.ref C_InvalidClaim) = some (.type "type"))
    (a_NoName : PySem.W.nsIn K mainGlobals "NoName" = some (some (.ref C_NoName))) (ic_NoName : PySem.W.isClsIn K C_NoName = true) (ty_NoName : PySem.W.typeIn K (.ref C_NoName) = some (.type "type"))
    (a_NoStep : PySem.W.nsIn K mainGlobals "NoStep" = some (some (.ref C_NoStep))) (ic_NoStep : PySem.W.isClsIn K C_NoStep = true) (ty_NoStep : PySem.W.typeIn K (.ref C_NoStep) = some (.type "type"))
    (a_NoRow : PySem.W.nsIn K mainGlobals "NoRow" = some (some (.ref C_NoRow))) (ic_NoRow : PySem.W.isClsIn K C_NoRow = true) (ty_NoRow : PySem.W.typeIn K (.ref C_NoRow) = some (.type "type"))
    (a_Impossible : PySem.W.nsIn K mainGlobals "Impossible" = some (some (.ref C_Impossible))) (ic_Impossible : PySem.W.isClsIn K C_Impossible = true) (ty_Impossible : PySem.W.typeIn K (.ref C_Impossible) = some (.type "type"))
    (ex_WaysError : PySem.W.subIn K (.ref C_WaysError) (.type "BaseException") = some true) (hd_WaysError : PySem.W.hasDictIn K C_WaysError = true)
    (sg_cls : PySem.W.specialIn K (.builtin "object.__class__") "__get__" = some (some (.builtin "getset_descriptor.__get__"))) (tk_cls : PySem.W.takesIn K (.builtin "object.__class__") = some true)
    (x_InvalidText : K.lookup C_InvalidText = some (excClassObj nm_InvalidText qn_InvalidText C_InvalidText N_InvalidText bs_InvalidText [.ref C_WaysError, .type "ValueError", .type "Exception", .type "BaseException", .type "object"] true sn_InvalidText su_InvalidText ab_InvalidText co_InvalidText dd_InvalidText m0_InvalidText m1_InvalidText m2_InvalidText m3_InvalidText m5_InvalidText "ValueError.__new__"))
    (sa_InvalidText : PySem.W.findIn K (.ref C_InvalidText) "__setattr__" = some (some (.builtin "object.__setattr__"))) (ga_InvalidText : PySem.W.findIn K (.ref C_InvalidText) "__getattribute__" = some (some (.builtin "BaseException.__getattribute__"))) (gg_InvalidText : PySem.W.findIn K (.ref C_InvalidText) "__getattr__" = some none) (no_InvalidText : PySem.W.findIn K (.ref C_InvalidText) "at" = some none)
    (ex_InvalidText : PySem.W.subIn K (.ref C_InvalidText) (.type "BaseException") = some true) (hd_InvalidText : PySem.W.hasDictIn K C_InvalidText = true) (kc_InvalidText : PySem.W.keepIn K (.ref C_InvalidText) = true) (cc_InvalidText : PySem.W.findIn K (.ref C_InvalidText) "__class__" = some (some (.builtin "object.__class__"))) (mr_InvalidText : PySem.W.mroIn K C_InvalidText (.type "object") = some true) (sw_InvalidText : PySem.W.subIn K (.ref C_InvalidText) (.ref C_WaysError) = some true)
    (s_InvalidText_InvalidStep : PySem.W.subIn K (.ref C_InvalidText) (.ref C_InvalidStep) = some false)
    (s_InvalidText_InvalidTrait : PySem.W.subIn K (.ref C_InvalidText) (.ref C_InvalidTrait) = some false)
    (s_InvalidText_InvalidExpr : PySem.W.subIn K (.ref C_InvalidText) (.ref C_InvalidExpr) = some false)
    (s_InvalidText_InvalidRow : PySem.W.subIn K (.ref C_InvalidText) (.ref C_InvalidRow) = some false)
    (s_InvalidText_InvalidText : PySem.W.subIn K (.ref C_InvalidText) (.ref C_InvalidText) = some true)
    (s_InvalidText_InvalidWorld : PySem.W.subIn K (.ref C_InvalidText) (.ref C_InvalidWorld) = some false)
    (s_InvalidText_InvalidStart : PySem.W.subIn K (.ref C_InvalidText) (.ref C_InvalidStart) = some false)
    (s_InvalidText_InvalidClaim : PySem.W.subIn K (.ref C_InvalidText) (.ref C_InvalidClaim) = some false)
    (s_InvalidText_NoName : PySem.W.subIn K (.ref C_InvalidText) (.ref C_NoName) = some false)
    (s_InvalidText_NoStep : PySem.W.subIn K (.ref C_InvalidText) (.ref C_NoStep) = some false)
    (s_InvalidText_NoRow : PySem.W.subIn K (.ref C_InvalidText) (.ref C_NoRow) = some false)
    (s_InvalidText_Impossible : PySem.W.subIn K (.ref C_InvalidText) (.ref C_Impossible) = some false)
    (a_InvalidText___init__ : PySem.W.findIn K (.ref C_InvalidText) "__init__" = some (some (.ref f_InvalidText___init__))) (t_InvalidText___init__ : PySem.W.typeIn K (.ref f_InvalidText___init__) = some (.type "function"))
    (l_InvalidText___init__ : K.lookup f_InvalidText___init__ = some ⟨oc_InvalidText___init__, od_InvalidText___init__, .func (PySem.W.fnOf "__init__" "InvalidText.__init__" (defArgs s_InvalidText___init__) (defBody s_InvalidText___init__) (defScope s_InvalidText___init__) .none kV_InvalidText___init__ dc_InvalidText___init__ pm_InvalidText___init__ an_InvalidText___init__ cd_InvalidText___init__ ct_InvalidText___init__), sl_InvalidText___init__⟩)
    (c_InvalidText___init__ : PySem.W.codeIn K cd_InvalidText___init__ "InvalidText.__init__" = true)
    (k_InvalidText___init__ : PySem.W.keepIn K (.ref f_InvalidText___init__) = true)
    (z_len : PySem.W.nsIn K mainGlobals "len" = some none)
    (z_range : PySem.W.nsIn K mainGlobals "range" = some none)
    (z_abs : PySem.W.nsIn K mainGlobals "abs" = some none)
    (z_isinstance : PySem.W.nsIn K mainGlobals "isinstance" = some none)
    (z_all : PySem.W.nsIn K mainGlobals "all" = some none)
    (z_zip : PySem.W.nsIn K mainGlobals "zip" = some none)
    (z_enumerate : PySem.W.nsIn K mainGlobals "enumerate" = some none)
    (z_min : PySem.W.nsIn K mainGlobals "min" = some none)
    (z_int : PySem.W.nsIn K mainGlobals "int" = some none)
    (z_str : PySem.W.nsIn K mainGlobals "str" = some none)
    (z_list : PySem.W.nsIn K mainGlobals "list" = some none)
    (z_tuple : PySem.W.nsIn K mainGlobals "tuple" = some none)
    (z_bool : PySem.W.nsIn K mainGlobals "bool" = some none)
    (a_law : PySem.W.nsIn K mainGlobals "law" = some (some (.ref f_law)))
    (l_law : K.lookup f_law = some ⟨oc_law, od_law, .func (PySem.W.fnOf "law" "law" (defArgs s_law) (defBody s_law) (defScope s_law) .none kV_law dc_law pm_law an_law cd_law ct_law), sl_law⟩)
    (c_law : PySem.W.codeIn K cd_law "law" = true)
    (k_law : PySem.W.keepIn K (.ref f_law) = true) :
    ∃ fd : FuncData, (∀ (s : Shared) (v : Value), BindsTo s fd ⟨[v], []⟩ [("_law_script", v)]) ∧ ∀ base : Heap, K.In base → base.Ns mainGlobals mg → FnOk l.prog w K mg base CX0 31 fa fd ["_law_script"] (spLaw K) := by
  have e := hfa.symm.trans (PySem.W.mg_of X G a_law)
  cases e
  have B : Bi mg := { len := PySem.W.mg_none_of X G z_len, range := PySem.W.mg_none_of X G z_range, abs := PySem.W.mg_none_of X G z_abs, isinstance := PySem.W.mg_none_of X G z_isinstance, all := PySem.W.mg_none_of X G z_all, zip := PySem.W.mg_none_of X G z_zip, enumerate := PySem.W.mg_none_of X G z_enumerate, min := PySem.W.mg_none_of X G z_min, ty_int := PySem.W.mg_none_of X G z_int, ty_str := PySem.W.mg_none_of X G z_str, ty_list := PySem.W.mg_none_of X G z_list, ty_tuple := PySem.W.mg_none_of X G z_tuple, ty_bool := PySem.W.mg_none_of X G z_bool }
  have F__law_feed := fun_mk (st := s__law_feed) l__law_feed c__law_feed k__law_feed
  have D__law_feed : Df K mg "_law_feed" s__law_feed ["_law_script", "_law_k"] := ⟨_, _, F__law_feed, PySem.W.mg_of X G a__law_feed, k__law_feed, F__law_feed.binds (ps := ["_law_script", "_law_k"]) fun _ _ _ _ _ _ us hl => match us, hl with | [_, _], _ => rfl⟩
  have F__law_draw := fun_mk (st := s__law_draw) l__law_draw c__law_draw k__law_draw
  have D__law_draw : Df K mg "_law_draw" s__law_draw ["_law_feed_here", "_law_many"] := ⟨_, _, F__law_draw, PySem.W.mg_of X G a__law_draw, k__law_draw, F__law_draw.binds (ps := ["_law_feed_here", "_law_many"]) fun _ _ _ _ _ _ us hl => match us, hl with | [_, _], _ => rfl⟩
  have F__law_pick := fun_mk (st := s__law_pick) l__law_pick c__law_pick k__law_pick
  have D__law_pick : Df K mg "_law_pick" s__law_pick ["_law_feed_here", "_law_items"] := ⟨_, _, F__law_pick, PySem.W.mg_of X G a__law_pick, k__law_pick, F__law_pick.binds (ps := ["_law_feed_here", "_law_items"]) fun _ _ _ _ _ _ us hl => match us, hl with | [_, _], _ => rfl⟩
  have F__law_word := fun_mk (st := s__law_word) l__law_word c__law_word k__law_word
  have D__law_word : Df K mg "_law_word" s__law_word ["_law_feed_here"] := ⟨_, _, F__law_word, PySem.W.mg_of X G a__law_word, k__law_word, F__law_word.binds (ps := ["_law_feed_here"]) fun _ _ _ _ _ _ us hl => match us, hl with | [_], _ => rfl⟩
  have F__law_words := fun_mk (st := s__law_words) l__law_words c__law_words k__law_words
  have D__law_words : Df K mg "_law_words" s__law_words ["_law_feed_here", "_law_many"] := ⟨_, _, F__law_words, PySem.W.mg_of X G a__law_words, k__law_words, F__law_words.binds (ps := ["_law_feed_here", "_law_many"]) fun _ _ _ _ _ _ us hl => match us, hl with | [_, _], _ => rfl⟩
  have F__law_same := fun_mk (st := s__law_same) l__law_same c__law_same k__law_same
  have D__law_same : Df K mg "_law_same" s__law_same ["_law_found", "_law_due_here"] := ⟨_, _, F__law_same, PySem.W.mg_of X G a__law_same, k__law_same, F__law_same.binds (ps := ["_law_found", "_law_due_here"]) fun _ _ _ _ _ _ us hl => match us, hl with | [_, _], _ => rfl⟩
  have F__law_term := fun_mk (st := s__law_term) l__law_term c__law_term k__law_term
  have D__law_term : Df K mg "_law_term" s__law_term ["_law_feed_here", "_law_names", "_law_deep"] := ⟨_, _, F__law_term, PySem.W.mg_of X G a__law_term, k__law_term, F__law_term.binds (ps := ["_law_feed_here", "_law_names", "_law_deep"]) fun _ _ _ _ _ _ us hl => match us, hl with | [_, _, _], _ => rfl⟩
  have F__law_tree := fun_mk (st := s__law_tree) l__law_tree c__law_tree k__law_tree
  have D__law_tree : Df K mg "_law_tree" s__law_tree ["_law_feed_here", "_law_names", "_law_room", "_law_deep"] := ⟨_, _, F__law_tree, PySem.W.mg_of X G a__law_tree, k__law_tree, F__law_tree.binds (ps := ["_law_feed_here", "_law_names", "_law_room", "_law_deep"]) fun _ _ _ _ _ _ us hl => match us, hl with | [_, _, _, _], _ => rfl⟩
  have F_tree_lines := fun_mk (st := s_tree_lines) l_tree_lines c_tree_lines k_tree_lines
  have D_tree_lines : Df K mg "tree_lines" s_tree_lines ["told"] := ⟨_, _, F_tree_lines, PySem.W.mg_of X G a_tree_lines, k_tree_lines, F_tree_lines.binds (ps := ["told"]) fun _ _ _ _ _ _ us hl => match us, hl with | [_], _ => rfl⟩
  have F_show_tree := fun_mk (st := s_show_tree) l_show_tree c_show_tree k_show_tree
  have D_show_tree : Df K mg "show_tree" s_show_tree ["told"] := ⟨_, _, F_show_tree, PySem.W.mg_of X G a_show_tree, k_show_tree, F_show_tree.binds (ps := ["told"]) fun _ _ _ _ _ _ us hl => match us, hl with | [_], _ => rfl⟩
  have F_is_side := fun_mk (st := s_is_side) l_is_side c_is_side k_is_side
  have D_is_side : Df K mg "is_side" s_is_side ["text"] := ⟨_, _, F_is_side, PySem.W.mg_of X G a_is_side, k_is_side, F_is_side.binds (ps := ["text"]) fun _ _ _ _ _ _ us hl => match us, hl with | [_], _ => rfl⟩
  have F_read_tree := fun_mk (st := s_read_tree) l_read_tree c_read_tree k_read_tree
  have D_read_tree : Df K mg "read_tree" s_read_tree ["text"] := ⟨_, _, F_read_tree, PySem.W.mg_of X G a_read_tree, k_read_tree, F_read_tree.binds (ps := ["text"]) fun _ _ _ _ _ _ us hl => match us, hl with | [_], _ => rfl⟩
  have F__law_refused := fun_mk (st := s__law_refused) l__law_refused c__law_refused k__law_refused
  have D__law_refused : Df K mg "_law_refused" s__law_refused ["_law_e"] := ⟨_, _, F__law_refused, PySem.W.mg_of X G a__law_refused, k__law_refused, F__law_refused.binds (ps := ["_law_e"]) fun _ _ _ _ _ _ us hl => match us, hl with | [_], _ => rfl⟩
  have F__law_is_side := fun_mk (st := s__law_is_side) l__law_is_side c__law_is_side k__law_is_side
  have D__law_is_side : Df K mg "_law_is_side" s__law_is_side ["_law_text"] := ⟨_, _, F__law_is_side, PySem.W.mg_of X G a__law_is_side, k__law_is_side, F__law_is_side.binds (ps := ["_law_text"]) fun _ _ _ _ _ _ us hl => match us, hl with | [_], _ => rfl⟩
  have F__law_branch := fun_mk (st := s__law_branch) l__law_branch c__law_branch k__law_branch
  have D__law_branch : Df K mg "_law_branch" s__law_branch ["_law_lines", "_law_at", "_law_ahead"] := ⟨_, _, F__law_branch, PySem.W.mg_of X G a__law_branch, k__law_branch, F__law_branch.binds (ps := ["_law_lines", "_law_at", "_law_ahead"]) fun _ _ _ _ _ _ us hl => match us, hl with | [_, _, _], _ => rfl⟩
  have F__law_due := fun_mk (st := s__law_due) l__law_due c__law_due k__law_due
  have D__law_due : Df K mg "_law_due" s__law_due ["_law_text"] := ⟨_, _, F__law_due, PySem.W.mg_of X G a__law_due, k__law_due, F__law_due.binds (ps := ["_law_text"]) fun _ _ _ _ _ _ us hl => match us, hl with | [_], _ => rfl⟩
  have F__law_sign := fun_mk (st := s__law_sign) l__law_sign c__law_sign k__law_sign
  have D__law_sign : Df K mg "_law_sign" s__law_sign ["_law_feed_here"] := ⟨_, _, F__law_sign, PySem.W.mg_of X G a__law_sign, k__law_sign, F__law_sign.binds (ps := ["_law_feed_here"]) fun _ _ _ _ _ _ us hl => match us, hl with | [_], _ => rfl⟩
  have F__law_bent := fun_mk (st := s__law_bent) l__law_bent c__law_bent k__law_bent
  have D__law_bent : Df K mg "_law_bent" s__law_bent ["_law_feed_here", "_law_text"] := ⟨_, _, F__law_bent, PySem.W.mg_of X G a__law_bent, k__law_bent, F__law_bent.binds (ps := ["_law_feed_here", "_law_text"]) fun _ _ _ _ _ _ us hl => match us, hl with | [_, _], _ => rfl⟩
  have F__law_changed := fun_mk (st := s__law_changed) l__law_changed c__law_changed k__law_changed
  have D__law_changed : Df K mg "_law_changed" s__law_changed ["_law_feed_here", "_law_text"] := ⟨_, _, F__law_changed, PySem.W.mg_of X G a__law_changed, k__law_changed, F__law_changed.binds (ps := ["_law_feed_here", "_law_text"]) fun _ _ _ _ _ _ us hl => match us, hl with | [_, _], _ => rfl⟩
  have F__law_told := fun_mk (st := s__law_told) l__law_told c__law_told k__law_told
  have D__law_told : Df K mg "_law_told" s__law_told ["_law_text"] := ⟨_, _, F__law_told, PySem.W.mg_of X G a__law_told, k__law_told, F__law_told.binds (ps := ["_law_text"]) fun _ _ _ _ _ _ us hl => match us, hl with | [_], _ => rfl⟩
  have cl_TreeText : Cls K C_TreeText := ⟨pg_TreeText, hd_TreeText, po_TreeText, sa_TreeText⟩
  have F_TreeText___init__ := fun_mk (st := s_TreeText___init__) l_TreeText___init__ c_TreeText___init__ k_TreeText___init__
  have D_TreeText___init__ : Dc K mg C_TreeText "TreeText" "TreeText.__init__" s_TreeText___init__ ["self", "text"] := ⟨_, _, ⟨mk_TreeText, a_TreeText___init__, i_TreeText___init__, kc_TreeText⟩, PySem.W.mg_of X G a_TreeText, F_TreeText___init__, F_TreeText___init__.binds (ps := ["self", "text"]) fun _ _ _ _ _ _ us hl => match us, hl with | [_, _], _ => rfl⟩
  have F_TreeText_line := fun_mk (st := s_TreeText_line) l_TreeText_line c_TreeText_line k_TreeText_line
  have D_TreeText_line : Dm K C_TreeText "line" "TreeText.line" s_TreeText_line ["self", "ahead"] := ⟨_, _, cl_TreeText, ⟨a_TreeText_line, i_TreeText_line, k_TreeText_line⟩, F_TreeText_line, F_TreeText_line.binds (ps := ["self", "ahead"]) fun _ _ _ _ _ _ us hl => match us, hl with | [_, _], _ => rfl⟩
  have F_TreeText_need := fun_mk (st := s_TreeText_need) l_TreeText_need c_TreeText_need k_TreeText_need
  have D_TreeText_need : Dm K C_TreeText "need" "TreeText.need" s_TreeText_need ["self", "fits"] := ⟨_, _, cl_TreeText, ⟨a_TreeText_need, i_TreeText_need, k_TreeText_need⟩, F_TreeText_need, F_TreeText_need.binds (ps := ["self", "fits"]) fun _ _ _ _ _ _ us hl => match us, hl with | [_, _], _ => rfl⟩
  have F_TreeText_branch := fun_mk (st := s_TreeText_branch) l_TreeText_branch c_TreeText_branch k_TreeText_branch
  have D_TreeText_branch : Dm K C_TreeText "branch" "TreeText.branch" s_TreeText_branch ["self", "ahead"] := ⟨_, _, cl_TreeText, ⟨a_TreeText_branch, i_TreeText_branch, k_TreeText_branch⟩, F_TreeText_branch, F_TreeText_branch.binds (ps := ["self", "ahead"]) fun _ _ _ _ _ _ us hl => match us, hl with | [_, _], _ => rfl⟩
  have RN : RfN mg (csOf [C_InvalidStep, C_InvalidTrait, C_InvalidExpr, C_InvalidRow, C_InvalidText, C_InvalidWorld, C_InvalidStart, C_InvalidClaim, C_NoName, C_NoStep, C_NoRow, C_Impossible]) := ⟨PySem.W.mg_of X G a_InvalidStep, PySem.W.mg_of X G a_InvalidTrait, PySem.W.mg_of X G a_InvalidExpr, PySem.W.mg_of X G a_InvalidRow, PySem.W.mg_of X G a_InvalidText, PySem.W.mg_of X G a_InvalidWorld, PySem.W.mg_of X G a_InvalidStart, PySem.W.mg_of X G a_InvalidClaim, PySem.W.mg_of X G a_NoName, PySem.W.mg_of X G a_NoStep, PySem.W.mg_of X G a_NoRow, PySem.W.mg_of X G a_Impossible⟩
  have F_InvalidText___init__ := fun_mk (st := s_InvalidText___init__) l_InvalidText___init__ c_InvalidText___init__ k_InvalidText___init__
  have EC_InvalidText : L2.ExcC K C_InvalidText := ⟨ga_InvalidText, gg_InvalidText, ex_InvalidText, hd_InvalidText, cc_InvalidText, sg_cls, tk_cls, mr_InvalidText⟩
  have T_InvalidText : ErC K mg "InvalidText" "at" C_InvalidText := ⟨⟨⟨_, _, _, _, _, _, _, _, _, _, _, _, _, _, _, x_InvalidText, refsVE_one _⟩, sa_InvalidText, ex_InvalidText, ty_InvalidText, kc_InvalidText⟩, EC_InvalidText, no_InvalidText, PySem.W.mg_of X G a_InvalidText⟩
  have RD_InvalidText : RfD K (csOf [C_InvalidStep, C_InvalidTrait, C_InvalidExpr, C_InvalidRow, C_InvalidText, C_InvalidWorld, C_InvalidStart, C_InvalidClaim, C_NoName, C_NoStep, C_NoRow, C_Impossible]) C_InvalidText 4 := ⟨EC_InvalidText, by decide, fun i hi => match i, hi with | 0, _ => kit_of ic_InvalidStep ty_InvalidStep s_InvalidText_InvalidStep s_InvalidText_InvalidText | 1, _ => kit_of ic_InvalidTrait ty_InvalidTrait s_InvalidText_InvalidTrait s_InvalidText_InvalidText | 2, _ => kit_of ic_InvalidExpr ty_InvalidExpr s_InvalidText_InvalidExpr s_InvalidText_InvalidText | 3, _ => kit_of ic_InvalidRow ty_InvalidRow s_InvalidText_InvalidRow s_InvalidText_InvalidText | 4, _ => kit_of ic_InvalidText ty_InvalidText s_InvalidText_InvalidText s_InvalidText_InvalidText | 5, _ => kit_of ic_InvalidWorld ty_InvalidWorld s_InvalidText_InvalidWorld s_InvalidText_InvalidText | 6, _ => kit_of ic_InvalidStart ty_InvalidStart s_InvalidText_InvalidStart s_InvalidText_InvalidText | 7, _ => kit_of ic_InvalidClaim ty_InvalidClaim s_InvalidText_InvalidClaim s_InvalidText_InvalidText | 8, _ => kit_of ic_NoName ty_NoName s_InvalidText_NoName s_InvalidText_InvalidText | 9, _ => kit_of ic_NoStep ty_NoStep s_InvalidText_NoStep s_InvalidText_InvalidText | 10, _ => kit_of ic_NoRow ty_NoRow s_InvalidText_NoRow s_InvalidText_InvalidText | 11, _ => kit_of ic_Impossible ty_Impossible s_InvalidText_Impossible s_InvalidText_InvalidText⟩
  have XE_InvalidText : PySem.W.exmOne K (.ref C_InvalidText) (.ref C_WaysError) = some true := PySem.W.exm_ref ex_WaysError hd_WaysError ty_WaysError sw_InvalidText
  have bI_InvalidText := F_InvalidText___init__.binds (ps := ["self", "at"]) fun _ _ _ _ _ _ us hl => match us, hl with | [_, _], _ => rfl
  have F_law := fun_mk (st := s_law) l_law c_law k_law
  refine ⟨PySem.W.fnOf "law" "law" (defArgs s_law) (defBody s_law) (defScope s_law) .none kV_law dc_law pm_law an_law cd_law ct_law, fun s v => .of_eq rfl, fun base _ _ => ?_⟩
  have g_feed : C8.Cal l.prog w K mg base 1 "_law_feed" (spFeed K) [] := ok_feed (k := 0) B D__law_feed
  have g_draw : C8.Cal l.prog w K mg base 1 "_law_draw" spDraw [] := ok_draw (k := 0) B D__law_draw
  have g_pick : C8.Cal l.prog w K mg base 2 "_law_pick" (spPick K) [] := ok_pick B D__law_pick g_draw
  have g_word : C8.Cal l.prog w K mg base 3 "_law_word" spWord [] := ok_word B D__law_word (calMono g_draw (by decide)) g_pick
  have g_words : C8.Cal l.prog w K mg base 4 "_law_words" spWords [] := ok_words B D__law_words g_word
  have g_term : C8.Cal l.prog w K mg base 5 "_law_term" (spTerm 3) [] := ok_term B D__law_term g_draw g_pick 3
  have g_tree : C8.Cal l.prog w K mg base 12 "_law_tree" (spTree 7) [] := ok_tree B D__law_tree g_draw g_term 7
  have g_same : C8.Cal l.prog w K mg base 30 "_law_same" (spSame K 30) [] := ok_same B D__law_same 30
  have g_tl : C8.Cal l.prog w K mg base 27 "tree_lines" (spTL 27) [] := ok_tree_lines B D_tree_lines 27
  have g_show : C8.Cal l.prog w K mg base 28 "show_tree" (spShow 27) [] := ok_show_tree B D_show_tree g_tl
  have T : TtC K C_TreeText := ⟨cl_TreeText, n_TreeText_lines, n_TreeText_at⟩
  have EI : ErI l.prog w K mg base "at" C_InvalidText := ok_InvalidText T_InvalidText a_InvalidText___init__ t_InvalidText___init__ F_InvalidText___init__ bI_InvalidText
  have g_side : C8.Cal l.prog w K mg base 1 "is_side" spSideR [] := ok_is_side (k := 0) D_is_side
  have g_line : RMet l.prog w K mg base 3 C_TreeText "line" (spLineR C_TreeText C_InvalidText) := ok_line (k := 0) B T T_InvalidText EI D_TreeText_line
  have g_need : RMet l.prog w K mg base 3 C_TreeText "need" (spNeedR C_TreeText C_InvalidText) := ok_need (k := 0) T T_InvalidText EI D_TreeText_need
  have g_branch : RMet l.prog w K mg base 27 C_TreeText "branch" (spBranchR C_TreeText C_InvalidText 24) := ok_branch B T D_TreeText_branch g_line g_need g_side 24
  have g_make : C8.Mak l.prog w K mg base 1 "TreeText" C_TreeText (spTtI C_TreeText) [] := ok_TtI (k := 0) T D_TreeText___init__
  have g_read : RCal l.prog w K mg base 28 "read_tree" (spReadR C_InvalidText 24) := ok_read_tree B T T_InvalidText EI D_read_tree (by decide) (by decide) (by decide) g_make g_branch
  have g_ref := ok_refused (P := l.prog) (w := w) (base := base) (k := 27) B RN F__law_refused
  have g_told : C8.Cal l.prog w K mg base 29 "_law_told" (spTold 24) [] := ok_told B D__law_told T_InvalidText RD_InvalidText g_read g_ref (PySem.W.mg_of X G a__law_refused) k__law_refused (F__law_refused.binds (ps := ["_law_e"]) fun _ _ _ _ _ _ us hl => match us, hl with | [_], _ => rfl) (PySem.W.mg_of X G a_WaysError) XE_InvalidText
  have g_lside : C8.Cal l.prog w K mg base 1 "_law_is_side" spLSide [] := ok_law_is_side (k := 0) B D__law_is_side
  have g_lbr : C8.Cal l.prog w K mg base 25 "_law_branch" (spLB 24) [] := ok_law_branch B D__law_branch g_lside 24
  have g_due : C8.Cal l.prog w K mg base 26 "_law_due" (spTold 24) [] := ok_due B D__law_due (by decide) g_lbr
  have g_sign : C8.Cal l.prog w K mg base 3 "_law_sign" spSign [] := ok_sign B D__law_sign g_pick
  have g_bent : C8.Cal l.prog w K mg base 4 "_law_bent" spBent [] := ok_bent B D__law_bent (calMono g_draw (by decide)) g_sign
  have g_chg : C8.Cal l.prog w K mg base 5 "_law_changed" spChg [] := ok_changed B D__law_changed (calMono g_draw (by decide)) (calMono g_pick (by decide)) g_bent
  exact ok_law B F_law (calMono g_feed (by decide)) (calMono g_draw (by decide)) (calMono g_words (by decide)) (calMono g_tree (by decide)) (calMono g_same (by decide)) (calMono g_show (by decide)) (calMono g_chg (by decide)) (calMono g_due (by decide)) (calMono g_told (by decide))
theorem walk {l : PySem.W.OpenLaw} {q : Program} {loose : List Str} {XP : (Str → Option Value) → Heap → Prop} {YP : World → Heap → Prop} {d : DefRec} {K : Params → PySem.W.Frag} (hn : l.most = some 63) (hdf : d.params.defaults = [])
    (hY : ∀ (w : World) (h : Heap), YP w h → (K w.params).In h)
    (F : ∀ (w : World) (mg : Str → Option Value) (fa : Addr) (h : Heap), (K w.params).In h → h.Ns mainGlobals mg → mg d.name = some (.ref fa) →
      ∃ fd : FuncData, (∀ (s : Shared) (u : Value), BindsTo s fd ⟨[u], []⟩ [("_law_script", u)]) ∧ ∀ base : Heap, (K w.params).In base → base.Ns mainGlobals mg → FnOk l.prog w (K w.params) mg base CX0 31 fa fd ["_law_script"] (spLaw (K w.params))) :
    PySem.W.WalkO q loose XP YP l.row.toRowW d [] (fun f vs => PySem.call f vs) :=
  L2.walk_of (n := 63) (k := 31) (x := "_law_script") (CX := fun _ => CX0) (sp := fun w => spLaw (K w.params)) hn (by decide) hdf ⟨rfl, by decide, by decide⟩ hY F (fun _ _ a ns hl _ hS => ⟨a, ns, rfl, hS, hl, fun _ => rfl⟩) fun _ _ _ _ _ z => z
end KW
open PySem PySem.W PyProof.Rows
set_option maxRecDepth 100000 in
set_option maxHeartbeats 0 in
theorem PySem.Challenge.cw_knownways_k12_texts_of_no_tree_holds : PySem.Challenge.rw_knownways_k12_texts_of_no_tree.Holds := by
  w_on; o_law; k_head; (case hw => w_witness2)
  k_fill
  refine KW.walk (l := PySem.Challenge.rw_knownways_k12_texts_of_no_tree) rfl rfl (fun w h Y => PySem.W.kIn_of Y) ?F
  case F =>
    intro w mg fa h KX G hmg
    refine' KW.all_mk KX G hmg ?a__law_feed ?l__law_feed ?c__law_feed ?k__law_feed ?a__law_draw ?l__law_draw ?c__law_draw ?k__law_draw ?a__law_pick ?l__law_pick ?c__law_pick ?k__law_pick ?a__law_word ?l__law_word ?c__law_word ?k__law_word ?a__law_words ?l__law_words ?c__law_words ?k__law_words ?a__law_same ?l__law_same ?c__law_same ?k__law_same ?a__law_term ?l__law_term ?c__law_term ?k__law_term ?a__law_tree ?l__law_tree ?c__law_tree ?k__law_tree ?a_tree_lines ?l_tree_lines ?c_tree_lines ?k_tree_lines ?a_show_tree ?l_show_tree ?c_show_tree ?k_show_tree ?a_is_side ?l_is_side ?c_is_side ?k_is_side ?a_read_tree ?l_read_tree ?c_read_tree ?k_read_tree ?a__law_refused ?l__law_refused ?c__law_refused ?k__law_refused ?a__law_is_side ?l__law_is_side ?c__law_is_side ?k__law_is_side ?a__law_branch ?l__law_branch ?c__law_branch ?k__law_branch ?a__law_due ?l__law_due ?c__law_due ?k__law_due ?a__law_sign ?l__law_sign ?c__law_sign ?k__law_sign ?a__law_bent ?l__law_bent ?c__law_bent ?k__law_bent ?a__law_changed ?l__law_changed ?c__law_changed ?k__law_changed ?a__law_told ?l__law_told ?c__law_told ?k__law_told ?a_TreeText ?pg_TreeText ?hd_TreeText ?po_TreeText ?sa_TreeText ?mk_TreeText ?kc_TreeText ?n_TreeText_lines ?n_TreeText_at ?a_TreeText___init__ ?i_TreeText___init__ ?l_TreeText___init__ ?c_TreeText___init__ ?k_TreeText___init__ ?a_TreeText_line ?i_TreeText_line ?l_TreeText_line ?c_TreeText_line ?k_TreeText_line ?a_TreeText_need ?i_TreeText_need ?l_TreeText_need ?c_TreeText_need ?k_TreeText_need ?a_TreeText_branch ?i_TreeText_branch ?l_TreeText_branch ?c_TreeText_branch ?k_TreeText_branch ?a_WaysError ?ic_WaysError ?ty_WaysError ?a_InvalidStep ?ic_InvalidStep ?ty_InvalidStep ?a_InvalidTrait ?ic_InvalidTrait ?ty_InvalidTrait ?a_InvalidExpr ?ic_InvalidExpr ?ty_InvalidExpr ?a_InvalidRow ?ic_InvalidRow ?ty_InvalidRow ?a_InvalidText ?ic_InvalidText ?ty_InvalidText ?a_InvalidWorld ?ic_InvalidWorld ?ty_InvalidWorld ?a_InvalidStart ?ic_InvalidStart ?ty_InvalidStart ?a_InvalidClaim ?ic_InvalidClaim ?ty_InvalidClaim ?a_NoName ?ic_NoName ?ty_NoName ?a_NoStep ?ic_NoStep ?ty_NoStep ?a_NoRow ?ic_NoRow ?ty_NoRow ?a_Impossible ?ic_Impossible ?ty_Impossible ?ex_WaysError ?hd_WaysError ?sg_cls ?tk_cls ?x_InvalidText ?sa_InvalidText ?ga_InvalidText ?gg_InvalidText ?no_InvalidText ?ex_InvalidText ?hd_InvalidText ?kc_InvalidText ?cc_InvalidText ?mr_InvalidText ?sw_InvalidText ?s_InvalidText_InvalidStep ?s_InvalidText_InvalidTrait ?s_InvalidText_InvalidExpr ?s_InvalidText_InvalidRow ?s_InvalidText_InvalidText ?s_InvalidText_InvalidWorld ?s_InvalidText_InvalidStart ?s_InvalidText_InvalidClaim ?s_InvalidText_NoName ?s_InvalidText_NoStep ?s_InvalidText_NoRow ?s_InvalidText_Impossible ?a_InvalidText___init__ ?t_InvalidText___init__ ?l_InvalidText___init__ ?c_InvalidText___init__ ?k_InvalidText___init__ ?z_len ?z_range ?z_abs ?z_isinstance ?z_all ?z_zip ?z_enumerate ?z_min ?z_int ?z_str ?z_list ?z_tuple ?z_bool ?a_law ?l_law ?c_law ?k_law
    (case a__law_feed => k_is)
    (case l__law_feed => k_is)
    (case c__law_feed => k_is)
    (case k__law_feed => k_is)
    (case a__law_draw => k_is)
    (case l__law_draw => k_is)
    (case c__law_draw => k_is)
    (case k__law_draw => k_is)
    (case a__law_pick => k_is)
    (case l__law_pick => k_is)
    (case c__law_pick => k_is)
    (case k__law_pick => k_is)
    (case a__law_word => k_is)
    (case l__law_word => k_is)
    (case c__law_word => k_is)
    (case k__law_word => k_is)
    (case a__law_words => k_is)
    (case l__law_words => k_is)
    (case c__law_words => k_is)
    (case k__law_words => k_is)
    (case a__law_same => k_is)
    (case l__law_same => k_is)
    (case c__law_same => k_is)
    (case k__law_same => k_is)
    (case a__law_term => k_is)
    (case l__law_term => k_is)
    (case c__law_term => k_is)
    (case k__law_term => k_is)
    (case a__law_tree => k_is)
    (case l__law_tree => k_is)
    (case c__law_tree => k_is)
    (case k__law_tree => k_is)
    (case a_tree_lines => k_is)
    (case l_tree_lines => k_is)
    (case c_tree_lines => k_is)
    (case k_tree_lines => k_is)
    (case a_show_tree => k_is)
    (case l_show_tree => k_is)
    (case c_show_tree => k_is)
    (case k_show_tree => k_is)
    (case a_is_side => k_is)
    (case l_is_side => k_is)
    (case c_is_side => k_is)
    (case k_is_side => k_is)
    (case a_read_tree => k_is)
    (case l_read_tree => k_is)
    (case c_read_tree => k_is)
    (case k_read_tree => k_is)
    (case a__law_refused => k_is)
    (case l__law_refused => k_is)
    (case c__law_refused => k_is)
    (case k__law_refused => k_is)
    (case a__law_is_side => k_is)
    (case l__law_is_side => k_is)
    (case c__law_is_side => k_is)
    (case k__law_is_side => k_is)
    (case a__law_branch => k_is)
    (case l__law_branch => k_is)
    (case c__law_branch => k_is)
    (case k__law_branch => k_is)
    (case a__law_due => k_is)
    (case l__law_due => k_is)
    (case c__law_due => k_is)
    (case k__law_due => k_is)
    (case a__law_sign => k_is)
    (case l__law_sign => k_is)
    (case c__law_sign => k_is)
    (case k__law_sign => k_is)
    (case a__law_bent => k_is)
    (case l__law_bent => k_is)
    (case c__law_bent => k_is)
    (case k__law_bent => k_is)
    (case a__law_changed => k_is)
    (case l__law_changed => k_is)
    (case c__law_changed => k_is)
    (case k__law_changed => k_is)
    (case a__law_told => k_is)
    (case l__law_told => k_is)
    (case c__law_told => k_is)
    (case k__law_told => k_is)
    (case a_TreeText => k_is)
    (case pg_TreeText => k_is)
    (case hd_TreeText => k_is)
    (case po_TreeText => k_is)
    (case sa_TreeText => k_is)
    (case mk_TreeText => k_is)
    (case kc_TreeText => k_is)
    (case n_TreeText_lines => k_is)
    (case n_TreeText_at => k_is)
    (case a_TreeText___init__ => k_is)
    (case i_TreeText___init__ => k_is)
    (case l_TreeText___init__ => k_is)
    (case c_TreeText___init__ => k_is)
    (case k_TreeText___init__ => k_is)
    (case a_TreeText_line => k_is)
    (case i_TreeText_line => k_is)
    (case l_TreeText_line => k_is)
    (case c_TreeText_line => k_is)
    (case k_TreeText_line => k_is)
    (case a_TreeText_need => k_is)
    (case i_TreeText_need => k_is)
    (case l_TreeText_need => k_is)
    (case c_TreeText_need => k_is)
    (case k_TreeText_need => k_is)
    (case a_TreeText_branch => k_is)
    (case i_TreeText_branch => k_is)
    (case l_TreeText_branch => k_is)
    (case c_TreeText_branch => k_is)
    (case k_TreeText_branch => k_is)
    (case a_WaysError => k_is)
    (case ic_WaysError => k_is)
    (case ty_WaysError => k_is)
    (case a_InvalidStep => k_is)
    (case ic_InvalidStep => k_is)
    (case ty_InvalidStep => k_is)
    (case a_InvalidTrait => k_is)
    (case ic_InvalidTrait => k_is)
    (case ty_InvalidTrait => k_is)
    (case a_InvalidExpr => k_is)
    (case ic_InvalidExpr => k_is)
    (case ty_InvalidExpr => k_is)
    (case a_InvalidRow => k_is)
    (case ic_InvalidRow => k_is)
    (case ty_InvalidRow => k_is)
    (case a_InvalidText => k_is)
    (case ic_InvalidText => k_is)
    (case ty_InvalidText => k_is)
    (case a_InvalidWorld => k_is)
    (case ic_InvalidWorld => k_is)
    (case ty_InvalidWorld => k_is)
    (case a_InvalidStart => k_is)
    (case ic_InvalidStart => k_is)
    (case ty_InvalidStart => k_is)
    (case a_InvalidClaim => k_is)
    (case ic_InvalidClaim => k_is)
    (case ty_InvalidClaim => k_is)
    (case a_NoName => k_is)
    (case ic_NoName => k_is)
    (case ty_NoName => k_is)
    (case a_NoStep => k_is)
    (case ic_NoStep => k_is)
    (case ty_NoStep => k_is)
    (case a_NoRow => k_is)
    (case ic_NoRow => k_is)
    (case ty_NoRow => k_is)
    (case a_Impossible => k_is)
    (case ic_Impossible => k_is)
    (case ty_Impossible => k_is)
    (case ex_WaysError => k_is)
    (case hd_WaysError => k_is)
    (case sg_cls => k_is)
    (case tk_cls => k_is)
    (case x_InvalidText => k_is)
    (case sa_InvalidText => k_is)
    (case ga_InvalidText => k_is)
    (case gg_InvalidText => k_is)
    (case no_InvalidText => k_is)
    (case ex_InvalidText => k_is)
    (case hd_InvalidText => k_is)
    (case kc_InvalidText => k_is)
    (case cc_InvalidText => k_is)
    (case mr_InvalidText => k_is)
    (case sw_InvalidText => k_is)
    (case s_InvalidText_InvalidStep => k_is)
    (case s_InvalidText_InvalidTrait => k_is)
    (case s_InvalidText_InvalidExpr => k_is)
    (case s_InvalidText_InvalidRow => k_is)
    (case s_InvalidText_InvalidText => k_is)
    (case s_InvalidText_InvalidWorld => k_is)
    (case s_InvalidText_InvalidStart => k_is)
    (case s_InvalidText_InvalidClaim => k_is)
    (case s_InvalidText_NoName => k_is)
    (case s_InvalidText_NoStep => k_is)
    (case s_InvalidText_NoRow => k_is)
    (case s_InvalidText_Impossible => k_is)
    (case a_InvalidText___init__ => k_is)
    (case t_InvalidText___init__ => k_is)
    (case l_InvalidText___init__ => k_is)
    (case c_InvalidText___init__ => k_is)
    (case k_InvalidText___init__ => k_is)
    (case z_len => k_is)
    (case z_range => k_is)
    (case z_abs => k_is)
    (case z_isinstance => k_is)
    (case z_all => k_is)
    (case z_zip => k_is)
    (case z_enumerate => k_is)
    (case z_min => k_is)
    (case z_int => k_is)
    (case z_str => k_is)
    (case z_list => k_is)
    (case z_tuple => k_is)
    (case z_bool => k_is)
    (case a_law => k_is)
    (case l_law => k_is)
    (case c_law => k_is)
    (case k_law => k_is)
