import PyProof.Rows.All
import Wide.All
import OpenK.AllK
import Wide.FinOn
import HandS.ForMost
import HandS.Codes
import HandS.Wide
import HandS.IsInst
import HandS.NoneIn
import HandS.TupAny
import HandS.Walk
import HandS.Zip
import HandS.Flow
import PyProof.Rows.ListStrD
import PySem.Challenge.RW_knownways_k11_trees_as_texts
set_option Elab.async false
set_option linter.all false
set_option maxRecDepth 100000
set_option maxHeartbeats 4000000
/-! ## generic: heaps, feeds, builtins -/
namespace KW
open PySem PySem.Spec PyProof.Rows L2

/-- the built-in names that the module leaves alone -/
structure Bi (mg : Str → Option Value) : Prop where
  len : mg "len" = none
  range : mg "range" = none
  abs : mg "abs" = none
  isinstance : mg "isinstance" = none
  all : mg "all" = none
  zip : mg "zip" = none
  enumerate : mg "enumerate" = none
  min : mg "min" = none
  ty_int : mg "int" = none
  ty_str : mg "str" = none
  ty_list : mg "list" = none
  ty_tuple : mg "tuple" = none
  ty_bool : mg "bool" = none

/-! ### the rules with the written part named -/
section
variable {X : Cx} (K : PySem.W.Frag) (hK : X.K = K)
include hK
theorem kk_len : CallR X (.builtin "len") (fun xs H Q => ∃ x n, xs = [x] ∧ LenV K x H n ∧ Q (.int n) H) := by subst hK; exact call_len
theorem kk_list_of : CallR X (.type "list") (fun xs H Q => ∃ p ys, xs = [.ref p] ∧ (SqL K H p ys ∨ SqT K H p ys) ∧ ∀ l, H l = none → Q (.ref l) (upd H l (.lst ys))) := by subst hK; exact call_list_of
theorem kk_tuple_of : CallR X (.type "tuple") (fun xs H Q => ∃ p ys, xs = [.ref p] ∧ ((SqL K H p ys ∧ ∀ l, H l = none → Q (.ref l) (upd H l (.tup ys))) ∨ (SqT K H p ys ∧ Q (.ref p) H))) := by subst hK; exact call_tuple_of
theorem kk_all (hc : X.calm = true) : CallR X (.builtin "all") (rAll K) := by subst hK; exact cr_all hc
theorem kk_isi : CallR X (.builtin "isinstance") (rIsi K) := by subst hK; exact call_isi
theorem kk_isiT : CallR X (.builtin "isinstance") (rIsiT K) := by subst hK; exact call_isiT
theorem kk_ixL : IxR X (rIxL K) := by subst hK; exact ix_list
theorem kk_ixT : IxR X (rIxT K) := by subst hK; exact ix_tup
theorem kk_ix : IxR X (rIx K) := by subst hK; exact ix_seq
theorem kk_slL : SlR X (rSlL K) := by subst hK; exact sl_list
theorem kk_slA : SlR X (rSlA K) := by subst hK; exact sl_tupA
theorem kk_in : OpR X (compareOp .In) (rIn K false) := by subst hK; exact op_in_seq
theorem kk_notIn : OpR X (compareOp .NotIn) (rIn K true) := by subst hK; exact op_notIn_seq
theorem kk_catA : OpR X (binaryOp .Add) (rCatA K) := by subst hK; exact op_catA
theorem kk_eqD (hu : X.A.units + 64 < cLine) : OpR X (compareOp .Eq) (rEqD K) := by subst hK; exact op_eqD hu
theorem kk_neD (hu : X.A.units + 64 < cLine) : OpR X (compareOp .NotEq) (rNeD K) := by subst hK; exact op_neD hu
theorem kk_join : MtR X "str.join" (fun x xs H Q => ∃ a p, ∃ ys : List Str, x = .str a ∧ xs = [.ref p] ∧ (SqL K H p (ys.map V.str) ∨ SqT K H p (ys.map V.str)) ∧
    (ys.map (·.length)).sum + ys.length * a.length ≤ 16777216 ∧ Q (.str (Txt.join a ys)) H) := by subst hK; exact mt_join
theorem kk_fld {e : Expr} {f : Str} {pos : Pos} {ta : TE} (he : PE X e ta) (hb : attributeBase e f X.env (eval e X.env) = eval e X.env) : PE X (.Attribute e f pos) (tFld K ta f) := by subst hK; exact pe_fld he hb
theorem kk_bm {T : String} {name : Str} {id : String} {o e : Expr} {es : List Expr} {apos cpos : Pos} {r : V → List V → Hp → VK → Prop} {to : TE} {t : TA} (pa : PlainAttrs T) (slot : Slot T name id) (hty : typeOf (.builtin id) = pure (.type "method_descriptor")) (hm : MtR X id r) (ho : PE X o to) (ha : PA X (e :: es) t)
    (hbase : attributeBase o name X.env (eval o X.env) = eval o X.env := by rfl)
    (hfew : ((backTo cpos (starEach (e :: es) X.env)).all (fun x => !x.1) && (backToKw cpos (keywordEach [] X.env)).all (fun x => x.1.isSome)
      && decide ((e :: es).length + ([] : List Keyword).length + (if ([] : List Keyword).isEmpty then 0 else 1) < 30)) = true := by rfl)
    (hline : (apos.endLine == cpos.line) = true := by rfl) (hs : starEach (e :: es) X.env = (false, eval e X.env) :: starEach es X.env := by rfl) (hplain : (backTo cpos (starEach es X.env)).any (·.1) = false := by rfl) :
    PE X (.Call (.Attribute o name apos) (e :: es) [] cpos) (tBM K T r to t) := by subst hK; exact pe_bm pa slot hty hm ho ha hbase hfew hline hs hplain
theorem kk_gtup {es : List Expr} {k : Nat} {pos : Pos} {t : TGs} {n : Nat} (hc : X.calm = true) (h : PGs X es t) (hn : (assignEach es X.env).length = n := by rfl) (hst : (assignEach es X.env).findIdx? (·.1) = none := by rfl) : PG X (.Tuple es k pos) (gTup K n t) := by subst hK; exact pg_tup hc h hn hst
theorem kk_iList {tg l : Expr} {tl : TE} (hl : PE X l tl) : PI X tg l (iList K tl) := by subst hK; exact pi_list hl
theorem kk_iTup {tg l : Expr} {tl : TE} (hl : PE X l tl) : PI X tg l (iTup K tl) := by subst hK; exact pi_tup hl
end

theorem kt_tuple {X : Cx} {pos : Pos} (hg : Gl X "tuple") (hm : X.mg "tuple" = none) : PE X (.Name "tuple" pos) (tC (.ty "tuple")) := pe_bltn (u := .type "tuple") hg hm (by decide +kernel) rfl
theorem kt_list {X : Cx} {pos : Pos} (hg : Gl X "list") (hm : X.mg "list" = none) : PE X (.Name "list" pos) (tC (.ty "list")) := pe_bltn (u := .type "list") hg hm (by decide +kernel) rfl
theorem kt_bool {X : Cx} {pos : Pos} (hg : Gl X "bool") (hm : X.mg "bool" = none) : PE X (.Name "bool" pos) (tC (.ty "bool")) := pe_bltn (u := .type "bool") hg hm (by decide +kernel) rfl
theorem kt_str {X : Cx} {pos : Pos} (hg : Gl X "str") (hm : X.mg "str" = none) : PE X (.Name "str" pos) (tC (.ty "str")) := pe_bltn (u := .type "str") hg hm (by decide +kernel) rfl
theorem kt_int {X : Cx} {pos : Pos} (hg : Gl X "int") (hm : X.mg "int" = none) : PE X (.Name "int" pos) (tC (.ty "int")) := pe_bltn (u := .type "int") hg hm (by decide +kernel) rfl

/-- all but what stands at a is as it was -/
def KB (a : Addr) (H H' : Hp) : Prop := ∀ b o, b ≠ a → H b = some o → H' b = some o
theorem KB.refl (a : Addr) (H : Hp) : KB a H H := fun _ _ _ h => h
theorem KB.trans {a : Addr} {H H1 H2 : Hp} (x : KB a H H1) (y : KB a H1 H2) : KB a H H2 := fun b o n h => y b o n (x b o n h)
theorem KB.of_same {a : Addr} {H H' : Hp} (s : Same H H') : KB a H H' := fun b o _ h => s b o h
theorem same_upd {H : Hp} {p : Addr} {o : HO} (h : H p = none) : Same H (upd H p o) := fun b x e => by
  rw [upd_ne (ne_of_none e h)]
  exact e
theorem KB.new {a p : Addr} {H H' : Hp} {o : HO} (x : KB a H H') (h : H' p = none) : KB a H (upd H' p o) := x.trans (KB.of_same (same_upd h))
theorem KB.upd {a : Addr} {H H' : Hp} {o : HO} (x : KB a H H') : KB a H (L2.upd H' a o) := fun b u n h => by
  rw [upd_ne n]
  exact x b u n h
theorem KB.seq {K : PySem.W.Frag} {a p : Addr} {H H' : Hp} {xs : List V} (e : KB a H H') (n : p ≠ a) (h : SqL K H p xs) : SqL K H' p xs := by
  rcases h with (h | ⟨o, h⟩) | h
  · exact .inl (.inl (e _ _ n h))
  · exact .inl (.inr ⟨o, e _ _ n h⟩)
  · exact .inr h
theorem KB.tup {K : PySem.W.Frag} {a p : Addr} {H H' : Hp} {xs : List V} (e : KB a H H') (n : p ≠ a) (h : SqT K H p xs) : SqT K H' p xs := by
  rcases h with (h | ⟨o, h⟩) | h
  · exact .inl (.inl (e _ _ n h))
  · exact .inl (.inr ⟨o, e _ _ n h⟩)
  · exact .inr h
theorem Same.tup {K : PySem.W.Frag} {a : Addr} {H H' : Hp} {xs : List V} (e : Same H H') (h : SqT K H a xs) : SqT K H' a xs := by
  rcases h with (h | ⟨o, h⟩) | h
  · exact .inl (.inl (e _ _ h))
  · exact .inl (.inr ⟨o, e _ _ h⟩)
  · exact .inr h
/-- the heap without what stands at a -/
def hid (a : Addr) (H : Hp) : Hp := fun b => if b = a then none else H b
theorem hid_ne {a b : Addr} {H : Hp} (h : b ≠ a) : hid a H b = H b := if_neg h
theorem hid_same {a : Addr} {H : Hp} : Same (hid a H) H := fun b o h => by
  by_cases e : b = a
  · rw [e] at h
    unfold hid at h
    rw [if_pos rfl] at h
    cases h
  · rw [hid_ne e] at h
    exact h
theorem hid_kb {a : Addr} {H H' : Hp} (k : KB a H H') : Same (hid a H) (hid a H') := fun b o h => by
  by_cases e : b = a
  · rw [e] at h
    unfold hid at h
    rw [if_pos rfl] at h
    cases h
  · rw [hid_ne e] at h ⊢
    exact k b o e h
theorem hid_of {a b : Addr} {H : Hp} {o : HO} (h : b ≠ a) (e : H b = some o) : hid a H b = some o := by
  rw [hid_ne h]
  exact e

/-- a feed stands at a -/
def Fd (H : Hp) (a : Addr) : Prop := ∃ c d : Int, H a = some (.lst [.int c, .int d])
theorem Fd.new {H : Hp} {a p : Addr} {o : HO} (f : Fd H a) (h : H p = none) : Fd (upd H p o) a := by
  obtain ⟨c, d, e⟩ := f
  exact ⟨c, d, same_upd h _ _ e⟩
theorem Fd.same {H H' : Hp} {a : Addr} (f : Fd H a) (h : Same H H') : Fd H' a := by
  obtain ⟨c, d, e⟩ := f
  exact ⟨c, d, h _ _ e⟩
theorem Fd.ne {H : Hp} {a p : Addr} (f : Fd H a) (h : H p = none) : p ≠ a := by
  obtain ⟨c, d, e⟩ := f
  exact (ne_of_none e h).symm
theorem Fd.neT {H : Hp} {a p : Addr} {xs : List V} (f : Fd H a) (h : H p = some (.tup xs)) : p ≠ a := by
  obtain ⟨c, d, e⟩ := f
  exact ne_of h e (by intro z; cases z)

theorem calMono {P : Program} {w : World} {K : PySem.W.Frag} {mg : Str → Option Value} {base : Heap} {j k : Nat} {x : Str} {sp : Sp} {dvs : List V} (c : C8.Cal P w K mg base j x sp dvs) (h : j ≤ k) : C8.Cal P w K mg base k x sp dvs := by
  obtain ⟨f, fd, ps, ds, F, r⟩ := c.ex
  exact ⟨f, fd, ps, ds, F.mono h, r⟩
theorem metMono {P : Program} {w : World} {K : PySem.W.Frag} {mg : Str → Option Value} {base : Heap} {j k : Nat} {C : Addr} {x : Str} {sp : Sp} {dvs : List V} (c : C8.Met P w K mg base j C x sp dvs) (h : j ≤ k) : C8.Met P w K mg base k C x sp dvs := by
  obtain ⟨f, fd, ps, ds, c1, m, F, r⟩ := c.ex
  exact ⟨f, fd, ps, ds, c1, m, F.mono h, r⟩
theorem makMono {P : Program} {w : World} {K : PySem.W.Frag} {mg : Str → Option Value} {base : Heap} {j k : Nat} {C : Addr} {x : Str} {sp : Sp} {dvs : List V} (c : C8.Mak P w K mg base j x C sp dvs) (h : j ≤ k) : C8.Mak P w K mg base k x C sp dvs := by
  obtain ⟨f, fd, ps, ds, M, F, r⟩ := c.ex
  exact ⟨f, fd, ps, ds, M, F.mono h, r⟩
theorem calImp {P : Program} {w : World} {K : PySem.W.Frag} {mg : Str → Option Value} {base : Heap} {k : Nat} {x : Str} {sp sp' : Sp} {dvs : List V} (c : C8.Cal P w K mg base k x sp dvs) (h : ∀ vs H Q E, sp' vs H Q E → sp vs H Q E) : C8.Cal P w K mg base k x sp' dvs := by
  obtain ⟨f, fd, ps, ds, F, r⟩ := c.ex
  exact ⟨f, fd, ps, ds, F.imp h, r⟩

/-- a def of the module as it stands behind the top: its place, its name, how it binds -/
structure Df (K : PySem.W.Frag) (mg : Str → Option Value) (x : Str) (st : Stmt) (ps : List Str) : Prop where
  ex : ∃ f fd, Fun K x x st f fd ∧ mg x = some (.ref f) ∧ PySem.W.keepIn K (.ref f) = true ∧ Binds K fd ps []
theorem Df.cal {P : Program} {w : World} {K : PySem.W.Frag} {mg : Str → Option Value} {base : Heap} {x : Str} {st : Stmt} {N ps : List Str} {k : Nat} {sp : Sp} (F : Df K mg x st ps) (S : FnScope N ps (defScope st)) (len : ∀ vs H Q E, sp vs H Q E → vs.length = ps.length)
    (hbody : ∀ (f : Addr) (cdv : Value) (A : Around) (outer : List Env) (s : Shared) (H : Hp) (vs : List V) (Q : VK) (E : XK), Room k (A.deeper (envOfC x (defScope st) s.heap.objs.size f cdv)) → sp vs H Q E →
      ∃ t, PSs (cxOf CX0 P w K mg base N x (defScope st) f cdv A outer s H E).nox (defBody st) t ∧ t { nx := fun _ H' => Q .non H', rt := Q } (start N vs) H) : C8.Cal P w K mg base (k + 1) x sp [] := by
  obtain ⟨f, fd, F, hm, kp, b⟩ := F.ex
  exact ⟨f, fd, ps, [], F.ok S len (hbody f), hm, kp, b, .nil⟩

/-- a promise that is never asked -/
theorem Df.never {P : Program} {w : World} {K : PySem.W.Frag} {mg : Str → Option Value} {base : Heap} {x : Str} {st : Stmt} {ps : List Str} {sp : Sp} (F : Df K mg x st ps) (h : ∀ vs H Q E, ¬ sp vs H Q E) : C8.Cal P w K mg base 0 x sp [] := by
  obtain ⟨f, fd, F, hm, kp, b⟩ := F.ex
  exact ⟨f, fd, ps, [], ⟨fun vs H Q E q => (h _ _ _ _ q).elim, fun A outer s H args us vs Q E hr he hb hv hs => (h _ _ _ _ hs).elim⟩, hm, kp, b, .nil⟩
/-- a method of the class at C -/
structure Dm (K : PySem.W.Frag) (C : Addr) (m qual : Str) (st : Stmt) (ps : List Str) : Prop where
  ex : ∃ f fd, Cls K C ∧ Meth K C m f ∧ Fun K m qual st f fd ∧ Binds K fd ps []
theorem Dm.met {P : Program} {w : World} {K : PySem.W.Frag} {mg : Str → Option Value} {base : Heap} {C : Addr} {m qual : Str} {st : Stmt} {N ps : List Str} {k : Nat} {sp : Sp} (F : Dm K C m qual st ps) (S : FnScope N ps (defScope st)) (len : ∀ vs H Q E, sp vs H Q E → vs.length = ps.length)
    (hbody : ∀ (f : Addr) (cdv : Value) (A : Around) (outer : List Env) (s : Shared) (H : Hp) (vs : List V) (Q : VK) (E : XK), Room k (A.deeper (envOfC qual (defScope st) s.heap.objs.size f cdv)) → sp vs H Q E →
      ∃ t, PSs (cxOf CX0 P w K mg base N qual (defScope st) f cdv A outer s H E).nox (defBody st) t ∧ t { nx := fun _ H' => Q .non H', rt := Q } (start N vs) H) : C8.Met P w K mg base (k + 1) C m sp [] := by
  obtain ⟨f, fd, c, me, F, b⟩ := F.ex
  exact ⟨f, fd, ps, [], c, me, F.ok S len (hbody f), b, .nil⟩
theorem Dm.never {P : Program} {w : World} {K : PySem.W.Frag} {mg : Str → Option Value} {base : Heap} {C : Addr} {m qual : Str} {st : Stmt} {ps : List Str} {sp : Sp} (F : Dm K C m qual st ps) (h : ∀ vs H Q E, ¬ sp vs H Q E) : C8.Met P w K mg base 0 C m sp [] := by
  obtain ⟨f, fd, c, me, F, b⟩ := F.ex
  exact ⟨f, fd, ps, [], c, me, ⟨fun vs H Q E q => (h _ _ _ _ q).elim, fun A outer s H args us vs Q E hr he hb hv hs => (h _ _ _ _ hs).elim⟩, b, .nil⟩
/-- a class of the module, with its __init__ -/
structure Dc (K : PySem.W.Frag) (mg : Str → Option Value) (C : Addr) (x qual : Str) (st : Stmt) (ps : List Str) : Prop where
  ex : ∃ f fd, Mk K C f ∧ mg x = some (.ref C) ∧ Fun K "__init__" qual st f fd ∧ Binds K fd ps []
theorem Dc.mak {P : Program} {w : World} {K : PySem.W.Frag} {mg : Str → Option Value} {base : Heap} {C : Addr} {x qual : Str} {st : Stmt} {N ps : List Str} {k : Nat} {sp : Sp} (F : Dc K mg C x qual st ps) (S : FnScope N ps (defScope st)) (len : ∀ vs H Q E, sp vs H Q E → vs.length = ps.length)
    (hbody : ∀ (f : Addr) (cdv : Value) (A : Around) (outer : List Env) (s : Shared) (H : Hp) (vs : List V) (Q : VK) (E : XK), Room k (A.deeper (envOfC qual (defScope st) s.heap.objs.size f cdv)) → sp vs H Q E →
      ∃ t, PSs (cxOf CX0 P w K mg base N qual (defScope st) f cdv A outer s H E).nox (defBody st) t ∧ t { nx := fun _ H' => Q .non H', rt := Q } (start N vs) H) : C8.Mak P w K mg base (k + 1) x C sp [] := by
  obtain ⟨f, fd, M, hm, F, b⟩ := F.ex
  exact ⟨f, fd, ps, [], M, F.ok S len (hbody f), hm, b, .nil⟩

theorem vals_of : ∀ {xs : List V} {us : List Value}, xs.length = us.length → (∀ (i : Nat) x u, xs[i]? = some x → us[i]? = some u → RelV x u) → Vals xs us
  | [], [], _, _ => .nil
  | [], _ :: _, h, _ => by simp at h
  | _ :: _, [], h, _ => by simp at h
  | x :: xs, u :: us, h, p => .cons (p 0 x u rfl rfl) (vals_of (by simpa using h) fun i y v a b => p (i + 1) y v (by simpa using a) (by simpa using b))
/-- list(text): its signs -/
theorem call_list_txt {X : Cx} : CallR X (.type "list") (fun xs H Q => ∃ z : Str, xs = [.str z] ∧ z.length ≤ sizeLine ∧ X.A.handled = none ∧ ∀ l, H l = none → Q (.ref l) (upd H l (.lst (z.cps.toList.map fun c => V.str ⟨#[c]⟩)))) := by
  intro pins s σ H xs us Q I r h
  obtain ⟨z, rfl, hz, hh, q⟩ := h
  obtain ⟨u, rfl, rx⟩ := vals1 r
  obtain ⟨t, rfl⟩ := rx
  refine call_list_str hh z t (hn := hz) fun h' tk acc' c' hk hS' hacc => ?_
  refine ⟨.ref s.heap.objs.size, _, I.laid (t' := tk) hk (Nat.le_refl _) (show ObjOk X.prog X.w _ h' _ (.lst (z.cps.toList.map fun c => V.str ⟨#[c]⟩)) from ⟨by simpa [Str.length] using hz, acc'.toList, c', ?_, by simpa using hS'⟩), rfl, q _ (I.hok.fresh (Nat.le_refl _))⟩
  refine vals_of (by simp [hacc.1]) fun i x u hx hu => ?_
  obtain ⟨c, t', hc, rfl⟩ := hacc.2 i u (by simpa using hu)
  rw [List.getElem?_map] at hx
  have hc' : z.cps.toList[i]? = some c := by simpa using hc
  rw [hc'] at hx
  cases hx
  exact ⟨_, rfl⟩

theorem yesT {σ : L2.St} {H : Hp} {X Y : Hp → Prop} (h : X H) : tYes σ H (fun b H3 => if b = true then X H3 else Y H3) := by
  show (if true = true then X H else Y H)
  rw [if_pos rfl]
  exact h
/-! ### a comprehension whose element is reckoned from the item alone -/
theorem lc_pure {K : PySem.W.Frag} {a D : Addr} {xs : List V} {i : Nat} {te : TE} {vs : List Nat} {σ : L2.St} {H1 : Hp} {Qd : Hp → Prop} (g : V → V) (ha : SqL K H1 a xs) (hD : H1 D = none) (hsz : xs.length ≤ sizeLine)
    (hw : ∀ x, wipe ((wipe σ vs).set i (some x)) vs = wipe σ vs)
    (he : ∀ x ∈ xs, ∀ (acc : List V) (Qv : VK), Qv (g x) (upd H1 D (.lst acc)) → te ((wipe σ vs).set i (some x)) (upd H1 D (.lst acc)) Qv)
    (hd : Qd (upd H1 D (.lst (xs.map g)))) :
    ∃ W : Nat → Nat → Hp → Prop, (∃ m, W 0 m (upd H1 D (.lst []))) ∧ ∀ j m H, W j m H →
      ((Itl K a).stop j H ∧ Qd H) ∨ ((Itl K a).go j H ∧ ∃ Nx : Hp → Prop, (∀ H', Nx H' → ∃ m', m' < m ∧ W (j + 1) m' H') ∧ ∀ x H', (Itl K a).yld j H x H' → gName i x (wipe σ vs) H' fun σ2 H2 => wipe σ2 vs = wipe σ vs ∧ tYes σ2 H2 fun b H3 =>
        if b = true then te σ2 H3 fun y H4 => ∃ acc, H4 D = some (.lst acc) ∧ acc.length < sizeLine ∧ Nx (upd H4 D (.lst (acc ++ [y]))) else Nx H3) := by
  refine lc_list (K := K) (a := a) (xs := xs) (fun j H => H = upd H1 D (.lst ((xs.take j).map g))) rfl (fun j H _ e => ?_) (fun j x H hx e => ?_) (fun H e => ?_)
  · rw [e]
    exact (same_upd hD).seq ha
  · subst e
    refine ⟨hw x, yesT ?_⟩
    obtain ⟨hj, ex⟩ := List.getElem?_eq_some_iff.mp hx
    refine he x (by rw [← ex]; exact List.getElem_mem hj) _ _ ⟨_, upd_same, ?_, ?_⟩
    · rw [List.length_map, List.length_take]
      omega
    · rw [upd_upd, List.take_succ_eq_append_getElem hj, List.map_append, ex]
      rfl
  · rw [e, List.take_length]
    exact hd
end KW

/-! ## the law's feed: _law_feed, _law_draw, _law_pick -/
namespace KW
open PySem PySem.Spec PyProof.Rows L2
def topS (i : Nat) : Stmt := PySem.Challenge.pw_knownways_k11_trees_as_texts.main.body.getD i (.Pass ⟨0, 0, 0, 0⟩)
theorem at_ofN {α : Type} {xs : List α} {z : Int} {v : α} (e : z = (z.toNat : Int)) (h : xs[z.toNat]? = some v) : atI xs z = some v := by
  rw [e]
  exact atI_nat h
section
variable {P : Program} {w : World} {K : PySem.W.Frag} {mg : Str → Option Value} {base : Heap}
abbrev s__law_feed : Stmt := topS 10
theorem sc__law_feed : FnScope ["_law_script", "_law_k", "_law_cell"] ["_law_script", "_law_k"] (defScope s__law_feed) := ⟨rfl, rfl, rfl, by decide +kernel, rfl, by decide +kernel, by decide +kernel⟩
def spFeed (K : PySem.W.Frag) : Sp := fun vs H Q _ => ∃ (a : Addr) (ns : List Int) (k : Int), vs = [.ref a, .int k] ∧ SqL K H a (ns.map V.int) ∧ 0 ≤ k ∧
  ∀ (p : Addr) (H' : Hp), H p = none → Same H H' → Fd H' p → Q (.ref p) H'
theorem ok_feed {k : Nat} (B : Bi mg) (F : Df K mg "_law_feed" s__law_feed ["_law_script", "_law_k"]) : C8.Cal P w K mg base (k + 1) "_law_feed" (spFeed K) [] := by
  refine F.cal sc__law_feed (fun vs H Q E h => ?_) (fun f cdv A outer s H vs Q E hr h => ?_)
  · obtain ⟨a, ns, k, rfl, _⟩ := h
    rfl
  · obtain ⟨a, ns, k, rfl, hS, hk, q⟩ := h
    refine ⟨_, (pss_cons (ps_set (i := 2) sc__law_feed.nd rfl (Or.inl rfl) (pe_op op_add (pe_op op_mul pe_int (pv 1)) pe_int))
      (C8.pss_cut (ps_if (pt_cmpR op_lt (pv 1) (pe_callB (kk_len K rfl) rfl B.len PySem.boot_len (pa_cons (pv 0) pa_nil)) (nomark _)) (pss_one (ps_set (i := 2) sc__law_feed.nd rfl (Or.inl rfl) (pe_ix (kk_ixL K rfl) (pv 0) (pv 1) (fun _ _ => rfl)))) (pss_one (ps_if (pt_cmpR op_gt (pe_callB (kk_len K rfl) rfl B.len PySem.boot_len (pa_cons (pv 0) pa_nil)) pe_int (nomark _)) (pss_one (ps_set (i := 2) sc__law_feed.nd rfl (Or.inl rfl) (pe_op op_add (pv 2) (pe_op op_mul (pe_op op_mod (pe_callB call_abs rfl B.abs (by decide +kernel) (pa_cons (pe_ix (kk_ixL K rfl) (pv 0) (pe_op op_mod (pe_callTy call_int1 rfl B.ty_int (by decide +kernel) (pa_cons (pv 1) pa_nil)) (pe_callB (kk_len K rfl) rfl B.len PySem.boot_len (pa_cons (pv 0) pa_nil))) (fun _ _ => rfl)) pa_nil)) pe_int) pe_int)))) pss_nil)))
      (C8.pss_cut (ps_if (pt_cmpR op_lt (pv 2) pe_int (nomark _)) (pss_one (ps_set (i := 2) sc__law_feed.nd rfl (Or.inl rfl) (pe_op op_sub pe_int (pe_op op_mul pe_int (pv 2))))) pss_nil)
      (pss_one (ps_ret (pe_lst (pa_cons (pe_ifExp (pt_cmpR op_ge (pv 2) (pe_op op_pow pe_int pe_int) (nomark _)) (pv 2) pe_int) (pa_cons (pe_op op_add (pe_op op_add (pe_op op_mod (pe_callTy call_int1 rfl B.ty_int (by decide +kernel) (pa_cons (pv 2) pa_nil)) pe_int) (pe_op op_mul pe_int (pv 1))) pe_int) pa_nil)))))))), ?_⟩
    have hL : (List.map V.int ns).length = ns.length := List.length_map _
    have at_ : ∀ (i : Int), 0 ≤ i → i < (ns.length : Int) → ∃ z : Int, atI (ns.map V.int) i = some (.int z) := fun i h0 h1 => by
      obtain ⟨j, rfl⟩ : ∃ j : Nat, i = (j : Int) := ⟨i.toNat, by omega⟩
      have hj : j < ns.length := by omega
      exact ⟨ns[j], atI_nat (by rw [List.getElem?_map, List.getElem?_eq_getElem hj]; rfl)⟩
    refine ⟨_, rfl, _, _, rfl, rfl, .inl ⟨by decide, by decide⟩, _, _, rfl, rfl, fun σ H' => ∃ c : Int, σ = [some (.ref a), some (.int k), some (.int c)] ∧ H = H', ?_, ?_⟩
    · refine ⟨_, rfl, _, rfl, _, _, rfl, .inl ⟨_, hS, rfl⟩, _, _, rfl, rfl, _, rfl, ?_⟩
      refine ite2 (fun h0 => ?_) (fun h0 => ?_)
      · obtain ⟨z, hz⟩ := at_ k hk (by simpa using h0)
        exact ⟨_, rfl, _, rfl, a, _, k, _, rfl, rfl, hS, hz, z, rfl, rfl⟩
      · refine ⟨_, rfl, _, _, rfl, .inl ⟨_, hS, rfl⟩, _, _, rfl, rfl, _, rfl, ?_⟩
        refine ite2 (fun h1 => ?_) (fun h1 => ?_)
        · have h2 : (0 : Int) < (ns.length : Int) := by simpa using h1
          obtain ⟨z, hz⟩ := at_ (k % ((ns.map V.int).length : Nat)) (Int.emod_nonneg _ (by rw [hL]; omega)) (by rw [hL]; exact Int.emod_lt_of_pos _ h2)
          refine ⟨_, rfl, _, rfl, _, rfl, .inl ⟨_, rfl, _, rfl, _, _, rfl, .inl ⟨_, hS, rfl⟩, _, _, rfl, rfl, (by rw [hL]; exact h2), a, _, _, _, rfl, rfl, hS, hz, _, rfl, _, _, rfl, rfl, (by show (0 : Int) < 1000003; decide), _, _, rfl, rfl, .inr ⟨by decide, by decide⟩, _, _, rfl, rfl, _, rfl, rfl⟩⟩
        · exact ⟨_, rfl, rfl⟩
    · rintro σ H' ⟨c, rfl, rfl⟩
      refine ⟨fun σ H' => ∃ c : Int, σ = [some (.ref a), some (.int k), some (.int c)] ∧ H = H', ?_, ?_⟩
      · refine ⟨_, rfl, _, _, rfl, rfl, _, rfl, ?_⟩
        refine ite2 (fun h1 => ?_) (fun h1 => ?_)
        · exact ⟨_, rfl, _, _, rfl, rfl, .inl ⟨by decide, by decide⟩, _, _, rfl, rfl, _, rfl, rfl⟩
        · exact ⟨_, rfl, rfl⟩
      · rintro σ H' ⟨c, rfl, rfl⟩
        have fin : ∀ z : Int, (tCons (tOp (rI0 fun i j => V.int (i + j)) (tOp (rI0 fun i j => V.int (i + j)) (tOp (rI (fun _ j => 0 < j) fun i j => V.int (i % j)) (tCB (fun xs H Q => (∃ i, xs = [V.int i] ∧ Q (V.int i) H) ∨ ∃ k, xs = [V.bl k] ∧ Q (V.int (if k = true then 1 else 0)) H) (tCons (tVar 2) tNil)) (tC (V.int 1000003))) (tOp (rI CMul fun i j => V.int (i * j)) (tC (V.int 13)) (tVar 1))) (tC (V.int 1))) tNil)
            [some (.ref a), some (.int k), some (.int c)] H (fun xs H2 => (V.int z :: xs).length ≤ sizeLine ∧ ∀ p, H2 p = none → Q (.ref p) (upd H2 p (.lst (V.int z :: xs)))) := fun z => by
          refine ⟨_, rfl, .inl ⟨_, rfl, _, _, rfl, rfl, (by show (0 : Int) < 1000003; decide), _, rfl, _, _, rfl, rfl, .inl ⟨by decide, by decide⟩, _, _, rfl, rfl, _, _, rfl, rfl, (by show 2 ≤ sizeLine; decide), fun p hp => ?_⟩⟩
          exact q p _ hp (same_upd hp) ⟨_, _, upd_same⟩
        refine ⟨_, rfl, _, _, rfl, rfl, ⟨by decide, by decide, by decide⟩, _, _, rfl, rfl, _, rfl, ?_⟩
        refine ite2 (fun h1 => ?_) (fun h1 => ?_)
        · exact ⟨_, rfl, fin c⟩
        · exact fin 0
abbrev s__law_draw : Stmt := topS 11
theorem sc__law_draw : FnScope ["_law_feed_here", "_law_many", "_law_digit"] ["_law_feed_here", "_law_many"] (defScope s__law_draw) := ⟨rfl, rfl, rfl, by decide +kernel, rfl, by decide +kernel, by decide +kernel⟩
def spDraw : Sp := fun vs H Q _ => ∃ (a : Addr) (m : Int), vs = [.ref a, .int m] ∧ Fd H a ∧ 0 < m ∧ m < 1073741824 ∧
  ∀ (r : Int) (H' : Hp), 0 ≤ r → r < m → Fd H' a → KB a H H' → Q (.int r) H'
theorem ok_draw {k : Nat} (B : Bi mg) (F : Df K mg "_law_draw" s__law_draw ["_law_feed_here", "_law_many"]) : C8.Cal P w K mg base (k + 1) "_law_draw" spDraw [] := by
  refine F.cal sc__law_draw (fun vs H Q E h => ?_) (fun f cdv A outer s H vs Q E hr h => ?_)
  · obtain ⟨a, m, rfl, _⟩ := h
    rfl
  · obtain ⟨a, m, rfl, ⟨c, d, hF⟩, m0, m1, q⟩ := h
    refine ⟨_, (pss_cons (ps_if (pt_cmpR op_gt (pe_ix (kk_ixL K rfl) (pv 0) pe_int (fun _ _ => rfl)) pe_int (nomark _)) (pss_cons (ps_set (i := 2) sc__law_draw.nd rfl (Or.inl rfl) (pe_op op_mod (pe_callTy call_int1 rfl B.ty_int (by decide +kernel) (pa_cons (pe_ix (kk_ixL K rfl) (pv 0) pe_int (fun _ _ => rfl)) pa_nil)) (pv 1)))
      (pss_cons (ps_asg (pe_op op_fdivW (pe_ix (kk_ixL K rfl) (pv 0) pe_int (fun _ _ => rfl)) (pv 1)) (pg_sub (pv 0) pe_int set_list))
      (pss_one (ps_ret (pv 2))))) pss_nil)
      (pss_cons (ps_asg (pe_op op_mod (pe_callTy call_int1 rfl B.ty_int (by decide +kernel) (pa_cons (pe_op op_add (pe_op op_mul (pe_ix (kk_ixL K rfl) (pv 0) pe_int (fun _ _ => rfl)) pe_int) pe_int) pa_nil)) pe_int) (pg_sub (pv 0) pe_int set_list))
      (pss_one (ps_ret (pe_op op_mod (pe_callTy call_int1 rfl B.ty_int (by decide +kernel) (pa_cons (pe_op op_fdivW (pe_ix (kk_ixL K rfl) (pv 0) pe_int (fun _ _ => rfl)) pe_int) pa_nil)) (pv 1)))))), ?_⟩
    refine ⟨_, rfl, a, _, 0, _, rfl, rfl, SqL.of hF, rfl, _, _, rfl, rfl, _, rfl, ?_⟩
    refine ite2 (fun h0 => ?_) (fun h0 => ?_)
    · refine ⟨_, rfl, a, _, 0, _, rfl, rfl, SqL.of hF, rfl, .inl ⟨_, rfl, _, rfl, _, _, rfl, rfl, m0, ?_⟩⟩
      refine ⟨_, rfl, a, _, 0, _, rfl, rfl, SqL.of hF, rfl, _, rfl, _, _, rfl, rfl, wide_div m0 (b := 31) (by omega) (by decide) (by decide), _, rfl, a, _, _, 0, rfl, rfl, hF, rfl, ?_⟩
      refine ⟨_, rfl, q _ _ (Int.emod_nonneg _ (by omega)) (Int.emod_lt_of_pos _ m0) ⟨_, _, upd_same⟩ (KB.refl _ _).upd⟩
    · refine ⟨_, rfl, a, _, 1, _, rfl, rfl, SqL.of hF, rfl, _, _, rfl, rfl, .inr ⟨by decide, by decide⟩, _, _, rfl, rfl, .inl ⟨_, rfl, _, _, rfl, rfl, (by show (0 : Int) < 2147483647; decide), _, rfl, a, _, _, 1, rfl, rfl, hF, rfl, ?_⟩⟩
      refine ⟨_, rfl, a, _, 1, _, rfl, rfl, SqL.of upd_same, rfl, _, _, rfl, rfl, wide_div (b := 7) (by decide) (by decide) (by decide) (by decide), .inl ⟨_, rfl, _, rfl, _, _, rfl, rfl, m0, ?_⟩⟩
      exact q _ _ (Int.emod_nonneg _ (by omega)) (Int.emod_lt_of_pos _ m0) ⟨_, _, upd_same⟩ (KB.refl _ _).upd

abbrev s__law_pick : Stmt := topS 12
theorem sc__law_pick : FnScope ["_law_feed_here", "_law_items"] ["_law_feed_here", "_law_items"] (defScope s__law_pick) := ⟨rfl, rfl, rfl, by decide +kernel, rfl, by decide +kernel, by decide +kernel⟩
def spPick (K : PySem.W.Frag) : Sp := fun vs H Q _ => ∃ (a : Addr) (x : V), vs = [.ref a, x] ∧ Fd H a ∧
  ((∃ z : Str, x = .str z ∧ z.cps.toList ≠ [] ∧ z.length ≤ 1000 ∧ ∀ (c : Nat) (H' : Hp), c ∈ z.cps.toList → Fd H' a → KB a H H' → Q (.str ⟨#[c]⟩) H') ∨
   (∃ (p : Addr) (xs : List V), x = .ref p ∧ p ≠ a ∧ (SqL K H p xs ∨ SqT K H p xs) ∧ xs ≠ [] ∧ xs.length ≤ 1000 ∧ ∀ (v : V) (H' : Hp), v ∈ xs → Fd H' a → KB a H H' → Q v H'))
theorem ok_pick {k : Nat} (B : Bi mg) (F : Df K mg "_law_pick" s__law_pick ["_law_feed_here", "_law_items"]) (G_law_draw : C8.Cal P w K mg base k "_law_draw" spDraw []) : C8.Cal P w K mg base (k + 1) "_law_pick" (spPick K) [] := by
  refine F.cal sc__law_pick (fun vs H Q E h => ?_) (fun f cdv A outer s H vs Q E hr h => ?_)
  · obtain ⟨a, x, rfl, _⟩ := h
    rfl
  · obtain ⟨a, x, rfl, hF, h⟩ := h
    refine ⟨_, (pss_one (ps_ret (pe_ix (kk_ix K rfl) (pv 1) (C8.pe_c G_law_draw hr (Nat.le_refl _) rfl (pa_cons (pv 0) (pa_cons (pe_callB (kk_len K rfl) rfl B.len PySem.boot_len (pa_cons (pv 1) pa_nil)) pa_nil))) (fun _ _ => rfl)))), ?_⟩
    rcases h with ⟨z, rfl, hz, hl, q⟩ | ⟨p, xs, rfl, hp, hS, hx, hl, q⟩
    · have h0 : 0 < z.cps.toList.length := List.length_pos_iff.mpr hz
      have hzl : z.length = z.cps.toList.length := by simp [Str.length]
      refine ⟨_, rfl, _, rfl, _, rfl, _, z.length, rfl, ⟨Nat.le_trans hl (by decide), rfl⟩, a, _, rfl, hF, by omega, by omega, fun r H' r0 r1 f' kb => ?_⟩
      have hr : r.toNat < z.cps.toList.length := by omega
      refine .inr (.inr ⟨z, r, z.cps.toList[r.toNat], rfl, rfl, Nat.le_trans hl (by decide), at_ofN (by omega) (List.getElem?_eq_getElem hr), ?_⟩)
      exact q _ _ (List.getElem_mem hr) f' kb
    · have h0 : 0 < xs.length := List.length_pos_iff.mpr hx
      have lv : LenV K (.ref p) H xs.length := hS.elim (fun h => .inl ⟨xs, h, rfl⟩) (fun h => .inr ⟨xs, h, rfl⟩)
      refine ⟨_, rfl, _, rfl, _, rfl, _, xs.length, rfl, lv, a, _, rfl, hF, by omega, by omega, fun r H' r0 r1 f' kb => ?_⟩
      have hr : r.toNat < xs.length := by omega
      rcases hS with hS | hS
      · exact .inl ⟨p, xs, r, xs[r.toNat], rfl, rfl, kb.seq hp hS, at_ofN (by omega) (List.getElem?_eq_getElem hr), q _ _ (List.getElem_mem hr) f' kb⟩
      · exact .inr (.inl ⟨p, xs, r, xs[r.toNat], rfl, rfl, kb.tup hp hS, at_ofN (by omega) (List.getElem?_eq_getElem hr), q _ _ (List.getElem_mem hr) f' kb⟩)
end
end KW

/-! ## names: _law_word, _law_words -/
namespace KW
open PySem PySem.Spec PyProof.Rows L2
abbrev S : List Nat → Str := SX.S
/-- a row of texts as values -/
abbrev LS (ls : List (List Nat)) : List V := ls.map fun l => V.str (S l)
abbrev wIf : List Nat := [105, 102]
abbrev wElse : List Nat := [101, 108, 115, 101]
abbrev wEnd : List Nat := [101, 110, 100]
/-- small letters -/
def Low (l : List Nat) : Prop := ∀ c ∈ l, 97 ≤ c ∧ c ≤ 122
/-- a name -/
def Nm (l : List Nat) : Prop := Low l ∧ 1 ≤ l.length ∧ l.length ≤ 4 ∧ l ≠ wIf ∧ l ≠ wElse ∧ l ≠ wEnd
abbrev abc : List Nat := [97, 98, 99, 100, 101, 102, 103, 104, 105, 106, 107, 108, 109, 110, 111, 112, 113, 114, 115, 116, 117, 118, 119, 120, 121, 122]
theorem abc_eq : (Str.ofString "abcdefghijklmnopqrstuvwxyz") = S abc := by decide +kernel
theorem low_abc : Low abc := by unfold Low; decide
theorem abc_tl : (Str.ofString "abcdefghijklmnopqrstuvwxyz").cps.toList = abc := by rw [abc_eq]
theorem nm_one {c : Nat} (h : c ∈ abc) : Nm [c] := ⟨fun d hd => by
  rw [List.mem_singleton] at hd
  subst hd
  exact low_abc _ h, by simp, by simp, by simp, by simp, by simp⟩
theorem joinL_single : ∀ cs : List Nat, TL.joinL [] (cs.map fun c => [c]) = cs
  | [] => rfl
  | [_] => rfl
  | c :: d :: r => by
    show [c] ++ ([] ++ TL.joinL [] ((d :: r).map fun c => [c])) = c :: d :: r
    rw [joinL_single (d :: r)]
    rfl
theorem sgn_eq (c : Nat) : (⟨#[c]⟩ : Str) = S [c] := rfl
theorem sum_ones : ∀ cs : List Nat, ((cs.map fun c => S [c]).map (·.length)).sum = cs.length
  | [] => rfl
  | c :: r => by
    have ih := sum_ones r
    rw [List.map_cons, List.map_cons, List.sum_cons, ih, List.length_cons]
    show 1 + _ = _
    omega
theorem KB.upd0 {a p : Addr} {H H' : Hp} {o : HO} (x : KB a H H') (h : H p = none) : KB a H (L2.upd H' p o) := fun b u n e => by
  rw [upd_ne (ne_of_none e h)]
  exact x b u n e
theorem Fd.upd {H : Hp} {a p : Addr} {o : HO} (f : Fd H a) (h : a ≠ p) : Fd (L2.upd H p o) a := by
  obtain ⟨c, d, e⟩ := f
  exact ⟨c, d, by rw [upd_ne h]; exact e⟩
/-- what is new behind a draw was new ahead of it -/
theorem KB.free {a p : Addr} {H H' : Hp} (k : KB a H H') (n : p ≠ a) (h : H' p = none) : H p = none := by
  cases e : H p with
  | none => rfl
  | some o => rw [k p o n e] at h; cases h
section
variable {P : Program} {w : World} {K : PySem.W.Frag} {mg : Str → Option Value} {base : Heap}
abbrev s__law_word : Stmt := topS 14
theorem sc__law_word : FnScope ["_law_feed_here", "_law_letters", "_law_word_here", "_law_k"] ["_law_feed_here"] (defScope s__law_word) := ⟨rfl, rfl, rfl, by decide +kernel, rfl, by decide +kernel, by decide +kernel⟩
def spWord : Sp := fun vs H Q _ => ∃ (a : Addr), vs = [.ref a] ∧ Fd H a ∧ ∀ (l : List Nat) (H' : Hp), Nm l → Fd H' a → KB a H H' → Q (.str (S l)) H'
theorem ok_word {k : Nat} (B : Bi mg) (F : Df K mg "_law_word" s__law_word ["_law_feed_here"]) (G_law_draw : C8.Cal P w K mg base k "_law_draw" spDraw []) (G_law_pick : C8.Cal P w K mg base k "_law_pick" (spPick K) []) :
    C8.Cal P w K mg base (k + 1) "_law_word" spWord [] := by
  refine F.cal sc__law_word (fun vs H Q E h => ?_) (fun f cdv A outer s H vs Q E hr h => ?_)
  · obtain ⟨a, rfl, _⟩ := h
    rfl
  · obtain ⟨a, rfl, hF, q⟩ := h
    refine ⟨_, (pss_cons (ps_set (i := 1) sc__law_word.nd rfl (Or.inr rfl) pe_str)
      (pss_cons (ps_set (i := 2) sc__law_word.nd rfl (Or.inl rfl) (kk_bm K rfl PySem.F.plainAttrs_str PySem.F.slot_str_join PySem.F.type_str_join (kk_join K rfl) pe_str (pa_cons (pe_lc (own := [("_law_k", 3)]) (g := gName 3) (tt := tYes) rfl sc__law_word.nd (pi_range1 rfl B.range (pa_cons (pe_op op_add pe_int (C8.pe_c G_law_draw hr (Nat.le_refl _) rfl (pa_cons (pv 0) (pa_cons pe_int pa_nil)))) pa_nil)) (blkOk_by (own := [("_law_k", 3)]) (N := ["_law_feed_here", "_law_letters", "_law_word_here", "_law_k"]) (sc := defScope s__law_word) (by decide +kernel)) (fun _ _ _ _ _ => (pg_name (i := 3) sc__law_word.nd rfl (Or.inl rfl))) (fun _ _ _ _ _ => pts_nil) (fun _ _ _ _ _ => (C8.pe_c G_law_pick hr (Nat.le_refl _) rfl (pa_cons (pv 0) (pa_cons (pv 1) pa_nil))))) pa_nil)))
      (pss_one (ps_ret (pe_ifExp (pt_cmpR (kk_in K rfl) (pv 2) (pe_tup (pa_cons pe_str (pa_cons pe_str (pa_cons pe_str pa_nil)))) rfl) pe_str (pv 2)))))), ?_⟩
    refine ⟨rfl, _, rfl, a, _, rfl, hF, by decide, by decide, fun r H1 r0 r1 f1 k1 => ⟨_, _, rfl, rfl, _, rfl, by omega, by omega, fun D hD => ?_⟩⟩
    have hDa : D ≠ a := f1.ne hD
    have hD0 : H D = none := k1.free hDa hD
    refine lc_range (lo := 0) (fun i H2 => ∃ cs : List Nat, cs.length = i ∧ Low cs ∧ H2 D = some (.lst (cs.map fun c => V.str (S [c]))) ∧ Fd H2 a ∧ KB a H H2) ⟨[], rfl, fun _ h => by simp at h, upd_same, f1.new hD, k1.new hD⟩ (fun i H2 hi hP => ?_) (fun H2 hP => ?_)
    · obtain ⟨cs, hl, hlow, hDc, f2, k2⟩ := hP
      refine ⟨rfl, yesT ?_⟩
      refine ⟨_, rfl, _, rfl, a, _, rfl, f2, .inl ⟨_, rfl, by rw [abc_tl]; decide, by decide, fun c H3 hc f3 k3 => ?_⟩⟩
      rw [abc_tl] at hc
      have hD3 := k3 D _ hDa hDc
      refine ⟨_, hD3, by rw [List.length_map]; exact Nat.lt_of_lt_of_le (show cs.length < 100 by omega) (by decide), cs ++ [c], by simp [hl], fun d hd => ?_, ?_, f3.upd hDa.symm, (k2.trans k3).upd0 hD0⟩
      · rw [List.mem_append, List.mem_singleton] at hd
        rcases hd with hd | rfl
        · exact hlow d hd
        · exact low_abc _ hc
      · rw [upd_same, List.map_append]
        rfl
    · obtain ⟨cs, hl, hlow, hDc, f2, k2⟩ := hP
      have hlen : 1 ≤ cs.length ∧ cs.length ≤ 4 := by omega
      refine ⟨_, _, cs.map fun c => S [c], rfl, rfl, .inl (SqL.of (by rw [hDc, List.map_map]; rfl)), ?_, ?_⟩
      · rw [sum_ones, List.length_map]
        show cs.length + cs.length * 0 ≤ _
        omega
      have ej : Txt.join (Str.ofString "") (cs.map fun c => S [c]) = S cs := by
        have e := SX.join_S [] (cs.map fun c => [c])
        rw [joinL_single, List.map_map] at e
        exact e
      rw [ej]
      refine ⟨_, rfl, (by show 3 ≤ sizeLine; decide), fun p hp => ?_⟩
      have f3 := f2.new (o := .tup [V.str (Str.ofString "if"), V.str (Str.ofString "else"), V.str (Str.ofString "end")]) hp
      have k3 := k2.new (o := .tup [V.str (Str.ofString "if"), V.str (Str.ofString "else"), V.str (Str.ofString "end")]) hp
      refine ⟨p, _, rfl, .inr (SqT.of upd_same), rfl, rfl, _, rfl, ite2 (fun h => ?_) (fun h => ?_)⟩
      · exact q [113] _ (nm_one (by decide)) f3 k3
      · refine ⟨_, rfl, q cs _ ⟨hlow, hlen.1, hlen.2, ?_, ?_, ?_⟩ f3 k3⟩
        all_goals (rintro rfl; exact h (by decide +kernel))
abbrev s__law_words : Stmt := topS 15
theorem sc__law_words : FnScope ["_law_feed_here", "_law_many", "_law_found", "_law_k", "_law_some", "_law_word_here"] ["_law_feed_here", "_law_many"] (defScope s__law_words) := ⟨rfl, rfl, rfl, by decide +kernel, rfl, by decide +kernel, by decide +kernel⟩
def spWords : Sp := fun vs H Q _ => ∃ (a : Addr) (m : Nat), vs = [.ref a, .int m] ∧ Fd H a ∧ m ≤ 26 ∧
  ∀ (p : Addr) (ls : List (List Nat)) (H' : Hp), H p = none → ls.length = m → (∀ l ∈ ls, Nm l) → ls.Nodup → H' p = some (.lst (LS ls)) → Fd H' a → KB a H H' → Q (.ref p) H'
theorem len_ne {α : Type} [BEq α] [LawfulBEq α] (x : α) {M : List α} (h : M.Nodup) : M.length ≤ (M.filter fun y => y != x).length + 1 := by
  rw [← h.erase_eq_filter, List.length_erase]
  split <;> omega
theorem len_out {α : Type} [BEq α] [LawfulBEq α] {M : List α} (h : M.Nodup) : ∀ f : List α, M.length ≤ (M.filter fun y => !f.contains y).length + f.length
  | [] => by
    rw [List.filter_eq_self.mpr (by intro _ _; rfl)]
    exact Nat.le_refl _
  | x :: r => by
    have e : (M.filter fun y => !(x :: r).contains y) = (M.filter fun y => !r.contains y).filter fun y => y != x := by
      rw [List.filter_filter]
      refine List.filter_congr fun y _ => ?_
      rw [List.contains_cons, Bool.not_or]
      rfl
    have i := len_out h r
    have j := len_ne x (h.filter (fun y => !r.contains y))
    rw [e, List.length_cons]
    omega
theorem inV_LS (x : List Nat) : ∀ ls : List (List Nat), inV (V.str (S x)) (LS ls) = ls.contains x
  | [] => rfl
  | y :: r => by
    have ih := inV_LS x r
    show ((S y == S x) || inV (V.str (S x)) (LS r)) = _
    rw [ih, SX.S_beq, List.contains_cons, BEq.comm]
theorem LS_snoc (ls : List (List Nat)) (y : List Nat) : LS ls ++ [V.str (S y)] = LS (ls ++ [y]) := by
  rw [LS, LS, List.map_append]
  rfl
theorem flat_LS (ls : List (List Nat)) : (LS ls).all flatV = true := by
  rw [List.all_eq_true]
  intro v hv
  obtain ⟨l, _, rfl⟩ := List.mem_map.mp hv
  rfl
theorem take_more {α : Type} {l : List α} {i : Nat} {x : α} (h : l[i]? = some x) : l.take (i + 1) = l.take i ++ [x] := by
  obtain ⟨hi, e⟩ := List.getElem?_eq_some_iff.mp h
  rw [List.take_succ_eq_append_getElem hi, e]
theorem LS_get {ls : List (List Nat)} {i : Nat} {v : V} (h : (LS ls)[i]? = some v) : ∃ l, ls[i]? = some l ∧ v = V.str (S l) := by
  rw [List.getElem?_map] at h
  cases e : ls[i]? with
  | none => rw [e] at h; cases h
  | some l => rw [e] at h; exact ⟨l, rfl, (Option.some.inj h).symm⟩
theorem ok_words {k : Nat} (B : Bi mg) (F : Df K mg "_law_words" s__law_words ["_law_feed_here", "_law_many"]) (G_law_word : C8.Cal P w K mg base k "_law_word" spWord []) :
    C8.Cal P w K mg base (k + 1) "_law_words" spWords [] := by
  refine F.cal sc__law_words (fun vs H Q E h => ?_) (fun f cdv A outer s H vs Q E hr h => ?_)
  · obtain ⟨a, m, rfl, _⟩ := h
    rfl
  · obtain ⟨a, m, rfl, hF, hm, q⟩ := h
    refine ⟨_, (pss_cons (ps_set (i := 2) sc__law_words.nd rfl (Or.inr rfl) (pe_lst pa_nil))
      (pss_cons (ps_for PassesOwn.never rfl (pi_range1 rfl B.range (pa_cons (pv 1) pa_nil)) (pg_name (i := 3) sc__law_words.nd rfl (Or.inl rfl)) (pss_cons (ps_set (i := 4) sc__law_words.nd rfl (Or.inl rfl) (pe_op op_cat (pe_lst (pa_cons (C8.pe_c G_law_word hr (Nat.le_refl _) rfl (pa_cons (pv 0) pa_nil)) pa_nil)) (pe_callTy call_list_txt rfl B.ty_list (by decide +kernel) (pa_cons pe_str pa_nil))))
      (pss_one (ps_expr (kk_bm K rfl PySem.F.plainAttrs_list PySem.F.slot_list_append PySem.F.type_list_append mt_append (pv 2) (pa_cons (pe_ix (kk_ixL K rfl) (pe_lc (own := [("_law_word_here", 5)]) (g := gName 5) rfl sc__law_words.nd (kk_iList K rfl (pv 4)) (blkOk_by (own := [("_law_word_here", 5)]) (N := ["_law_feed_here", "_law_many", "_law_found", "_law_k", "_law_some", "_law_word_here"]) (sc := defScope s__law_words) (by decide +kernel)) (fun _ _ _ _ _ => (pg_name (i := 5) sc__law_words.nd rfl (Or.inl rfl))) (fun _ _ _ _ _ => (pts_one (pt_cmpR (kk_notIn K rfl) (pv 5) (pv 2) rfl))) (fun _ _ _ _ _ => (pv 5))) pe_int (fun _ _ => rfl)) pa_nil))))))
      (pss_one (ps_ret (pv 2))))), ?_⟩
    refine ⟨Nat.zero_le _, fun p hp => ?_⟩
    have hpa : p ≠ a := hF.ne hp
    refine ⟨_, rfl, _, rfl, by omega, by omega, ?_⟩
    refine for_range (lo := 0) (n := ((m : Int)).toNat) (fun i σ H1 => ∃ (ls : List (List Nat)) (v3 v4 : Option V), σ = [some (.ref a), some (.int m), some (.ref p), v3, v4, none] ∧ ls.length = i ∧ (∀ l ∈ ls, Nm l) ∧ ls.Nodup ∧ H1 p = some (.lst (LS ls)) ∧ Fd H1 a ∧ KB a H H1) ?_ ?_ ?_
    · exact ⟨[], none, none, rfl, rfl, by simp, by simp, upd_same, hF.new hp, (KB.refl _ _).new hp⟩
    · rintro i σ H1 hi ⟨ls, v3, v4, rfl, hl, hn, hd, hp1, f1, k1⟩
      have hi' : i < m := by simpa using hi
      -- some = [word] + list(abc)
      refine ⟨_, rfl, a, rfl, f1, fun w0 H2 hw f2 k2 => ⟨(by show 1 ≤ sizeLine; decide), fun c hc => ⟨_, rfl, (by decide), hr.hd, fun e he => ?_⟩⟩⟩
      have hca : c ≠ a := f2.ne hc
      have f3 := f2.new (o := .lst [V.str (S w0)]) hc
      have hea : e ≠ a := f3.ne he
      have hce : c ≠ e := ne_of_none upd_same he
      rw [abc_tl]
      refine ⟨c, e, _, _, rfl, rfl, by rw [upd_ne hce, upd_same], upd_same, (by show 27 ≤ sizeLine; decide), fun g hg => ?_⟩
      have f4 := f3.new (o := .lst (abc.map fun c => V.str ⟨#[c]⟩)) he
      have hga : g ≠ a := f4.ne hg
      have hp2 : H2 p = some (.lst (LS ls)) := k2 p _ hpa hp1
      have hp3 := same_upd (o := .lst [V.str (S w0)]) hc _ _ hp2
      have hp4 := same_upd (o := .lst (abc.map fun c => V.str ⟨#[c]⟩)) he _ _ hp3
      have f5 := f4.new (o := .lst ([V.str (S w0)] ++ abc.map fun c => V.str ⟨#[c]⟩)) hg
      have hp5 := same_upd (o := .lst ([V.str (S w0)] ++ abc.map fun c => V.str ⟨#[c]⟩)) hg _ _ hp4
      have k5 : KB a H (upd (upd (upd H2 c (.lst [V.str (S w0)])) e (.lst (abc.map fun c => V.str ⟨#[c]⟩))) g (.lst ([V.str (S w0)] ++ abc.map fun c => V.str ⟨#[c]⟩))) := (((k1.trans k2).new hc).new he).new hg
      have hgv : (upd (upd (upd H2 c (.lst [V.str (S w0)])) e (.lst (abc.map fun c => V.str ⟨#[c]⟩))) g (.lst ([V.str (S w0)] ++ abc.map fun c => V.str ⟨#[c]⟩))) g = some (.lst (LS (w0 :: abc.map fun c => [c]))) := by
        rw [upd_same]
        rfl
      generalize (upd (upd (upd H2 c (.lst [V.str (S w0)])) e (.lst (abc.map fun c => V.str ⟨#[c]⟩))) g (.lst ([V.str (S w0)] ++ abc.map fun c => V.str ⟨#[c]⟩))) = H5 at *
      generalize hws : (w0 :: abc.map fun c => [c]) = ws at *
      -- [.. not in found][0]
      refine ⟨_, rfl, .inl ⟨rfl, _, SqL.of hp5⟩, _, rfl, g, rfl, ⟨_, SqL.of hgv⟩, fun D hD => ?_⟩
      have hDa : D ≠ a := f5.ne hD
      have hDp : D ≠ p := (ne_of_none hp5 hD).symm
      have hDg : D ≠ g := (ne_of_none hgv hD).symm
      refine lc_list (K := K) (a := g) (xs := LS ws) (fun j H6 => H6 D = some (.lst (LS ((ws.take j).filter fun y => !ls.contains y))) ∧ (∀ b, b ≠ D → H6 b = H5 b)) ⟨upd_same, fun b hb => upd_ne hb⟩ (fun j H6 _ hj => ?_) (fun j x H6 hx hj => ?_) (fun H6 hj => ?_)
      · exact SqL.of (by rw [hj.2 g hDg.symm]; exact hgv)
      · obtain ⟨x, hx', rfl⟩ := LS_get hx
        refine ⟨rfl, ?_⟩
        have hj1 := hj.1
        refine ⟨_, rfl, _, rfl, p, _, rfl, .inl (SqL.of (by rw [hj.2 p hDp.symm]; exact hp5)), rfl, flat_LS _, _, rfl, ite2 (fun hc => ?_) (fun hc => ?_)⟩
        · have hc' : ls.contains x = false := by simpa [inV_LS] using hc
          refine ⟨_, rfl, _, hj1, ?_, ?_, fun b hb => by rw [upd_ne hb]; exact hj.2 b hb⟩
          · have h1 : ((ws.take j).filter fun y => !ls.contains y).length ≤ (ws.take j).length := List.length_filter_le _ _
            have h2 : (ws.take j).length ≤ ws.length := by rw [List.length_take]; omega
            have h3 : ws.length = 27 := by rw [← hws]; rfl
            rw [List.length_map]
            exact Nat.lt_of_le_of_lt (show _ ≤ 27 by omega) (by decide)
          · rw [upd_same, take_more hx', List.filter_append, List.filter_cons, hc']
            simp
        · have hc' : ls.contains x = true := by simpa [inV_LS] using hc
          refine ⟨?_, hj.2⟩
          rw [hj1, take_more hx', List.filter_append, List.filter_cons, hc']
          simp
      · obtain ⟨hj1, hj2⟩ := hj
        rw [List.length_map, List.take_length] at hj1
        -- it is not empty
        have hnd : (abc.map fun c => [c]).Nodup := by decide
        have hlen := len_out hnd ls
        have hal : (abc.map fun c => [c]).length = 26 := rfl
        have hnm : ∀ x ∈ ws, Nm x := by
          intro x hx
          rw [← hws] at hx
          rcases List.mem_cons.mp hx with rfl | hx
          · exact hw
          · obtain ⟨c, hc, rfl⟩ := List.mem_map.mp hx
            exact nm_one hc
        obtain ⟨y, ys, hy⟩ : ∃ y ys, (ws.filter fun y => !ls.contains y) = y :: ys := by
          cases e : ws.filter fun y => !ls.contains y with
          | cons y ys => exact ⟨y, ys, rfl⟩
          | nil =>
            exfalso
            have h1 : ((abc.map fun c => [c]).filter fun y => !ls.contains y) = [] := by
              rw [List.filter_eq_nil_iff] at e ⊢
              intro z hz
              exact e z (by rw [← hws]; exact List.mem_cons_of_mem _ hz)
            rw [h1] at hlen
            simp at hlen
            omega
        have hym : y ∈ ws.filter fun y => !ls.contains y := by rw [hy]; exact List.mem_cons_self ..
        obtain ⟨hy1, hy2⟩ := List.mem_filter.mp hym
        have hy3 : ¬ y ∈ ls := by simpa using hy2
        rw [hy] at hj1
        have hp6 : H6 p = some (.lst (LS ls)) := by rw [hj2 p hDp.symm]; exact hp5
        refine ⟨D, _, 0, _, rfl, rfl, SqL.of hj1, atI_nat (j := 0) rfl, p, _, _, rfl, rfl, hp6, ?_, ?_⟩
        · rw [List.length_map, hl]
          exact Nat.lt_of_lt_of_le (show i < 100 by omega) (by decide)
        · have f6 : Fd H6 a := by
            obtain ⟨c1, d1, e1⟩ := f5
            exact ⟨c1, d1, by rw [hj2 a hDa.symm]; exact e1⟩
          refine ⟨ls ++ [y], _, _, rfl, by simp [hl], ?_, ?_, ?_, f6.upd hpa.symm, ?_⟩
          · intro l hl'
            rw [List.mem_append, List.mem_singleton] at hl'
            rcases hl' with h | rfl
            · exact hn l h
            · exact hnm l hy1
          · rw [List.nodup_append]
            exact ⟨hd, by simp, fun u hu v hv => by rw [List.mem_singleton] at hv; rintro rfl; exact hy3 (hv ▸ hu)⟩
          · rw [upd_same]
            exact congrArg (fun z => some (HO.lst z)) (LS_snoc ls y)
          · refine KB.upd0 (fun b o hb e => ?_) hp
            have e5 := k5 b o hb e
            rw [hj2 b (ne_of_none e5 hD)]
            exact e5
    · rintro σ H1 ⟨ls, v3, v4, rfl, hl, hn, hd, hp1, f1, k1⟩
      exact ⟨_, rfl, q p ls H1 hp (by simpa using hl) hn hd hp1 f1 k1⟩
end
end KW

/-! ## trees: the plain part -/
namespace KW
open PySem PySem.Spec PyProof.Rows L2
inductive Tr where
  | leaf
  | node (l r : List Nat) (a b : Tr)
abbrev leq : List Nat := [32, 60, 61, 32]
abbrev slt : List Nat := [32, 60, 32]
abbrev two : List Nat := [32, 32]
abbrev so : List Nat := [115, 111]
theorem leq_eq : (Str.ofString " <= ") = S leq := by decide +kernel
theorem slt_eq : (Str.ofString " < ") = S slt := by decide +kernel
theorem two_eq : (Str.ofString "  ") = S two := by decide +kernel
theorem so_eq : (Str.ofString "so") = S so := by decide +kernel
theorem nl_eq : (Str.ofString "\n") = S [10] := by decide +kernel
theorem nil_eq : (Str.ofString "") = S [] := by decide +kernel
theorem cat (a b : List Nat) : S a ++ S b = S (a ++ b) := SX.S_cat a b
theorem slen (a : List Nat) : (S a).length = a.length := SX.S_len a
def Tr.lines : Tr → List (List Nat)
  | .leaf => [so]
  | .node l r a b => ((([(l ++ leq) ++ r] ++ a.lines.map (two ++ ·)) ++ [(r ++ slt) ++ l]) ++ b.lines.map (two ++ ·))
def Tr.dep : Tr → Nat
  | .leaf => 0
  | .node _ _ a b => max a.dep b.dep + 1
def Tr.sz : Tr → Nat
  | .leaf => 0
  | .node _ _ a b => a.sz + b.sz + 1
/-- a side of a comparison -/
structure Sd (l : List Nat) : Prop where
  ne : l ≠ []
  len : l.length ≤ 100
  chars : ∀ c ∈ l, 32 ≤ c ∧ c ≤ 126 ∧ c ≠ 60 ∧ c ≠ 61
  hd : l.head? ≠ some 32
  la : l.getLast? ≠ some 32
def Tr.ok : Tr → Prop
  | .leaf => True
  | .node l r a b => Sd l ∧ Sd r ∧ a.ok ∧ b.ok
theorem Tr.lines_len : ∀ t : Tr, t.lines.length = 3 * t.sz + 1
  | .leaf => rfl
  | .node l r a b => by
    have h1 := Tr.lines_len a
    have h2 := Tr.lines_len b
    simp only [Tr.lines, Tr.sz, List.length_append, List.length_map, List.length_cons, List.length_nil, h1, h2]
    omega
/-- of every line: its signs and its length -/
theorem Tr.lines_ok : ∀ (t : Tr), t.ok → ∀ x ∈ t.lines, (∀ c ∈ x, 32 ≤ c ∧ c ≤ 126) ∧ x.length ≤ 204 + 2 * t.dep
  | .leaf, _, x, hx => by
    have e : x = so := by simpa [Tr.lines] using hx
    subst e
    exact ⟨by decide, by show 2 ≤ 204 + 2 * 0; decide⟩
  | .node l r a b, ⟨hl, hr, ha, hb⟩, x, hx => by
    have cl : ∀ c ∈ l, 32 ≤ c ∧ c ≤ 126 := fun c h => ⟨(hl.chars c h).1, (hl.chars c h).2.1⟩
    have cr : ∀ c ∈ r, 32 ≤ c ∧ c ≤ 126 := fun c h => ⟨(hr.chars c h).1, (hr.chars c h).2.1⟩
    have ll := hl.len
    have lr := hr.len
    have dq : ∀ c ∈ leq, 32 ≤ c ∧ c ≤ 126 := by decide
    have ds : ∀ c ∈ slt, 32 ≤ c ∧ c ≤ 126 := by decide
    have dt : ∀ c ∈ two, 32 ≤ c ∧ c ≤ 126 := by decide
    have hd : (Tr.node l r a b).dep = max a.dep b.dep + 1 := rfl
    simp only [Tr.lines, List.mem_append, List.mem_singleton, List.mem_map] at hx
    rcases hx with ((rfl | ⟨y, hy, rfl⟩) | rfl) | ⟨y, hy, rfl⟩
    · refine ⟨fun c hc => ?_, by simp only [List.length_append, List.length_cons, List.length_nil]; omega⟩
      simp only [List.mem_append] at hc
      rcases hc with (h | h) | h
      · exact cl c h
      · exact dq c h
      · exact cr c h
    · obtain ⟨h1, h2⟩ := Tr.lines_ok a ha y hy
      refine ⟨fun c hc => ?_, by rw [List.length_append]; simp only [List.length_cons, List.length_nil]; omega⟩
      simp only [List.mem_append] at hc
      rcases hc with h | h
      · exact dt c h
      · exact h1 c h
    · refine ⟨fun c hc => ?_, by simp only [List.length_append, List.length_cons, List.length_nil]; omega⟩
      simp only [List.mem_append] at hc
      rcases hc with (h | h) | h
      · exact cr c h
      · exact ds c h
      · exact cl c h
    · obtain ⟨h1, h2⟩ := Tr.lines_ok b hb y hy
      refine ⟨fun c hc => ?_, by rw [List.length_append]; simp only [List.length_cons, List.length_nil]; omega⟩
      simp only [List.mem_append] at hc
      rcases hc with h | h
      · exact dt c h
      · exact h1 c h
theorem Tr.dep_le : ∀ t : Tr, t.dep ≤ t.sz
  | .leaf => Nat.le_refl _
  | .node l r a b => by
    have h1 := Tr.dep_le a
    have h2 := Tr.dep_le b
    show max a.dep b.dep + 1 ≤ a.sz + b.sz + 1
    omega
/-- a tree stands at v -/
inductive TrAt (H : Hp) : V → Tr → Prop where
  | leaf {p : Addr} : H p = some (.tup []) → TrAt H (.ref p) .leaf
  | node {p : Addr} {l r : List Nat} {va vb : V} {a b : Tr} : H p = some (.tup [.str (S l), .str (S r), va, vb]) → TrAt H va a → TrAt H vb b → TrAt H (.ref p) (.node l r a b)
theorem TrAt.mono {H H' : Hp} (s : Same H H') {v : V} {t : Tr} (h : TrAt H v t) : TrAt H' v t := by
  induction h with
  | leaf e => exact .leaf (s _ _ e)
  | node e _ _ ih1 ih2 => exact .node (s _ _ e) ih1 ih2
theorem TrAt.hid {H : Hp} {a : Addr} (f : Fd H a) {v : V} {t : Tr} (h : TrAt H v t) : TrAt (KW.hid a H) v t := by
  induction h with
  | leaf e => exact .leaf (hid_of (f.neT e) e)
  | node e _ _ ih1 ih2 => exact .node (hid_of (f.neT e) e) ih1 ih2
def Tr.data : Tr → PyData
  | .leaf => .tuple []
  | .node l r a b => .tuple [.str (S l), .str (S r), a.data, b.data]
theorem TrAt.dp {K : PySem.W.Frag} {H : Hp} {v : V} {t : Tr} (h : TrAt H v t) : Dp K H v t.data := by
  induction h with
  | leaf e => exact .tup (SqT.of e) .nil
  | node e _ _ ih1 ih2 => exact .tup (SqT.of e) (.cons (.str _) (.cons (.str _) (.cons ih1 (.cons ih2 .nil))))
theorem sd_strOk {l : List Nat} (h : Sd l) : PyData.strOk (S l) = true := by
  unfold PyData.strOk
  rw [← Array.all_toList, List.all_eq_true]
  intro c hc
  have h1 := h.chars c hc
  simp
  omega
theorem Tr.canLay : ∀ t : Tr, t.ok → t.data.canLay0 = true
  | .leaf, _ => rfl
  | .node l r a b, ⟨hl, hr, ha, hb⟩ => by
    have h1 := Tr.canLay a ha
    have h2 := Tr.canLay b hb
    simp only [Tr.data, PyData.canLay0, PyData.canLayAll0, sd_strOk hl, sd_strOk hr, h1, h2, Bool.and_self, Bool.true_and, Bool.and_true]
theorem Tr.depth : ∀ t : Tr, t.data.depth ≤ t.dep + 2
  | .leaf => by simp [Tr.data, PyData.depth, PyData.depthAll, Tr.dep]
  | .node l r a b => by
    have h1 := Tr.depth a
    have h2 := Tr.depth b
    simp only [Tr.data, PyData.depth, PyData.depthAll, Tr.dep]
    omega
theorem Tr.shaped {t : Tr} (h : t.ok) (hd : t.dep ≤ 60) : SeqAt.shaped t.data = true := by
  unfold SeqAt.shaped
  rw [t.canLay h, Bool.true_and]
  have := t.depth
  exact decide_eq_true (by omega)
theorem Tr.eqv_leaf : PyData.eqv Tr.leaf.data (.tuple []) = true := by simp [Tr.data, PyData.eqv, PyData.eqvAll]
theorem Tr.eqv_node (l r : List Nat) (a b : Tr) : PyData.eqv (Tr.node l r a b).data (.tuple []) = false := by simp [Tr.data, PyData.eqv, PyData.eqvAll]
end KW

/-! ## trees: tree_lines, show_tree -/
namespace KW
open PySem PySem.Spec PyProof.Rows L2
theorem sum_le {α : Type} (f : α → Nat) (m : Nat) : ∀ l : List α, (∀ x ∈ l, f x ≤ m) → (l.map f).sum ≤ l.length * m
  | [], _ => by simp
  | x :: r, h => by
    have h1 := sum_le f m r fun y hy => h y (List.mem_cons_of_mem _ hy)
    have h2 := h x (List.mem_cons_self ..)
    rw [List.map_cons, List.sum_cons, List.length_cons, Nat.succ_mul]
    omega
def indV : V → V
  | .str z => V.str (S two ++ z)
  | v => v
theorem LS_map_ind (ls : List (List Nat)) : (LS ls).map indV = LS (ls.map (two ++ ·)) := by
  rw [LS, LS, List.map_map, List.map_map]
  refine List.map_congr_left fun l _ => ?_
  show V.str (S two ++ S l) = V.str (S (two ++ l))
  rw [cat]
theorem LS_app (a b : List (List Nat)) : LS a ++ LS b = LS (a ++ b) := (List.map_append ..).symm
section
variable {P : Program} {w : World} {K : PySem.W.Frag} {mg : Str → Option Value} {base : Heap}
abbrev s_tree_lines : Stmt := topS 4
theorem sc_tree_lines : FnScope ["told", "found", "left", "right", "one", "other", "line"] ["told"] (defScope s_tree_lines) := ⟨rfl, rfl, rfl, by decide +kernel, rfl, by decide +kernel, by decide +kernel⟩
def spTL (n : Nat) : Sp := fun vs H Q _ => ∃ (v : V) (t : Tr), vs = [v] ∧ TrAt H v t ∧ t.ok ∧ t.dep < n ∧ t.sz ≤ 60 ∧
  ∀ (p : Addr) (H' : Hp), H p = none → Same H H' → H' p = some (.lst (LS t.lines)) → Q (.ref p) H'
theorem ok_tree_lines (B : Bi mg) (F : Df K mg "tree_lines" s_tree_lines ["told"]) : ∀ n : Nat, C8.Cal P w K mg base n "tree_lines" (spTL n) []
  | 0 => F.never fun vs H Q E h => by
      obtain ⟨v, t, _, _, _, h, _⟩ := h
      exact absurd h (Nat.not_lt_zero _)
  | n + 1 => by
    have Gtree_lines := ok_tree_lines B F n
    refine F.cal sc_tree_lines (fun vs H Q E h => ?_) (fun f cdv A outer s H vs Q E hr h => ?_)
    · obtain ⟨v, t, rfl, _⟩ := h
      rfl
    · obtain ⟨v, t, rfl, hT, hok, hdep, hsz, q⟩ := h
      refine ⟨_, (pss_cons (ps_if (pt_cmpR (kk_eqD K rfl hr.units) (pv 0) (pe_tup pa_nil) (nomark _)) (pss_one (ps_ret (pe_lst (pa_cons pe_str pa_nil)))) pss_nil)
      (pss_cons (ps_asg (pv 0) (pg_tup rfl (pgs_cons (pg_name (i := 2) sc_tree_lines.nd rfl (Or.inl rfl)) (pgs_cons (pg_name (i := 3) sc_tree_lines.nd rfl (Or.inl rfl)) (pgs_cons (pg_name (i := 4) sc_tree_lines.nd rfl (Or.inl rfl)) (pgs_cons (pg_name (i := 5) sc_tree_lines.nd rfl (Or.inl rfl)) pgs_nil))))))
      (pss_cons (ps_set (i := 1) sc_tree_lines.nd rfl (Or.inl rfl) (pe_lst (pa_cons (pe_op op_add_str (pe_op op_add_str (pv 2) pe_str) (pv 3)) pa_nil)))
      (pss_cons (ps_expr (kk_bm K rfl PySem.F.plainAttrs_list PySem.F.slot_list_extend PySem.F.type_list_extend mt_extend (pv 1) (pa_cons (pe_lc (own := [("line", 6)]) (g := gName 6) (tt := tYes) rfl sc_tree_lines.nd (kk_iList K rfl (C8.pe_c Gtree_lines hr (Nat.le_refl _) rfl (pa_cons (pv 4) pa_nil))) (blkOk_by (own := [("line", 6)]) (N := ["told", "found", "left", "right", "one", "other", "line"]) (sc := defScope s_tree_lines) (by decide +kernel)) (fun _ _ _ _ _ => (pg_name (i := 6) sc_tree_lines.nd rfl (Or.inl rfl))) (fun _ _ _ _ _ => pts_nil) (fun _ _ _ _ _ => (pe_op op_add_str pe_str (pv 6)))) pa_nil)))
      (pss_cons (ps_expr (kk_bm K rfl PySem.F.plainAttrs_list PySem.F.slot_list_append PySem.F.type_list_append mt_append (pv 1) (pa_cons (pe_op op_add_str (pe_op op_add_str (pv 3) pe_str) (pv 2)) pa_nil)))
      (pss_cons (ps_expr (kk_bm K rfl PySem.F.plainAttrs_list PySem.F.slot_list_extend PySem.F.type_list_extend mt_extend (pv 1) (pa_cons (pe_lc (own := [("line", 6)]) (g := gName 6) (tt := tYes) rfl sc_tree_lines.nd (kk_iList K rfl (C8.pe_c Gtree_lines hr (Nat.le_refl _) rfl (pa_cons (pv 5) pa_nil))) (blkOk_by (own := [("line", 6)]) (N := ["told", "found", "left", "right", "one", "other", "line"]) (sc := defScope s_tree_lines) (by decide +kernel)) (fun _ _ _ _ _ => (pg_name (i := 6) sc_tree_lines.nd rfl (Or.inl rfl))) (fun _ _ _ _ _ => pts_nil) (fun _ _ _ _ _ => (pe_op op_add_str pe_str (pv 6)))) pa_nil)))
      (pss_one (ps_ret (pv 1))))))))), ?_⟩
      have hd60 : t.dep ≤ 60 := Nat.le_trans t.dep_le hsz
      refine ⟨_, rfl, Nat.zero_le _, fun e0 he0 => ?_⟩
      have s0 : Same H (upd H e0 (.tup [])) := same_upd he0
      refine ⟨t.data, .tuple [], (hT.mono s0).dp, .tup (SqT.of upd_same) .nil, t.shaped hok hd60, by decide, _, rfl, ?_⟩
      cases hT with
      | leaf e =>
        rw [Tr.eqv_leaf]
        refine iteT ⟨(by show 1 ≤ sizeLine; decide), fun p hp => ?_⟩
        refine q p _ (s0.free hp) (s0.trans (same_upd hp)) ?_
        rw [upd_same, so_eq]
        rfl
      | @node pt l r va vb a b e ha hb =>
        rw [Tr.eqv_node]
        obtain ⟨hl, hr', hoa, hob⟩ := hok
        have dd : (Tr.node l r a b).dep = max a.dep b.dep + 1 := rfl
        have ss : (Tr.node l r a b).sz = a.sz + b.sz + 1 := rfl
        have ll := hl.len
        have lr := hr'.len
        have big : ∀ m : Nat, m ≤ 10000 → m ≤ sizeLine := fun m h => Nat.le_trans h (by decide)
        refine iteF ?_
        refine ⟨_, rfl, pt, _, rfl, SqT.of (s0 _ _ e), rfl, _, _, rfl, _, _, rfl, _, _, rfl, _, _, rfl, rfl, ?_⟩
        refine ⟨_, rfl, _, _, rfl, rfl, big _ (by rw [leq_eq, slen, slen]; simp; omega), _, rfl, _, _, rfl, rfl, big _ (by rw [leq_eq, cat, slen, slen]; simp; omega), big _ (by simp), fun p hp => ?_⟩
        rw [leq_eq, cat, cat]
        have s1 := same_upd (o := .lst [V.str (S (l ++ leq ++ r))]) hp
        -- found.extend(['  ' + line for line in tree_lines(one)])
        refine ⟨_, rfl, .inl ⟨rfl, _, SqL.of upd_same⟩, _, rfl, va, a, rfl, (ha.mono s0).mono s1, hoa, by omega, by omega, fun c H2 hc s2 hcv => ⟨c, rfl, ⟨_, SqL.of hcv⟩, fun D hD => ?_⟩⟩
        refine lc_pure (K := K) indV (SqL.of hcv) hD (big _ (by rw [List.length_map, Tr.lines_len]; omega)) (fun _ => rfl) (fun x hx acc Qv hq => ?_) ?_
        · obtain ⟨y, hy, rfl⟩ := List.mem_map.mp hx
          have hy' := a.lines_ok hoa y hy
          refine ⟨_, rfl, _, _, rfl, rfl, big _ (by rw [two_eq, slen, slen]; simp; omega), ?_⟩
          rw [two_eq]
          exact hq
        rw [LS_map_ind]
        have hp2 := s2 _ _ (upd_same (H := upd H e0 (.tup [])) (a := p) (o := .lst [V.str (S (l ++ leq ++ r))]))
        have hpD : p ≠ D := ne_of_none hp2 hD
        have s3 := same_upd (o := .lst (LS (a.lines.map (two ++ ·)))) hD
        refine ⟨p, D, [V.str (S (l ++ leq ++ r))], _, rfl, rfl, by rw [upd_ne hpD]; exact hp2, upd_same, big _ (by rw [List.length_map, List.length_map, Tr.lines_len]; simp; omega), ?_⟩
        have e1 : [V.str (S (l ++ leq ++ r))] ++ LS (a.lines.map (two ++ ·)) = LS ([l ++ leq ++ r] ++ a.lines.map (two ++ ·)) := by rw [← LS_app]; rfl
        rw [e1]
        -- found.append(right + ' < ' + left)
        refine ⟨_, rfl, .inl ⟨rfl, _, SqL.of upd_same⟩, _, rfl, _, _, rfl, rfl, big _ (by rw [slt_eq, slen, slen]; simp; omega), _, rfl, _, _, rfl, rfl, big _ (by rw [slt_eq, cat, slen, slen]; simp; omega), p, _, _, rfl, rfl, upd_same, Nat.lt_of_le_of_lt (m := 10000) (by rw [List.length_map, List.length_append, List.length_map, Tr.lines_len]; simp; omega) (by decide), ?_⟩
        rw [slt_eq, cat, cat, LS_snoc, upd_upd]
        -- what stands from the start
        have k0 : Same H H2 := s0.trans (s1.trans s2)
        have hpH : H p = none := s0.free hp
        have k3 : ∀ o : HO, Same H (upd (upd H2 D (.lst (LS (a.lines.map (two ++ ·))))) p o) := fun o b' u hb' => by
          rw [upd_ne (ne_of_none hb' hpH)]
          exact s3 _ _ (k0 _ _ hb')
        -- found.extend(['  ' + line for line in tree_lines(other)])
        refine ⟨_, rfl, .inl ⟨rfl, _, SqL.of upd_same⟩, _, rfl, vb, b, rfl, hb.mono (k3 _), hob, by omega, by omega, fun c2 H4 hc2 s4 hcv2 => ⟨c2, rfl, ⟨_, SqL.of hcv2⟩, fun D2 hD2 => ?_⟩⟩
        refine lc_pure (K := K) indV (SqL.of hcv2) hD2 (big _ (by rw [List.length_map, Tr.lines_len]; omega)) (fun _ => rfl) (fun x hx acc Qv hq => ?_) ?_
        · obtain ⟨y, hy, rfl⟩ := List.mem_map.mp hx
          have hy' := b.lines_ok hob y hy
          refine ⟨_, rfl, _, _, rfl, rfl, big _ (by rw [two_eq, slen, slen]; simp; omega), ?_⟩
          rw [two_eq]
          exact hq
        rw [LS_map_ind]
        have hp4 := s4 _ _ (upd_same (H := upd H2 D (.lst (LS (a.lines.map (two ++ ·))))) (a := p) (o := .lst (LS (([l ++ leq ++ r] ++ a.lines.map (two ++ ·)) ++ [r ++ slt ++ l]))))
        have hpD2 : p ≠ D2 := ne_of_none hp4 hD2
        refine ⟨p, D2, _, _, rfl, rfl, by rw [upd_ne hpD2]; exact hp4, upd_same, big _ (by rw [List.length_map, List.length_map, List.length_append, List.length_append, List.length_map, List.length_map, Tr.lines_len, Tr.lines_len]; simp; omega), ?_⟩
        rw [LS_app]
        refine ⟨_, rfl, q p _ hpH (fun b' u hb' => ?_) upd_same⟩
        rw [upd_ne (ne_of_none hb' hpH)]
        exact same_upd hD2 _ _ (s4 _ _ (k3 _ _ _ hb'))
abbrev s_show_tree : Stmt := topS 5
theorem sc_show_tree : FnScope ["told"] ["told"] (defScope s_show_tree) := ⟨rfl, rfl, rfl, by decide +kernel, rfl, by decide +kernel, by decide +kernel⟩
def Tr.text (t : Tr) : List Nat := TL.joinL [10] t.lines
def spShow (n : Nat) : Sp := fun vs H Q _ => ∃ (v : V) (t : Tr), vs = [v] ∧ TrAt H v t ∧ t.ok ∧ t.dep < n ∧ t.sz ≤ 60 ∧ ∀ (H' : Hp), Same H H' → Q (.str (S t.text)) H'
theorem ok_show_tree {n : Nat} (B : Bi mg) (F : Df K mg "show_tree" s_show_tree ["told"]) (Gtree_lines : C8.Cal P w K mg base n "tree_lines" (spTL n) []) : C8.Cal P w K mg base (n + 1) "show_tree" (spShow n) [] := by
  refine F.cal sc_show_tree (fun vs H Q E h => ?_) (fun f cdv A outer s H vs Q E hr h => ?_)
  · obtain ⟨v, t, rfl, _⟩ := h
    rfl
  · obtain ⟨v, t, rfl, hT, hok, hdep, hsz, q⟩ := h
    refine ⟨_, (pss_one (ps_ret (kk_bm K rfl PySem.F.plainAttrs_str PySem.F.slot_str_join PySem.F.type_str_join (kk_join K rfl) pe_str (pa_cons (C8.pe_c Gtree_lines hr (Nat.le_refl _) rfl (pa_cons (pv 0) pa_nil)) pa_nil)))), ?_⟩
    refine ⟨rfl, _, rfl, v, t, rfl, hT, hok, hdep, hsz, fun p H' hp s hpv => ?_⟩
    have ej : Txt.join (Str.ofString "\n") (t.lines.map S) = S t.text := by
      rw [nl_eq]
      exact SX.join_S [10] t.lines
    refine ⟨_, p, t.lines.map S, rfl, rfl, .inl (SqL.of (by rw [hpv, List.map_map]; rfl)), ?_, ?_⟩
    · have h1 := sum_le (fun l : List Nat => l.length) (204 + 2 * t.dep) t.lines fun x hx => (t.lines_ok hok x hx).2
      have h2 := t.dep_le
      have h3 := t.lines_len
      have h4 : (Str.ofString "\n").length = 1 := by decide +kernel
      have h5 : ((t.lines.map S).map (·.length)) = t.lines.map (fun l : List Nat => l.length) := SX.lens t.lines
      rw [List.length_map, h4, h5, h3]
      rw [h3] at h1
      have h6 : (3 * t.sz + 1) * (204 + 2 * t.dep) ≤ 181 * 324 := Nat.mul_le_mul (by omega) (by omega)
      omega
    · rw [ej]
      exact q _ s
end
end KW

/-! ## trees read from right texts -/
namespace KW
open PySem PySem.Spec PyProof.Rows L2
/-- a reader's attributes -/
def tf (L : Addr) (i : Int) : List (Str × V) := [("lines", .ref L), ("at", .int i)]
theorem ne_la : ¬ (("lines" : Str) = "at") := by decide +kernel
theorem tf_lines (L : Addr) (i : Int) : (tf L i).lookup ("lines" : Str) = some (.ref L) := rfl
theorem tf_at (L : Addr) (i : Int) : (tf L i).lookup ("at" : Str) = some (.int i) := by
  have h : (("at" : Str) == ("lines" : Str)) = false := by decide +kernel
  simp only [tf, List.lookup, h]
  rfl
theorem tf_put (L : Addr) (i j : Int) : putF "at" (.int j) (tf L i) = tf L j := by
  show (if ("lines" : Str) = "at" then _ else (("lines" : Str), V.ref L) :: (if ("at" : Str) = "at" then _ else _)) = _
  rw [if_neg ne_la, if_pos rfl]
  rfl
theorem tf_mk (L : Addr) (i : Int) : putF "at" (.int i) (putF "lines" (.ref L) []) = tf L i := by
  show (if ("lines" : Str) = "at" then _ else (("lines" : Str), V.ref L) :: putF "at" (.int i) []) = _
  rw [if_neg ne_la]
  rfl
theorem tf_no (L : Addr) (i : Int) {m : Str} (h1 : (m == ("lines" : Str)) = false) (h2 : (m == ("at" : Str)) = false) : (tf L i).lookup m = none := by
  simp only [tf, List.lookup, h1, h2]
theorem starts (a x : List Nat) : Txt.startswith (S (a ++ x)) (S a) = true := by
  unfold Txt.startswith
  rw [StrLaws.subAt_eq, slen, slen, List.drop_zero]
  simp
theorem free_lt : ∀ {p : List Nat}, 60 ∉ p → SX.free leq p = true
  | [], _ => rfl
  | [c], h => by
    show (!(TL.pre leq (c :: ([] ++ leq))) && true) = true
    rw [Bool.and_true, Bool.not_eq_true']
    unfold TL.pre
    cases e : (List.take leq.length (c :: ([] ++ leq)) == leq) with
    | false => rfl
    | true =>
      have e' := eq_of_beq e
      simp at e'
  | c :: d :: r, h => by
    have hd : d ≠ 60 := fun e => h (by rw [e]; simp)
    have ih := free_lt (p := d :: r) fun hm => h (List.mem_cons_of_mem _ hm)
    show (!(TL.pre leq (c :: ((d :: r) ++ leq))) && SX.free leq (d :: r)) = true
    rw [ih, Bool.and_true, Bool.not_eq_true']
    unfold TL.pre
    cases e : (List.take leq.length (c :: ((d :: r) ++ leq)) == leq) with
    | false => rfl
    | true =>
      have e' := eq_of_beq e
      simp at e'
      exact absurd e'.2.1 hd
theorem spl_lt {p : List Nat} (h : 60 ∉ p) : TL.spl leq 0 [] p = [p] := by
  have e := TL.spl_last (S := leq) (p := p) (acc := []) fun i _ => by
    unfold TL.pre
    cases e : (List.take leq.length (p.drop i) == leq) with
    | false => rfl
    | true =>
      have e' := eq_of_beq e
      have hm : 60 ∈ List.take leq.length (p.drop i) := by rw [e']; decide
      exact absurd (List.mem_of_mem_drop (List.mem_of_mem_take hm)) h
  exact e
theorem Sd.no60 {l : List Nat} (h : Sd l) : 60 ∉ l := fun hm => (h.chars 60 hm).2.2.1 rfl
theorem Sd.no61 {l : List Nat} (h : Sd l) : 61 ∉ l := fun hm => (h.chars 61 hm).2.2.2 rfl
theorem split_sides {l r : List Nat} (hl : 60 ∉ l) (hr : 60 ∉ r) : Txt.split (S ((l ++ leq) ++ r)) (S leq) = [S l, S r] := by
  rw [SX.split_S (by decide) (by decide), List.append_assoc, SX.spl_free r (by decide) (free_lt hl), spl_lt hr]
  rfl
section
variable {P : Program} {w : World} {K : PySem.W.Frag} {mg : Str → Option Value} {base : Heap}
abbrev s_is_side : Stmt := topS 6
theorem sc_is_side : FnScope ["text"] ["text"] (defScope s_is_side) := ⟨rfl, rfl, rfl, by decide +kernel, rfl, by decide +kernel, by decide +kernel⟩
def spSide : Sp := fun vs H Q _ => ∃ l : List Nat, vs = [.str (S l)] ∧ Sd l ∧ Q (.bl true) H
theorem ok_is_side {k : Nat} (F : Df K mg "is_side" s_is_side ["text"]) : C8.Cal P w K mg base (k + 1) "is_side" spSide [] := by
  refine F.cal sc_is_side (fun vs H Q E h => ?_) (fun f cdv A outer s H vs Q E hr h => ?_)
  · obtain ⟨l, rfl, _⟩ := h
    rfl
  · obtain ⟨l, rfl, hl, q⟩ := h
    refine ⟨_, (pss_cons (ps_if (PW.pt (pw_or (pt_cmpR op_eq (pv 0) pe_str (nomark _)) (pw_or (pt_cmpR op_in_sign pe_str (pv 0) rfl) (pw_or1 (pt_cmpR op_in_sign pe_str (pv 0) rfl))))) (pss_one (ps_ret pe_bl)) pss_nil)
      (pss_one (ps_ret (pe_and (pe_cmpR op_ne (pe_ix ix_str (pv 0) pe_int (fun _ _ => rfl)) pe_str (nomark _)) (pe_one (pe_cmpR op_ne (pe_ix ix_str (pv 0) (pe_un un_neg pe_int) (fun _ _ => rfl)) pe_str (nomark _))))))), ?_⟩
    have d1 : decide (V.str (S l) = V.str (Str.ofString "")) = false := decide_eq_false fun e => hl.ne (by
      have e1 : S l = S [] := (V.str.inj e).trans nil_eq
      exact SX.S_inj e1)
    have d2 : decide (60 ∈ (S l).cps.toList) = false := decide_eq_false hl.no60
    have d3 : decide (61 ∈ (S l).cps.toList) = false := decide_eq_false hl.no61
    obtain ⟨c, t, rfl⟩ := List.exists_cons_of_ne_nil hl.ne
    have big : (S (c :: t)).length ≤ sizeLine := Nat.le_trans (by rw [slen]; exact hl.len) (show 100 ≤ sizeLine by decide)
    have hc : c ≠ 32 := fun e => hl.hd (by rw [e]; rfl)
    have hlast : ∃ (b : List Nat) (z : Nat), c :: t = b ++ [z] ∧ z ≠ 32 := by
      refine ⟨(c :: t).dropLast, (c :: t).getLast (List.cons_ne_nil _ _), (List.dropLast_concat_getLast _).symm, fun e => hl.la ?_⟩
      rw [List.getLast?_eq_getLast (List.cons_ne_nil c t), e]
    obtain ⟨b, z, hb, hz⟩ := hlast
    have n1 : (!decide (V.str (S [c]) = V.str (Str.ofString " "))) = true := by
      rw [decide_eq_false fun e => hc (by
        have e1 : S [c] = S [32] := (V.str.inj e).trans (by decide +kernel)
        have := SX.S_inj e1
        simpa using this)]
      rfl
    have n2 : (!decide (V.str (S [z]) = V.str (Str.ofString " "))) = true := by
      rw [decide_eq_false fun e => hz (by
        have e1 : S [z] = S [32] := (V.str.inj e).trans (by decide +kernel)
        have := SX.S_inj e1
        simpa using this)]
      rfl
    refine ⟨_, rfl, rfl, _, rfl, ?_⟩
    rw [d1]
    refine iteF ⟨_, rfl, 60, S (c :: t), rfl, rfl, _, rfl, ?_⟩
    rw [d2]
    refine iteF ⟨_, rfl, 61, S (c :: t), rfl, rfl, _, rfl, ?_⟩
    rw [d3]
    refine iteF ?_
    refine ⟨_, rfl, S (c :: t), 0, c, rfl, rfl, big, atI_nat (j := 0) rfl, rfl, true, congrArg V.bl n1, iteT ?_⟩
    refine ⟨_, rfl, _, rfl, S (c :: t), -1, z, rfl, rfl, big, by show atI (c :: t) (-1) = _; rw [hb]; exact atI_last b z, rfl, ?_⟩
    have e2 : (V.bl (!decide (V.str (⟨#[z]⟩ : Str) = V.str (Str.ofString " ")))) = V.bl true := congrArg V.bl n2
    rw [e2]
    exact q
/-- a reader stands at p: its lines at L, its place i -/
structure RdAt (C : Addr) (H : Hp) (p L : Addr) (i : Nat) (ls : List (List Nat)) : Prop where
  ob : ∃ dx, H p = some (.ins C dx (tf L i))
  lst : H L = some (.lst (LS ls))
theorem RdAt.ne {C : Addr} {H : Hp} {p L : Addr} {i : Nat} {ls : List (List Nat)} (r : RdAt C H p L i ls) : L ≠ p := by
  obtain ⟨dx, e⟩ := r.ob
  exact ne_of r.lst e (by intro z; cases z)
/-- what the class has -/
structure TtC (K : PySem.W.Frag) (C : Addr) : Prop where
  cl : Cls K C
  nL : NoAttr K C "lines"
  nA : NoAttr K C "at"
abbrev s_TreeText___init__ : Stmt := inClass (topS 7) 0
theorem sc_TreeText___init__ : FnScope ["self", "text"] ["self", "text"] (defScope s_TreeText___init__) := ⟨rfl, rfl, rfl, by decide +kernel, rfl, by decide +kernel, by decide +kernel⟩
def spTtI (C : Addr) : Sp := fun vs H Q _ => ∃ (p dx : Addr) (x : List Nat), vs = [.ref p, .str (S x)] ∧ H p = some (.ins C dx []) ∧ x.length ≤ 1000000 ∧
  ∀ (L : Addr) (H' : Hp), H L = none → RdAt C H' p L 0 (TL.spl [10] 0 [] x) → (∀ b o, b ≠ p → H b = some o → H' b = some o) → Q .non H'
theorem ok_TtI {k : Nat} {C : Addr} (T : TtC K C) (F : Dc K mg C "TreeText" "TreeText.__init__" s_TreeText___init__ ["self", "text"]) : C8.Mak P w K mg base (k + 1) "TreeText" C (spTtI C) [] := by
  refine F.mak sc_TreeText___init__ (fun vs H Q E h => ?_) (fun f cdv A outer s H vs Q E hr h => ?_)
  · obtain ⟨p, dx, x, rfl, _⟩ := h
    rfl
  · obtain ⟨p, dx, x, rfl, hp, hx, q⟩ := h
    refine ⟨_, (pss_cons (ps_fld (pv 0) (kk_bm K rfl PySem.F.plainAttrs_str PySem.F.slot_str_split PySem.F.type_str_split mt_split (pv 1) (pa_cons pe_str pa_nil)) rfl)
      (pss_one (ps_fld (pv 0) pe_int rfl))), ?_⟩
    refine ⟨_, rfl, rfl, _, _, rfl, rfl, by decide +kernel, Nat.le_trans (Nat.add_le_add_right (by rw [slen]; exact hx) 2) (by decide), fun L hL => ?_⟩
    have npL : p ≠ L := ne_of_none hp hL
    have e1 : (Txt.split (S x) (Str.ofString "\n")).map V.str = LS (TL.spl [10] 0 [] x) := by
      rw [nl_eq, SX.split_S (by decide) (by decide), List.map_map]
      rfl
    rw [e1]
    refine ⟨_, rfl, p, C, dx, [], rfl, by rw [upd_ne npL]; exact hp, T.cl, T.nL, by decide, _, rfl, p, C, dx, _, rfl, upd_same, T.cl, T.nA, by show 1 < 1000; decide, ?_⟩
    refine q L _ hL ⟨⟨dx, Eq.trans upd_same (congrArg (fun z => some (HO.ins C dx z)) (tf_mk L 0))⟩, ?_⟩ fun b o hb e => ?_
    · rw [upd_ne npL.symm, upd_ne npL.symm, upd_same]
    · rw [upd_ne hb, upd_ne hb]
      exact same_upd hL _ _ e
abbrev s_TreeText_line : Stmt := inClass (topS 7) 1
theorem sc_TreeText_line : FnScope ["self", "ahead", "found"] ["self", "ahead"] (defScope s_TreeText_line) := ⟨rfl, rfl, rfl, by decide +kernel, rfl, by decide +kernel, by decide +kernel⟩
def spLine (C : Addr) : Sp := fun vs H Q _ => ∃ (p L : Addr) (i : Nat) (ls : List (List Nat)) (a x : List Nat), vs = [.ref p, .str (S a)] ∧ RdAt C H p L i ls ∧ ls[i]? = some (a ++ x) ∧ (a ++ x).length ≤ 1000 ∧
  ∀ (H' : Hp), RdAt C H' p L (i + 1) ls → (∀ b, b ≠ p → H' b = H b) → Q (.str (S x)) H'
theorem ok_line {k : Nat} {C : Addr} (B : Bi mg) (T : TtC K C) (F : Dm K C "line" "TreeText.line" s_TreeText_line ["self", "ahead"]) : C8.Met P w K mg base (k + 1) C "line" (spLine C) [] := by
  refine F.met sc_TreeText_line (fun vs H Q E h => ?_) (fun f cdv A outer s H vs Q E hr h => ?_)
  · obtain ⟨p, L, i, ls, a, x, rfl, _⟩ := h
    rfl
  · obtain ⟨p, L, i, ls, a, x, rfl, R, hi, hlen, q⟩ := h
    obtain ⟨⟨dx, hp⟩, hL⟩ := id R
    have hil : i < ls.length := (List.getElem?_eq_some_iff.mp hi).1
    refine ⟨_, (pss_cons (ps_if (pt_cmpR op_ge (kk_fld K rfl (pv 0) rfl) (pe_callB (kk_len K rfl) rfl B.len PySem.boot_len (pa_cons (kk_fld K rfl (pv 0) rfl) pa_nil)) (nomark _)) (pss_one ps_never) pss_nil)
      (pss_cons (ps_set (i := 2) sc_TreeText_line.nd rfl (Or.inl rfl) (pe_ix (kk_ixL K rfl) (kk_fld K rfl (pv 0) rfl) (kk_fld K rfl (pv 0) rfl) (fun _ _ => rfl)))
      (pss_cons (ps_if (pt_not (pt_val (kk_bm K rfl PySem.F.plainAttrs_str PySem.F.slot_str_startswith PySem.F.type_str_startswith mt_startswith (pv 2) (pa_cons (pv 1) pa_nil)))) (pss_one ps_never) pss_nil)
      (pss_cons (ps_fldaug (pv 0) pe_int in_add)
      (pss_one (ps_ret (pe_slice C8.sl_txt (pv 2) (po_some (pe_callB (kk_len K rfl) rfl B.len PySem.boot_len (pa_cons (pv 1) pa_nil))) po_none))))))), ?_⟩
    refine ⟨_, rfl, p, C, dx, _, _, rfl, hp, T.cl, T.nA, tf_at _ _, _, rfl, p, C, dx, _, _, rfl, hp, T.cl, T.nL, tf_lines _ _, _, _, rfl, .inl ⟨_, SqL.of hL, rfl⟩, _, _, rfl, rfl, _, rfl, ?_⟩
    rw [decide_eq_false (by rw [List.length_map]; omega)]
    refine iteF ?_
    refine ⟨_, rfl, p, C, dx, _, _, rfl, hp, T.cl, T.nL, tf_lines _ _, _, rfl, p, C, dx, _, _, rfl, hp, T.cl, T.nA, tf_at _ _, L, _, _, V.str (S (a ++ x)), rfl, rfl, SqL.of hL, atI_nat (by rw [List.getElem?_map, hi]; rfl), ?_⟩
    refine ⟨_, rfl, rfl, _, rfl, _, _, rfl, rfl, _, rfl, ?_⟩
    rw [starts]
    refine iteF ?_
    refine ⟨_, rfl, p, C, dx, _, _, rfl, hp, T.cl, T.nA, tf_at _ _, _, _, rfl, rfl, dx, _, hp, by show 2 < 1000; decide, ?_⟩
    have big : (S (a ++ x)).length ≤ sizeLine := Nat.le_trans (by rw [slen]; exact hlen) (show 1000 ≤ sizeLine by decide)
    have biga : (S a).length ≤ sizeLine := Nat.le_trans (by rw [slen]; rw [List.length_append] at hlen; omega) (show 1000 ≤ sizeLine by decide)
    refine ⟨_, rfl, _, rfl, _, _, rfl, ⟨biga, rfl⟩, _, rfl, S (a ++ x), rfl, big, ?_⟩
    rw [SX.from_app a x (by rw [slen])]
    refine q _ ⟨⟨dx, Eq.trans upd_same (congrArg (fun z => some (HO.ins C dx z)) (tf_put L i (i + 1)))⟩, ?_⟩ fun b hb => upd_ne hb
    rw [upd_ne R.ne]
    exact hL
abbrev s_TreeText_need : Stmt := inClass (topS 7) 2
theorem sc_TreeText_need : FnScope ["self", "fits"] ["self", "fits"] (defScope s_TreeText_need) := ⟨rfl, rfl, rfl, by decide +kernel, rfl, by decide +kernel, by decide +kernel⟩
def spNeed : Sp := fun vs H Q _ => ∃ (p : Addr), vs = [.ref p, .bl true] ∧ Q .non H
theorem ok_need {k : Nat} {C : Addr} (F : Dm K C "need" "TreeText.need" s_TreeText_need ["self", "fits"]) : C8.Met P w K mg base (k + 1) C "need" spNeed [] := by
  refine F.met sc_TreeText_need (fun vs H Q E h => ?_) (fun f cdv A outer s H vs Q E hr h => ?_)
  · obtain ⟨p, rfl, _⟩ := h
    rfl
  · obtain ⟨p, rfl, q⟩ := h
    refine ⟨_, (pss_one (ps_if (pt_not (pt_val (pv 1))) (pss_one ps_never) pss_nil)), ?_⟩
    exact ⟨_, rfl, _, rfl, iteF q⟩
end
end KW

/-! ## trees read: branch, read_tree -/
namespace KW
open PySem PySem.Spec PyProof.Rows L2
theorem TrAt.kb {H H' : Hp} {p : Addr} (k : KB p H H') (hne : ∀ q xs, H q = some (.tup xs) → q ≠ p) {v : V} {t : Tr} (h : TrAt H v t) : TrAt H' v t := by
  induction h with
  | leaf e => exact .leaf (k _ _ (hne _ _ e) e)
  | node e _ _ ih1 ih2 => exact .node (k _ _ (hne _ _ e) e) ih1 ih2
theorem RdAt.nt {C : Addr} {H : Hp} {p L : Addr} {i : Nat} {ls : List (List Nat)} (r : RdAt C H p L i ls) : ∀ q xs, H q = some (.tup xs) → q ≠ p := fun q xs e => by
  obtain ⟨dx, h⟩ := r.ob
  exact ne_of e h (by intro z; cases z)
theorem RdAt.new {C : Addr} {H : Hp} {p L c : Addr} {i : Nat} {ls : List (List Nat)} {o : HO} (r : RdAt C H p L i ls) (h : H c = none) : RdAt C (upd H c o) p L i ls := by
  obtain ⟨⟨dx, h1⟩, h2⟩ := r
  exact ⟨⟨dx, same_upd h _ _ h1⟩, same_upd h _ _ h2⟩
section
variable {P : Program} {w : World} {K : PySem.W.Frag} {mg : Str → Option Value} {base : Heap}
abbrev s_TreeText_branch : Stmt := inClass (topS 7) 3
theorem sc_TreeText_branch : FnScope ["self", "ahead", "line", "sides", "one", "left", "right"] ["self", "ahead"] (defScope s_TreeText_branch) := ⟨rfl, rfl, rfl, by decide +kernel, rfl, by decide +kernel, by decide +kernel⟩
def spBranch (C : Addr) (n : Nat) : Sp := fun vs H Q _ => ∃ (p L : Addr) (i : Nat) (ls pre post : List (List Nat)) (a : List Nat) (t : Tr), vs = [.ref p, .str (S a)] ∧ RdAt C H p L i ls ∧ t.ok ∧ t.dep < n ∧ t.sz ≤ 60 ∧
  ls = pre ++ (t.lines.map (a ++ ·) ++ post) ∧ pre.length = i ∧ a.length + 2 * t.dep ≤ 300 ∧
  ∀ (v : V) (H' : Hp), TrAt H' v t → RdAt C H' p L (i + t.lines.length) ls → KB p H H' → Q v H'
theorem ok_branch {C : Addr} (B : Bi mg) (T : TtC K C) (F : Dm K C "branch" "TreeText.branch" s_TreeText_branch ["self", "ahead"])
    (Gline0 : C8.Met P w K mg base 1 C "line" (spLine C) []) (Gneed0 : C8.Met P w K mg base 1 C "need" spNeed []) (Gis_side0 : C8.Cal P w K mg base 1 "is_side" spSide []) : ∀ n : Nat, C8.Met P w K mg base (n + 1) C "branch" (spBranch C n) []
  | 0 => by
      refine metMono (F.never fun vs H Q E h => ?_) (Nat.zero_le _)
      obtain ⟨p, L, i, ls, pre, post, a, t, _, _, _, h, _⟩ := h
      exact absurd h (Nat.not_lt_zero _)
  | n + 1 => by
    have Gbranch := ok_branch B T F Gline0 Gneed0 Gis_side0 n
    have Gline := metMono Gline0 (show 1 ≤ n + 1 by omega)
    have Gneed := metMono Gneed0 (show 1 ≤ n + 1 by omega)
    have Gis_side := calMono Gis_side0 (show 1 ≤ n + 1 by omega)
    refine F.met sc_TreeText_branch (fun vs H Q E h => ?_) (fun f cdv A outer s H vs Q E hr h => ?_)
    · obtain ⟨p, L, i, ls, pre, post, a, t, rfl, _⟩ := h
      rfl
    · obtain ⟨p, L, i, ls, pre, post, a, t, rfl, R, hok, hdep, hsz, hls, hpre, hal, q⟩ := h
      refine ⟨_, (pss_cons (ps_set (i := 2) sc_TreeText_branch.nd rfl (Or.inl rfl) (C8.pe_mt Gline hr (Nat.le_refl _) (pv 0) (pa_cons (pv 1) pa_nil)))
      (pss_cons (ps_if (pt_cmpR op_eq (pv 2) pe_str (nomark _)) (pss_one (ps_ret (pe_tup pa_nil))) pss_nil)
      (pss_cons (ps_set (i := 3) sc_TreeText_branch.nd rfl (Or.inl rfl) (kk_bm K rfl PySem.F.plainAttrs_str PySem.F.slot_str_split PySem.F.type_str_split mt_split (pv 2) (pa_cons pe_str pa_nil)))
      (pss_cons (ps_expr (C8.pe_mt Gneed hr (Nat.le_refl _) (pv 0) (pa_cons (pe_and (pe_cmpR op_eq (pe_callB (kk_len K rfl) rfl B.len PySem.boot_len (pa_cons (pv 3) pa_nil)) pe_int (nomark _)) (pe_and (C8.pe_c Gis_side hr (Nat.le_refl _) rfl (pa_cons (pe_ix (kk_ixL K rfl) (pv 3) pe_int (fun _ _ => rfl)) pa_nil)) (pe_one (C8.pe_c Gis_side hr (Nat.le_refl _) rfl (pa_cons (pe_ix (kk_ixL K rfl) (pv 3) (pe_un un_neg pe_int) (fun _ _ => rfl)) pa_nil))))) pa_nil)))
      (pss_cons (ps_asg (pv 3) (pg_unl rfl (pgs_cons (pg_name (i := 5) sc_TreeText_branch.nd rfl (Or.inl rfl)) (pgs_cons (pg_name (i := 6) sc_TreeText_branch.nd rfl (Or.inl rfl)) pgs_nil))))
      (pss_cons (ps_set (i := 4) sc_TreeText_branch.nd rfl (Or.inl rfl) (C8.pe_mt Gbranch hr (Nat.le_refl _) (pv 0) (pa_cons (pe_op op_add_str (pv 1) pe_str) pa_nil)))
      (pss_cons (ps_expr (C8.pe_mt Gneed hr (Nat.le_refl _) (pv 0) (pa_cons (pe_cmpR op_eq (C8.pe_mt Gline hr (Nat.le_refl _) (pv 0) (pa_cons (pv 1) pa_nil)) (pe_op op_add_str (pe_op op_add_str (pv 6) pe_str) (pv 5)) (nomark _)) pa_nil)))
      (pss_one (ps_ret (pe_tup (pa_cons (pv 5) (pa_cons (pv 6) (pa_cons (pv 4) (pa_cons (C8.pe_mt Gbranch hr (Nat.le_refl _) (pv 0) (pa_cons (pe_op op_add_str (pv 1) pe_str) pa_nil)) pa_nil)))))))))))))), ?_⟩
      have nl : ∀ j : Int, (tf L j).lookup ("line" : Str) = none := fun j => tf_no L j (by decide +kernel) (by decide +kernel)
      have nn : ∀ j : Int, (tf L j).lookup ("need" : Str) = none := fun j => tf_no L j (by decide +kernel) (by decide +kernel)
      have nb : ∀ j : Int, (tf L j).lookup ("branch" : Str) = none := fun j => tf_no L j (by decide +kernel) (by decide +kernel)
      obtain ⟨dx, hp⟩ := R.ob
      have big : ∀ m : Nat, m ≤ 10000 → m ≤ sizeLine := fun m h => Nat.le_trans h (by decide)
      cases t with
      | leaf =>
        have hi : ls[i]? = some (a ++ so) := by
          rw [hls, List.getElem?_append_right (by omega), hpre, Nat.sub_self]
          rfl
        refine ⟨_, rfl, p, dx, _, rfl, hp, nl _, _, rfl, p, L, i, ls, a, so, rfl, R, hi, by simp; omega, fun H1 R1 k1 => ?_⟩
        refine ⟨_, rfl, rfl, _, rfl, ?_⟩
        rw [decide_eq_true (show V.str (S so) = V.str (Str.ofString "so") by rw [so_eq])]
        refine iteT ⟨Nat.zero_le _, fun c hc => ?_⟩
        have kb1 : KB p H H1 := fun b o hb e => by rw [k1 b hb]; exact e
        exact q _ _ (.leaf upd_same) (R1.new hc) (kb1.new hc)
      | node l r ta tb =>
        obtain ⟨hl, hr', hoa, hob⟩ := hok
        have ll := hl.len
        have lr := hr'.len
        have dd : (Tr.node l r ta tb).dep = max ta.dep tb.dep + 1 := rfl
        have ss : (Tr.node l r ta tb).sz = ta.sz + tb.sz + 1 := rfl
        have lna := ta.lines_len
        have lnb := tb.lines_len
        have htot : (Tr.node l r ta tb).lines.length = 1 + ta.lines.length + 1 + tb.lines.length := by
          simp only [Tr.lines, List.length_append, List.length_map, List.length_cons, List.length_nil]
        -- the rows
        have hls1 : ls = pre ++ ((a ++ (l ++ leq ++ r)) :: (ta.lines.map ((a ++ two) ++ ·) ++ ((a ++ (r ++ slt ++ l)) :: (tb.lines.map ((a ++ two) ++ ·) ++ post)))) := by
          rw [hls]
          simp only [Tr.lines, List.map_append, List.map_map, List.map_cons, List.map_nil, List.append_assoc, List.cons_append, List.nil_append, Function.comp_def]
        have hi : ls[i]? = some (a ++ (l ++ leq ++ r)) := by
          rw [hls1, List.getElem?_append_right (by omega), hpre, Nat.sub_self]
          rfl
        refine ⟨_, rfl, p, dx, _, rfl, hp, nl _, _, rfl, p, L, i, ls, a, l ++ leq ++ r, rfl, R, hi, by simp; omega, fun H1 R1 k1 => ?_⟩
        have kb1 : KB p H H1 := fun b o hb e => by rw [k1 b hb]; exact e
        refine ⟨_, rfl, rfl, _, rfl, ?_⟩
        rw [decide_eq_false (show ¬ V.str (S (l ++ leq ++ r)) = V.str (Str.ofString "so") by
          intro e
          have e1 : S (l ++ leq ++ r) = S so := (V.str.inj e).trans so_eq
          have e2 := SX.S_inj e1
          have hm : 60 ∈ so := by rw [← e2]; simp
          exact absurd hm (by decide))]
        refine iteF ?_
        -- sides
        refine ⟨_, rfl, rfl, _, _, rfl, rfl, by decide +kernel, Nat.le_trans (m := 10000) (by rw [slen]; simp; omega) (by decide), fun c hc => ?_⟩
        rw [leq_eq, split_sides hl.no60 hr'.no60]
        have R2 := R1.new (o := .lst (List.map V.str [S l, S r])) hc
        have kb2 : KB p H (upd H1 c (.lst (List.map V.str [S l, S r]))) := kb1.new hc
        have hc2 : (upd H1 c (.lst (List.map V.str [S l, S r]))) c = some (.lst [V.str (S l), V.str (S r)]) := upd_same
        generalize (upd H1 c (.lst (List.map V.str [S l, S r]))) = H2 at *
        obtain ⟨dx2, hp2⟩ := R2.ob
        refine ⟨_, rfl, p, dx2, _, rfl, hp2, nn _, _, rfl, _, _, rfl, .inl ⟨_, SqL.of hc2, rfl⟩, rfl, true, rfl, iteT ?_⟩
        refine ⟨_, rfl, c, _, 0, _, rfl, rfl, SqL.of hc2, atI_nat (j := 0) rfl, l, rfl, hl, true, rfl, iteT ?_⟩
        refine ⟨_, rfl, _, rfl, c, _, -1, _, rfl, rfl, SqL.of hc2, atI_last [V.str (S l)] _, r, rfl, hr', p, rfl, ?_⟩
        refine ⟨_, rfl, c, _, rfl, SqL.of hc2, rfl, _, _, rfl, _, _, rfl, rfl, ?_⟩
        -- one
        have hb2 : (S a).length + (Str.ofString "  ").length ≤ sizeLine := big _ (by rw [two_eq, slen, slen]; simp; omega)
        refine ⟨_, rfl, p, dx2, _, rfl, hp2, nb _, _, rfl, _, _, rfl, rfl, hb2, ?_⟩
        rw [two_eq, cat]
        refine ⟨p, L, i + 1, ls, pre ++ [a ++ (l ++ leq ++ r)], ((a ++ (r ++ slt ++ l)) :: (tb.lines.map ((a ++ two) ++ ·) ++ post)), a ++ two, ta, rfl, R2, hoa, by omega, by omega, by rw [hls1]; simp, by simp [hpre], by simp; omega, fun va H3 hva R3 kb3 => ?_⟩
        obtain ⟨dx3, hp3⟩ := R3.ob
        -- need(line(ahead) == right + ' < ' + left)
        have hi3 : ls[i + 1 + ta.lines.length]? = some (a ++ (r ++ slt ++ l)) := by
          rw [hls1, List.getElem?_append_right (by omega), show i + 1 + ta.lines.length - pre.length = 1 + ta.lines.length by omega, Nat.add_comm 1, List.getElem?_cons_succ, List.getElem?_append_right (by simp), List.length_map, Nat.sub_self]
          rfl
        have w1 : (S r).length + (Str.ofString " < ").length ≤ sizeLine := big _ (by rw [slt_eq, slen, slen]; simp; omega)
        have w2 : (S r ++ Str.ofString " < ").length + (S l).length ≤ sizeLine := big _ (by rw [slt_eq, cat, slen, slen]; simp; omega)
        refine ⟨_, rfl, p, dx3, _, rfl, hp3, nn _, _, rfl, p, dx3, _, rfl, hp3, nl _, _, rfl, p, L, _, ls, a, r ++ slt ++ l, rfl, R3, hi3, by simp; omega, fun H4 R4 k4 => ?_⟩
        have kb4 : KB p H3 H4 := fun b o hb e => by rw [k4 b hb]; exact e
        refine ⟨_, rfl, _, _, rfl, rfl, w1, _, rfl, _, _, rfl, rfl, w2, rfl, ?_⟩
        refine ⟨p, ?_, ?_⟩
        · rw [slt_eq, cat, cat, decide_eq_true rfl]
          rfl
        obtain ⟨dx4, hp4⟩ := R4.ob
        refine ⟨_, rfl, _, rfl, _, rfl, _, rfl, p, dx4, _, rfl, hp4, nb _, _, rfl, _, _, rfl, rfl, hb2, ?_⟩
        rw [cat]
        refine ⟨p, L, _, ls, pre ++ [a ++ (l ++ leq ++ r)] ++ ta.lines.map ((a ++ two) ++ ·) ++ [a ++ (r ++ slt ++ l)], post, a ++ two, tb, rfl, R4, hob, by omega, by omega, by rw [hls1]; simp, by simp [hpre]; omega, by simp; omega, fun vb H5 hvb R5 kb5 => ⟨big _ (by simp), fun d hd => ?_⟩⟩
        have hva4 : TrAt H4 va ta := hva.kb kb4 R3.nt
        have hva5 : TrAt H5 va ta := hva4.kb kb5 R4.nt
        refine q _ _ (.node upd_same (hva5.mono (same_upd hd)) (hvb.mono (same_upd hd))) ?_ ((((kb2.trans kb3).trans kb4).trans kb5).new hd)
        have e5 : i + 1 + ta.lines.length + 1 + tb.lines.length = i + (Tr.node l r ta tb).lines.length := by omega
        rw [← e5]
        exact R5.new hd
abbrev s_read_tree : Stmt := topS 8
theorem sc_read_tree : FnScope ["text", "reader", "found"] ["text"] (defScope s_read_tree) := ⟨rfl, rfl, rfl, by decide +kernel, rfl, by decide +kernel, by decide +kernel⟩
def spRead (n : Nat) : Sp := fun vs H Q _ => ∃ (t : Tr), vs = [.str (S t.text)] ∧ t.ok ∧ t.dep < n ∧ t.sz ≤ 60 ∧ ∀ (v : V) (H' : Hp), TrAt H' v t → Same H H' → Q v H'
theorem text_len (t : Tr) (h : t.ok) (hs : t.sz ≤ 60) : t.text.length ≤ 100000 := by
  have key : ∀ (ls : List (List Nat)), (TL.joinL [10] ls).length ≤ (ls.map (fun l : List Nat => l.length)).sum + ls.length := by
    intro ls
    induction ls with
    | nil => simp [TL.joinL]
    | cons x r ih =>
      cases r with
      | nil => simp [TL.joinL]
      | cons y r' =>
        show (x ++ ([10] ++ TL.joinL [10] (y :: r'))).length ≤ _
        rw [List.map_cons, List.sum_cons, List.length_append, List.length_append, List.length_cons (a := x)]
        simp only [List.length_cons, List.length_nil] at ih ⊢
        omega
  have h1 := sum_le (fun l : List Nat => l.length) (204 + 2 * t.dep) t.lines fun x hx => (t.lines_ok h x hx).2
  have h2 := t.dep_le
  have h3 := t.lines_len
  have h4 := key t.lines
  rw [h3] at h1 h4
  have h6 : (3 * t.sz + 1) * (204 + 2 * t.dep) ≤ 181 * 324 := Nat.mul_le_mul (by omega) (by omega)
  unfold Tr.text
  omega
theorem lines_ne : ∀ t : Tr, t.lines ≠ []
  | .leaf => by simp [Tr.lines]
  | .node l r a b => by simp [Tr.lines]
theorem split_text (t : Tr) (h : t.ok) : TL.spl [10] 0 [] t.text = t.lines := by
  refine SX.spl_join (lines_ne t) fun x hx hm => ?_
  have := (t.lines_ok h x hx).1 10 hm
  omega
theorem ok_read_tree {C : Addr} {n k : Nat} (B : Bi mg) (T : TtC K C) (F : Df K mg "read_tree" s_read_tree ["text"]) (hTreeText : n + 1 ≤ k) (GTreeText : C8.Mak P w K mg base n "TreeText" C (spTtI C) [])
    (Gbranch : C8.Met P w K mg base k C "branch" (spBranch C n) []) : C8.Cal P w K mg base (k + 1) "read_tree" (spRead n) [] := by
  refine F.cal sc_read_tree (fun vs H Q E h => ?_) (fun f cdv A outer s H vs Q E hr h => ?_)
  · obtain ⟨t, rfl, _⟩ := h
    rfl
  · obtain ⟨t, rfl, hok, hdep, hsz, q⟩ := h
    refine ⟨_, (pss_cons (ps_set (i := 1) sc_read_tree.nd rfl (Or.inl rfl) (C8.pe_mk GTreeText hr hTreeText rfl (pa_cons (pv 0) pa_nil)))
      (pss_cons (ps_set (i := 2) sc_read_tree.nd rfl (Or.inl rfl) (C8.pe_mt Gbranch hr (Nat.le_refl _) (pv 1) (pa_cons pe_str pa_nil)))
      (pss_cons (ps_if (pt_cmpR op_lt (kk_fld K rfl (pv 1) rfl) (pe_callB (kk_len K rfl) rfl B.len PySem.boot_len (pa_cons (kk_fld K rfl (pv 1) rfl) pa_nil)) (nomark _)) (pss_one ps_never) pss_nil)
      (pss_one (ps_ret (pv 2)))))), ?_⟩
    have hd := t.dep_le
    refine ⟨_, rfl, fun x dx hx hdx hne => ⟨x, dx, t.text, rfl, upd_same, Nat.le_trans (text_len t hok hsz) (by decide), fun L H1 hL R1 k1 => ⟨rfl, ?_⟩⟩⟩
    rw [split_text t hok] at R1
    have s1 : Same H H1 := fun b o e => k1 b o (ne_of_none e hx) (by rw [upd_ne (ne_of_none e hx), upd_ne (ne_of_none e hdx)]; exact e)
    obtain ⟨dy, hx1⟩ := R1.ob
    refine ⟨_, rfl, x, dy, _, rfl, hx1, tf_no L _ (by decide +kernel) (by decide +kernel), ?_⟩
    refine ⟨x, L, 0, t.lines, [], [], [], t, rfl, R1, hok, hdep, hsz, by simp, rfl, by simp; omega, fun v H2 hv R2 kb2 => ?_⟩
    obtain ⟨dz, hx2⟩ := R2.ob
    refine ⟨_, rfl, x, C, dz, _, _, rfl, hx2, T.cl, T.nA, tf_at _ _, _, rfl, x, C, dz, _, _, rfl, hx2, T.cl, T.nL, tf_lines _ _, _, _, rfl, .inl ⟨_, SqL.of R2.lst, rfl⟩, _, _, rfl, rfl, _, rfl, ?_⟩
    rw [decide_eq_false (by rw [List.length_map]; omega)]
    refine iteF ⟨_, rfl, q v H2 hv fun b o e => kb2 b o (ne_of_none e hx) (s1 b o e)⟩
end
end KW

/-! ## _law_same, of one plain datum read twice -/
namespace KW
open PySem PySem.Spec PyProof.Rows L2
section
variable {K : PySem.W.Frag} {H H' : Hp}
mutual
theorem dp_same (s : Same H H') : ∀ (d : PyData) (v : V), Dp K H v d → Dp K H' v d
  | .none, _, h => by cases h; exact .non
  | .bool _, _, h => by cases h; exact .bl _
  | .int _, _, h => by cases h; exact .int _
  | .str _, _, h => by cases h; exact .str _
  | .list ds, _, h => by
    cases h with
    | lst hs ha => exact .lst (s.seq hs) (dpAll_same s ds _ ha)
  | .tuple ds, _, h => by
    cases h with
    | tup hs ha => exact .tup (Same.tup s hs) (dpAll_same s ds _ ha)
  | .dict _, _, h => by cases h
theorem dpAll_same (s : Same H H') : ∀ (ds : List PyData) (vs : List V), DpAll K H vs ds → DpAll K H' vs ds
  | [], _, h => by cases h; exact .nil
  | d :: ds, _, h => by
    cases h with
    | cons h1 h2 => exact .cons (dp_same s d _ h1) (dpAll_same s ds _ h2)
end
theorem dpAll_len : ∀ {vs : List V} {ds : List PyData}, DpAll K H vs ds → vs.length = ds.length
  | _, _, .nil => rfl
  | _, _, .cons _ h => by rw [List.length_cons, List.length_cons, dpAll_len h]
theorem dpAll_get : ∀ {vs : List V} {ds : List PyData} {i : Nat} {v : V}, DpAll K H vs ds → vs[i]? = some v → ∃ d, ds[i]? = some d ∧ Dp K H v d
  | _, _, _, _, .nil, h => by simp at h
  | _, _, 0, _, .cons h1 _, h => by
    simp at h
    subst h
    exact ⟨_, rfl, h1⟩
  | _, _, i + 1, v, .cons _ h2, h => by
    obtain ⟨d, e, q⟩ := dpAll_get (i := i) (v := v) h2 (by simpa using h)
    exact ⟨d, by simpa using e, q⟩
theorem tyL {a : Addr} {xs : List V} (h : SqL K H a xs) : TyX K H (.ref a) (.type "list") := by
  rcases h with (h | ⟨o, h⟩) | ⟨o, its, n, h, c, _⟩
  · exact .base (.lst h)
  · exact .base (.frz h)
  · exact .kList h c
theorem tyT {a : Addr} {xs : List V} (h : SqT K H a xs) : TyX K H (.ref a) (.type "tuple") := by
  rcases h with (h | ⟨o, h⟩) | ⟨o, its, n, h, c, _⟩
  · exact .base (.tup h)
  · exact .fTuple h
  · exact .kTuple h c
/-- the built-in type of a datum -/
def tyD : PyData → String
  | .none => "NoneType"
  | .bool _ => "bool"
  | .int _ => "int"
  | .str _ => "str"
  | .list _ => "list"
  | .tuple _ => "tuple"
  | .dict _ => "dict"
theorem dp_ty : ∀ {d : PyData} {v : V}, Dp K H v d → TyX K H v (.type (tyD d))
  | .none, _, h => by cases h; exact .base .non
  | .bool _, _, h => by cases h; exact .base (.bl _)
  | .int _, _, h => by cases h; exact .base (.int _)
  | .str _, _, h => by cases h; exact .base (.str _)
  | .list ds, _, h => by
    cases h with
    | lst hs ha => exact tyL hs
  | .tuple ds, _, h => by
    cases h with
    | tup hs ha => exact tyT hs
  | .dict _, _, h => by cases h
abbrev tyNames : List String := ["NoneType", "bool", "int", "str", "list", "tuple", "dict"]
theorem tyD_mem (d : PyData) : tyD d ∈ tyNames := by cases d <;> simp [tyD]
theorem kitT : ∀ t ∈ tyNames, kitB t "tuple" = some (decide (t = "tuple")) := by decide +kernel
theorem kitL : ∀ t ∈ tyNames, kitB t "list" = some (decide (t = "list")) := by decide +kernel
theorem kitBo : ∀ t ∈ tyNames, kitB t "bool" = some (decide (t = "bool")) := by decide +kernel
theorem kit_tup (d : PyData) : kitB (tyD d) "tuple" = some (decide (tyD d = "tuple")) := kitT _ (tyD_mem d)
theorem kit_lst (d : PyData) : kitB (tyD d) "list" = some (decide (tyD d = "list")) := kitL _ (tyD_mem d)
theorem kit_bool (d : PyData) : kitB (tyD d) "bool" = some (decide (tyD d = "bool")) := kitBo _ (tyD_mem d)
theorem depth_get : ∀ {ds : List PyData} {i : Nat} {d : PyData}, ds[i]? = some d → d.depth ≤ PyData.depthAll ds
  | [], _, _, h => by simp at h
  | x :: r, 0, d, h => by
    simp at h
    subst h
    simp only [PyData.depthAll]
    omega
  | x :: r, i + 1, d, h => by
    have ih := depth_get (ds := r) (i := i) (d := d) (by simpa using h)
    simp only [PyData.depthAll]
    omega
theorem lay_get : ∀ {ds : List PyData} {i : Nat} {d : PyData}, PyData.canLayAll0 ds = true → ds[i]? = some d → d.canLay0 = true
  | [], _, _, _, h => by simp at h
  | x :: r, 0, d, hl, h => by
    simp at h
    subst h
    simp only [PyData.canLayAll0, Bool.and_eq_true] at hl
    exact hl.1
  | x :: r, i + 1, d, hl, h => by
    simp only [PyData.canLayAll0, Bool.and_eq_true] at hl
    exact lay_get (i := i) hl.2 (by simpa using h)
/-! how much a datum holds -/
mutual
def sizeD : PyData → Nat
  | .list xs => sizeAll xs + 1
  | .tuple xs => sizeAll xs + 1
  | _ => 1
def sizeAll : List PyData → Nat
  | [] => 0
  | x :: xs => sizeD x + sizeAll xs + 1
end
theorem len_sizeAll : ∀ ds : List PyData, ds.length ≤ sizeAll ds
  | [] => Nat.le_refl _
  | x :: r => by
    have := len_sizeAll r
    simp only [sizeAll, List.length_cons]
    omega
theorem size_get : ∀ {ds : List PyData} {i : Nat} {d : PyData}, ds[i]? = some d → sizeD d ≤ sizeAll ds
  | [], _, _, h => by simp at h
  | x :: r, 0, d, h => by
    simp at h
    subst h
    simp only [sizeAll]
    omega
  | x :: r, i + 1, d, h => by
    have ih := size_get (ds := r) (i := i) (d := d) (by simpa using h)
    simp only [sizeAll]
    omega
theorem walk_zipT {a b : Addr} {xs ys : List V} {n : Nat} (hn : n = min xs.length ys.length) : Walk (RZ.ItzT K a b) n (fun H => SqT K H a xs ∧ SqT K H b ys) (YPair (fun i => xs[i]?) (fun i => ys[i]?)) := by
  subst hn
  refine ⟨fun i _ hi q => ?_, fun _ q => ⟨xs, ys, q.1, q.2, by omega⟩, fun i H v H' _ q y => ?_⟩
  · exact ⟨xs, ys, xs[i], ys[i], q.1, q.2, List.getElem?_eq_getElem (by omega), List.getElem?_eq_getElem (by omega)⟩
  · obtain ⟨T, x, z, h1, h2, h3, h4, h5⟩ := y
    exact ⟨T, x, z, h1, h2, h3, h4 xs q.1, h5 ys q.2⟩
end
section
variable {P : Program} {w : World} {K : PySem.W.Frag} {mg : Str → Option Value} {base : Heap}
abbrev s__law_same : Stmt := topS 13
theorem sc__law_same : FnScope ["_law_found", "_law_due", "_law_one", "_law_other"] ["_law_found", "_law_due"] (defScope s__law_same) := ⟨rfl, rfl, rfl, by decide +kernel, rfl, by decide +kernel, by decide +kernel⟩
def spSame (K : PySem.W.Frag) (n : Nat) : Sp := fun vs H Q _ => ∃ (x y : V) (d : PyData), vs = [x, y] ∧ Dp K H x d ∧ Dp K H y d ∧ d.canLay0 = true ∧ d.depth < n ∧ n ≤ 60 ∧ sizeD d ≤ 100000 ∧ ∀ H', Same H H' → Q (.bl true) H'
theorem ok_same (B : Bi mg) (F : Df K mg "_law_same" s__law_same ["_law_found", "_law_due"]) : ∀ n : Nat, C8.Cal P w K mg base n "_law_same" (spSame K n) []
  | 0 => F.never fun vs H Q E h => by
      obtain ⟨x, y, d, _, _, _, _, h, _⟩ := h
      exact absurd h (Nat.not_lt_zero _)
  | n + 1 => by
    have G_law_same := ok_same B F n
    refine F.cal sc__law_same (fun vs H Q E h => ?_) (fun f cdv A outer s H vs Q E hr h => ?_)
    · obtain ⟨x, y, d, rfl, _⟩ := h
      rfl
    · obtain ⟨x, y, d, rfl, hx, hy, hlay, hdep, hn, hsz, q⟩ := h
      refine ⟨_, (pss_cons (ps_if (pt_val (pe_callB (kk_isiT K rfl) rfl B.isinstance (by decide +kernel) (pa_cons (pv 1) (pa_cons (pe_tup (pa_cons (kt_tuple rfl B.ty_tuple) (pa_cons (kt_list rfl B.ty_list) pa_nil))) pa_nil)))) (pss_cons (ps_if (PW.pt (pw_or (pt_cmpR op_ne (pe_callB (kk_isi K rfl) rfl B.isinstance (by decide +kernel) (pa_cons (pv 0) (pa_cons (kt_tuple rfl B.ty_tuple) pa_nil))) (pe_callB (kk_isi K rfl) rfl B.isinstance (by decide +kernel) (pa_cons (pv 1) (pa_cons (kt_tuple rfl B.ty_tuple) pa_nil))) (nomark _)) (pw_or1 (pt_cmpR op_ne (pe_callB (kk_isi K rfl) rfl B.isinstance (by decide +kernel) (pa_cons (pv 0) (pa_cons (kt_list rfl B.ty_list) pa_nil))) (pe_callB (kk_isi K rfl) rfl B.isinstance (by decide +kernel) (pa_cons (pv 1) (pa_cons (kt_list rfl B.ty_list) pa_nil))) (nomark _))))) (pss_one (ps_ret pe_bl)) pss_nil)
      (pss_one (ps_ret (pe_and (pe_cmpR op_eq (pe_callB (kk_len K rfl) rfl B.len PySem.boot_len (pa_cons (pv 0) pa_nil)) (pe_callB (kk_len K rfl) rfl B.len PySem.boot_len (pa_cons (pv 1) pa_nil)) (nomark _)) (pe_one (pe_callB (kk_all K rfl rfl) rfl B.all (by decide +kernel) (pa_cons (pe_lc (own := [("_law_one", 2), ("_law_other", 3)]) (tt := tYes) rfl sc__law_same.nd (RZ.pi_zipA rfl B.zip (pa_cons (pv 0) (pa_cons (pv 1) pa_nil))) (blkOk_by (own := [("_law_one", 2), ("_law_other", 3)]) (N := ["_law_found", "_law_due", "_law_one", "_law_other"]) (sc := defScope s__law_same) (by decide +kernel)) (fun _ _ _ _ _ => (kk_gtup K rfl (n := 2) rfl (pgs_cons (pg_name (i := 2) sc__law_same.nd rfl (Or.inl rfl)) (pgs_cons (pg_name (i := 3) sc__law_same.nd rfl (Or.inl rfl)) pgs_nil)))) (fun _ _ _ _ _ => pts_nil) (fun _ _ _ _ _ => (C8.pe_c G_law_same hr (Nat.le_refl _) rfl (pa_cons (pv 2) (pa_cons (pv 3) pa_nil))))) pa_nil))))))) pss_nil)
      (pss_one (ps_ret (pe_and (pe_cmpR op_eq (pe_callB (kk_isi K rfl) rfl B.isinstance (by decide +kernel) (pa_cons (pv 0) (pa_cons (kt_bool rfl B.ty_bool) pa_nil))) (pe_callB (kk_isi K rfl) rfl B.isinstance (by decide +kernel) (pa_cons (pv 1) (pa_cons (kt_bool rfl B.ty_bool) pa_nil))) (nomark _)) (pe_one (pe_cmpR (kk_eqD K rfl hr.units) (pv 0) (pv 1) (nomark _))))))), ?_⟩
      have b1 : ∀ z : Bool, (!decide (V.bl z = V.bl z)) = false := fun z => by rw [decide_eq_true rfl]; rfl
      have hsh : SeqAt.shaped d = true := by
        unfold SeqAt.shaped
        rw [hlay, Bool.true_and]
        exact decide_eq_true (by omega)
      refine ⟨_, rfl, (by show 2 ≤ sizeLine; decide), fun tp htp => ?_⟩
      have s1 := same_upd (o := .tup [V.ty "tuple", V.ty "list"]) htp
      have hx1 := dp_same s1 d x hx
      have hy1 := dp_same s1 d y hy
      have tys : PySem.W.kitAny K (.type (tyD d)) [.type "tuple", .type "list"] = some (decide (tyD d = "tuple") || decide (tyD d = "list")) := by
        refine kitAny_cons (kit_ty (kit_tup d)) (fun h0 => ?_) (fun h1 => by rw [h1]; rfl)
        rw [h0, Bool.false_or]
        refine kitAny_cons (kit_ty (kit_lst d)) (fun h0 => ?_) (fun h1 => h1)
        rw [h0]
        rfl
      refine ⟨_, tp, _, _, _, _, rfl, upd_same, .cons (.ty _) (.cons (.ty _) .nil), dp_ty hy1, tys, _, rfl, ite2 (fun hs => ?_) (fun hs => ?_)⟩
      · -- sequences
        refine ⟨_, rfl, _, _, _, _, _, rfl, .ty _, dp_ty hx1, kit_ty (kit_tup d), _, rfl, _, _, _, _, _, rfl, .ty _, dp_ty hy1, kit_ty (kit_tup d), rfl, _, rfl, ?_⟩
        rw [b1]
        refine iteF ⟨_, rfl, _, _, _, _, _, rfl, .ty _, dp_ty hx1, kit_ty (kit_lst d), _, rfl, _, _, _, _, _, rfl, .ty _, dp_ty hy1, kit_ty (kit_lst d), rfl, _, rfl, ?_⟩
        rw [b1]
        refine iteF ?_
        -- the items, list or tuple
        have main : ∀ (xs ys : List V) (ds : List PyData) (J : It) (G : Hp → Prop) (H1 : Hp) (Qd : VK), Walk J xs.length G (YPair (fun i => xs[i]?) (fun i => ys[i]?)) → (∀ H2, Same H1 H2 → G H2) → DpAll K H1 xs ds → DpAll K H1 ys ds → PyData.canLayAll0 ds = true → PyData.depthAll ds < n → sizeAll ds ≤ 100000 → (∀ H2, Same H1 H2 → Qd (.bl true) H2) →
            ∀ D, H1 D = none → ∃ W : Nat → Nat → Hp → Prop, (∃ m, W 0 m (upd H1 D (.lst []))) ∧ ∀ i m H, W i m H →
              (J.stop i H ∧ ∃ (a : Addr) (bs : List Bool), [V.ref D] = [V.ref a] ∧ SqL K H a (bs.map V.bl) ∧ Qd (.bl (bs.all id)) H) ∨ (J.go i H ∧ ∃ Nx : Hp → Prop, (∀ H', Nx H' → ∃ m', m' < m ∧ W (i + 1) m' H') ∧ ∀ v H', J.yld i H v H' → gTup K 2 (gCons (gName 2) (gCons (gName 3) gNil)) v (wipe [some x, some y, none, none] [2, 3]) H' fun σ2 H2 => wipe σ2 [2, 3] = wipe [some x, some y, none, none] [2, 3] ∧ tYes σ2 H2 fun b H3 =>
                if b = true then tCall (spSame K n) [] C8.E0 (tCons (tVar 2) (tCons (tVar 3) tNil)) σ2 H3 fun y H4 => ∃ acc, H4 D = some (.lst acc) ∧ acc.length < sizeLine ∧ Nx (upd H4 D (.lst (acc ++ [y]))) else Nx H3) := by
          intro xs ys ds J G H1 Qd wk hG hdx hdy hl hdp hxs hq D hD
          have hxl : xs.length ≤ sizeLine := Nat.le_trans (by rw [dpAll_len hdx]; exact Nat.le_trans (len_sizeAll ds) hxs) (show 100000 ≤ sizeLine by decide)
          refine lc_it wk (fun i H2 => Same H1 H2 ∧ H2 D = some (.lst ((List.replicate i true).map V.bl))) ⟨same_upd hD, upd_same⟩ (fun i H2 _ h => hG H2 h.1) (fun i v H2 H3 hi h hy => ?_) (fun H2 h => ?_)
          · obtain ⟨T, x1, y1, rfl, hT, rfl, ex, ey⟩ := hy
            obtain ⟨s2, hD2⟩ := h
            have s3 := same_upd (o := .tup [x1, y1]) hT
            obtain ⟨d1, e1, h1⟩ := dpAll_get hdx ex
            obtain ⟨d2, e2, h2⟩ := dpAll_get hdy ey
            have ed : d1 = d2 := Option.some.inj (e1.symm.trans e2)
            subst ed
            refine ⟨T, _, rfl, SqT.of upd_same, rfl, _, _, rfl, _, _, rfl, rfl, ?_⟩
            refine ⟨rfl, yesT ?_⟩
            have dlt : d1.depth < n := Nat.lt_of_le_of_lt (depth_get e1) hdp
            refine ⟨_, rfl, _, rfl, x1, y1, d1, rfl, dp_same s3 _ _ (dp_same s2 _ _ h1), dp_same s3 _ _ (dp_same s2 _ _ h2), lay_get hl e1, dlt, by omega, Nat.le_trans (size_get e1) hxs, fun H4 s4 => ?_⟩
            have hD4 := s4 _ _ (s3 _ _ hD2)
            refine ⟨_, hD4, by rw [List.length_map, List.length_replicate]; omega, fun b' o' e' => ?_, ?_⟩
            · rw [upd_ne (ne_of_none e' hD)]
              exact s4 _ _ (s3 _ _ (s2 _ _ e'))
            · rw [upd_same, List.replicate_succ', List.map_append]
              rfl
          · refine ⟨D, _, rfl, SqL.of h.2, ?_⟩
            rw [show (List.replicate xs.length true).all id = true by rw [List.all_eq_true]; intro z hz; rw [(List.mem_replicate.mp hz).2]; rfl]
            exact hq H2 h.1
        cases hx1 with
        | lst hsx hdx =>
          cases hy1 with
          | lst hsy hdy =>
            have lxy := (dpAll_len hdx).trans (dpAll_len hdy).symm
            simp only [PyData.depth] at hdep
            simp only [PyData.canLay0] at hlay
            simp only [sizeD] at hsz
            refine ⟨_, rfl, _, _, rfl, .inl ⟨_, hsx, rfl⟩, _, rfl, _, _, rfl, .inl ⟨_, hsy, rfl⟩, rfl, true, ?_, iteT ?_⟩
            · rw [lxy, decide_eq_true rfl]
            · refine ⟨_, rfl, _, rfl, _, _, _, _, rfl, .inl ⟨hsx, hsy, ?_⟩⟩
              refine main _ _ _ _ _ _ _ (walk_zip (K := K) (by omega)) (fun H2 s2 => ⟨s2.seq hsx, s2.seq hsy⟩) hdx hdy hlay (by omega) (by omega) fun H2 s2 => q H2 (s1.trans s2)
        | tup hsx hdx =>
          cases hy1 with
          | tup hsy hdy =>
            have lxy := (dpAll_len hdx).trans (dpAll_len hdy).symm
            simp only [PyData.depth] at hdep
            simp only [PyData.canLay0] at hlay
            simp only [sizeD] at hsz
            refine ⟨_, rfl, _, _, rfl, .inr ⟨_, hsx, rfl⟩, _, rfl, _, _, rfl, .inr ⟨_, hsy, rfl⟩, rfl, true, ?_, iteT ?_⟩
            · rw [lxy, decide_eq_true rfl]
            · refine ⟨_, rfl, _, rfl, _, _, _, _, rfl, .inr ⟨hsx, hsy, ?_⟩⟩
              refine main _ _ _ _ _ _ _ (walk_zipT (K := K) (by omega)) (fun H2 s2 => ⟨Same.tup s2 hsx, Same.tup s2 hsy⟩) hdx hdy hlay (by omega) (by omega) fun H2 s2 => q H2 (s1.trans s2)
        | non => exact absurd hs (by decide)
        | bl z => exact absurd hs (by simp [tyD])
        | int z => exact absurd hs (by simp [tyD])
        | str z => exact absurd hs (by simp [tyD])
      · -- a single value
        refine ⟨_, rfl, _, _, _, _, _, rfl, .ty _, dp_ty hx1, kit_ty (kit_bool d), _, rfl, _, _, _, _, _, rfl, .ty _, dp_ty hy1, kit_ty (kit_bool d), rfl, _, rfl, ?_⟩
        rw [decide_eq_true rfl]
        refine iteT ⟨_, rfl, _, rfl, d, d, hx1, hy1, hsh, hsh, ?_⟩
        rw [SeqAt.eqv_refl d hlay]
        exact q _ s1
end
end KW

/-! ## the law's own trees: _law_term, _law_tree, _law_lines -/
namespace KW
open PySem PySem.Spec PyProof.Rows L2
/-- the text of a term, of at most m signs -/
structure Tm (m : Nat) (l : List Nat) : Prop where
  ne : l ≠ []
  len : l.length ≤ m
  chars : ∀ c ∈ l, 32 ≤ c ∧ c ≤ 126 ∧ c ≠ 60 ∧ c ≠ 61
  hd : l.head? ≠ some 32
  la : l.getLast? ≠ some 32
theorem Tm.sd {m : Nat} {l : List Nat} (h : Tm m l) (hm : m ≤ 100) : Sd l := ⟨h.ne, Nat.le_trans h.len hm, h.chars, h.hd, h.la⟩
theorem Tm.mono {m n : Nat} {l : List Nat} (h : Tm m l) (hm : m ≤ n) : Tm n l := ⟨h.ne, Nat.le_trans h.len hm, h.chars, h.hd, h.la⟩
theorem low_chars {l : List Nat} (h : Low l) : ∀ c ∈ l, 32 ≤ c ∧ c ≤ 126 ∧ c ≠ 60 ∧ c ≠ 61 := fun c hc => by
  have := h c hc
  omega
theorem nm_ne {l : List Nat} (h : Nm l) : l ≠ [] := fun e => by
  have := h.2.1
  rw [e] at this
  exact absurd this (by decide)
theorem nm_hd {l : List Nat} (h : Nm l) : l.head? ≠ some 32 := fun e => by
  cases l with
  | nil => simp at e
  | cons c r =>
    have e1 : c = 32 := Option.some.inj e
    have := h.1 c (List.mem_cons_self ..)
    omega
theorem nm_la {l : List Nat} (h : Nm l) : l.getLast? ≠ some 32 := fun e => by
  have := h.1 32 (List.mem_of_getLast? e)
  omega
theorem Nm.tm {l : List Nat} (h : Nm l) : Tm 4 l := ⟨nm_ne h, h.2.2.1, low_chars h.1, nm_hd h, nm_la h⟩
/-- a name ahead, some signs, one last sign -/
theorem tm_around {l x : List Nat} {c m : Nat} (h : Nm l) (hx : ∀ c ∈ x, 32 ≤ c ∧ c ≤ 126 ∧ c ≠ 60 ∧ c ≠ 61) (hc : 33 ≤ c ∧ c ≤ 126 ∧ c ≠ 60 ∧ c ≠ 61) (hm : x.length + 5 ≤ m) : Tm m (l ++ x ++ [c]) := by
  refine ⟨by simp, ?_, fun d hd => ?_, fun e => ?_, fun e => ?_⟩
  · have := h.2.2.1
    simp only [List.length_append, List.length_cons, List.length_nil]
    omega
  · simp only [List.mem_append, List.mem_singleton] at hd
    rcases hd with (hd | hd) | rfl
    · exact low_chars h.1 d hd
    · exact hx d hd
    · omega
  · cases l with
    | nil => exact nm_ne h rfl
    | cons a r => exact nm_hd h e
  · rw [List.getLast?_append] at e
    simp at e
    omega
abbrev qt : List Nat := [39]
abbrev endp : List Nat := [101, 110, 100, 40]
abbrev cs : List Nat := [44, 32]
theorem qt_eq : (Str.ofString "'") = S qt := by decide +kernel
theorem endp_eq : (Str.ofString "end(") = S endp := by decide +kernel
theorem cs_eq : (Str.ofString ", ") = S cs := by decide +kernel
theorem lp_eq : (Str.ofString "(") = S [40] := by decide +kernel
theorem rp_eq : (Str.ofString ")") = S [41] := by decide +kernel
theorem dig12 : ∀ k : Fin 12, ((Str.ofString (toString ((k.val : Nat) : Int))).cps.toList.length ≤ (if k.val < 10 then 1 else 2) ∧ (Str.ofString (toString ((k.val : Nat) : Int))).cps.toList.all (fun c => decide (48 ≤ c) && decide (c ≤ 57)) = true) := by decide +kernel
/-- the text of a small number -/
theorem digs {r : Int} (h0 : 0 ≤ r) (h1 : r < 12) : ∃ l : List Nat, (Str.ofString (toString r)) = S l ∧ (l.length ≤ 2 ∧ (r < 10 → l.length ≤ 1)) ∧ ∀ c ∈ l, 48 ≤ c ∧ c ≤ 57 := by
  obtain ⟨k, rfl⟩ : ∃ k : Fin 12, r = ((k.val : Nat) : Int) := ⟨⟨r.toNat, by omega⟩, by simp; omega⟩
  refine ⟨(Str.ofString (toString ((k.val : Nat) : Int))).cps.toList, (SX.S_tl _).symm, ⟨Nat.le_trans (dig12 k).1 (by split <;> omega), fun h => Nat.le_trans (dig12 k).1 (by rw [if_pos (by omega)]; exact Nat.le_refl _)⟩, fun c hc => ?_⟩
  have := List.all_eq_true.mp (dig12 k).2 c hc
  simpa using this
theorem log_small {r : Int} (h0 : 0 ≤ r) (h1 : r < 12) : r.natAbs.log2 < 1920 := by
  have h : ∀ k : Fin 12, k.val.log2 < 1920 := by decide
  have := h ⟨r.natAbs, by omega⟩
  exact this
def tl : Nat → Nat
  | 0 => 16
  | n + 1 => 2 * tl n + 8
theorem joinL_chars {p : Nat → Prop} {sep : List Nat} (hs : ∀ c ∈ sep, p c) : ∀ {ls : List (List Nat)}, (∀ l ∈ ls, ∀ c ∈ l, p c) → ∀ c ∈ TL.joinL sep ls, p c
  | [], _, c, hc => by simp [TL.joinL] at hc
  | [x], h, c, hc => h x (List.mem_cons_self ..) c hc
  | x :: y :: r, h, c, hc => by
    have hc' : c ∈ x ++ (sep ++ TL.joinL sep (y :: r)) := hc
    simp only [List.mem_append] at hc'
    rcases hc' with hc | hc | hc
    · exact h x (List.mem_cons_self ..) c hc
    · exact hs c hc
    · exact joinL_chars hs (fun l hl => h l (List.mem_cons_of_mem _ hl)) c hc
theorem joinL_len2 {sep : List Nat} {m : Nat} : ∀ {ls : List (List Nat)}, ls.length ≤ 2 → (∀ l ∈ ls, l.length ≤ m) → (TL.joinL sep ls).length ≤ 2 * m + sep.length
  | [], _, _ => by simp [TL.joinL]
  | [x], _, h => by
    have := h x (List.mem_cons_self ..)
    show x.length ≤ _
    omega
  | [x, y], _, h => by
    have h1 := h x (by simp)
    have h2 := h y (by simp)
    show (x ++ (sep ++ y)).length ≤ _
    simp only [List.length_append]
    omega
  | x :: y :: z :: r, h, _ => by simp at h
section
variable {P : Program} {w : World} {K : PySem.W.Frag} {mg : Str → Option Value} {base : Heap}
/-- names stand at p -/
structure NmsAt (H : Hp) (a p : Addr) (ns : List (List Nat)) : Prop where
  at_ : H p = some (.lst (LS ns))
  ne : p ≠ a
  all : ∀ l ∈ ns, Nm l
  pos : ns ≠ []
  len : ns.length ≤ 26
theorem NmsAt.kb {H H' : Hp} {a p : Addr} {ns : List (List Nat)} (n : NmsAt H a p ns) (k : KB a H H') : NmsAt H' a p ns := ⟨k _ _ n.ne n.at_, n.ne, n.all, n.pos, n.len⟩
theorem NmsAt.pos' {H : Hp} {a p : Addr} {ns : List (List Nat)} (n : NmsAt H a p ns) : LS ns ≠ [] := fun e => n.pos (List.map_eq_nil_iff.mp e)
theorem NmsAt.len' {H : Hp} {a p : Addr} {ns : List (List Nat)} (n : NmsAt H a p ns) : (LS ns).length ≤ 1000 := by
  rw [List.length_map]
  have := n.len
  omega
theorem NmsAt.mem {H : Hp} {a p : Addr} {ns : List (List Nat)} {v : V} (n : NmsAt H a p ns) (h : v ∈ LS ns) : ∃ l, v = .str (S l) ∧ Nm l := by
  obtain ⟨l, hl, rfl⟩ := List.mem_map.mp h
  exact ⟨l, rfl, n.all l hl⟩
abbrev s__law_term : Stmt := topS 16
theorem sc__law_term : FnScope ["_law_feed_here", "_law_names", "_law_deep", "_law_way", "_law_name", "_law_parts", "_law_k"] ["_law_feed_here", "_law_names", "_law_deep"] (defScope s__law_term) := ⟨rfl, rfl, rfl, by decide +kernel, rfl, by decide +kernel, by decide +kernel⟩
def spTerm (n : Nat) : Sp := fun vs H Q _ => ∃ (a p : Addr) (ns : List (List Nat)) (d : Nat), vs = [.ref a, .ref p, .int d] ∧ Fd H a ∧ NmsAt H a p ns ∧ d < n ∧ n ≤ 5 ∧
  ∀ (l : List Nat) (H' : Hp), Tm (tl d) l → Fd H' a → KB a H H' → Q (.str (S l)) H'
theorem tl_pos (d : Nat) : 16 ≤ tl d := by
  induction d with
  | zero => exact Nat.le_refl _
  | succ n ih => show 16 ≤ 2 * tl n + 8; omega
theorem tl_le {d : Nat} (h : d < 5) : tl d ≤ 1000 := by
  have : ∀ k : Fin 5, tl k.val ≤ 1000 := by decide
  exact this ⟨d, h⟩
theorem ok_term (B : Bi mg) (F : Df K mg "_law_term" s__law_term ["_law_feed_here", "_law_names", "_law_deep"]) (G1 : C8.Cal P w K mg base 1 "_law_draw" spDraw []) (G2 : C8.Cal P w K mg base 2 "_law_pick" (spPick K) []) : ∀ n : Nat, C8.Cal P w K mg base (n + 2) "_law_term" (spTerm n) []
  | 0 => by
      refine calMono (F.never fun vs H Q E h => ?_) (Nat.zero_le _)
      obtain ⟨a, p, ns, d, _, _, _, h, _⟩ := h
      exact absurd h (Nat.not_lt_zero _)
  | n + 1 => by
    have G_law_term := ok_term B F G1 G2 n
    have G_law_draw := calMono G1 (show 1 ≤ n + 2 by omega)
    have G_law_pick := calMono G2 (show 2 ≤ n + 2 by omega)
    refine F.cal sc__law_term (fun vs H Q E h => ?_) (fun f cdv A outer s H vs Q E hr h => ?_)
    · obtain ⟨a, p, ns, d, rfl, _⟩ := h
      rfl
    · obtain ⟨a, p, ns, d, rfl, f0, hN, hd, hn, q⟩ := h
      refine ⟨_, (pss_cons (ps_set (i := 3) sc__law_term.nd rfl (Or.inl rfl) (C8.pe_c G_law_draw hr (Nat.le_refl _) rfl (pa_cons (pv 0) (pa_cons pe_int pa_nil))))
      (pss_cons (ps_set (i := 4) sc__law_term.nd rfl (Or.inl rfl) (C8.pe_c G_law_pick hr (Nat.le_refl _) rfl (pa_cons (pv 0) (pa_cons (pv 1) pa_nil))))
      (pss_cons (ps_if (pt_cmpR op_eq (pv 3) pe_int (nomark _)) (pss_one (ps_ret (pe_op op_add_str (pv 4) pe_str))) pss_nil)
      (pss_cons (ps_if (pt_cmpR op_eq (pv 3) pe_int (nomark _)) (pss_one (ps_ret (pe_op op_add_str (pe_op op_add_str (pe_op op_add_str (pe_op op_add_str (pe_op op_add_str (pe_op op_add_str pe_str (pe_callTy call_str_int rfl B.ty_str (by decide +kernel) (pa_cons (C8.pe_c G_law_draw hr (Nat.le_refl _) rfl (pa_cons (pv 0) (pa_cons pe_int pa_nil))) pa_nil))) pe_str) (pe_callTy call_str_int rfl B.ty_str (by decide +kernel) (pa_cons (C8.pe_c G_law_draw hr (Nat.le_refl _) rfl (pa_cons (pv 0) (pa_cons pe_int pa_nil))) pa_nil))) pe_str) (pv 4)) pe_str))) pss_nil)
      (pss_cons (ps_if (PW.pt (pw_or (pt_cmpR op_eq (pv 3) pe_int (nomark _)) (pw_or1 (pt_cmpR op_eq (pv 2) pe_int (nomark _))))) (pss_one (ps_ret (pv 4))) pss_nil)
      (pss_cons (ps_setLc (i := 5) (own := [("_law_k", 6)]) (g := gName 6) (tt := tYes) rfl sc__law_term.nd rfl rfl (sw_true rfl rfl rfl (by decide +kernel)) (pi_range1 rfl B.range (pa_cons (pe_op op_add pe_int (C8.pe_c G_law_draw hr (Nat.le_refl _) rfl (pa_cons (pv 0) (pa_cons pe_int pa_nil)))) pa_nil)) (blkOk_by (own := [("_law_k", 6)]) (N := ["_law_feed_here", "_law_names", "_law_deep", "_law_way", "_law_name", "_law_parts", "_law_k"]) (sc := defScope s__law_term) (by decide +kernel)) (fun _ _ _ _ _ => (pg_name (i := 6) sc__law_term.nd rfl (Or.inl rfl))) (fun _ _ _ _ _ => pts_nil) (fun _ _ _ _ _ => (C8.pe_c G_law_term hr (Nat.le_refl _) rfl (pa_cons (pv 0) (pa_cons (pv 1) (pa_cons (pe_op op_sub (pv 2) pe_int) pa_nil))))))
      (pss_one (ps_ret (pe_op op_add_str (pe_op op_add_str (pe_op op_add_str (C8.pe_c G_law_pick hr (Nat.le_refl _) rfl (pa_cons (pv 0) (pa_cons (pv 1) pa_nil))) pe_str) (kk_bm K rfl PySem.F.plainAttrs_str PySem.F.slot_str_join PySem.F.type_str_join (kk_join K rfl) pe_str (pa_cons (pv 5) pa_nil))) pe_str))))))))), ?_⟩
      have big : ∀ m : Nat, m ≤ 10000 → m ≤ sizeLine := fun m h => Nat.le_trans h (by decide)
      refine ⟨_, rfl, a, 5, rfl, f0, by decide, by decide, fun r H1 r0 r1 f1 k1 => ?_⟩
      have hN1 := hN.kb k1
      refine ⟨_, rfl, _, rfl, a, _, rfl, f1, .inr ⟨p, _, rfl, hN1.ne, .inl (SqL.of hN1.at_), hN1.pos', hN1.len', fun vn H2 hvn f2 k2 => ?_⟩⟩
      obtain ⟨nm, rfl, hnm⟩ := hN1.mem hvn
      have k02 := k1.trans k2
      have hnl := hnm.2.2.1
      refine ⟨_, rfl, rfl, _, rfl, ite2 (fun h => ?_) (fun h => ?_)⟩
      · refine ⟨_, rfl, _, _, rfl, rfl, big _ (by rw [qt_eq, slen, slen]; simp; omega), ?_⟩
        rw [qt_eq, cat]
        have e : nm ++ qt = nm ++ [] ++ [39] := by simp
        rw [e]
        exact q _ _ ((tm_around hnm (by simp) (by decide) (show ([] : List Nat).length + 5 ≤ 16 by decide)).mono (tl_pos d)) f2 k02
      · refine ⟨_, rfl, rfl, _, rfl, ite2 (fun h => ?_) (fun h => ?_)⟩
        · refine ⟨_, rfl, a, 2, rfl, f2, by decide, by decide, fun r2 H3 u0 u1 f3 k3 => ?_⟩
          obtain ⟨l2, e2, ⟨ll2', ll2''⟩, lc2⟩ := digs (r := r2) u0 (by omega)
          have ll2 : l2.length ≤ 1 := ll2'' (by omega)
          refine ⟨r2, rfl, log_small u0 (by omega), _, _, rfl, rfl, ?_, ?_⟩
          · rw [endp_eq, e2]
            exact big _ (by rw [slen, slen]; simp; omega)
          rw [endp_eq, e2, cat]
          refine ⟨_, _, rfl, rfl, big _ (by rw [cs_eq, slen, slen]; simp; omega), ?_⟩
          rw [cs_eq, cat]
          refine ⟨_, rfl, a, 12, rfl, f3, by decide, by decide, fun r3 H4 v0 v1 f4 k4 => ?_⟩
          obtain ⟨l3, e3, ⟨ll3, _⟩, lc3⟩ := digs (r := r3) v0 (by omega)
          refine ⟨r3, rfl, log_small v0 (by omega), _, _, rfl, rfl, ?_, ?_⟩
          · rw [e3]
            exact big _ (by rw [slen, slen]; simp; omega)
          rw [e3, cat]
          refine ⟨_, _, rfl, rfl, big _ (by rw [slen, slen]; simp; omega), ?_⟩
          rw [cat]
          refine ⟨_, rfl, _, _, rfl, rfl, big _ (by rw [slen, slen]; simp; omega), ?_⟩
          rw [cat]
          refine ⟨_, _, rfl, rfl, big _ (by rw [rp_eq, slen, slen]; simp; omega), ?_⟩
          rw [rp_eq, cat]
          refine q _ _ ⟨by simp, ?_, fun c hc => ?_, ?_, ?_⟩ f4 ((k02.trans k3).trans k4)
          · have := tl_pos d
            simp only [List.length_append, List.length_cons, List.length_nil]
            omega
          · have d1 : ∀ c ∈ endp, 32 ≤ c ∧ c ≤ 126 ∧ c ≠ 60 ∧ c ≠ 61 := by decide
            have d2 : ∀ c ∈ cs, 32 ≤ c ∧ c ≤ 126 ∧ c ≠ 60 ∧ c ≠ 61 := by decide
            have d3 : ∀ c ∈ [41], 32 ≤ c ∧ c ≤ 126 ∧ c ≠ 60 ∧ c ≠ 61 := by decide
            rw [List.mem_append, List.mem_append, List.mem_append, List.mem_append, List.mem_append, List.mem_append] at hc
            rcases hc with (((((hc | hc) | hc) | hc) | hc) | hc) | hc
            · exact d1 c hc
            · have := lc2 c hc; omega
            · exact d2 c hc
            · have := lc3 c hc; omega
            · exact d2 c hc
            · exact low_chars hnm.1 c hc
            · exact d3 c hc
          · intro e
            cases e
          · intro e
            rw [List.getLast?_append] at e
            simp at e
        · refine ⟨_, rfl, rfl, _, rfl, ?_⟩
          -- way 2, or at the end
          have leave : Q (.str (S nm)) H2 := q _ _ (hnm.tm.mono (Nat.le_trans (by decide) (tl_pos d))) f2 k02
          refine ite2 (fun h => ?_) (fun h => ?_)
          · exact iteT ⟨_, rfl, leave⟩
          · refine ⟨_, rfl, rfl, _, rfl, ite2 (fun h => ?_) (fun h => ?_)⟩
            · exact ⟨_, rfl, leave⟩
            · have hd0 : d ≠ 0 := fun e => h (by rw [e]; rfl)
              obtain ⟨e, rfl⟩ : ∃ e, d = e + 1 := ⟨d - 1, by omega⟩
              refine ⟨_, rfl, a, 2, rfl, f2, by decide, by decide, fun r4 H3 r40 r41 f3 k3 => ⟨_, _, rfl, rfl, _, rfl, by omega, by omega, fun D hD => ?_⟩⟩
              have hDa : D ≠ a := f3.ne hD
              have hD0 : H D = none := (k02.trans k3).free hDa hD
              refine lc_range (lo := 0) (fun i H4 => ∃ ls : List (List Nat), ls.length = i ∧ (∀ l ∈ ls, Tm (tl e) l) ∧ H4 D = some (.lst (LS ls)) ∧ Fd H4 a ∧ KB a H H4) ⟨[], rfl, by simp, upd_same, f3.new hD, (k02.trans k3).new hD⟩ (fun i H4 hi hP => ?_) (fun H4 hP => ?_)
              · obtain ⟨ls, hl, hT, hDl, f4, k4⟩ := hP
                refine ⟨rfl, yesT ?_⟩
                refine ⟨_, rfl, _, rfl, _, rfl, _, _, rfl, rfl, a, p, ns, e, ?_, f4, hN.kb k4, by omega, by omega, fun l H5 hl5 f5 k5 => ?_⟩
                · show [V.ref a, V.ref p, V.int (((e + 1 : Nat) : Int) - 1)] = _
                  rw [show ((e + 1 : Nat) : Int) - 1 = (e : Int) by omega]
                have hD5 := k5 D _ hDa hDl
                refine ⟨_, hD5, Nat.lt_of_lt_of_le (show _ < 10 by rw [List.length_map]; omega) (by decide), ls ++ [l], by simp [hl], fun x hx => ?_, ?_, f5.upd hDa.symm, (k4.trans k5).upd0 hD0⟩
                · rw [List.mem_append, List.mem_singleton] at hx
                  rcases hx with hx | rfl
                  · exact hT x hx
                  · exact hl5
                · rw [upd_same]
                  exact congrArg (fun z => some (HO.lst z)) (LS_snoc ls l)
              · obtain ⟨ls, hl, hT, hDl, f4, k4⟩ := hP
                have hl2 : ls.length ≤ 2 := by omega
                have htl : tl e ≤ 1000 := tl_le (by omega)
                have hTl : ∀ l ∈ ls, l.length ≤ tl e := fun l h => (hT l h).len
                have jl := joinL_len2 (sep := cs) hl2 hTl
                have jc := joinL_chars (sep := cs) (p := fun c => 32 ≤ c ∧ c ≤ 126 ∧ c ≠ 60 ∧ c ≠ 61) (by decide) fun l h => (hT l h).chars
                have hN4 := hN.kb k4
                refine ⟨_, rfl, _, rfl, a, _, rfl, f4, .inr ⟨p, _, rfl, hN4.ne, .inl (SqL.of hN4.at_), hN4.pos', hN4.len', fun vn2 H5 hvn2 f5 k5 => ?_⟩⟩
                obtain ⟨nm2, rfl, hnm2⟩ := hN4.mem hvn2
                have hnl2 := hnm2.2.2.1
                refine ⟨_, _, rfl, rfl, big _ (by rw [lp_eq, slen, slen]; simp; omega), ?_⟩
                rw [lp_eq, cat]
                refine ⟨rfl, _, rfl, _, D, ls.map S, rfl, rfl, .inl (SqL.of (by rw [k5 D _ hDa hDl, List.map_map]; rfl)), ?_, ?_⟩
                · have hs := sum_le (fun l : List Nat => l.length) (tl e) ls hTl
                  have h5 : ((ls.map S).map (·.length)) = ls.map (fun l : List Nat => l.length) := SX.lens ls
                  have h6 : ls.length * tl e ≤ 2 * 1000 := Nat.mul_le_mul hl2 htl
                  have h7 : (Str.ofString ", ").length = 2 := by decide +kernel
                  rw [List.length_map, h5, h7]
                  omega
                have ej : Txt.join (Str.ofString ", ") (ls.map S) = S (TL.joinL cs ls) := by
                  rw [cs_eq]
                  exact SX.join_S cs ls
                rw [ej]
                have jl' : (TL.joinL cs ls).length ≤ 2 * tl e + 2 := jl
                refine ⟨_, _, rfl, rfl, big _ (by rw [slen, slen]; simp; omega), ?_⟩
                rw [cat]
                refine ⟨_, _, rfl, rfl, big _ (by rw [rp_eq, slen, slen]; simp; omega), ?_⟩
                rw [rp_eq, cat, List.append_assoc nm2]
                refine q _ _ (tm_around hnm2 (fun c hc => ?_) (by decide) ?_) f5 (k4.trans k5)
                · rw [List.mem_append, List.mem_singleton] at hc
                  rcases hc with rfl | hc
                  · decide
                  · exact jc c hc
                · show ([40] ++ TL.joinL cs ls).length + 5 ≤ 2 * tl e + 8
                  simp only [List.length_append, List.length_cons, List.length_nil]
                  omega
end
end KW

/-! ## the law's own trees: _law_tree, _law_lines -/
namespace KW
open PySem PySem.Spec PyProof.Rows L2
section
variable {P : Program} {w : World} {K : PySem.W.Frag} {mg : Str → Option Value} {base : Heap}
abbrev s__law_tree : Stmt := topS 17
theorem sc__law_tree : FnScope ["_law_feed_here", "_law_names", "_law_room", "_law_deep", "_law_left", "_law_sides", "_law_one", "_law_other"] ["_law_feed_here", "_law_names", "_law_room", "_law_deep"] (defScope s__law_tree) := ⟨rfl, rfl, rfl, by decide +kernel, rfl, by decide +kernel, by decide +kernel⟩
def spTree (n : Nat) : Sp := fun vs H Q _ => ∃ (a p : Addr) (ns : List (List Nat)) (m d : Nat), vs = [.ref a, .ref p, .int m, .int d] ∧ Fd H a ∧ NmsAt H a p ns ∧ d < n ∧ m ≤ 20 ∧
  ∀ (v : V) (t : Tr) (H' : Hp), TrAt (hid a H') v t → t.ok → t.sz ≤ m → t.dep ≤ d → Fd H' a → KB a H H' → Q v H'
theorem ok_tree (B : Bi mg) (F : Df K mg "_law_tree" s__law_tree ["_law_feed_here", "_law_names", "_law_room", "_law_deep"]) (G1 : C8.Cal P w K mg base 1 "_law_draw" spDraw []) (G5 : C8.Cal P w K mg base 5 "_law_term" (spTerm 3) []) : ∀ n : Nat, C8.Cal P w K mg base (n + 5) "_law_tree" (spTree n) []
  | 0 => by
      refine calMono (F.never fun vs H Q E h => ?_) (Nat.zero_le _)
      obtain ⟨a, p, ns, m, d, _, _, _, h, _⟩ := h
      exact absurd h (Nat.not_lt_zero _)
  | n + 1 => by
    have G_law_tree := ok_tree B F G1 G5 n
    have G_law_draw := calMono G1 (show 1 ≤ n + 5 by omega)
    have G_law_term := calMono G5 (show 5 ≤ n + 5 by omega)
    refine F.cal sc__law_tree (fun vs H Q E h => ?_) (fun f cdv A outer s H vs Q E hr h => ?_)
    · obtain ⟨a, p, ns, m, d, rfl, _⟩ := h
      rfl
    · obtain ⟨a, p, ns, m, d, rfl, f0, hN, hd, hm, q⟩ := h
      refine ⟨_, (pss_cons (ps_if (PW.pt (pw_or (pt_cmpR op_eq (pv 2) pe_int (nomark _)) (pw_or1 (pt_cmpR op_eq (pv 3) pe_int (nomark _))))) (pss_one (ps_ret (pe_tup pa_nil))) pss_nil)
      (pss_cons (ps_set (i := 4) sc__law_tree.nd rfl (Or.inl rfl) (C8.pe_c G_law_draw hr (Nat.le_refl _) rfl (pa_cons (pv 0) (pa_cons (pv 2) pa_nil))))
      (pss_cons (ps_set (i := 5) sc__law_tree.nd rfl (Or.inl rfl) (pe_tup (pa_cons (C8.pe_c G_law_term hr (Nat.le_refl _) rfl (pa_cons (pv 0) (pa_cons (pv 1) (pa_cons pe_int pa_nil)))) (pa_cons (C8.pe_c G_law_term hr (Nat.le_refl _) rfl (pa_cons (pv 0) (pa_cons (pv 1) (pa_cons pe_int pa_nil)))) pa_nil))))
      (pss_cons (ps_set (i := 6) sc__law_tree.nd rfl (Or.inl rfl) (C8.pe_c G_law_tree hr (Nat.le_refl _) rfl (pa_cons (pv 0) (pa_cons (pv 1) (pa_cons (pv 4) (pa_cons (pe_op op_sub (pv 3) pe_int) pa_nil))))))
      (pss_cons (ps_set (i := 7) sc__law_tree.nd rfl (Or.inl rfl) (C8.pe_c G_law_tree hr (Nat.le_refl _) rfl (pa_cons (pv 0) (pa_cons (pv 1) (pa_cons (pe_op op_sub (pe_op op_sub (pv 2) pe_int) (pv 4)) (pa_cons (pe_op op_sub (pv 3) pe_int) pa_nil))))))
      (pss_one (ps_ret (pe_op (kk_catA K rfl) (pv 5) (pe_tup (pa_cons (pv 6) (pa_cons (pv 7) pa_nil))))))))))), ?_⟩
      have big : ∀ m : Nat, m ≤ 10000 → m ≤ sizeLine := fun m h => Nat.le_trans h (by decide)
      have leave : ∀ c, H c = none → Q (.ref c) (upd H c (.tup [])) := fun c hc =>
        q _ .leaf _ (.leaf (hid_of (f0.ne hc) upd_same)) trivial (Nat.zero_le _) (Nat.zero_le _) (f0.new hc) ((KB.refl _ _).new hc)
      refine ⟨_, rfl, rfl, _, rfl, ite2 (fun h => ?_) (fun h => ?_)⟩
      · exact iteT ⟨Nat.zero_le _, leave⟩
      · refine ⟨_, rfl, rfl, _, rfl, ite2 (fun h2 => ?_) (fun h2 => ?_)⟩
        · exact ⟨Nat.zero_le _, leave⟩
        · have hm0 : m ≠ 0 := fun e => h (by rw [e]; rfl)
          have hd0 : d ≠ 0 := fun e => h2 (by rw [e]; rfl)
          obtain ⟨d', rfl⟩ : ∃ e, d = e + 1 := ⟨d - 1, by omega⟩
          refine ⟨_, rfl, _, rfl, a, m, rfl, f0, by omega, by omega, fun r H1 r0 r1 f1 k1 => ?_⟩
          obtain ⟨r, rfl⟩ : ∃ e : Nat, r = (e : Int) := ⟨r.toNat, by omega⟩
          refine ⟨_, rfl, _, rfl, a, p, ns, 2, rfl, f1, hN.kb k1, by decide, by decide, fun l H2 hl f2 k2 => ?_⟩
          refine ⟨_, rfl, _, rfl, a, p, ns, 2, rfl, f2, (hN.kb k1).kb k2, by decide, by decide, fun l' H3 hl' f3 k3 => ?_⟩
          refine ⟨big _ (by simp), fun c hc => ?_⟩
          have hca : c ≠ a := f3.ne hc
          have f4 := f3.new (o := .tup [V.str (S l), V.str (S l')]) hc
          have k4 := ((k1.trans k2).trans k3).new (o := .tup [V.str (S l), V.str (S l')]) hc
          have hc4 : (upd H3 c (.tup [V.str (S l), V.str (S l')])) c = some (.tup [V.str (S l), V.str (S l')]) := upd_same
          generalize (upd H3 c (.tup [V.str (S l), V.str (S l')])) = H4 at *
          refine ⟨_, rfl, _, rfl, _, rfl, _, rfl, _, _, rfl, rfl, a, p, ns, r, d', ?_, f4, hN.kb k4, by omega, by omega, fun v1 t1 H5 h1 o1 s1 p1 f5 k5 => ?_⟩
          · show [V.ref a, V.ref p, V.int (r : Int), V.int (((d' + 1 : Nat) : Int) - 1)] = _
            rw [show ((d' + 1 : Nat) : Int) - 1 = (d' : Int) by omega]
          refine ⟨_, rfl, _, rfl, _, rfl, _, _, rfl, rfl, _, rfl, _, _, rfl, rfl, _, rfl, _, _, rfl, rfl, a, p, ns, m - 1 - r, d', ?_, f5, (hN.kb k4).kb k5, by omega, by omega, fun v2 t2 H6 h2 o2 s2 p2 f6 k6 => ?_⟩
          · show [V.ref a, V.ref p, V.int ((m : Int) - 1 - (r : Int)), V.int (((d' + 1 : Nat) : Int) - 1)] = _
            rw [show ((d' + 1 : Nat) : Int) - 1 = (d' : Int) by omega, show (m : Int) - 1 - (r : Int) = ((m - 1 - r : Nat) : Int) by omega]
          have hc6 : H6 c = some (.tup [V.str (S l), V.str (S l')]) := k6 _ _ hca (k5 _ _ hca hc4)
          refine ⟨_, rfl, _, rfl, _, rfl, big _ (by simp), fun e he => ?_⟩
          have f7 := f6.new (o := .tup [v1, v2]) he
          refine ⟨c, e, _, _, rfl, rfl, SqT.of (same_upd he _ _ hc6), SqT.of upd_same, big _ (by simp), fun z => absurd z (by simp), fun _ z => absurd z (by simp), fun _ _ g hg => ?_⟩
          have hga : g ≠ a := f7.ne hg
          have kk : KB a H6 (upd (upd H6 e (.tup [v1, v2])) g (.tup ([V.str (S l), V.str (S l')] ++ [v1, v2]))) := ((KB.refl _ _).new he).new hg
          have sh := hid_kb kk
          have ll := (hl.sd (by decide)).len
          refine q _ (.node l l' t1 t2) _ (.node (hid_of hga upd_same) ((h1.mono (hid_kb k6)).mono sh) (h2.mono sh)) ⟨hl.sd (by decide), hl'.sd (by decide), o1, o2⟩ ?_ ?_ (f7.new hg) (((k4.trans k5).trans k6).trans kk)
          · show t1.sz + t2.sz + 1 ≤ m
            omega
          · show max t1.dep t2.dep + 1 ≤ d' + 1
            omega
abbrev s__law_lines : Stmt := topS 18
theorem sc__law_lines : FnScope ["_law_told", "_law_found", "_law_one", "_law_other", "_law_line"] ["_law_told"] (defScope s__law_lines) := ⟨rfl, rfl, rfl, by decide +kernel, rfl, by decide +kernel, by decide +kernel⟩
theorem ok_lines (B : Bi mg) (F : Df K mg "_law_lines" s__law_lines ["_law_told"]) : ∀ n : Nat, C8.Cal P w K mg base n "_law_lines" (spTL n) []
  | 0 => F.never fun vs H Q E h => by
      obtain ⟨v, t, _, _, _, h, _⟩ := h
      exact absurd h (Nat.not_lt_zero _)
  | n + 1 => by
    have G_law_lines := ok_lines B F n
    refine F.cal sc__law_lines (fun vs H Q E h => ?_) (fun f cdv A outer s H vs Q E hr h => ?_)
    · obtain ⟨v, t, rfl, _⟩ := h
      rfl
    · obtain ⟨v, t, rfl, hT, hok, hdep, hsz, q⟩ := h
      refine ⟨_, (pss_cons (ps_if (pt_cmpR (kk_eqD K rfl hr.units) (pv 0) (pe_tup pa_nil) (nomark _)) (pss_one (ps_ret (pe_lst (pa_cons pe_str pa_nil)))) pss_nil)
      (pss_cons (ps_par rfl sc__law_lines.nd (i := 2) (j := 3) rfl rfl  (by decide) rfl rfl  (pa_cons (C8.pe_c G_law_lines hr (Nat.le_refl _) rfl (pa_cons (pe_ix (kk_ixT K rfl) (pv 0) pe_int (fun _ _ => rfl)) pa_nil)) (pa_cons (C8.pe_c G_law_lines hr (Nat.le_refl _) rfl (pa_cons (pe_ix (kk_ixT K rfl) (pv 0) pe_int (fun _ _ => rfl)) pa_nil)) pa_nil)) (by rfl))
      (pss_cons (ps_set (i := 1) sc__law_lines.nd rfl (Or.inl rfl) (pe_op op_cat (pe_lst (pa_cons (pe_op op_add_str (pe_op op_add_str (pe_ix (kk_ixT K rfl) (pv 0) pe_int (fun _ _ => rfl)) pe_str) (pe_ix (kk_ixT K rfl) (pv 0) pe_int (fun _ _ => rfl))) pa_nil)) (pe_lc (own := [("_law_line", 4)]) (g := gName 4) (tt := tYes) rfl sc__law_lines.nd (kk_iList K rfl (pv 2)) (blkOk_by (own := [("_law_line", 4)]) (N := ["_law_told", "_law_found", "_law_one", "_law_other", "_law_line"]) (sc := defScope s__law_lines) (by decide +kernel)) (fun _ _ _ _ _ => (pg_name (i := 4) sc__law_lines.nd rfl (Or.inl rfl))) (fun _ _ _ _ _ => pts_nil) (fun _ _ _ _ _ => (pe_op op_add_str pe_str (pv 4))))))
      (pss_one (ps_ret (pe_op op_cat (pe_op op_cat (pv 1) (pe_lst (pa_cons (pe_op op_add_str (pe_op op_add_str (pe_ix (kk_ixT K rfl) (pv 0) pe_int (fun _ _ => rfl)) pe_str) (pe_ix (kk_ixT K rfl) (pv 0) pe_int (fun _ _ => rfl))) pa_nil))) (pe_lc (own := [("_law_line", 4)]) (g := gName 4) (tt := tYes) rfl sc__law_lines.nd (kk_iList K rfl (pv 3)) (blkOk_by (own := [("_law_line", 4)]) (N := ["_law_told", "_law_found", "_law_one", "_law_other", "_law_line"]) (sc := defScope s__law_lines) (by decide +kernel)) (fun _ _ _ _ _ => (pg_name (i := 4) sc__law_lines.nd rfl (Or.inl rfl))) (fun _ _ _ _ _ => pts_nil) (fun _ _ _ _ _ => (pe_op op_add_str pe_str (pv 4)))))))))), ?_⟩
      have hd60 : t.dep ≤ 60 := Nat.le_trans t.dep_le hsz
      refine ⟨_, rfl, Nat.zero_le _, fun e0 he0 => ?_⟩
      have s0 : Same H (upd H e0 (.tup [])) := same_upd he0
      refine ⟨t.data, .tuple [], (hT.mono s0).dp, .tup (SqT.of upd_same) .nil, t.shaped hok hd60, by decide, _, rfl, ?_⟩
      cases hT with
      | leaf e =>
        rw [Tr.eqv_leaf]
        refine iteT ⟨(by show 1 ≤ sizeLine; decide), fun p hp => ?_⟩
        refine q p _ (s0.free hp) (s0.trans (same_upd hp)) ?_
        rw [upd_same, so_eq]
        rfl
      | @node pt l r va vb a b e ha hb =>
        rw [Tr.eqv_node]
        obtain ⟨hl, hr', hoa, hob⟩ := hok
        have dd : (Tr.node l r a b).dep = max a.dep b.dep + 1 := rfl
        have ss : (Tr.node l r a b).sz = a.sz + b.sz + 1 := rfl
        have ll := hl.len
        have lr := hr'.len
        have big : ∀ m : Nat, m ≤ 10000 → m ≤ sizeLine := fun m h => Nat.le_trans h (by decide)
        refine iteF ?_
        have e1 := s0 _ _ e
        have ha1 := ha.mono s0
        have hb1 := hb.mono s0
        generalize (upd H e0 (.tup [])) = H1 at *
        -- the lines of both
        refine ⟨_, rfl, pt, _, 2, va, rfl, rfl, SqT.of e1, rfl, va, a, rfl, ha1, hoa, by omega, by omega, fun pa H2 hpa s2 epa => ?_⟩
        have e2 := s2 _ _ e1
        refine ⟨_, rfl, pt, _, 3, vb, rfl, rfl, SqT.of e2, rfl, vb, b, rfl, hb1.mono s2, hob, by omega, by omega, fun pb H3 hpb s3 epb => ?_⟩
        have e3 := s3 _ _ e2
        have epa3 := s3 _ _ epa
        refine ⟨_, _, rfl, ?_⟩
        -- [l <= r] + [..]
        refine ⟨_, rfl, pt, _, 0, _, rfl, rfl, SqT.of e3, rfl, _, _, rfl, rfl, big _ (by rw [leq_eq, slen, slen]; simp; omega), _, rfl, pt, _, 1, _, rfl, rfl, SqT.of e3, rfl, _, _, rfl, rfl, big _ (by rw [leq_eq, cat, slen, slen]; simp; omega), big _ (by simp), fun c1 hc1 => ?_⟩
        rw [leq_eq, cat, cat]
        have s4 := same_upd (o := .lst [V.str (S (l ++ leq ++ r))]) hc1
        have ec1 : (upd H3 c1 (.lst [V.str (S (l ++ leq ++ r))])) c1 = some (.lst [V.str (S (l ++ leq ++ r))]) := upd_same
        generalize (upd H3 c1 (.lst [V.str (S (l ++ leq ++ r))])) = H4 at *
        refine ⟨_, rfl, pa, rfl, ⟨_, SqL.of (s4 _ _ epa3)⟩, fun D1 hD1 => ?_⟩
        refine lc_pure (K := K) indV (SqL.of (s4 _ _ epa3)) hD1 (big _ (by rw [List.length_map, Tr.lines_len]; omega)) (fun _ => rfl) (fun x hx acc Qv hq => ?_) ?_
        · obtain ⟨y, hy, rfl⟩ := List.mem_map.mp hx
          have hy' := a.lines_ok hoa y hy
          refine ⟨_, rfl, _, _, rfl, rfl, big _ (by rw [two_eq, slen, slen]; simp; omega), ?_⟩
          rw [two_eq]
          exact hq
        rw [LS_map_ind]
        have s5 := same_upd (o := .lst (LS (a.lines.map (two ++ ·)))) hD1
        refine ⟨c1, D1, _, _, rfl, rfl, s5 _ _ ec1, upd_same, big _ (by rw [List.length_map, List.length_map, Tr.lines_len]; simp; omega), fun c2 hc2 => ?_⟩
        have g1 : [V.str (S (l ++ leq ++ r))] ++ LS (a.lines.map (two ++ ·)) = LS ([l ++ leq ++ r] ++ a.lines.map (two ++ ·)) := by rw [← LS_app]; rfl
        rw [g1]
        have s6 := same_upd (o := .lst (LS ([l ++ leq ++ r] ++ a.lines.map (two ++ ·)))) hc2
        have ec2 : (upd (upd H4 D1 (.lst (LS (a.lines.map (two ++ ·))))) c2 (.lst (LS ([l ++ leq ++ r] ++ a.lines.map (two ++ ·))))) c2 = some (.lst (LS ([l ++ leq ++ r] ++ a.lines.map (two ++ ·)))) := upd_same
        have s46 := (s4.trans s5).trans s6
        generalize (upd (upd H4 D1 (.lst (LS (a.lines.map (two ++ ·))))) c2 (.lst (LS ([l ++ leq ++ r] ++ a.lines.map (two ++ ·))))) = H6 at *
        have e6 := s46 _ _ e3
        -- found + [r < l] + [..]
        refine ⟨_, rfl, _, rfl, pt, _, 1, _, rfl, rfl, SqT.of e6, rfl, _, _, rfl, rfl, big _ (by rw [slt_eq, slen, slen]; simp; omega), _, rfl, pt, _, 0, _, rfl, rfl, SqT.of e6, rfl, _, _, rfl, rfl, big _ (by rw [slt_eq, cat, slen, slen]; simp; omega), big _ (by simp), fun c3 hc3 => ?_⟩
        rw [slt_eq, cat, cat]
        have s7 := same_upd (o := .lst [V.str (S (r ++ slt ++ l))]) hc3
        refine ⟨c2, c3, _, _, rfl, rfl, s7 _ _ ec2, upd_same, big _ (by rw [List.length_map, List.length_append, List.length_map, Tr.lines_len]; simp; omega), fun c4 hc4 => ?_⟩
        rw [LS_snoc]
        have s8 := same_upd (o := .lst (LS ([l ++ leq ++ r] ++ a.lines.map (two ++ ·) ++ [r ++ slt ++ l]))) hc4
        have ec4 : (upd (upd H6 c3 (.lst [V.str (S (r ++ slt ++ l))])) c4 (.lst (LS ([l ++ leq ++ r] ++ a.lines.map (two ++ ·) ++ [r ++ slt ++ l])))) c4 = some (.lst (LS ([l ++ leq ++ r] ++ a.lines.map (two ++ ·) ++ [r ++ slt ++ l]))) := upd_same
        have s38 := (s46.trans s7).trans s8
        generalize (upd (upd H6 c3 (.lst [V.str (S (r ++ slt ++ l))])) c4 (.lst (LS ([l ++ leq ++ r] ++ a.lines.map (two ++ ·) ++ [r ++ slt ++ l])))) = H8 at *
        have epb8 := s38 _ _ epb
        refine ⟨_, rfl, pb, rfl, ⟨_, SqL.of epb8⟩, fun D2 hD2 => ?_⟩
        refine lc_pure (K := K) indV (SqL.of epb8) hD2 (big _ (by rw [List.length_map, Tr.lines_len]; omega)) (fun _ => rfl) (fun x hx acc Qv hq => ?_) ?_
        · obtain ⟨y, hy, rfl⟩ := List.mem_map.mp hx
          have hy' := b.lines_ok hob y hy
          refine ⟨_, rfl, _, _, rfl, rfl, big _ (by rw [two_eq, slen, slen]; simp; omega), ?_⟩
          rw [two_eq]
          exact hq
        rw [LS_map_ind]
        have s9 := same_upd (o := .lst (LS (b.lines.map (two ++ ·)))) hD2
        refine ⟨c4, D2, _, _, rfl, rfl, s9 _ _ ec4, upd_same, big _ (by rw [List.length_map, List.length_map, List.length_append, List.length_append, List.length_map, List.length_map, Tr.lines_len, Tr.lines_len]; simp; omega), fun c5 hc5 => ?_⟩
        rw [LS_app]
        have sall : Same H (upd (upd H8 D2 (.lst (LS (b.lines.map (two ++ ·))))) c5 (.lst (LS ([l ++ leq ++ r] ++ a.lines.map (two ++ ·) ++ [r ++ slt ++ l] ++ b.lines.map (two ++ ·))))) := ((((s0.trans s2).trans s3).trans s38).trans s9).trans (same_upd hc5)
        exact q c5 _ (((((s0.trans s2).trans s3).trans s38).trans s9).free hc5) sall upd_same
end
end KW

/-! ## the law -/
namespace KW
open PySem PySem.Spec PyProof.Rows L2
def TsAt (H : Hp) (vs : List V) : Prop := ∀ v ∈ vs, ∃ t, TrAt H v t ∧ t.ok ∧ t.sz ≤ 25 ∧ t.dep ≤ 25
theorem TsAt.mono {H H' : Hp} {vs : List V} (h : TsAt H vs) (s : Same H H') : TsAt H' vs := fun v hv => by
  obtain ⟨t, h1, h2⟩ := h v hv
  exact ⟨t, h1.mono s, h2⟩
theorem TsAt.app {H : Hp} {vs ws : List V} (h : TsAt H vs) (g : TsAt H ws) : TsAt H (vs ++ ws) := fun v hv => by
  rw [List.mem_append] at hv
  rcases hv with hv | hv
  · exact h v hv
  · exact g v hv
theorem TsAt.hid {H : Hp} {a : Addr} {vs : List V} (f : Fd H a) (h : TsAt H vs) : TsAt (KW.hid a H) vs := fun v hv => by
  obtain ⟨t, h1, h2⟩ := h v hv
  exact ⟨t, h1.hid f, h2⟩
theorem cutV_len (xs : List V) (lo hi : Option Int) : (cutV xs lo hi).length ≤ xs.length := by
  unfold cutV
  rw [List.length_take, List.length_drop]
  omega
theorem cutV_mem {xs : List V} {lo hi : Option Int} {v : V} (h : v ∈ cutV xs lo hi) : v ∈ xs := by
  unfold cutV at h
  exact List.mem_of_mem_drop (List.mem_of_mem_take h)
theorem KB.same {p : Addr} {H H1 H2 : Hp} (k : KB p H1 H2) (hp : H p = none) (s : Same H H1) : Same H H2 := fun b o e => k b o (ne_of_none e hp) (s b o e)
theorem text_strOk (t : Tr) (h : t.ok) : PyData.strOk (S t.text) = true := by
  unfold PyData.strOk
  rw [← Array.all_toList, List.all_eq_true]
  intro c hc
  have key := joinL_chars (sep := [10]) (p := fun c => c ≤ 126) (by decide) (ls := t.lines) (fun l hl d hd => ((t.lines_ok h l hl).1 d hd).2) c hc
  simp
  omega
theorem Tr.sizeD : ∀ t : Tr, KW.sizeD t.data ≤ 10 * t.sz + 1
  | .leaf => by simp [Tr.data, KW.sizeD, sizeAll, Tr.sz]
  | .node l r a b => by
    have h1 := Tr.sizeD a
    have h2 := Tr.sizeD b
    simp only [Tr.data, KW.sizeD, sizeAll, Tr.sz]
    omega
section
variable {P : Program} {w : World} {K : PySem.W.Frag} {mg : Str → Option Value} {base : Heap}
abbrev s_law : Stmt := topS 19
theorem sc_law : FnScope ["_law_script", "_law_some", "_law_k", "_law_told", "_law_feed_here", "_law_names", "_law_deep", "_law_turn", "_law_text", "_law_branches"] ["_law_script"] (defScope s_law) := ⟨rfl, rfl, rfl, by decide +kernel, rfl, by decide +kernel, by decide +kernel⟩
def spLaw (K : PySem.W.Frag) : Sp := fun vs H Q _ => ∃ (a : Addr) (ns : List Int), vs = [.ref a] ∧ SqL K H a (ns.map V.int) ∧ ns.length ≤ 63 ∧ ∀ H', Q (.bl true) H'
theorem ok_law {k : Nat} {f : Addr} {fd : FuncData} (B : Bi mg) (F : Fun K "law" "law" s_law f fd) (G_law_feed : C8.Cal P w K mg base k "_law_feed" (spFeed K) []) (G_law_draw : C8.Cal P w K mg base k "_law_draw" spDraw []) (G_law_pick : C8.Cal P w K mg base k "_law_pick" (spPick K) [])
    (G_law_words : C8.Cal P w K mg base k "_law_words" spWords []) (G_law_tree : C8.Cal P w K mg base k "_law_tree" (spTree 7) []) (G_law_lines : C8.Cal P w K mg base k "_law_lines" (spTL 27) []) (G_law_same : C8.Cal P w K mg base k "_law_same" (spSame K 30) [])
    (Gshow_tree : C8.Cal P w K mg base k "show_tree" (spShow 27) []) (Gread_tree : C8.Cal P w K mg base k "read_tree" (spRead 27) []) : FnOk P w K mg base CX0 (k + 1) f fd ["_law_script"] (spLaw K) := by
  refine F.ok sc_law (fun vs H Q E h => ?_) (fun cdv A outer s H vs Q E hr h => ?_)
  · obtain ⟨a, ns, rfl, _⟩ := h
    rfl
  · obtain ⟨a, ns, rfl, hS, hlen, q⟩ := h
    refine ⟨_, (pss_cons (ps_set (i := 1) sc_law.nd rfl (Or.inl rfl) (pe_lst (pa_cons (pe_tup pa_nil) pa_nil)))
      (pss_cons (ps_for PassesOwn.never rfl (pi_range1 rfl B.range (pa_cons (pe_op op_add pe_int (pe_callB (kk_len K rfl) rfl B.len PySem.boot_len (pa_cons (pe_slice (kk_slL K rfl) (pv 0) po_none (po_some pe_int)) pa_nil))) pa_nil)) (pg_name (i := 2) sc_law.nd rfl (Or.inl rfl)) (pss_cons (ps_set (i := 4) sc_law.nd rfl (Or.inr rfl) (C8.pe_c G_law_feed hr (Nat.le_refl _) rfl (pa_cons (pv 0) (pa_cons (pv 2) pa_nil))))
      (pss_cons (ps_set (i := 5) sc_law.nd rfl (Or.inr rfl) (C8.pe_c G_law_words hr (Nat.le_refl _) rfl (pa_cons (pv 4) (pa_cons pe_int pa_nil))))
      (pss_cons (ps_set (i := 1) sc_law.nd rfl (Or.inl rfl) (pe_op op_cat (pv 1) (pe_lc (own := [("_law_turn", 7)]) (g := gName 7) (tt := tYes) rfl sc_law.nd (pi_range1 rfl B.range (pa_cons pe_int pa_nil)) (blkOk_by (own := [("_law_turn", 7)]) (N := ["_law_script", "_law_some", "_law_k", "_law_told", "_law_feed_here", "_law_names", "_law_deep", "_law_turn", "_law_text", "_law_branches"]) (sc := defScope s_law) (by decide +kernel)) (fun _ _ _ _ _ => (pg_name (i := 7) sc_law.nd rfl (Or.inl rfl))) (fun _ _ _ _ _ => pts_nil) (fun _ _ _ _ _ => (C8.pe_c G_law_tree hr (Nat.le_refl _) rfl (pa_cons (pv 4) (pa_cons (pv 5) (pa_cons (C8.pe_c G_law_draw hr (Nat.le_refl _) rfl (pa_cons (pv 4) (pa_cons pe_int pa_nil))) (pa_cons pe_int pa_nil)))))))))
      (pss_cons (ps_set (i := 6) sc_law.nd rfl (Or.inl rfl) (pe_tup pa_nil))
      (pss_cons (ps_for PassesOwn.never rfl (pi_range1 rfl B.range (pa_cons (pe_op op_add pe_int (C8.pe_c G_law_draw hr (Nat.le_refl _) rfl (pa_cons (pv 4) (pa_cons pe_int pa_nil)))) pa_nil)) (pg_name (i := 7) sc_law.nd rfl (Or.inl rfl)) (C8.pss_cut (ps_set (i := 9) sc_law.nd rfl (Or.inl rfl) (pe_ifExp (pt_cmpR op_eq (C8.pe_c G_law_draw hr (Nat.le_refl _) rfl (pa_cons (pv 4) (pa_cons pe_int pa_nil))) pe_int (nomark _)) (pe_tup (pa_cons (pv 6) (pa_cons (pe_tup pa_nil) pa_nil))) (pe_tup (pa_cons (pe_tup pa_nil) (pa_cons (pv 6) pa_nil)))))
      (pss_one (ps_set (i := 6) sc_law.nd rfl (Or.inl rfl) (pe_op (kk_catA K rfl) (pe_tup (pa_cons (C8.pe_c G_law_pick hr (Nat.le_refl _) rfl (pa_cons (pv 4) (pa_cons (pv 5) pa_nil))) (pa_cons (C8.pe_c G_law_pick hr (Nat.le_refl _) rfl (pa_cons (pv 4) (pa_cons (pv 5) pa_nil))) pa_nil))) (pv 9))))))
      (pss_one (ps_expr (kk_bm K rfl PySem.F.plainAttrs_list PySem.F.slot_list_append PySem.F.type_list_append mt_append (pv 1) (pa_cons (pv 6) pa_nil))))))))))
      (pss_cons (ps_for PassesOwn.never rfl (kk_iList K rfl (pe_op op_cat (pv 1) (pe_slice (kk_slL K rfl) (pv 1) po_none (po_some pe_int)))) (pg_name (i := 3) sc_law.nd rfl (Or.inl rfl)) (pss_cons (ps_set (i := 8) sc_law.nd rfl (Or.inl rfl) (kk_bm K rfl PySem.F.plainAttrs_str PySem.F.slot_str_join PySem.F.type_str_join (kk_join K rfl) pe_str (pa_cons (C8.pe_c G_law_lines hr (Nat.le_refl _) rfl (pa_cons (pv 3) pa_nil)) pa_nil)))
      (pss_one (ps_if (PW.pt (pw_or (pt_not (pt_val (C8.pe_c G_law_same hr (Nat.le_refl _) rfl (pa_cons (C8.pe_c Gshow_tree hr (Nat.le_refl _) rfl (pa_cons (pv 3) pa_nil)) (pa_cons (pv 8) pa_nil))))) (pw_or1 (pt_not (pt_val (C8.pe_c G_law_same hr (Nat.le_refl _) rfl (pa_cons (C8.pe_c Gread_tree hr (Nat.le_refl _) rfl (pa_cons (pv 8) pa_nil)) (pa_cons (pv 3) pa_nil)))))))) (pss_one (ps_ret pe_bl)) pss_nil))))
      (pss_one (ps_ret pe_bl))))), ?_⟩
    have big : ∀ m : Nat, m ≤ 10000 → m ≤ sizeLine := fun m h => Nat.le_trans h (by decide)
    -- some = [()]
    refine ⟨Nat.zero_le _, fun e0 he0 => ⟨big _ (by simp), fun q0 hq0 => ?_⟩⟩
    have s0 := same_upd (o := .tup []) he0
    have s1 := same_upd (o := .lst [V.ref e0]) hq0
    have s01 : Same H (upd (upd H e0 (.tup [])) q0 (.lst [V.ref e0])) := s0.trans s1
    have hT0 : TsAt (upd (upd H e0 (.tup [])) q0 (.lst [V.ref e0])) [V.ref e0] := fun v hv => by
      rw [List.mem_singleton] at hv
      subst hv
      exact ⟨.leaf, .leaf (s1 _ _ upd_same), trivial, Nat.zero_le _, Nat.zero_le _⟩
    have hq0e : (upd (upd H e0 (.tup [])) q0 (.lst [V.ref e0])) q0 = some (.lst [V.ref e0]) := upd_same
    generalize (upd (upd H e0 (.tup [])) q0 (.lst [V.ref e0])) = H1 at *
    -- range(1 + len(script[:2]))
    have hlm : (ns.map V.int).length ≤ 63 := by rw [List.length_map]; exact hlen
    refine ⟨_, rfl, 2, rfl, a, _, rfl, s01.seq hS, fun c hc => ?_⟩
    have sc := same_upd (o := .lst (cutV (ns.map V.int) none (some 2))) hc
    have hcl : (cutV (ns.map V.int) none (some 2)).length ≤ 63 := Nat.le_trans (cutV_len _ _ _) hlm
    refine ⟨_, _, rfl, .inl ⟨_, SqL.of upd_same, rfl⟩, _, _, rfl, rfl, _, rfl, by omega, by omega, ?_⟩
    refine for_range (lo := 0) (fun i σ H2 => ∃ (qa : Addr) (vs : List V) (v2 v4 v5 v6 v7 v9 : Option V), σ = [some (.ref a), some (.ref qa), v2, none, v4, v5, v6, v7, none, v9] ∧ H2 qa = some (.lst vs) ∧ vs.length ≤ 1 + 3 * i ∧ TsAt H2 vs ∧ Same H H2) ?_ ?_ ?_
    · exact ⟨q0, [V.ref e0], none, none, none, none, none, none, rfl, sc _ _ hq0e, by simp, hT0.mono sc, s01.trans sc⟩
    · rintro i σ H2 hi ⟨qa, vs, v2, v4, v5, v6, v7, v9, rfl, hqa, hvl, hTs, sH2⟩
      have hi64 : i < 64 := by omega
      -- feed, names
      refine ⟨_, rfl, _, rfl, a, ns, _, rfl, sH2.seq hS, by omega, fun p H3 hp s3 f3 => ?_⟩
      have hqp : qa ≠ p := ne_of_none hqa hp
      have hpH : H p = none := sH2.free hp
      refine ⟨_, rfl, p, 3, rfl, f3, by decide, fun n ls H4 hn hls hnm hnd hn4 f4 k4 => ?_⟩
      have hnp : n ≠ p := f3.ne hn
      have hN4 : NmsAt H4 p n ls := ⟨hn4, hnp, hnm, by intro e; rw [e] at hls; simp at hls, by omega⟩
      have sH3 : Same H H3 := sH2.trans s3
      have sH4 : Same H H4 := k4.same hpH sH3
      have hTs4 : TsAt (hid p H4) vs := ((hTs.mono s3).hid f3).mono (hid_kb k4)
      have hqa4 : H4 qa = some (.lst vs) := k4 _ _ hqp (s3 _ _ hqa)
      -- some + [tree, tree]
      refine ⟨_, rfl, _, rfl, by decide, by decide, fun D hD => ?_⟩
      have hDp : D ≠ p := f4.ne hD
      refine lc_range (lo := 0) (n := 2) (fun j H5 => ∃ ts : List V, ts.length = j ∧ H5 D = some (.lst ts) ∧ TsAt (hid p H5) ts ∧ Fd H5 p ∧ KB p H4 H5) ⟨[], rfl, upd_same, fun v hv => by simp at hv, f4.new hD, (KB.refl _ _).new hD⟩ (fun j H5 hj hP => ?_) (fun H5 hP => ?_)
      · obtain ⟨ts, hl, hDt, hTt, f5, k5⟩ := hP
        refine ⟨rfl, yesT ?_⟩
        refine ⟨_, rfl, _, rfl, _, rfl, p, 11, rfl, f5, by decide, by decide, fun r H6 r0 r1 f6 k6 => ?_⟩
        obtain ⟨r, rfl⟩ : ∃ e : Nat, r = (e : Int) := ⟨r.toNat, by omega⟩
        refine ⟨p, n, ls, r, 6, rfl, f6, (hN4.kb k5).kb k6, by decide, by omega, fun v t H7 ht ho hz hd f7 k7 => ?_⟩
        have hD7 := k7 D _ hDp (k6 D _ hDp hDt)
        have k57 := k6.trans k7
        have kb7 : KB D H7 (upd H7 D (.lst (ts ++ [v]))) := (KB.refl _ _).upd
        have hne : ∀ x xs, hid p H7 x = some (.tup xs) → x ≠ D := fun x xs e => by
          have e' := hid_same _ _ e
          exact ne_of e' hD7 (by intro z; cases z)
        have hidk : KB D (hid p H7) (hid p (upd H7 D (.lst (ts ++ [v])))) := fun b o hb e => by
          by_cases hbp : b = p
          · rw [hbp] at e
            unfold hid at e
            rw [if_pos rfl] at e
            cases e
          · rw [hid_ne hbp] at e ⊢
            rw [upd_ne hb]
            exact e
        refine ⟨_, hD7, Nat.lt_of_lt_of_le (show ts.length < 10 by omega) (by decide), ts ++ [v], by simp [hl], upd_same, ?_, f7.upd hDp.symm, (k5.trans k57).upd0 hD⟩
        refine TsAt.app (fun x hx => ?_) (fun x hx => ?_)
        · obtain ⟨t', h1, h2⟩ := hTt x hx
          exact ⟨t', (h1.mono (hid_kb k57)).kb hidk hne, h2⟩
        · rw [List.mem_singleton] at hx
          subst hx
          exact ⟨t, ht.kb hidk hne, ho, by omega, by omega⟩
      · obtain ⟨ts, hl, hDt, hTt, f5, k5⟩ := hP
        have hqa5 : H5 qa = some (.lst vs) := k5 _ _ hqp hqa4
        refine ⟨qa, D, vs, ts, rfl, rfl, hqa5, hDt, big _ (by omega), fun c2 hc2 => ?_⟩
        have hc2p : c2 ≠ p := f5.ne hc2
        have sc2 := same_upd (o := .lst (vs ++ ts)) hc2
        have f6 := f5.new (o := .lst (vs ++ ts)) hc2
        have k6 : KB p H4 (upd H5 c2 (.lst (vs ++ ts))) := k5.new hc2
        have hTs6 : TsAt (hid p (upd H5 c2 (.lst (vs ++ ts)))) (vs ++ ts) := (TsAt.app (hTs4.mono (hid_kb k5)) hTt).mono (hid_kb (KB.of_same sc2))
        have ec2 : (upd H5 c2 (.lst (vs ++ ts))) c2 = some (.lst (vs ++ ts)) := upd_same
        have hc2H : H c2 = none := (k5.same hpH sH4).free hc2
        generalize (upd H5 c2 (.lst (vs ++ ts))) = H6 at *
        -- deep = ()
        refine ⟨Nat.zero_le _, fun e1 he1 => ?_⟩
        have he1p : e1 ≠ p := f6.ne he1
        have se1 := same_upd (o := .tup []) he1
        have f7 := f6.new (o := .tup []) he1
        have k7 : KB p H4 (upd H6 e1 (.tup [])) := k6.new he1
        have hTs7 := hTs6.mono (hid_kb (a := p) (KB.of_same se1))
        have ec27 := se1 _ _ ec2
        have hd7 : TrAt (hid p (upd H6 e1 (.tup []))) (V.ref e1) .leaf := .leaf (hid_of he1p upd_same)
        generalize (upd H6 e1 (.tup [])) = H7 at *
        -- the chain of knots
        refine ⟨_, rfl, p, 10, rfl, f7, by decide, by decide, fun r H8 r0 r1 f8 k8 => ⟨_, _, rfl, rfl, _, rfl, by omega, by omega, ?_⟩⟩
        refine for_range (lo := 0) (fun j σ H9 => ∃ (v : V) (t : Tr) (u7 u9 : Option V), σ = [some (.ref a), some (.ref c2), some (.int (0 + i)), none, some (.ref p), some (.ref n), some v, u7, none, u9] ∧ TrAt (hid p H9) v t ∧ t.ok ∧ t.sz ≤ j ∧ t.dep ≤ j ∧ H9 c2 = some (.lst (vs ++ ts)) ∧ TsAt (hid p H9) (vs ++ ts) ∧ Fd H9 p ∧ KB p H4 H9) ?_ ?_ ?_
        · exact ⟨_, .leaf, _, _, rfl, hd7.mono (hid_kb k8), trivial, Nat.le_refl _, Nat.le_refl _, k8 _ _ hc2p ec27, hTs7.mono (hid_kb k8), f8, k7.trans k8⟩
        · rintro j σ H9 hj ⟨v, t, u7, u9, rfl, hvt, hto, htz, htd, hc9, hTs9, f9, k9⟩
          have hj20 : j < 20 := by omega
          refine ⟨fun σ H10 => ∃ (e2 : Addr) (x y : V) (t1 t2 : Tr), σ = [some (.ref a), some (.ref c2), some (.int (0 + i)), none, some (.ref p), some (.ref n), some v, some (.int (0 + j)), none, some (.ref e2)] ∧ H10 e2 = some (.tup [x, y]) ∧ TrAt (hid p H10) x t1 ∧ TrAt (hid p H10) y t2 ∧ t1.ok ∧ t2.ok ∧ t1.sz + t2.sz ≤ j ∧ max t1.dep t2.dep ≤ j ∧ Fd H10 p ∧ KB p H9 H10, ?_, ?_⟩
          · refine ⟨_, rfl, p, 2, rfl, f9, by decide, by decide, fun r2 H10 w0 w1 f10 k10 => ⟨rfl, _, rfl, ite2 (fun hz => ?_) (fun hz => ?_)⟩⟩
            · refine ⟨_, rfl, Nat.zero_le _, fun x1 hx1 => ⟨big _ (by simp), fun x2 hx2 => ?_⟩⟩
              have hx1p : x1 ≠ p := f10.ne hx1
              have g1 := same_upd (o := .tup []) hx1
              have g2 := same_upd (o := .tup [v, V.ref x1]) hx2
              have kk : KB p H10 (upd (upd H10 x1 (.tup [])) x2 (.tup [v, V.ref x1])) := ((KB.refl _ _).new hx1).new hx2
              refine ⟨x2, v, V.ref x1, t, .leaf, rfl, upd_same, (hvt.mono (hid_kb k10)).mono (hid_kb kk), .leaf (hid_of hx1p (g2 _ _ upd_same)), hto, trivial, ?_, ?_, (f10.new hx1).new hx2, k10.trans kk⟩
              · show t.sz + 0 ≤ j
                omega
              · show max t.dep 0 ≤ j
                omega
            · refine ⟨Nat.zero_le _, fun x1 hx1 => ⟨_, rfl, big _ (by simp), fun x2 hx2 => ?_⟩⟩
              have hx1p : x1 ≠ p := f10.ne hx1
              have g1 := same_upd (o := .tup []) hx1
              have g2 := same_upd (o := .tup [V.ref x1, v]) hx2
              have kk : KB p H10 (upd (upd H10 x1 (.tup [])) x2 (.tup [V.ref x1, v])) := ((KB.refl _ _).new hx1).new hx2
              refine ⟨x2, V.ref x1, v, .leaf, t, rfl, upd_same, .leaf (hid_of hx1p (g2 _ _ upd_same)), (hvt.mono (hid_kb k10)).mono (hid_kb kk), trivial, hto, ?_, ?_, (f10.new hx1).new hx2, k10.trans kk⟩
              · show 0 + t.sz ≤ j
                omega
              · show max 0 t.dep ≤ j
                omega
          · rintro σ H10 ⟨e2, x, y, t1, t2, rfl, he2, hx, hy, o1, o2, hz, hd, f10, k10⟩
            have hN10 := (hN4.kb k9).kb k10
            refine ⟨_, rfl, _, rfl, p, _, rfl, f10, .inr ⟨n, _, rfl, hN10.ne, .inl (SqL.of hN10.at_), hN10.pos', hN10.len', fun vn H11 hvn f11 k11 => ?_⟩⟩
            obtain ⟨nm1, rfl, hnm1⟩ := hN10.mem hvn
            have hN11 := hN10.kb k11
            refine ⟨_, rfl, _, rfl, p, _, rfl, f11, .inr ⟨n, _, rfl, hN11.ne, .inl (SqL.of hN11.at_), hN11.pos', hN11.len', fun vn2 H12 hvn2 f12 k12 => ?_⟩⟩
            obtain ⟨nm2, rfl, hnm2⟩ := hN11.mem hvn2
            refine ⟨big _ (by simp), fun g1 hg1 => ?_⟩
            have k1012 := k11.trans k12
            have he2p : e2 ≠ p := f10.neT he2
            have he12 := k1012 _ _ he2p he2
            refine ⟨_, rfl, g1, e2, _, _, rfl, rfl, SqT.of upd_same, SqT.of (same_upd hg1 _ _ he12), big _ (by simp), fun z => absurd z (by simp), fun _ z => absurd z (by simp), fun _ _ g2 hg2 => ?_⟩
            have f13 := f12.new (o := .tup [V.str (S nm1), V.str (S nm2)]) hg1
            have hg2p : g2 ≠ p := f13.ne hg2
            have kk : KB p H12 (upd (upd H12 g1 (.tup [V.str (S nm1), V.str (S nm2)])) g2 (.tup ([V.str (S nm1), V.str (S nm2)] ++ [x, y]))) := ((KB.refl _ _).new hg1).new hg2
            have kall := (k10.trans k1012).trans kk
            have khid := hid_kb (k1012.trans kk)
            refine ⟨_, .node nm1 nm2 t1 t2, _, _, rfl, .node (hid_of hg2p upd_same) (hx.mono khid) (hy.mono khid), ⟨hnm1.tm.sd (by decide), hnm2.tm.sd (by decide), o1, o2⟩, ?_, ?_, kall _ _ hc2p hc9, hTs9.mono (hid_kb kall), f13.new hg2, k9.trans kall⟩
            · show t1.sz + t2.sz + 1 ≤ j + 1
              omega
            · show max t1.dep t2.dep + 1 ≤ j + 1
              omega
        · rintro σ H9 ⟨v, t, u7, u9, rfl, hvt, hto, htz, htd, hc9, hTs9, f9, k9⟩
          refine ⟨_, rfl, .inl ⟨rfl, _, SqL.of hc9⟩, _, rfl, c2, _, _, rfl, rfl, hc9, Nat.lt_of_lt_of_le (show (vs ++ ts).length < 1000 by rw [List.length_append]; omega) (by decide), ?_⟩
          have kc : KB c2 H9 (upd H9 c2 (.lst (vs ++ ts ++ [v]))) := (KB.refl _ _).upd
          have hne : ∀ x xs, H9 x = some (.tup xs) → x ≠ c2 := fun x xs e => ne_of e hc9 (by intro z; cases z)
          refine ⟨c2, vs ++ ts ++ [v], _, _, _, _, _, _, rfl, upd_same, ?_, ?_, ?_⟩
          · rw [List.length_append, List.length_append]
            simp
            omega
          · refine TsAt.app (fun x hx => ?_) (fun x hx => ?_)
            · obtain ⟨t', h1, h2⟩ := hTs9 x hx
              exact ⟨t', (h1.mono hid_same).kb kc hne, h2⟩
            · rw [List.mem_singleton] at hx
              subst hx
              exact ⟨t, (hvt.mono hid_same).kb kc hne, hto, by omega, by omega⟩
          · exact kc.same hc2H (k9.same hpH sH4)
    · rintro σ H2 ⟨qa, vs, v2, v4, v5, v6, v7, v9, rfl, hqa, hvl, hTs, sH2⟩
      -- for told in some + some[:2]
      refine ⟨_, rfl, _, rfl, 2, rfl, qa, _, rfl, SqL.of hqa, fun c1 hc1 => ?_⟩
      have s3 := same_upd (o := .lst (cutV vs none (some 2))) hc1
      have cl := cutV_len vs none (some 2)
      refine ⟨qa, c1, _, _, rfl, rfl, s3 _ _ hqa, upd_same, big _ (by omega), fun c2 hc2 => ?_⟩
      have s4 := same_upd (o := .lst (vs ++ cutV vs none (some 2))) hc2
      have ec2 : (upd (upd H2 c1 (.lst (cutV vs none (some 2)))) c2 (.lst (vs ++ cutV vs none (some 2)))) c2 = some (.lst (vs ++ cutV vs none (some 2))) := upd_same
      have hTs4 : TsAt (upd (upd H2 c1 (.lst (cutV vs none (some 2)))) c2 (.lst (vs ++ cutV vs none (some 2)))) (vs ++ cutV vs none (some 2)) := TsAt.mono (fun x hx => by
        rw [List.mem_append] at hx
        rcases hx with hx | hx
        · exact hTs x hx
        · exact hTs x (cutV_mem hx)) (s3.trans s4)
      generalize (upd (upd H2 c1 (.lst (cutV vs none (some 2)))) c2 (.lst (vs ++ cutV vs none (some 2)))) = H4 at *
      refine ⟨c2, rfl, ⟨_, SqL.of ec2⟩, for_list (K := K) (a := c2) (xs := vs ++ cutV vs none (some 2)) (fun i σ H5 => ∃ (v3 v8 : Option V), σ = [some (.ref a), some (.ref qa), v2, v3, v4, v5, v6, v7, v8, v9] ∧ Same H4 H5) ⟨none, none, rfl, fun _ _ e => e⟩ (fun i σ H5 _ ⟨_, _, _, s5⟩ => SqL.of (s5 _ _ ec2)) ?_ ?_⟩
      · rintro i x σ H5 hx ⟨v3, v8, rfl, s5⟩
        obtain ⟨t, ht, hok, hsz, hdp⟩ := hTs4 x (List.mem_of_getElem? hx)
        have ht5 := ht.mono s5
        have e27 : t.dep < 27 := by omega
        have e60 : t.sz ≤ 60 := by omega
        refine ⟨rfl, _, rfl, x, t, rfl, ht5, hok, e27, e60, fun p H6 hp s6 ep => ?_⟩
        have ej : Txt.join (Str.ofString "\n") (t.lines.map S) = S t.text := by
          rw [nl_eq]
          exact SX.join_S [10] t.lines
        refine ⟨_, p, t.lines.map S, rfl, rfl, .inl (SqL.of (by rw [ep, List.map_map]; rfl)), ?_, ?_⟩
        · have h1 := sum_le (fun l : List Nat => l.length) (204 + 2 * t.dep) t.lines fun x hx => (t.lines_ok hok x hx).2
          have h3 := t.lines_len
          have h4 : (Str.ofString "\n").length = 1 := by decide +kernel
          have h5 : ((t.lines.map S).map (·.length)) = t.lines.map (fun l : List Nat => l.length) := SX.lens t.lines
          rw [List.length_map, h4, h5, h3]
          rw [h3] at h1
          have h6 : (3 * t.sz + 1) * (204 + 2 * t.dep) ≤ 181 * 324 := Nat.mul_le_mul (by omega) (by omega)
          omega
        rw [ej]
        -- the two tests
        refine ⟨_, rfl, x, t, rfl, ht5.mono s6, hok, e27, e60, fun H7 s7 => ?_⟩
        refine ⟨_, rfl, _, _, .str (S t.text), rfl, .str _, .str _, text_strOk t hok, by show 0 < 30; decide, by decide, by show 1 ≤ 100000; decide, fun H8 s8 => ⟨true, rfl, iteF ?_⟩⟩
        refine ⟨_, rfl, t, rfl, hok, e27, e60, fun v' H9 hv' s9 => ?_⟩
        have sall : Same H5 H9 := ((s6.trans s7).trans s8).trans s9
        have hdd := t.depth
        have hzz := t.sizeD
        refine ⟨_, rfl, _, _, t.data, rfl, hv'.dp, (ht5.mono sall).dp, t.canLay hok, by omega, by decide, by omega, fun H10 s10 => ⟨true, rfl, iteF ?_⟩⟩
        exact ⟨_, _, rfl, s5.trans (sall.trans s10)⟩
      · rintro σ H5 ⟨v3, v8, rfl, s5⟩
        exact q _
end
end KW

/-! ## the end -/
namespace KW
open PySem PySem.Spec PyProof.Rows L2
theorem all_mk {l : PySem.W.OpenLaw} {w : World} {K : PySem.W.Frag} {h : Heap} {mg : Str → Option Value} {fa : Addr} (X : K.In h) (G : h.Ns mainGlobals mg) (hfa : mg "law" = some (.ref fa))
    {od__law_feed an__law_feed : Option Addr} {sl__law_feed : Array (Option Value)} {oc__law_feed kV__law_feed dc__law_feed pm__law_feed cd__law_feed ct__law_feed : Value} {f__law_feed : Addr}
    {od__law_draw an__law_draw : Option Addr} {sl__law_draw : Array (Option Value)} {oc__law_draw kV__law_draw dc__law_draw pm__law_draw cd__law_draw ct__law_draw : Value} {f__law_draw : Addr}
    {od__law_pick an__law_pick : Option Addr} {sl__law_pick : Array (Option Value)} {oc__law_pick kV__law_pick dc__law_pick pm__law_pick cd__law_pick ct__law_pick : Value} {f__law_pick : Addr}
    {od__law_word an__law_word : Option Addr} {sl__law_word : Array (Option Value)} {oc__law_word kV__law_word dc__law_word pm__law_word cd__law_word ct__law_word : Value} {f__law_word : Addr}
    {od__law_words an__law_words : Option Addr} {sl__law_words : Array (Option Value)} {oc__law_words kV__law_words dc__law_words pm__law_words cd__law_words ct__law_words : Value} {f__law_words : Addr}
    {od__law_same an__law_same : Option Addr} {sl__law_same : Array (Option Value)} {oc__law_same kV__law_same dc__law_same pm__law_same cd__law_same ct__law_same : Value} {f__law_same : Addr}
    {od__law_term an__law_term : Option Addr} {sl__law_term : Array (Option Value)} {oc__law_term kV__law_term dc__law_term pm__law_term cd__law_term ct__law_term : Value} {f__law_term : Addr}
    {od__law_tree an__law_tree : Option Addr} {sl__law_tree : Array (Option Value)} {oc__law_tree kV__law_tree dc__law_tree pm__law_tree cd__law_tree ct__law_tree : Value} {f__law_tree : Addr}
    {od__law_lines an__law_lines : Option Addr} {sl__law_lines : Array (Option Value)} {oc__law_lines kV__law_lines dc__law_lines pm__law_lines cd__law_lines ct__law_lines : Value} {f__law_lines : Addr}
    {od_tree_lines an_tree_lines : Option Addr} {sl_tree_lines : Array (Option Value)} {oc_tree_lines kV_tree_lines dc_tree_lines pm_tree_lines cd_tree_lines ct_tree_lines : Value} {f_tree_lines : Addr}
    {od_show_tree an_show_tree : Option Addr} {sl_show_tree : Array (Option Value)} {oc_show_tree kV_show_tree dc_show_tree pm_show_tree cd_show_tree ct_show_tree : Value} {f_show_tree : Addr}
    {od_is_side an_is_side : Option Addr} {sl_is_side : Array (Option Value)} {oc_is_side kV_is_side dc_is_side pm_is_side cd_is_side ct_is_side : Value} {f_is_side : Addr}
    {od_read_tree an_read_tree : Option Addr} {sl_read_tree : Array (Option Value)} {oc_read_tree kV_read_tree dc_read_tree pm_read_tree cd_read_tree ct_read_tree : Value} {f_read_tree : Addr}
    {C_TreeText : Addr}
    {od_TreeText___init__ an_TreeText___init__ : Option Addr} {sl_TreeText___init__ : Array (Option Value)} {oc_TreeText___init__ kV_TreeText___init__ dc_TreeText___init__ pm_TreeText___init__ cd_TreeText___init__ ct_TreeText___init__ : Value} {f_TreeText___init__ : Addr}
    {od_TreeText_line an_TreeText_line : Option Addr} {sl_TreeText_line : Array (Option Value)} {oc_TreeText_line kV_TreeText_line dc_TreeText_line pm_TreeText_line cd_TreeText_line ct_TreeText_line : Value} {f_TreeText_line : Addr}
    {od_TreeText_need an_TreeText_need : Option Addr} {sl_TreeText_need : Array (Option Value)} {oc_TreeText_need kV_TreeText_need dc_TreeText_need pm_TreeText_need cd_TreeText_need ct_TreeText_need : Value} {f_TreeText_need : Addr}
    {od_TreeText_branch an_TreeText_branch : Option Addr} {sl_TreeText_branch : Array (Option Value)} {oc_TreeText_branch kV_TreeText_branch dc_TreeText_branch pm_TreeText_branch cd_TreeText_branch ct_TreeText_branch : Value} {f_TreeText_branch : Addr}
    {od_law an_law : Option Addr} {sl_law : Array (Option Value)} {oc_law kV_law dc_law pm_law cd_law ct_law : Value} {f_law : Addr}
    (a__law_feed : PySem.W.nsIn K mainGlobals "_law_feed" = some (some (.ref f__law_feed)))
    (l__law_feed : K.lookup f__law_feed = some ⟨oc__law_feed, od__law_feed, .func (PySem.W.fnOf "_law_feed" "_law_feed" (defArgs s__law_feed) (defBody s__law_feed) (defScope s__law_feed) .none kV__law_feed dc__law_feed pm__law_feed an__law_feed cd__law_feed ct__law_feed), sl__law_feed⟩)
    (c__law_feed : PySem.W.codeIn K cd__law_feed "_law_feed" = true)
    (k__law_feed : PySem.W.keepIn K (.ref f__law_feed) = true)
    (a__law_draw : PySem.W.nsIn K mainGlobals "_law_draw" = some (some (.ref f__law_draw)))
    (l__law_draw : K.lookup f__law_draw = some ⟨oc__law_draw, od__law_draw, .func (PySem.W.fnOf "_law_draw" "_law_draw" (defArgs s__law_draw) (defBody s__law_draw) (defScope s__law_draw) .none kV__law_draw dc__law_draw pm__law_draw an__law_draw cd__law_draw ct__law_draw), sl__law_draw⟩)
    (c__law_draw : PySem.W.codeIn K cd__law_draw "_law_draw" = true)
    (k__law_draw : PySem.W.keepIn K (.ref f__law_draw) = true)
    (a__law_pick : PySem.W.nsIn K mainGlobals "_law_pick" = some (some (.ref f__law_pick)))
    (l__law_pick : K.lookup f__law_pick = some ⟨oc__law_pick, od__law_pick, .func (PySem.W.fnOf "_law_pick" "_law_pick" (defArgs s__law_pick) (defBody s__law_pick) (defScope s__law_pick) .none kV__law_pick dc__law_pick pm__law_pick an__law_pick cd__law_pick ct__law_pick), sl__law_pick⟩)
    (c__law_pick : PySem.W.codeIn K cd__law_pick "_law_pick" = true)
    (k__law_pick : PySem.W.keepIn K (.ref f__law_pick) = true)
    (a__law_word : PySem.W.nsIn K mainGlobals "_law_word" = some (some (.ref f__law_word)))
    (l__law_word : K.lookup f__law_word = some ⟨oc__law_word, od__law_word, .func (PySem.W.fnOf "_law_word" "_law_word" (defArgs s__law_word) (defBody s__law_word) (defScope s__law_word) .none kV__law_word dc__law_word pm__law_word an__law_word cd__law_word ct__law_word), sl__law_word⟩)
    (c__law_word : PySem.W.codeIn K cd__law_word "_law_word" = true)
    (k__law_word : PySem.W.keepIn K (.ref f__law_word) = true)
    (a__law_words : PySem.W.nsIn K mainGlobals "_law_words" = some (some (.ref f__law_words)))
    (l__law_words : K.lookup f__law_words = some ⟨oc__law_words, od__law_words, .func (PySem.W.fnOf "_law_words" "_law_words" (defArgs s__law_words) (defBody s__law_words) (defScope s__law_words) .none kV__law_words dc__law_words pm__law_words an__law_words cd__law_words ct__law_words), sl__law_words⟩)
    (c__law_words : PySem.W.codeIn K cd__law_words "_law_words" = true)
    (k__law_words : PySem.W.keepIn K (.ref f__law_words) = true)
    (a__law_same : PySem.W.nsIn K mainGlobals "_law_same" = some (some (.ref f__law_same)))
    (l__law_same : K.lookup f__law_same = some ⟨oc__law_same, od__law_same, .func (PySem.W.fnOf "_law_same" "_law_same" (defArgs s__law_same) (defBody s__law_same) (defScope s__law_same) .none kV__law_same dc__law_same pm__law_same an__law_same cd__law_same ct__law_same), sl__law_same⟩)
    (c__law_same : PySem.W.codeIn K cd__law_same "_law_same" = true)
    (k__law_same : PySem.W.keepIn K (.ref f__law_same) = true)
    (a__law_term : PySem.W.nsIn K mainGlobals "_law_term" = some (some (.ref f__law_term)))
    (l__law_term : K.lookup f__law_term = some ⟨oc__law_term, od__law_term, .func (PySem.W.fnOf "_law_term" "_law_term" (defArgs s__law_term) (defBody s__law_term) (defScope s__law_term) .none kV__law_term dc__law_term pm__law_term an__law_term cd__law_term ct__law_term), sl__law_term⟩)
    (c__law_term : PySem.W.codeIn K cd__law_term "_law_term" = true)
    (k__law_term : PySem.W.keepIn K (.ref f__law_term) = true)
    (a__law_tree : PySem.W.nsIn K mainGlobals "_law_tree" = some (some (.ref f__law_tree)))
    (l__law_tree : K.lookup f__law_tree = some ⟨oc__law_tree, od__law_tree, .func (PySem.W.fnOf "_law_tree" "_law_tree" (defArgs s__law_tree) (defBody s__law_tree) (defScope s__law_tree) .none kV__law_tree dc__law_tree pm__law_tree an__law_tree cd__law_tree ct__law_tree), sl__law_tree⟩)
    (c__law_tree : PySem.W.codeIn K cd__law_tree "_law_tree" = true)
    (k__law_tree : PySem.W.keepIn K (.ref f__law_tree) = true)
    (a__law_lines : PySem.W.nsIn K mainGlobals "_law_lines" = some (some (.ref f__law_lines)))
    (l__law_lines : K.lookup f__law_lines = some ⟨oc__law_lines, od__law_lines, .func (PySem.W.fnOf "_law_lines" "_law_lines" (defArgs s__law_lines) (defBody s__law_lines) (defScope s__law_lines) .none kV__law_lines dc__law_lines pm__law_lines an__law_lines cd__law_lines ct__law_lines), sl__law_lines⟩)
    (c__law_lines : PySem.W.codeIn K cd__law_lines "_law_lines" = true)
    (k__law_lines : PySem.W.keepIn K (.ref f__law_lines) = true)
    (a_tree_lines : PySem.W.nsIn K mainGlobals "tree_lines" = some (some (.ref f_tree_lines)))
    (l_tree_lines : K.lookup f_tree_lines = some ⟨oc_tree_lines, od_tree_lines, .func (PySem.W.fnOf "tree_lines" "tree_lines" (defArgs s_tree_lines) (defBody s_tree_lines) (defScope s_tree_lines) .none kV_tree_lines dc_tree_lines pm_tree_lines an_tree_lines cd_tree_lines ct_tree_lines), sl_tree_lines⟩)
    (c_tree_lines : PySem.W.codeIn K cd_tree_lines "tree_lines" = true)
    (k_tree_lines : PySem.W.keepIn K (.ref f_tree_lines) = true)
    (a_show_tree : PySem.W.nsIn K mainGlobals "show_tree" = some (some (.ref f_show_tree)))
    (l_show_tree : K.lookup f_show_tree = some ⟨oc_show_tree, od_show_tree, .func (PySem.W.fnOf "show_tree" "show_tree" (defArgs s_show_tree) (defBody s_show_tree) (defScope s_show_tree) .none kV_show_tree dc_show_tree pm_show_tree an_show_tree cd_show_tree ct_show_tree), sl_show_tree⟩)
    (c_show_tree : PySem.W.codeIn K cd_show_tree "show_tree" = true)
    (k_show_tree : PySem.W.keepIn K (.ref f_show_tree) = true)
    (a_is_side : PySem.W.nsIn K mainGlobals "is_side" = some (some (.ref f_is_side)))
    (l_is_side : K.lookup f_is_side = some ⟨oc_is_side, od_is_side, .func (PySem.W.fnOf "is_side" "is_side" (defArgs s_is_side) (defBody s_is_side) (defScope s_is_side) .none kV_is_side dc_is_side pm_is_side an_is_side cd_is_side ct_is_side), sl_is_side⟩)
    (c_is_side : PySem.W.codeIn K cd_is_side "is_side" = true)
    (k_is_side : PySem.W.keepIn K (.ref f_is_side) = true)
    (a_read_tree : PySem.W.nsIn K mainGlobals "read_tree" = some (some (.ref f_read_tree)))
    (l_read_tree : K.lookup f_read_tree = some ⟨oc_read_tree, od_read_tree, .func (PySem.W.fnOf "read_tree" "read_tree" (defArgs s_read_tree) (defBody s_read_tree) (defScope s_read_tree) .none kV_read_tree dc_read_tree pm_read_tree an_read_tree cd_read_tree ct_read_tree), sl_read_tree⟩)
    (c_read_tree : PySem.W.codeIn K cd_read_tree "read_tree" = true)
    (k_read_tree : PySem.W.keepIn K (.ref f_read_tree) = true)
    (a_TreeText : PySem.W.nsIn K mainGlobals "TreeText" = some (some (.ref C_TreeText)))
    (pg_TreeText : PySem.W.plainGet K C_TreeText Str.empty = true) (hd_TreeText : PySem.W.hasDictIn K C_TreeText = true) (po_TreeText : PySem.W.plainOver K C_TreeText = true) (sa_TreeText : PySem.W.findIn K (.ref C_TreeText) "__setattr__" = some (some (.builtin "object.__setattr__"))) (mk_TreeText : PySem.W.makesIn K C_TreeText = true) (kc_TreeText : PySem.W.keepIn K (.ref C_TreeText) = true)
    (n_TreeText_lines : PySem.W.findIn K (.ref C_TreeText) "lines" = some none)
    (n_TreeText_at : PySem.W.findIn K (.ref C_TreeText) "at" = some none)
    (a_TreeText___init__ : PySem.W.findIn K (.ref C_TreeText) "__init__" = some (some (.ref f_TreeText___init__)))
    (i_TreeText___init__ : PySem.W.isFn K (.ref f_TreeText___init__) = true)
    (l_TreeText___init__ : K.lookup f_TreeText___init__ = some ⟨oc_TreeText___init__, od_TreeText___init__, .func (PySem.W.fnOf "__init__" "TreeText.__init__" (defArgs s_TreeText___init__) (defBody s_TreeText___init__) (defScope s_TreeText___init__) .none kV_TreeText___init__ dc_TreeText___init__ pm_TreeText___init__ an_TreeText___init__ cd_TreeText___init__ ct_TreeText___init__), sl_TreeText___init__⟩)
    (c_TreeText___init__ : PySem.W.codeIn K cd_TreeText___init__ "TreeText.__init__" = true)
    (k_TreeText___init__ : PySem.W.keepIn K (.ref f_TreeText___init__) = true)
    (a_TreeText_line : PySem.W.findIn K (.ref C_TreeText) "line" = some (some (.ref f_TreeText_line)))
    (i_TreeText_line : PySem.W.isFn K (.ref f_TreeText_line) = true)
    (l_TreeText_line : K.lookup f_TreeText_line = some ⟨oc_TreeText_line, od_TreeText_line, .func (PySem.W.fnOf "line" "TreeText.line" (defArgs s_TreeText_line) (defBody s_TreeText_line) (defScope s_TreeText_line) .none kV_TreeText_line dc_TreeText_line pm_TreeText_line an_TreeText_line cd_TreeText_line ct_TreeText_line), sl_TreeText_line⟩)
    (c_TreeText_line : PySem.W.codeIn K cd_TreeText_line "TreeText.line" = true)
    (k_TreeText_line : PySem.W.keepIn K (.ref f_TreeText_line) = true)
    (a_TreeText_need : PySem.W.findIn K (.ref C_TreeText) "need" = some (some (.ref f_TreeText_need)))
    (i_TreeText_need : PySem.W.isFn K (.ref f_TreeText_need) = true)
    (l_TreeText_need : K.lookup f_TreeText_need = some ⟨oc_TreeText_need, od_TreeText_need, .func (PySem.W.fnOf "need" "TreeText.need" (defArgs s_TreeText_need) (defBody s_TreeText_need) (defScope s_TreeText_need) .none kV_TreeText_need dc_TreeText_need pm_TreeText_need an_TreeText_need cd_TreeText_need ct_TreeText_need), sl_TreeText_need⟩)
    (c_TreeText_need : PySem.W.codeIn K cd_TreeText_need "TreeText.need" = true)
    (k_TreeText_need : PySem.W.keepIn K (.ref f_TreeText_need) = true)
    (a_TreeText_branch : PySem.W.findIn K (.ref C_TreeText) "branch" = some (some (.ref f_TreeText_branch)))
    (i_TreeText_branch : PySem.W.isFn K (.ref f_TreeText_branch) = true)
    (l_TreeText_branch : K.lookup f_TreeText_branch = some ⟨oc_TreeText_branch, od_TreeText_branch, .func (PySem.W.fnOf "branch" "TreeText.branch" (defArgs s_TreeText_branch) (defBody s_TreeText_branch) (defScope s_TreeText_branch) .none kV_TreeText_branch dc_TreeText_branch pm_TreeText_branch an_TreeText_branch cd_TreeText_branch ct_TreeText_branch), sl_TreeText_branch⟩)
    (c_TreeText_branch : PySem.W.codeIn K cd_TreeText_branch "TreeText.branch" = true)
    (k_TreeText_branch : PySem.W.keepIn K (.ref f_TreeText_branch) = true)
    (z_len : PySem.W.nsIn K mainGlobals "len" = some none)
    (z_range : PySem.W.nsIn K mainGlobals "range" = some none)
    (z_abs : PySem.W.nsIn K mainGlobals "abs" = some none)
    (z_isinstance : PySem.W.nsIn K mainGlobals "isinstance" = some none)
    (z_all : PySem.W.nsIn K mainGlobals "all" = some none)
    (z_zip : PySem.W.nsIn K mainGlobals "zip" = some none)
    (z_enumerate : PySem.W.nsIn K mainGlobals "enumerate" = some none)
    (z_min : PySem.W.nsIn K mainGlobals "min" = some none)
    (z_int : PySem.W.nsIn K mainGlobals "int" = some none)
    (z_str : PySem.W.nsIn K mainGlobals "str" = some none)
    (z_list : PySem.W.nsIn K mainGlobals "list" = some none)
    (z_tuple : PySem.W.nsIn K mainGlobals "tuple" = some none)
    (z_bool : PySem.W.nsIn K mainGlobals "bool" = some none)
    (a_law : PySem.W.nsIn K mainGlobals "law" = some (some (.ref f_law)))
    (l_law : K.lookup f_law = some ⟨oc_law, od_law, .func (PySem.W.fnOf "law" "law" (defArgs s_law) (defBody s_law) (defScope s_law) .none kV_law dc_law pm_law an_law cd_law ct_law), sl_law⟩)
    (c_law : PySem.W.codeIn K cd_law "law" = true)
    (k_law : PySem.W.keepIn K (.ref f_law) = true) :
    ∃ fd : FuncData, (∀ (s : Shared) (v : Value), BindsTo s fd ⟨[v], []⟩ [("_law_script", v)]) ∧ ∀ base : Heap, K.In base → base.Ns mainGlobals mg → FnOk l.prog w K mg base CX0 41 fa fd ["_law_script"] (spLaw K) := by
  have e := hfa.symm.trans (PySem.W.mg_of X G a_law)
  cases e
  have B : Bi mg := { len := PySem.W.mg_none_of X G z_len, range := PySem.W.mg_none_of X G z_range, abs := PySem.W.mg_none_of X G z_abs, isinstance := PySem.W.mg_none_of X G z_isinstance, all := PySem.W.mg_none_of X G z_all, zip := PySem.W.mg_none_of X G z_zip, enumerate := PySem.W.mg_none_of X G z_enumerate, min := PySem.W.mg_none_of X G z_min, ty_int := PySem.W.mg_none_of X G z_int, ty_str := PySem.W.mg_none_of X G z_str, ty_list := PySem.W.mg_none_of X G z_list, ty_tuple := PySem.W.mg_none_of X G z_tuple, ty_bool := PySem.W.mg_none_of X G z_bool }
  have F__law_feed := fun_mk (st := s__law_feed) l__law_feed c__law_feed k__law_feed
  have D__law_feed : Df K mg "_law_feed" s__law_feed ["_law_script", "_law_k"] := ⟨_, _, F__law_feed, PySem.W.mg_of X G a__law_feed, k__law_feed, F__law_feed.binds (ps := ["_law_script", "_law_k"]) fun _ _ _ _ _ _ us hl => match us, hl with | [_, _], _ => rfl⟩
  have F__law_draw := fun_mk (st := s__law_draw) l__law_draw c__law_draw k__law_draw
  have D__law_draw : Df K mg "_law_draw" s__law_draw ["_law_feed_here", "_law_many"] := ⟨_, _, F__law_draw, PySem.W.mg_of X G a__law_draw, k__law_draw, F__law_draw.binds (ps := ["_law_feed_here", "_law_many"]) fun _ _ _ _ _ _ us hl => match us, hl with | [_, _], _ => rfl⟩
  have F__law_pick := fun_mk (st := s__law_pick) l__law_pick c__law_pick k__law_pick
  have D__law_pick : Df K mg "_law_pick" s__law_pick ["_law_feed_here", "_law_items"] := ⟨_, _, F__law_pick, PySem.W.mg_of X G a__law_pick, k__law_pick, F__law_pick.binds (ps := ["_law_feed_here", "_law_items"]) fun _ _ _ _ _ _ us hl => match us, hl with | [_, _], _ => rfl⟩
  have F__law_word := fun_mk (st := s__law_word) l__law_word c__law_word k__law_word
  have D__law_word : Df K mg "_law_word" s__law_word ["_law_feed_here"] := ⟨_, _, F__law_word, PySem.W.mg_of X G a__law_word, k__law_word, F__law_word.binds (ps := ["_law_feed_here"]) fun _ _ _ _ _ _ us hl => match us, hl with | [_], _ => rfl⟩
  have F__law_words := fun_mk (st := s__law_words) l__law_words c__law_words k__law_words
  have D__law_words : Df K mg "_law_words" s__law_words ["_law_feed_here", "_law_many"] := ⟨_, _, F__law_words, PySem.W.mg_of X G a__law_words, k__law_words, F__law_words.binds (ps := ["_law_feed_here", "_law_many"]) fun _ _ _ _ _ _ us hl => match us, hl with | [_, _], _ => rfl⟩
  have F__law_same := fun_mk (st := s__law_same) l__law_same c__law_same k__law_same
  have D__law_same : Df K mg "_law_same" s__law_same ["_law_found", "_law_due"] := ⟨_, _, F__law_same, PySem.W.mg_of X G a__law_same, k__law_same, F__law_same.binds (ps := ["_law_found", "_law_due"]) fun _ _ _ _ _ _ us hl => match us, hl with | [_, _], _ => rfl⟩
  have F__law_term := fun_mk (st := s__law_term) l__law_term c__law_term k__law_term
  have D__law_term : Df K mg "_law_term" s__law_term ["_law_feed_here", "_law_names", "_law_deep"] := ⟨_, _, F__law_term, PySem.W.mg_of X G a__law_term, k__law_term, F__law_term.binds (ps := ["_law_feed_here", "_law_names", "_law_deep"]) fun _ _ _ _ _ _ us hl => match us, hl with | [_, _, _], _ => rfl⟩
  have F__law_tree := fun_mk (st := s__law_tree) l__law_tree c__law_tree k__law_tree
  have D__law_tree : Df K mg "_law_tree" s__law_tree ["_law_feed_here", "_law_names", "_law_room", "_law_deep"] := ⟨_, _, F__law_tree, PySem.W.mg_of X G a__law_tree, k__law_tree, F__law_tree.binds (ps := ["_law_feed_here", "_law_names", "_law_room", "_law_deep"]) fun _ _ _ _ _ _ us hl => match us, hl with | [_, _, _, _], _ => rfl⟩
  have F__law_lines := fun_mk (st := s__law_lines) l__law_lines c__law_lines k__law_lines
  have D__law_lines : Df K mg "_law_lines" s__law_lines ["_law_told"] := ⟨_, _, F__law_lines, PySem.W.mg_of X G a__law_lines, k__law_lines, F__law_lines.binds (ps := ["_law_told"]) fun _ _ _ _ _ _ us hl => match us, hl with | [_], _ => rfl⟩
  have F_tree_lines := fun_mk (st := s_tree_lines) l_tree_lines c_tree_lines k_tree_lines
  have D_tree_lines : Df K mg "tree_lines" s_tree_lines ["told"] := ⟨_, _, F_tree_lines, PySem.W.mg_of X G a_tree_lines, k_tree_lines, F_tree_lines.binds (ps := ["told"]) fun _ _ _ _ _ _ us hl => match us, hl with | [_], _ => rfl⟩
  have F_show_tree := fun_mk (st := s_show_tree) l_show_tree c_show_tree k_show_tree
  have D_show_tree : Df K mg "show_tree" s_show_tree ["told"] := ⟨_, _, F_show_tree, PySem.W.mg_of X G a_show_tree, k_show_tree, F_show_tree.binds (ps := ["told"]) fun _ _ _ _ _ _ us hl => match us, hl with | [_], _ => rfl⟩
  have F_is_side := fun_mk (st := s_is_side) l_is_side c_is_side k_is_side
  have D_is_side : Df K mg "is_side" s_is_side ["text"] := ⟨_, _, F_is_side, PySem.W.mg_of X G a_is_side, k_is_side, F_is_side.binds (ps := ["text"]) fun _ _ _ _ _ _ us hl => match us, hl with | [_], _ => rfl⟩
  have F_read_tree := fun_mk (st := s_read_tree) l_read_tree c_read_tree k_read_tree
  have D_read_tree : Df K mg "read_tree" s_read_tree ["text"] := ⟨_, _, F_read_tree, PySem.W.mg_of X G a_read_tree, k_read_tree, F_read_tree.binds (ps := ["text"]) fun _ _ _ _ _ _ us hl => match us, hl with | [_], _ => rfl⟩
  have cl_TreeText : Cls K C_TreeText := ⟨pg_TreeText, hd_TreeText, po_TreeText, sa_TreeText⟩
  have F_TreeText___init__ := fun_mk (st := s_TreeText___init__) l_TreeText___init__ c_TreeText___init__ k_TreeText___init__
  have D_TreeText___init__ : Dc K mg C_TreeText "TreeText" "TreeText.__init__" s_TreeText___init__ ["self", "text"] := ⟨_, _, ⟨mk_TreeText, a_TreeText___init__, i_TreeText___init__, kc_TreeText⟩, PySem.W.mg_of X G a_TreeText, F_TreeText___init__, F_TreeText___init__.binds (ps := ["self", "text"]) fun _ _ _ _ _ _ us hl => match us, hl with | [_, _], _ => rfl⟩
  have F_TreeText_line := fun_mk (st := s_TreeText_line) l_TreeText_line c_TreeText_line k_TreeText_line
  have D_TreeText_line : Dm K C_TreeText "line" "TreeText.line" s_TreeText_line ["self", "ahead"] := ⟨_, _, cl_TreeText, ⟨a_TreeText_line, i_TreeText_line, k_TreeText_line⟩, F_TreeText_line, F_TreeText_line.binds (ps := ["self", "ahead"]) fun _ _ _ _ _ _ us hl => match us, hl with | [_, _], _ => rfl⟩
  have F_TreeText_need := fun_mk (st := s_TreeText_need) l_TreeText_need c_TreeText_need k_TreeText_need
  have D_TreeText_need : Dm K C_TreeText "need" "TreeText.need" s_TreeText_need ["self", "fits"] := ⟨_, _, cl_TreeText, ⟨a_TreeText_need, i_TreeText_need, k_TreeText_need⟩, F_TreeText_need, F_TreeText_need.binds (ps := ["self", "fits"]) fun _ _ _ _ _ _ us hl => match us, hl with | [_, _], _ => rfl⟩
  have F_TreeText_branch := fun_mk (st := s_TreeText_branch) l_TreeText_branch c_TreeText_branch k_TreeText_branch
  have D_TreeText_branch : Dm K C_TreeText "branch" "TreeText.branch" s_TreeText_branch ["self", "ahead"] := ⟨_, _, cl_TreeText, ⟨a_TreeText_branch, i_TreeText_branch, k_TreeText_branch⟩, F_TreeText_branch, F_TreeText_branch.binds (ps := ["self", "ahead"]) fun _ _ _ _ _ _ us hl => match us, hl with | [_, _], _ => rfl⟩
  have F_law := fun_mk (st := s_law) l_law c_law k_law
  refine ⟨PySem.W.fnOf "law" "law" (defArgs s_law) (defBody s_law) (defScope s_law) .none kV_law dc_law pm_law an_law cd_law ct_law, fun s v => .of_eq rfl, fun base _ _ => ?_⟩
  have g_feed : C8.Cal l.prog w K mg base 1 "_law_feed" (spFeed K) [] := ok_feed (k := 0) B D__law_feed
  have g_draw : C8.Cal l.prog w K mg base 1 "_law_draw" spDraw [] := ok_draw (k := 0) B D__law_draw
  have g_pick : C8.Cal l.prog w K mg base 2 "_law_pick" (spPick K) [] := ok_pick B D__law_pick g_draw
  have g_word : C8.Cal l.prog w K mg base 3 "_law_word" spWord [] := ok_word B D__law_word (calMono g_draw (by decide)) g_pick
  have g_words : C8.Cal l.prog w K mg base 4 "_law_words" spWords [] := ok_words B D__law_words g_word
  have g_term : C8.Cal l.prog w K mg base 5 "_law_term" (spTerm 3) [] := ok_term B D__law_term g_draw g_pick 3
  have g_tree : C8.Cal l.prog w K mg base 12 "_law_tree" (spTree 7) [] := ok_tree B D__law_tree g_draw g_term 7
  have g_lines : C8.Cal l.prog w K mg base 27 "_law_lines" (spTL 27) [] := ok_lines B D__law_lines 27
  have g_same : C8.Cal l.prog w K mg base 30 "_law_same" (spSame K 30) [] := ok_same B D__law_same 30
  have g_tl : C8.Cal l.prog w K mg base 27 "tree_lines" (spTL 27) [] := ok_tree_lines B D_tree_lines 27
  have g_show : C8.Cal l.prog w K mg base 28 "show_tree" (spShow 27) [] := ok_show_tree B D_show_tree g_tl
  have T : TtC K C_TreeText := ⟨cl_TreeText, n_TreeText_lines, n_TreeText_at⟩
  have g_side : C8.Cal l.prog w K mg base 1 "is_side" spSide [] := ok_is_side (k := 0) D_is_side
  have g_line : C8.Met l.prog w K mg base 1 C_TreeText "line" (spLine C_TreeText) [] := ok_line (k := 0) B T D_TreeText_line
  have g_need : C8.Met l.prog w K mg base 1 C_TreeText "need" spNeed [] := ok_need (k := 0) D_TreeText_need
  have g_branch : C8.Met l.prog w K mg base 28 C_TreeText "branch" (spBranch C_TreeText 27) [] := ok_branch B T D_TreeText_branch g_line g_need g_side 27
  have g_make : C8.Mak l.prog w K mg base 27 "TreeText" C_TreeText (spTtI C_TreeText) [] := makMono (ok_TtI (k := 0) T D_TreeText___init__) (by decide)
  have g_read : C8.Cal l.prog w K mg base 29 "read_tree" (spRead 27) [] := ok_read_tree B T D_read_tree (by decide) g_make g_branch
  exact ok_law B F_law (calMono g_feed (by decide)) (calMono g_draw (by decide)) (calMono g_pick (by decide)) (calMono g_words (by decide)) (calMono g_tree (by decide)) (calMono g_lines (by decide)) (calMono g_same (by decide)) (calMono g_show (by decide)) (calMono g_read (by decide))
theorem walk {l : PySem.W.OpenLaw} {q : Program} {loose : List Str} {XP : (Str → Option Value) → Heap → Prop} {YP : World → Heap → Prop} {d : DefRec} {K : Params → PySem.W.Frag} (hn : l.most = some 63) (hdf : d.params.defaults = [])
    (hY : ∀ (w : World) (h : Heap), YP w h → (K w.params).In h)
    (F : ∀ (w : World) (mg : Str → Option Value) (fa : Addr) (h : Heap), (K w.params).In h → h.Ns mainGlobals mg → mg d.name = some (.ref fa) →
      ∃ fd : FuncData, (∀ (s : Shared) (u : Value), BindsTo s fd ⟨[u], []⟩ [("_law_script", u)]) ∧ ∀ base : Heap, (K w.params).In base → base.Ns mainGlobals mg → FnOk l.prog w (K w.params) mg base CX0 41 fa fd ["_law_script"] (spLaw (K w.params))) :
    PySem.W.WalkO q loose XP YP l.row.toRowW d [] (fun f vs => PySem.call f vs) :=
  L2.walk_of (n := 63) (k := 41) (x := "_law_script") (CX := fun _ => CX0) (sp := fun w => spLaw (K w.params)) hn (by decide) hdf ⟨rfl, by decide, by decide⟩ hY F (fun _ _ a ns hl _ hS => ⟨a, ns, rfl, hS, hl, fun _ => rfl⟩) fun _ _ _ _ _ z => z
end KW
open PySem PySem.W PyProof.Rows
set_option maxRecDepth 100000 in
set_option maxHeartbeats 0 in
theorem PySem.Challenge.cw_knownways_k11_trees_as_texts_holds : PySem.Challenge.rw_knownways_k11_trees_as_texts.Holds := by
  w_on; o_law; k_head; (case hw => w_witness2)
  k_fill
  refine KW.walk (l := PySem.Challenge.rw_knownways_k11_trees_as_texts) rfl rfl (fun w h Y => PySem.W.kIn_of Y) ?F
  case F =>
    intro w mg fa h KX G hmg
    refine' KW.all_mk KX G hmg ?a__law_feed ?l__law_feed ?c__law_feed ?k__law_feed ?a__law_draw ?l__law_draw ?c__law_draw ?k__law_draw ?a__law_pick ?l__law_pick ?c__law_pick ?k__law_pick ?a__law_word ?l__law_word ?c__law_word ?k__law_word ?a__law_words ?l__law_words ?c__law_words ?k__law_words ?a__law_same ?l__law_same ?c__law_same ?k__law_same ?a__law_term ?l__law_term ?c__law_term ?k__law_term ?a__law_tree ?l__law_tree ?c__law_tree ?k__law_tree ?a__law_lines ?l__law_lines ?c__law_lines ?k__law_lines ?a_tree_lines ?l_tree_lines ?c_tree_lines ?k_tree_lines ?a_show_tree ?l_show_tree ?c_show_tree ?k_show_tree ?a_is_side ?l_is_side ?c_is_side ?k_is_side ?a_read_tree ?l_read_tree ?c_read_tree ?k_read_tree ?a_TreeText ?pg_TreeText ?hd_TreeText ?po_TreeText ?sa_TreeText ?mk_TreeText ?kc_TreeText ?n_TreeText_lines ?n_TreeText_at ?a_TreeText___init__ ?i_TreeText___init__ ?l_TreeText___init__ ?c_TreeText___init__ ?k_TreeText___init__ ?a_TreeText_line ?i_TreeText_line ?l_TreeText_line ?c_TreeText_line ?k_TreeText_line ?a_TreeText_need ?i_TreeText_need ?l_TreeText_need ?c_TreeText_need ?k_TreeText_need ?a_TreeText_branch ?i_TreeText_branch ?l_TreeText_branch ?c_TreeText_branch ?k_TreeText_branch ?z_len ?z_range ?z_abs ?z_isinstance ?z_all ?z_zip ?z_enumerate ?z_min ?z_int ?z_str ?z_list ?z_tuple ?z_bool ?a_law ?l_law ?c_law ?k_law
    (case a__law_feed => k_is)
    (case l__law_feed => k_is)
    (case c__law_feed => k_is)
    (case k__law_feed => k_is)
    (case a__law_draw => k_is)
    (case l__law_draw => k_is)
    (case c__law_draw => k_is)
    (case k__law_draw => k_is)
    (case a__law_pick => k_is)
    (case l__law_pick => k_is)
    (case c__law_pick => k_is)
    (case k__law_pick => k_is)
    (case a__law_word => k_is)
    (case l__law_word => k_is)
    (case c__law_word => k_is)
    (case k__law_word => k_is)
    (case a__law_words => k_is)
    (case l__law_words => k_is)
    (case c__law_words => k_is)
    (case k__law_words => k_is)
    (case a__law_same => k_is)
    (case l__law_same => k_is)
    (case c__law_same => k_is)
    (case k__law_same => k_is)
    (case a__law_term => k_is)
    (case l__law_term => k_is)
    (case c__law_term => k_is)
    (case k__law_term => k_is)
    (case a__law_tree => k_is)
    (case l__law_tree => k_is)
    (case c__law_tree => k_is)
    (case k__law_tree => k_is)
    (case a__law_lines => k_is)
    (case l__law_lines => k_is)
    (case c__law_lines => k_is)
    (case k__law_lines => k_is)
    (case a_tree_lines => k_is)
    (case l_tree_lines => k_is)
    (case c_tree_lines => k_is)
    (case k_tree_lines => k_is)
    (case a_show_tree => k_is)
    (case l_show_tree => k_is)
    (case c_show_tree => k_is)
    (case k_show_tree => k_is)
    (case a_is_side => k_is)
    (case l_is_side => k_is)
    (case c_is_side => k_is)
    (case k_is_side => k_is)
    (case a_read_tree => k_is)
    (case l_read_tree => k_is)
    (case c_read_tree => k_is)
    (case k_read_tree => k_is)
    (case a_TreeText => k_is)
    (case pg_TreeText => k_is)
    (case hd_TreeText => k_is)
    (case po_TreeText => k_is)
    (case sa_TreeText => k_is)
    (case mk_TreeText => k_is)
    (case kc_TreeText => k_is)
    (case n_TreeText_lines => k_is)
    (case n_TreeText_at => k_is)
    (case a_TreeText___init__ => k_is)
    (case i_TreeText___init__ => k_is)
    (case l_TreeText___init__ => k_is)
    (case c_TreeText___init__ => k_is)
    (case k_TreeText___init__ => k_is)
    (case a_TreeText_line => k_is)
    (case i_TreeText_line => k_is)
    (case l_TreeText_line => k_is)
    (case c_TreeText_line => k_is)
    (case k_TreeText_line => k_is)
    (case a_TreeText_need => k_is)
    (case i_TreeText_need => k_is)
    (case l_TreeText_need => k_is)
    (case c_TreeText_need => k_is)
    (case k_TreeText_need => k_is)
    (case a_TreeText_branch => k_is)
    (case i_TreeText_branch => k_is)
    (case l_TreeText_branch => k_is)
    (case c_TreeText_branch => k_is)
    (case k_TreeText_branch => k_is)
    (case z_len => k_is)
    (case z_range => k_is)
    (case z_abs => k_is)
    (case z_isinstance => k_is)
    (case z_all => k_is)
    (case z_zip => k_is)
    (case z_enumerate => k_is)
    (case z_min => k_is)
    (case z_int => k_is)
    (case z_str => k_is)
    (case z_list => k_is)
    (case z_tuple => k_is)
    (case z_bool => k_is)
    (case a_law => k_is)
    (case l_law => k_is)
    (case c_law => k_is)
    (case k_law => k_is)
