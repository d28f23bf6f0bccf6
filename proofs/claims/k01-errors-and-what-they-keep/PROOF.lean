import PyProof.Rows.All
import Wide.All
import OpenK.AllK
import Wide.FinOn
import HandS.ForMost
import HandS.Codes
import HandS.Wide
import HandS.IsInst
import HandS.NoneIn
import HandS.TupAny
import HandS.Walk
import HandS.Zip
import HandS.Flow
import PyProof.Rows.ListStrD
import HandS.HotCalls
import HandS.ExcInit
import HandS.ExcCtx
import HandS.ExcField
import HandS.ExcIs
import KE.KExcIs
import HandS.Style
import HandS.TupMul
import HandS.Dict
import HandS.More
import HandS.Star
import HandS.FStr
import HandS.OwnEq
import HandS.CallSlots
import HandS.DictComp
import HandS.SetKeys
import HandS.SetTxt0
import HandS.Strs
import HandS.SortOrd
import HandS.SortRule
import HandS.Conv
import HandS.Defaults
import HandS.Lambda
import KE.SortData
import KE.SortKeyHeap
import HandS.TupSets
import HandS.SetFor
import HandS.ClsMeth
import HandS.EndTab
import HandS.StrMore
import PyProof.StrLaws
import HandS.RaiseFrom
import HandS.DeepEq
import KE.GoesMore
import PyProof.Rows.StrRev
import HandS.RaiseMore
import KE.KEqDict
import HandS.ExcValue
import KE.OsRunLaw
import PySem.Challenge.RW_knownways_k01_errors_and_what_they_keep
set_option Elab.async false
set_option linter.all false
set_option maxRecDepth 100000
set_option maxHeartbeats 4000000
local macro_rules | `(tactic| o_head $H) => `(tactic| o_headL $H)
open PySem PySem.W PyProof.Rows in
open_top KW.hd for PySem.Challenge.rw_knownways_k01_errors_and_what_they_keep
namespace KW
open PySem PySem.Spec PyProof.Rows L2
/-- the built-in names that the module leaves alone -/
structure Bi (mg : Str → Option Value) : Prop where
  len : mg "len" = none
  range : mg "range" = none
  abs : mg "abs" = none
  isinstance : mg "isinstance" = none
  all : mg "all" = none
  zip : mg "zip" = none
  enumerate : mg "enumerate" = none
  min : mg "min" = none
  ty_int : mg "int" = none
  ty_str : mg "str" = none
  ty_list : mg "list" = none
  ty_tuple : mg "tuple" = none
  ty_bool : mg "bool" = none
section
variable {X : Cx} (K : PySem.W.Frag) (hK : X.K = K)
include hK
theorem kk_len : CallR X (.builtin "len") (fun xs H Q => ∃ x n, xs = [x] ∧ LenV K x H n ∧ Q (.int n) H) := by subst hK; exact call_len
theorem kk_tuple_of : CallR X (.type "tuple") (fun xs H Q => ∃ p ys, xs = [.ref p] ∧ ((SqL K H p ys ∧ ∀ l, H l = none → Q (.ref l) (upd H l (.tup ys))) ∨ (SqT K H p ys ∧ Q (.ref p) H))) := by subst hK; exact call_tuple_of
theorem kk_all (hc : X.calm = true) : CallR X (.builtin "all") (rAll K) := by subst hK; exact cr_all hc
theorem kk_isi : CallR X (.builtin "isinstance") (rIsi K) := by subst hK; exact call_isi
theorem kk_isiT : CallR X (.builtin "isinstance") (rIsiT K) := by subst hK; exact call_isiT
theorem kk_ixL : IxR X (rIxL K) := by subst hK; exact ix_list
theorem kk_ix : IxR X (rIx K) := by subst hK; exact ix_seq
theorem kk_slL : SlR X (rSlL K) := by subst hK; exact sl_list
theorem kk_slA : SlR X (rSlA K) := by subst hK; exact sl_tupA
theorem kk_in : OpR X (compareOp .In) (rIn K false) := by subst hK; exact op_in_seq
theorem kk_catA : OpR X (binaryOp .Add) (rCatA K) := by subst hK; exact op_catA
theorem kk_join : MtR X "str.join" (fun x xs H Q => ∃ a p, ∃ ys : List Str, x = .str a ∧ xs = [.ref p] ∧ (SqL K H p (ys.map V.str) ∨ SqT K H p (ys.map V.str)) ∧
    (ys.map (·.length)).sum + ys.length * a.length ≤ 16777216 ∧ Q (.str (Txt.join a ys)) H) := by subst hK; exact mt_join
theorem kk_fld {e : Expr} {f : Str} {pos : Pos} {ta : TE} (he : PE X e ta) (hb : attributeBase e f X.env (eval e X.env) = eval e X.env) : PE X (.Attribute e f pos) (tFld K ta f) := by subst hK; exact pe_fld he hb
theorem kk_bm {T : String} {name : Str} {id : String} {o e : Expr} {es : List Expr} {apos cpos : Pos} {r : V → List V → Hp → VK → Prop} {to : TE} {t : TA} (pa : PlainAttrs T) (slot : Slot T name id) (hty : typeOf (.builtin id) = pure (.type "method_descriptor")) (hm : MtR X id r) (ho : PE X o to) (ha : PA X (e :: es) t)
    (hbase : attributeBase o name X.env (eval o X.env) = eval o X.env := by rfl)
    (hfew : ((backTo cpos (starEach (e :: es) X.env)).all (fun x => !x.1) && (backToKw cpos (keywordEach [] X.env)).all (fun x => x.1.isSome)
      && decide ((e :: es).length + ([] : List Keyword).length + (if ([] : List Keyword).isEmpty then 0 else 1) < 30)) = true := by rfl)
    (hline : (apos.endLine == cpos.line) = true := by rfl) (hs : starEach (e :: es) X.env = (false, eval e X.env) :: starEach es X.env := by rfl) (hplain : (backTo cpos (starEach es X.env)).any (·.1) = false := by rfl) :
    PE X (.Call (.Attribute o name apos) (e :: es) [] cpos) (tBM K T r to t) := by subst hK; exact pe_bm pa slot hty hm ho ha hbase hfew hline hs hplain
theorem kk_gtup {es : List Expr} {k : Nat} {pos : Pos} {t : TGs} {n : Nat} (hc : X.calm = true) (h : PGs X es t) (hn : (assignEach es X.env).length = n := by rfl) (hst : (assignEach es X.env).findIdx? (·.1) = none := by rfl) : PG X (.Tuple es k pos) (gTup K n t) := by subst hK; exact pg_tup hc h hn hst
end
theorem kt_tuple {X : Cx} {pos : Pos} (hg : Gl X "tuple") (hm : X.mg "tuple" = none) : PE X (.Name "tuple" pos) (tC (.ty "tuple")) := pe_bltn (u := .type "tuple") hg hm (by decide +kernel) rfl
theorem kt_list {X : Cx} {pos : Pos} (hg : Gl X "list") (hm : X.mg "list" = none) : PE X (.Name "list" pos) (tC (.ty "list")) := pe_bltn (u := .type "list") hg hm (by decide +kernel) rfl
theorem kt_bool {X : Cx} {pos : Pos} (hg : Gl X "bool") (hm : X.mg "bool" = none) : PE X (.Name "bool" pos) (tC (.ty "bool")) := pe_bltn (u := .type "bool") hg hm (by decide +kernel) rfl
theorem kt_str {X : Cx} {pos : Pos} (hg : Gl X "str") (hm : X.mg "str" = none) : PE X (.Name "str" pos) (tC (.ty "str")) := pe_bltn (u := .type "str") hg hm (by decide +kernel) rfl
theorem pe_gref {X : Cx} {x : Str} {C : Addr} {p : Pos} (hg : Gl X x) (hm : X.mg x = some (.ref C)) (hdb : (x == ("__debug__" : Str)) = false := by decide) : PE X (.Name x p) (tC (.ref C)) := pe_glob (v := .ref C) hg hm rfl hdb
theorem pe_gstr {X : Cx} {x s : Str} {t : Tok} {p : Pos} (hg : Gl X x) (hm : X.mg x = some (.str s t)) (hdb : (x == ("__debug__" : Str)) = false := by decide) : PE X (.Name x p) (tC (.str s)) := pe_glob (v := .str s) hg hm ⟨t, rfl⟩ hdb
/-- all but what stands at a is as it was -/
def KB (a : Addr) (H H' : Hp) : Prop := ∀ b o, b ≠ a → H b = some o → H' b = some o
theorem KB.refl (a : Addr) (H : Hp) : KB a H H := fun _ _ _ h => h
theorem KB.trans {a : Addr} {H H1 H2 : Hp} (x : KB a H H1) (y : KB a H1 H2) : KB a H H2 := fun b o n h => y b o n (x b o n h)
theorem KB.of_same {a : Addr} {H H' : Hp} (s : Same H H') : KB a H H' := fun b o _ h => s b o h
theorem same_upd {H : Hp} {p : Addr} {o : HO} (h : H p = none) : Same H (upd H p o) := fun b x e => by
  rw [upd_ne (ne_of_none e h)]
  exact e
theorem KB.new {a p : Addr} {H H' : Hp} {o : HO} (x : KB a H H') (h : H' p = none) : KB a H (upd H' p o) := x.trans (KB.of_same (same_upd h))
theorem KB.upd {a : Addr} {H H' : Hp} {o : HO} (x : KB a H H') : KB a H (L2.upd H' a o) := fun b u n h => by
  rw [upd_ne n]
  exact x b u n h
theorem KB.seq {K : PySem.W.Frag} {a p : Addr} {H H' : Hp} {xs : List V} (e : KB a H H') (n : p ≠ a) (h : SqL K H p xs) : SqL K H' p xs := by
  rcases h with (h | ⟨o, h⟩) | h
  · exact .inl (.inl (e _ _ n h))
  · exact .inl (.inr ⟨o, e _ _ n h⟩)
  · exact .inr h
theorem KB.tup {K : PySem.W.Frag} {a p : Addr} {H H' : Hp} {xs : List V} (e : KB a H H') (n : p ≠ a) (h : SqT K H p xs) : SqT K H' p xs := by
  rcases h with (h | ⟨o, h⟩) | h
  · exact .inl (.inl (e _ _ n h))
  · exact .inl (.inr ⟨o, e _ _ n h⟩)
  · exact .inr h
theorem Same.tup {K : PySem.W.Frag} {a : Addr} {H H' : Hp} {xs : List V} (e : Same H H') (h : SqT K H a xs) : SqT K H' a xs := by
  rcases h with (h | ⟨o, h⟩) | h
  · exact .inl (.inl (e _ _ h))
  · exact .inl (.inr ⟨o, e _ _ h⟩)
  · exact .inr h
/-- the heap without what stands at a -/
def hid (a : Addr) (H : Hp) : Hp := fun b => if b = a then none else H b
/-- a feed stands at a -/
def Fd (H : Hp) (a : Addr) : Prop := ∃ c d : Int, H a = some (.lst [.int c, .int d])
theorem Fd.new {H : Hp} {a p : Addr} {o : HO} (f : Fd H a) (h : H p = none) : Fd (upd H p o) a := by
  obtain ⟨c, d, e⟩ := f
  exact ⟨c, d, same_upd h _ _ e⟩
theorem Fd.same {H H' : Hp} {a : Addr} (f : Fd H a) (h : Same H H') : Fd H' a := by
  obtain ⟨c, d, e⟩ := f
  exact ⟨c, d, h _ _ e⟩
theorem Fd.ne {H : Hp} {a p : Addr} (f : Fd H a) (h : H p = none) : p ≠ a := by
  obtain ⟨c, d, e⟩ := f
  exact (ne_of_none e h).symm
theorem calMono {P : Program} {w : World} {K : PySem.W.Frag} {mg : Str → Option Value} {base : Heap} {j k : Nat} {x : Str} {sp : Sp} {dvs : List V} (c : C8.Cal P w K mg base j x sp dvs) (h : j ≤ k) : C8.Cal P w K mg base k x sp dvs := by
  obtain ⟨f, fd, ps, ds, F, r⟩ := c.ex
  exact ⟨f, fd, ps, ds, F.mono h, r⟩
/-- a def of the module as it stands behind the top: its place, its name, how it binds -/
structure Df (K : PySem.W.Frag) (mg : Str → Option Value) (x : Str) (st : Stmt) (ps : List Str) : Prop where
  ex : ∃ f fd, Fun K x x st f fd ∧ mg x = some (.ref f) ∧ PySem.W.keepIn K (.ref f) = true ∧ Binds K fd ps []
theorem Df.cal {P : Program} {w : World} {K : PySem.W.Frag} {mg : Str → Option Value} {base : Heap} {x : Str} {st : Stmt} {N ps : List Str} {k : Nat} {sp : Sp} (F : Df K mg x st ps) (S : FnScope N ps (defScope st)) (len : ∀ vs H Q E, sp vs H Q E → vs.length = ps.length)
    (hbody : ∀ (f : Addr) (cdv : Value) (A : Around) (outer : List Env) (s : Shared) (H : Hp) (vs : List V) (Q : VK) (E : XK), Room k (A.deeper (envOfC x (defScope st) s.heap.objs.size f cdv)) → sp vs H Q E →
      ∃ t, PSs (cxOf CX0 P w K mg base N x (defScope st) f cdv A outer s H E).nox (defBody st) t ∧ t { nx := fun _ H' => Q .non H', rt := Q } (start N vs) H) : C8.Cal P w K mg base (k + 1) x sp [] := by
  obtain ⟨f, fd, F, hm, kp, b⟩ := F.ex
  exact ⟨f, fd, ps, [], F.ok S len (hbody f), hm, kp, b, .nil⟩
/-- a method of the class at C -/
structure Dm (K : PySem.W.Frag) (C : Addr) (m qual : Str) (st : Stmt) (ps : List Str) : Prop where
  ex : ∃ f fd, Cls K C ∧ Meth K C m f ∧ Fun K m qual st f fd ∧ Binds K fd ps []
theorem Dm.met {P : Program} {w : World} {K : PySem.W.Frag} {mg : Str → Option Value} {base : Heap} {C : Addr} {m qual : Str} {st : Stmt} {N ps : List Str} {k : Nat} {sp : Sp} (F : Dm K C m qual st ps) (S : FnScope N ps (defScope st)) (len : ∀ vs H Q E, sp vs H Q E → vs.length = ps.length)
    (hbody : ∀ (f : Addr) (cdv : Value) (A : Around) (outer : List Env) (s : Shared) (H : Hp) (vs : List V) (Q : VK) (E : XK), Room k (A.deeper (envOfC qual (defScope st) s.heap.objs.size f cdv)) → sp vs H Q E →
      ∃ t, PSs (cxOf CX0 P w K mg base N qual (defScope st) f cdv A outer s H E).nox (defBody st) t ∧ t { nx := fun _ H' => Q .non H', rt := Q } (start N vs) H) : C8.Met P w K mg base (k + 1) C m sp [] := by
  obtain ⟨f, fd, c, me, F, b⟩ := F.ex
  exact ⟨f, fd, ps, [], c, me, F.ok S len (hbody f), b, .nil⟩
/-- a class of the module, with its __init__ -/
structure Dc (K : PySem.W.Frag) (mg : Str → Option Value) (C : Addr) (x qual : Str) (st : Stmt) (ps : List Str) : Prop where
  ex : ∃ f fd, Mk K C f ∧ mg x = some (.ref C) ∧ Fun K "__init__" qual st f fd ∧ Binds K fd ps []
theorem yesT {σ : L2.St} {H : Hp} {X Y : Hp → Prop} (h : X H) : tYes σ H (fun b H3 => if b = true then X H3 else Y H3) := by
  show (if true = true then X H else Y H)
  rw [if_pos rfl]
  exact h
end KW
namespace KW
open PySem PySem.Spec PyProof.Rows L2
def topS (i : Nat) : Stmt := PySem.Challenge.pw_knownways_k01_errors_and_what_they_keep.main.body.getD i (.Pass ⟨0, 0, 0, 0⟩)
theorem at_ofN {α : Type} {xs : List α} {z : Int} {v : α} (e : z = (z.toNat : Int)) (h : xs[z.toNat]? = some v) : atI xs z = some v := by
  rw [e]
  exact atI_nat h
section
variable {P : Program} {w : World} {K : PySem.W.Frag} {mg : Str → Option Value} {base : Heap}
abbrev s__law_feed : Stmt := topS 37
theorem sc__law_feed : FnScope ["_law_script", "_law_k", "_law_cell"] ["_law_script", "_law_k"] (defScope s__law_feed) := ⟨rfl, rfl, rfl, by decide +kernel, rfl, by decide +kernel, by decide +kernel⟩
def spFeed (K : PySem.W.Frag) : Sp := fun vs H Q _ => ∃ (a : Addr) (ns : List Int) (k : Int), vs = [.ref a, .int k] ∧ SqL K H a (ns.map V.int) ∧ 0 ≤ k ∧
  ∀ (p : Addr) (H' : Hp), H p = none → Same H H' → Fd H' p → Q (.ref p) H'
theorem ok_feed {k : Nat} (B : Bi mg) (F : Df K mg "_law_feed" s__law_feed ["_law_script", "_law_k"]) : C8.Cal P w K mg base (k + 1) "_law_feed" (spFeed K) [] := by
  refine F.cal sc__law_feed (fun vs H Q E h => ?_) (fun f cdv A outer s H vs Q E hr h => ?_)
  · obtain ⟨a, ns, k, rfl, _⟩ := h
    rfl
  · obtain ⟨a, ns, k, rfl, hS, hk, q⟩ := h
    refine ⟨_, (pss_cons (ps_set (i := 2) sc__law_feed.nd rfl (Or.inl rfl) (pe_op op_add (pe_op op_mul pe_int (pv 1)) pe_int))
      (C8.pss_cut (ps_if (pt_cmpR op_lt (pv 1) (pe_callB (kk_len K rfl) rfl B.len PySem.boot_len (pa_cons (pv 0) pa_nil)) (nomark _)) (pss_one (ps_set (i := 2) sc__law_feed.nd rfl (Or.inl rfl) (pe_ix (kk_ixL K rfl) (pv 0) (pv 1) (fun _ _ => rfl)))) (pss_one (ps_if (pt_cmpR op_gt (pe_callB (kk_len K rfl) rfl B.len PySem.boot_len (pa_cons (pv 0) pa_nil)) pe_int (nomark _)) (pss_one (ps_set (i := 2) sc__law_feed.nd rfl (Or.inl rfl) (pe_op op_add (pv 2) (pe_op op_mul (pe_op op_mod (pe_callB call_abs rfl B.abs (by decide +kernel) (pa_cons (pe_ix (kk_ixL K rfl) (pv 0) (pe_op op_mod (pe_callTy call_int1 rfl B.ty_int (by decide +kernel) (pa_cons (pv 1) pa_nil)) (pe_callB (kk_len K rfl) rfl B.len PySem.boot_len (pa_cons (pv 0) pa_nil))) (fun _ _ => rfl)) pa_nil)) pe_int) pe_int)))) pss_nil)))
      (C8.pss_cut (ps_if (pt_cmpR op_lt (pv 2) pe_int (nomark _)) (pss_one (ps_set (i := 2) sc__law_feed.nd rfl (Or.inl rfl) (pe_op op_sub pe_int (pe_op op_mul pe_int (pv 2))))) pss_nil)
      (pss_one (ps_ret (pe_lst (pa_cons (pe_ifExp (pt_cmpR op_ge (pv 2) (pe_op op_pow pe_int pe_int) (nomark _)) (pv 2) pe_int) (pa_cons (pe_op op_add (pe_op op_add (pe_op op_mod (pe_callTy call_int1 rfl B.ty_int (by decide +kernel) (pa_cons (pv 2) pa_nil)) pe_int) (pe_op op_mul pe_int (pv 1))) pe_int) pa_nil)))))))), ?_⟩
    have hL : (List.map V.int ns).length = ns.length := List.length_map _
    have at_ : ∀ (i : Int), 0 ≤ i → i < (ns.length : Int) → ∃ z : Int, atI (ns.map V.int) i = some (.int z) := fun i h0 h1 => by
      obtain ⟨j, rfl⟩ : ∃ j : Nat, i = (j : Int) := ⟨i.toNat, by omega⟩
      have hj : j < ns.length := by omega
      exact ⟨ns[j], atI_nat (by rw [List.getElem?_map, List.getElem?_eq_getElem hj]; rfl)⟩
    refine ⟨_, rfl, _, _, rfl, rfl, .inl ⟨by decide, by decide⟩, _, _, rfl, rfl, fun σ H' => ∃ c : Int, σ = [some (.ref a), some (.int k), some (.int c)] ∧ H = H', ?_, ?_⟩
    · refine ⟨_, rfl, _, rfl, _, _, rfl, .inl ⟨_, hS, rfl⟩, _, _, rfl, rfl, _, rfl, ?_⟩
      refine ite2 (fun h0 => ?_) (fun h0 => ?_)
      · obtain ⟨z, hz⟩ := at_ k hk (by simpa using h0)
        exact ⟨_, rfl, _, rfl, a, _, k, _, rfl, rfl, hS, hz, z, rfl, rfl⟩
      · refine ⟨_, rfl, _, _, rfl, .inl ⟨_, hS, rfl⟩, _, _, rfl, rfl, _, rfl, ?_⟩
        refine ite2 (fun h1 => ?_) (fun h1 => ?_)
        · have h2 : (0 : Int) < (ns.length : Int) := by simpa using h1
          obtain ⟨z, hz⟩ := at_ (k % ((ns.map V.int).length : Nat)) (Int.emod_nonneg _ (by rw [hL]; omega)) (by rw [hL]; exact Int.emod_lt_of_pos _ h2)
          refine ⟨_, rfl, _, rfl, _, rfl, .inl ⟨_, rfl, _, rfl, _, _, rfl, .inl ⟨_, hS, rfl⟩, _, _, rfl, rfl, (by rw [hL]; exact h2), a, _, _, _, rfl, rfl, hS, hz, _, rfl, _, _, rfl, rfl, (by show (0 : Int) < 1000003; decide), _, _, rfl, rfl, .inr ⟨by decide, by decide⟩, _, _, rfl, rfl, _, rfl, rfl⟩⟩
        · exact ⟨_, rfl, rfl⟩
    · rintro σ H' ⟨c, rfl, rfl⟩
      refine ⟨fun σ H' => ∃ c : Int, σ = [some (.ref a), some (.int k), some (.int c)] ∧ H = H', ?_, ?_⟩
      · refine ⟨_, rfl, _, _, rfl, rfl, _, rfl, ?_⟩
        refine ite2 (fun h1 => ?_) (fun h1 => ?_)
        · exact ⟨_, rfl, _, _, rfl, rfl, .inl ⟨by decide, by decide⟩, _, _, rfl, rfl, _, rfl, rfl⟩
        · exact ⟨_, rfl, rfl⟩
      · rintro σ H' ⟨c, rfl, rfl⟩
        have fin : ∀ z : Int, (tCons (tOp (rI0 fun i j => V.int (i + j)) (tOp (rI0 fun i j => V.int (i + j)) (tOp (rI (fun _ j => 0 < j) fun i j => V.int (i % j)) (tCB (fun xs H Q => (∃ i, xs = [V.int i] ∧ Q (V.int i) H) ∨ ∃ k, xs = [V.bl k] ∧ Q (V.int (if k = true then 1 else 0)) H) (tCons (tVar 2) tNil)) (tC (V.int 1000003))) (tOp (rI CMul fun i j => V.int (i * j)) (tC (V.int 13)) (tVar 1))) (tC (V.int 1))) tNil)
            [some (.ref a), some (.int k), some (.int c)] H (fun xs H2 => (V.int z :: xs).length ≤ sizeLine ∧ ∀ p, H2 p = none → Q (.ref p) (upd H2 p (.lst (V.int z :: xs)))) := fun z => by
          refine ⟨_, rfl, .inl ⟨_, rfl, _, _, rfl, rfl, (by show (0 : Int) < 1000003; decide), _, rfl, _, _, rfl, rfl, .inl ⟨by decide, by decide⟩, _, _, rfl, rfl, _, _, rfl, rfl, (by show 2 ≤ sizeLine; decide), fun p hp => ?_⟩⟩
          exact q p _ hp (same_upd hp) ⟨_, _, upd_same⟩
        refine ⟨_, rfl, _, _, rfl, rfl, ⟨by decide, by decide, by decide⟩, _, _, rfl, rfl, _, rfl, ?_⟩
        refine ite2 (fun h1 => ?_) (fun h1 => ?_)
        · exact ⟨_, rfl, fin c⟩
        · exact fin 0
abbrev s__law_draw : Stmt := topS 38
theorem sc__law_draw : FnScope ["_law_feed_here", "_law_many", "_law_digit"] ["_law_feed_here", "_law_many"] (defScope s__law_draw) := ⟨rfl, rfl, rfl, by decide +kernel, rfl, by decide +kernel, by decide +kernel⟩
def spDraw : Sp := fun vs H Q _ => ∃ (a : Addr) (m : Int), vs = [.ref a, .int m] ∧ Fd H a ∧ 0 < m ∧ m < 1073741824 ∧
  ∀ (r : Int) (H' : Hp), 0 ≤ r → r < m → Fd H' a → KB a H H' → Q (.int r) H'
theorem ok_draw {k : Nat} (B : Bi mg) (F : Df K mg "_law_draw" s__law_draw ["_law_feed_here", "_law_many"]) : C8.Cal P w K mg base (k + 1) "_law_draw" spDraw [] := by
  refine F.cal sc__law_draw (fun vs H Q E h => ?_) (fun f cdv A outer s H vs Q E hr h => ?_)
  · obtain ⟨a, m, rfl, _⟩ := h
    rfl
  · obtain ⟨a, m, rfl, ⟨c, d, hF⟩, m0, m1, q⟩ := h
    refine ⟨_, (pss_cons (ps_if (pt_cmpR op_gt (pe_ix (kk_ixL K rfl) (pv 0) pe_int (fun _ _ => rfl)) pe_int (nomark _)) (pss_cons (ps_set (i := 2) sc__law_draw.nd rfl (Or.inl rfl) (pe_op op_mod (pe_callTy call_int1 rfl B.ty_int (by decide +kernel) (pa_cons (pe_ix (kk_ixL K rfl) (pv 0) pe_int (fun _ _ => rfl)) pa_nil)) (pv 1)))
      (pss_cons (ps_asg (pe_op op_fdivW (pe_ix (kk_ixL K rfl) (pv 0) pe_int (fun _ _ => rfl)) (pv 1)) (pg_sub (pv 0) pe_int set_list))
      (pss_one (ps_ret (pv 2))))) pss_nil)
      (pss_cons (ps_asg (pe_op op_mod (pe_callTy call_int1 rfl B.ty_int (by decide +kernel) (pa_cons (pe_op op_add (pe_op op_mul (pe_ix (kk_ixL K rfl) (pv 0) pe_int (fun _ _ => rfl)) pe_int) pe_int) pa_nil)) pe_int) (pg_sub (pv 0) pe_int set_list))
      (pss_one (ps_ret (pe_op op_mod (pe_callTy call_int1 rfl B.ty_int (by decide +kernel) (pa_cons (pe_op op_fdivW (pe_ix (kk_ixL K rfl) (pv 0) pe_int (fun _ _ => rfl)) pe_int) pa_nil)) (pv 1)))))), ?_⟩
    refine ⟨_, rfl, a, _, 0, _, rfl, rfl, SqL.of hF, rfl, _, _, rfl, rfl, _, rfl, ?_⟩
    refine ite2 (fun h0 => ?_) (fun h0 => ?_)
    · refine ⟨_, rfl, a, _, 0, _, rfl, rfl, SqL.of hF, rfl, .inl ⟨_, rfl, _, rfl, _, _, rfl, rfl, m0, ?_⟩⟩
      refine ⟨_, rfl, a, _, 0, _, rfl, rfl, SqL.of hF, rfl, _, rfl, _, _, rfl, rfl, wide_div m0 (b := 31) (by omega) (by decide) (by decide), _, rfl, a, _, _, 0, rfl, rfl, hF, rfl, ?_⟩
      refine ⟨_, rfl, q _ _ (Int.emod_nonneg _ (by omega)) (Int.emod_lt_of_pos _ m0) ⟨_, _, upd_same⟩ (KB.refl _ _).upd⟩
    · refine ⟨_, rfl, a, _, 1, _, rfl, rfl, SqL.of hF, rfl, _, _, rfl, rfl, .inr ⟨by decide, by decide⟩, _, _, rfl, rfl, .inl ⟨_, rfl, _, _, rfl, rfl, (by show (0 : Int) < 2147483647; decide), _, rfl, a, _, _, 1, rfl, rfl, hF, rfl, ?_⟩⟩
      refine ⟨_, rfl, a, _, 1, _, rfl, rfl, SqL.of upd_same, rfl, _, _, rfl, rfl, wide_div (b := 7) (by decide) (by decide) (by decide) (by decide), .inl ⟨_, rfl, _, rfl, _, _, rfl, rfl, m0, ?_⟩⟩
      exact q _ _ (Int.emod_nonneg _ (by omega)) (Int.emod_lt_of_pos _ m0) ⟨_, _, upd_same⟩ (KB.refl _ _).upd
abbrev s__law_pick : Stmt := topS 39
theorem sc__law_pick : FnScope ["_law_feed_here", "_law_items"] ["_law_feed_here", "_law_items"] (defScope s__law_pick) := ⟨rfl, rfl, rfl, by decide +kernel, rfl, by decide +kernel, by decide +kernel⟩
def spPick (K : PySem.W.Frag) : Sp := fun vs H Q _ => ∃ (a : Addr) (x : V), vs = [.ref a, x] ∧ Fd H a ∧
  ((∃ z : Str, x = .str z ∧ z.cps.toList ≠ [] ∧ z.length ≤ 1000 ∧ ∀ (c : Nat) (H' : Hp), c ∈ z.cps.toList → Fd H' a → KB a H H' → Q (.str ⟨#[c]⟩) H') ∨
   (∃ (p : Addr) (xs : List V), x = .ref p ∧ p ≠ a ∧ (SqL K H p xs ∨ SqT K H p xs) ∧ xs ≠ [] ∧ xs.length ≤ 1000 ∧ ∀ (v : V) (H' : Hp), v ∈ xs → Fd H' a → KB a H H' → Q v H'))
theorem ok_pick {k : Nat} (B : Bi mg) (F : Df K mg "_law_pick" s__law_pick ["_law_feed_here", "_law_items"]) (G_law_draw : C8.Cal P w K mg base k "_law_draw" spDraw []) : C8.Cal P w K mg base (k + 1) "_law_pick" (spPick K) [] := by
  refine F.cal sc__law_pick (fun vs H Q E h => ?_) (fun f cdv A outer s H vs Q E hr h => ?_)
  · obtain ⟨a, x, rfl, _⟩ := h
    rfl
  · obtain ⟨a, x, rfl, hF, h⟩ := h
    refine ⟨_, (pss_one (ps_ret (pe_ix (kk_ix K rfl) (pv 1) (C8.pe_c G_law_draw hr (Nat.le_refl _) rfl (pa_cons (pv 0) (pa_cons (pe_callB (kk_len K rfl) rfl B.len PySem.boot_len (pa_cons (pv 1) pa_nil)) pa_nil))) (fun _ _ => rfl)))), ?_⟩
    rcases h with ⟨z, rfl, hz, hl, q⟩ | ⟨p, xs, rfl, hp, hS, hx, hl, q⟩
    · have h0 : 0 < z.cps.toList.length := List.length_pos_iff.mpr hz
      have hzl : z.length = z.cps.toList.length := by simp [Str.length]
      refine ⟨_, rfl, _, rfl, _, rfl, _, z.length, rfl, ⟨Nat.le_trans hl (by decide), rfl⟩, a, _, rfl, hF, by omega, by omega, fun r H' r0 r1 f' kb => ?_⟩
      have hr : r.toNat < z.cps.toList.length := by omega
      refine .inr (.inr ⟨z, r, z.cps.toList[r.toNat], rfl, rfl, Nat.le_trans hl (by decide), at_ofN (by omega) (List.getElem?_eq_getElem hr), ?_⟩)
      exact q _ _ (List.getElem_mem hr) f' kb
    · have h0 : 0 < xs.length := List.length_pos_iff.mpr hx
      have lv : LenV K (.ref p) H xs.length := hS.elim (fun h => .inl ⟨xs, h, rfl⟩) (fun h => .inr ⟨xs, h, rfl⟩)
      refine ⟨_, rfl, _, rfl, _, rfl, _, xs.length, rfl, lv, a, _, rfl, hF, by omega, by omega, fun r H' r0 r1 f' kb => ?_⟩
      have hr : r.toNat < xs.length := by omega
      rcases hS with hS | hS
      · exact .inl ⟨p, xs, r, xs[r.toNat], rfl, rfl, kb.seq hp hS, at_ofN (by omega) (List.getElem?_eq_getElem hr), q _ _ (List.getElem_mem hr) f' kb⟩
      · exact .inr (.inl ⟨p, xs, r, xs[r.toNat], rfl, rfl, kb.tup hp hS, at_ofN (by omega) (List.getElem?_eq_getElem hr), q _ _ (List.getElem_mem hr) f' kb⟩)
end
end KW
namespace PL
open PySem PySem.Spec PyProof.Rows L2 KW
def EsAre : List DictEntry → List (String × Int) → Prop
  | [], [] => True
  | e :: r, (k, i) :: q => (∃ t, e.key = .str (Str.ofString k) t) ∧ (∃ t, e.val = .int i t) ∧ EsAre r q
  | _, _ => False
/-- no table, no code object at p -/
def NTb (p : Addr) (o : HO) : Prop := (∀ ps, o ≠ .tbl ps) ∧ ∀ q, o ≠ LamX.CodeO p q
/-- no tuple -/
abbrev NT (o : HO) : Prop := ∀ xs, o ≠ .tup xs
def spLaw (K : PySem.W.Frag) (tb : List (Addr × Str)) : Sp := fun vs H Q _ => ∃ (a : Addr) (ns : List Int), vs = [.ref a] ∧ SqL K H a (ns.map V.int) ∧ ns.length ≤ 63 ∧ (∃ o, H a = some o ∧ NT o ∧ NTb a o) ∧ LamX.Tabs tb H ∧ ∀ H', Q (.bl true) H'
theorem scr_there {K : PySem.W.Frag} {H : Hp} {a : Addr} {xs : List V} (nl : (K.all fun e => e.2.cls != .type "list") = true) (h : SqL K H a xs) : ∃ o, H a = some o ∧ NT o := by
  rcases h with (h | ⟨u, h⟩) | ⟨o, its, n, hk, hc, _⟩
  · exact ⟨_, h, fun _ z => nomatch z⟩
  · exact ⟨_, h, fun _ z => nomatch z⟩
  · exfalso
    have hm : ∀ {K : PySem.W.Frag}, K.lookup a = some o → (a, o) ∈ K := fun {K} => by
      induction K with
      | nil => intro z; cases z
      | cons p r ih =>
        obtain ⟨b, x⟩ := p
        intro z
        rw [List.lookup_cons] at z
        split at z
        · rename_i e
          cases z
          rw [eq_of_beq e]
          exact List.mem_cons_self
        · exact List.mem_cons_of_mem _ (ih z)
    have := List.all_eq_true.mp nl _ (hm hk)
    simp [hc] at this
theorem scr_thereT {K : PySem.W.Frag} {H : Hp} {a : Addr} {xs : List V} (nl : (K.all fun e => e.2.cls != .type "list") = true) (h : SqL K H a xs) : ∃ o, H a = some o ∧ NT o ∧ NTb a o := by
  have nb : ∀ o : HO, (∀ ps, o ≠ .tbl ps) → (∀ q, o ≠ LamX.CodeO a q) → NTb a o := fun o h1 h2 => ⟨h1, h2⟩
  obtain ⟨o, e, nt⟩ := scr_there nl h
  rcases h with (h | ⟨u, h⟩) | ⟨o', its, n, hk, hc, _⟩
  · exact ⟨_, h, (fun _ z => nomatch z), nb _ (fun _ z => nomatch z) fun q z => by unfold LamX.CodeO at z; cases z⟩
  · exact ⟨_, h, (fun _ z => nomatch z), nb _ (fun _ z => nomatch z) fun q z => by unfold LamX.CodeO at z; cases z⟩
  · exfalso
    have hm : ∀ {K : PySem.W.Frag}, K.lookup a = some o' → (a, o') ∈ K := fun {K} => by
      induction K with
      | nil => intro z; cases z
      | cons p r ih =>
        obtain ⟨b, x⟩ := p
        intro z
        rw [List.lookup_cons] at z
        split at z
        · rename_i e
          cases z
          rw [eq_of_beq e]
          exact List.mem_cons_self
        · exact List.mem_cons_of_mem _ (ih z)
    have := List.all_eq_true.mp nl _ (hm hk)
    simp [hc] at this
end PL
namespace KW
open PySem PySem.Spec PyProof.Rows L2
abbrev S : List Nat → Str := SX.S
/-- a row of texts as values -/
abbrev LS (ls : List (List Nat)) : List V := ls.map fun l => V.str (S l)
abbrev wIf : List Nat := [105, 102]
abbrev wElse : List Nat := [101, 108, 115, 101]
abbrev wEnd : List Nat := [101, 110, 100]
/-- small letters -/
def Low (l : List Nat) : Prop := ∀ c ∈ l, 97 ≤ c ∧ c ≤ 122
/-- a name -/
def Nm (l : List Nat) : Prop := Low l ∧ 1 ≤ l.length ∧ l.length ≤ 4 ∧ l ≠ wIf ∧ l ≠ wElse ∧ l ≠ wEnd
abbrev abc : List Nat := [97, 98, 99, 100, 101, 102, 103, 104, 105, 106, 107, 108, 109, 110, 111, 112, 113, 114, 115, 116, 117, 118, 119, 120, 121, 122]
theorem abc_eq : (Str.ofString "abcdefghijklmnopqrstuvwxyz") = S abc := by decide +kernel
theorem low_abc : Low abc := by unfold Low; decide
theorem abc_tl : (Str.ofString "abcdefghijklmnopqrstuvwxyz").cps.toList = abc := by rw [abc_eq]
theorem nm_one {c : Nat} (h : c ∈ abc) : Nm [c] := ⟨fun d hd => by
  rw [List.mem_singleton] at hd
  subst hd
  exact low_abc _ h, by simp, by simp, by simp, by simp, by simp⟩
theorem joinL_single : ∀ cs : List Nat, TL.joinL [] (cs.map fun c => [c]) = cs
  | [] => rfl
  | [_] => rfl
  | c :: d :: r => by
    show [c] ++ ([] ++ TL.joinL [] ((d :: r).map fun c => [c])) = c :: d :: r
    rw [joinL_single (d :: r)]
    rfl
theorem sum_ones : ∀ cs : List Nat, ((cs.map fun c => S [c]).map (·.length)).sum = cs.length
  | [] => rfl
  | c :: r => by
    have ih := sum_ones r
    rw [List.map_cons, List.map_cons, List.sum_cons, ih, List.length_cons]
    show 1 + _ = _
    omega
theorem KB.upd0 {a p : Addr} {H H' : Hp} {o : HO} (x : KB a H H') (h : H p = none) : KB a H (L2.upd H' p o) := fun b u n e => by
  rw [upd_ne (ne_of_none e h)]
  exact x b u n e
theorem Fd.upd {H : Hp} {a p : Addr} {o : HO} (f : Fd H a) (h : a ≠ p) : Fd (L2.upd H p o) a := by
  obtain ⟨c, d, e⟩ := f
  exact ⟨c, d, by rw [upd_ne h]; exact e⟩
/-- what is new behind a draw was new ahead of it -/
theorem KB.free {a p : Addr} {H H' : Hp} (k : KB a H H') (n : p ≠ a) (h : H' p = none) : H p = none := by
  cases e : H p with
  | none => rfl
  | some o => rw [k p o n e] at h; cases h
section
variable {P : Program} {w : World} {K : PySem.W.Frag} {mg : Str → Option Value} {base : Heap}
abbrev s__law_word : Stmt := topS 41
theorem sc__law_word : FnScope ["_law_feed_here", "_law_letters", "_law_word_here", "_law_k"] ["_law_feed_here"] (defScope s__law_word) := ⟨rfl, rfl, rfl, by decide +kernel, rfl, by decide +kernel, by decide +kernel⟩
def spWord : Sp := fun vs H Q _ => ∃ (a : Addr), vs = [.ref a] ∧ Fd H a ∧ ∀ (l : List Nat) (H' : Hp), Nm l → Fd H' a → KB a H H' → Q (.str (S l)) H'
theorem ok_word {k : Nat} (B : Bi mg) (F : Df K mg "_law_word" s__law_word ["_law_feed_here"]) (G_law_draw : C8.Cal P w K mg base k "_law_draw" spDraw []) (G_law_pick : C8.Cal P w K mg base k "_law_pick" (spPick K) []) :
    C8.Cal P w K mg base (k + 1) "_law_word" spWord [] := by
  refine F.cal sc__law_word (fun vs H Q E h => ?_) (fun f cdv A outer s H vs Q E hr h => ?_)
  · obtain ⟨a, rfl, _⟩ := h
    rfl
  · obtain ⟨a, rfl, hF, q⟩ := h
    refine ⟨_, (pss_cons (ps_set (i := 1) sc__law_word.nd rfl (Or.inr rfl) pe_str)
      (pss_cons (ps_set (i := 2) sc__law_word.nd rfl (Or.inl rfl) (kk_bm K rfl PySem.F.plainAttrs_str PySem.F.slot_str_join PySem.F.type_str_join (kk_join K rfl) pe_str (pa_cons (pe_lc (own := [("_law_k", 3)]) (g := gName 3) (tt := tYes) rfl sc__law_word.nd (pi_range1 rfl B.range (pa_cons (pe_op op_add pe_int (C8.pe_c G_law_draw hr (Nat.le_refl _) rfl (pa_cons (pv 0) (pa_cons pe_int pa_nil)))) pa_nil)) (blkOk_by (own := [("_law_k", 3)]) (N := ["_law_feed_here", "_law_letters", "_law_word_here", "_law_k"]) (sc := defScope s__law_word) (by decide +kernel)) (fun _ _ _ _ _ => (pg_name (i := 3) sc__law_word.nd rfl (Or.inl rfl))) (fun _ _ _ _ _ => pts_nil) (fun _ _ _ _ _ => (C8.pe_c G_law_pick hr (Nat.le_refl _) rfl (pa_cons (pv 0) (pa_cons (pv 1) pa_nil))))) pa_nil)))
      (pss_one (ps_ret (pe_ifExp (pt_cmpR (kk_in K rfl) (pv 2) (pe_tup (pa_cons pe_str (pa_cons pe_str (pa_cons pe_str pa_nil)))) rfl) pe_str (pv 2)))))), ?_⟩
    refine ⟨rfl, _, rfl, a, _, rfl, hF, by decide, by decide, fun r H1 r0 r1 f1 k1 => ⟨_, _, rfl, rfl, _, rfl, by omega, by omega, fun D hD => ?_⟩⟩
    have hDa : D ≠ a := f1.ne hD
    have hD0 : H D = none := k1.free hDa hD
    refine lc_range (lo := 0) (fun i H2 => ∃ cs : List Nat, cs.length = i ∧ Low cs ∧ H2 D = some (.lst (cs.map fun c => V.str (S [c]))) ∧ Fd H2 a ∧ KB a H H2) ⟨[], rfl, fun _ h => by simp at h, upd_same, f1.new hD, k1.new hD⟩ (fun i H2 hi hP => ?_) (fun H2 hP => ?_)
    · obtain ⟨cs, hl, hlow, hDc, f2, k2⟩ := hP
      refine ⟨rfl, yesT ?_⟩
      refine ⟨_, rfl, _, rfl, a, _, rfl, f2, .inl ⟨_, rfl, by rw [abc_tl]; decide, by decide, fun c H3 hc f3 k3 => ?_⟩⟩
      rw [abc_tl] at hc
      have hD3 := k3 D _ hDa hDc
      refine ⟨_, hD3, by rw [List.length_map]; exact Nat.lt_of_lt_of_le (show cs.length < 100 by omega) (by decide), cs ++ [c], by simp [hl], fun d hd => ?_, ?_, f3.upd hDa.symm, (k2.trans k3).upd0 hD0⟩
      · rw [List.mem_append, List.mem_singleton] at hd
        rcases hd with hd | rfl
        · exact hlow d hd
        · exact low_abc _ hc
      · rw [upd_same, List.map_append]
        rfl
    · obtain ⟨cs, hl, hlow, hDc, f2, k2⟩ := hP
      have hlen : 1 ≤ cs.length ∧ cs.length ≤ 4 := by omega
      refine ⟨_, _, cs.map fun c => S [c], rfl, rfl, .inl (SqL.of (by rw [hDc, List.map_map]; rfl)), ?_, ?_⟩
      · rw [sum_ones, List.length_map]
        show cs.length + cs.length * 0 ≤ _
        omega
      have ej : Txt.join (Str.ofString "") (cs.map fun c => S [c]) = S cs := by
        have e := SX.join_S [] (cs.map fun c => [c])
        rw [joinL_single, List.map_map] at e
        exact e
      rw [ej]
      refine ⟨_, rfl, (by show 3 ≤ sizeLine; decide), fun p hp => ?_⟩
      have f3 := f2.new (o := .tup [V.str (Str.ofString "if"), V.str (Str.ofString "else"), V.str (Str.ofString "end")]) hp
      have k3 := k2.new (o := .tup [V.str (Str.ofString "if"), V.str (Str.ofString "else"), V.str (Str.ofString "end")]) hp
      refine ⟨p, _, rfl, .inr (SqT.of upd_same), rfl, rfl, _, rfl, ite2 (fun h => ?_) (fun h => ?_)⟩
      · exact q [113] _ (nm_one (by decide)) f3 k3
      · refine ⟨_, rfl, q cs _ ⟨hlow, hlen.1, hlen.2, ?_, ?_, ?_⟩ f3 k3⟩
        all_goals (rintro rfl; exact h (by decide +kernel))
end
end KW
namespace DL
open PySem PySem.Spec PyProof.Rows L2 KW
/-- a short list of whole numbers -/
def InO (q : Addr) : HO := .ext fun h => ∃ (ns : List Int) (its : List Value) (n : Nat), ns.length ≤ 64 ∧ Vals (ns.map V.int) its ∧ h.get? q = some { cls := .type "list", data := .seq its.toArray n }
/-- a list of such a list and a whole number -/
def OutO (p q : Addr) : HO := .ext fun h => ∃ (d : Int) (its : List Value) (n : Nat), Vals [.ref q, .int d] its ∧ h.get? p = some { cls := .type "list", data := .seq its.toArray n }
/-- the same but for how lists are told -/
structure Vw (H H1 : Hp) : Prop where
  non : ∀ b, H b = none ↔ H1 b = none
  tup : ∀ b xs, H b = some (.tup xs) ↔ H1 b = some (.tup xs)
  frz : ∀ b o u, H b = some (.frz o u) ↔ H1 b = some (.frz o u)
  tbl : ∀ b ps, H b = some (.tbl ps) ↔ H1 b = some (.tbl ps)
theorem Vw.refl (H : Hp) : Vw H H := ⟨fun _ => .rfl, fun _ _ => .rfl, fun _ _ _ => .rfl, fun _ _ => .rfl⟩
theorem Vw.symm {H H1 : Hp} (a : Vw H H1) : Vw H1 H := ⟨fun b => (a.non b).symm, fun b xs => (a.tup b xs).symm, fun b o u => (a.frz b o u).symm, fun b ps => (a.tbl b ps).symm⟩
theorem Vw.trans {H H1 H2 : Hp} (a : Vw H H1) (c : Vw H1 H2) : Vw H H2 := ⟨fun b => (a.non b).trans (c.non b), fun b xs => (a.tup b xs).trans (c.tup b xs), fun b o u => (a.frz b o u).trans (c.frz b o u), fun b ps => (a.tbl b ps).trans (c.tbl b ps)⟩
/-- a list, or another thing of one object -/
def Pl : HO → Prop
  | .lst _ => True
  | .ext _ => True
  | _ => False
theorem Vw.put {H : Hp} {p : Addr} {u o : HO} (h : H p = some u) (hu : Pl u) (ho : Pl o) : Vw H (upd H p o) := by
  have hx : ∀ (b : Addr) (x : HO), ¬ Pl x → (H b = some x ↔ upd H p o b = some x) := fun b x nx => by
    by_cases e : b = p
    · subst e
      rw [h, upd_same]
      exact ⟨fun z => by cases z; exact absurd hu nx, fun z => by cases z; exact absurd ho nx⟩
    · rw [upd_ne e]
  refine ⟨fun b => ?_, fun b xs => hx b _ fun z => z, fun b o u => hx b _ fun z => z, fun b ps => hx b _ fun z => z⟩
  by_cases e : b = p
  · subst e
    rw [h, upd_same]
    exact ⟨fun z => (nomatch z), fun z => (nomatch z)⟩
  · rw [upd_ne e]
end DL
namespace KH
open PySem PySem.Spec PyProof.Rows L2 HotX L2H
end KH
namespace KH
open PySem PySem.Spec PyProof.Rows L2 HotX L2H
theorem pmkN {X : Cx} {CX : CXT} {x : Str} {e : Expr} {es : List Expr} {ta : TA} {p pos : Pos} {C fI : Addr} {k : Nat} {fd : FuncData} {ps : List Str} {sp : Sp} (T : OexC X.K C) (iC : PySem.W.findIn X.K (.ref C) "__init__" = some (some (.ref fI))) (tI : PySem.W.typeIn X.K (.ref fI) = some (.type "function"))
    (F1 : FnOk X.prog X.w X.K X.mg X.base CX k fI fd ps sp) (hr : Room (k + 1) X.A) (hb : Binds X.K fd ps []) (hx : Passes CX X (fun _ _ _ => False)) (hg : Gl X x) (hm : X.mg x = some (.ref C)) (ha : PA X (e :: es) ta)
    (hdb : (x == ("__debug__" : Str)) = false := by decide) (he : starEach (e :: es) X.env = (false, eval e X.env) :: starEach es X.env := by rfl) (hpl : (backTo pos (starEach es X.env)).any (·.1) = false := by rfl) :
    L2N.PMk X (.Call (.Name x p) (e :: es) [] pos) (tMkO C sp [] ta) := by
  intro pins s σ H Q I h
  obtain ⟨nm, qn, N, bs, bm, sn, sub, ab, col, dd, k0, k1, k2, k3, k5, hC, hbm⟩ := T.cls
  refine wpAny_Call_Name_kw (ld_glob I hg hm ?_ hdb)
  refine PySem.W.callWith_K (h₀ := X.base) I.ok.mod.kin T.kC (thn (ha.run pos pins s σ H _ I h) fun us s1 ⟨vs, H1, I1, r1, hz, q1⟩ => ⟨I1.kIn, ?_⟩) he hpl
  show wpAny _ _ (call (.ref C) us) _ _ _
  obtain ⟨hp, g, dr, tk, os⟩ := s1
  have hsz : hp.objs.size ≤ hp.objs.size + 1 := Nat.le_succ _
  have hq := q1 (hp.objs.size + 1) (I1.hok.fresh hsz)
  rw [List.append_nil] at hq
  generalize hG : (hp.push (PySem.W.kdv_tup us)).push (PySem.HandSPX.excO C hp.objs.size) = G
  have kk : ∀ b o, hp.get? b = some o → G.get? b = some o := fun b o e => by rw [← hG]; exact Heap.get?_push_of_some _ (Heap.get?_push_of_some _ e)
  have hget : G.get? (hp.objs.size + 1) = some (PySem.HandSPX.excO C hp.objs.size) := by rw [← hG]; heap_get
  have I2 : Inv X pins σ (upd H1 (hp.objs.size + 1) (exo (hp.objs.size + 1) C none)) ⟨G, g, dr, tk, os⟩ :=
    I1.laid (t' := tk) (a := hp.objs.size + 1) (o := exo (hp.objs.size + 1) C none) (h' := G) kk hsz (exo_ok hget)
  have r2 : Vals (V.ref (hp.objs.size + 1) :: vs) (Value.ref (hp.objs.size + 1) :: us) := .cons rfl r1
  have hl : (Value.ref (hp.objs.size + 1) :: us).length = ps.length := r2.length.symm.trans (F1.len _ _ _ _ hq)
  have hus : us.length ≤ sizeLine := by
    rw [← Paired.length r1]
    exact Nat.le_trans hz (by decide)
  have bb := hb ⟨G, g, dr, tk, os⟩ (Value.ref (hp.objs.size + 1) :: us) I2.kIn (by rw [List.append_nil]; exact hl)
  rw [List.append_nil] at bb
  refine wpAny_call (PySem.HandSPX.call_own F.excBase_ValueError (fun Y => PySem.HandSPX.refsVE_contains Y bm hbm) (I1.kIn _ _ hC) (PySem.W.looks_findIn I1.kIn iC) (fun self => PySem.W.bind_fn I1.kIn self tI) hus ?_)
  rw [hG]
  refine codeAny_mono (F1.run _ X.stack _ _ ⟨Value.ref (hp.objs.size + 1) :: us, []⟩ (Value.ref (hp.objs.size + 1) :: us) _ _ (fun _ _ _ => False) (hr.make C us []) (I2.env0.make C us []) bb r2 hq) fun r s' hq' => ?_
  cases r with
  | error er => exact hx pins σ _ _ er s' I2 hq'
  | ok fl =>
    cases fl with
    | ret u =>
      obtain ⟨v, H2, os2, bare2, un2, hok2, rv, ev, d, fs, ea, ed, hd1, q2⟩ := hq'
      subst ev
      obtain ⟨h2, g2, d2, t2, os'⟩ := s'
      obtain ⟨t0, G2, J, kG, ge, hoe, na⟩ := mk_end0 (d2 := d2) (t2 := t2) I1 hsz kk un2 hok2 os2 bare2 ea ed hd1
      exact ⟨rv, ⟨_, _, _, ⟨G2, g2, d2, t2, os'⟩, _, .ref C, some d, rfl, J, kG, ge, hoe, ⟨rfl, rfl, fun vs e => by cases e; rfl⟩, rfl, rfl, na, rfl, bare2, raises_own T.exC T.tyC, q2⟩⟩
    | next => exact False.elim hq'
    | brk => exact False.elim hq'
    | cont => exact False.elim hq'
end KH
namespace KW
open PySem PySem.Spec PyProof.Rows L2
/-- a def, a method that may raise -/
structure RCal (P : Program) (w : World) (K : PySem.W.Frag) (mg : Str → Option Value) (base : Heap) (k : Nat) (x : Str) (sp : Sp) : Prop where
  ex : ∃ f fd ps, FnOk P w K mg base (L2N.CX P w) k f fd ps sp ∧ mg x = some (.ref f) ∧ PySem.W.keepIn K (.ref f) = true ∧ Binds K fd ps []
structure RMet (P : Program) (w : World) (K : PySem.W.Frag) (mg : Str → Option Value) (base : Heap) (k : Nat) (C : Addr) (m : Str) (sp : Sp) : Prop where
  ex : ∃ f fd ps, Cls K C ∧ Meth K C m f ∧ FnOk P w K mg base (L2N.CX P w) k f fd ps sp ∧ Binds K fd ps []
section
variable {P : Program} {w : World} {K : PySem.W.Frag} {mg : Str → Option Value} {base : Heap}
theorem rcalMono {j k : Nat} {x : Str} {sp : Sp} (c : RCal P w K mg base j x sp) (h : j ≤ k) : RCal P w K mg base k x sp := by
  obtain ⟨f, fd, ps, F, r⟩ := c.ex
  exact ⟨f, fd, ps, F.mono h, r⟩
theorem rmetMono {j k : Nat} {C : Addr} {x : Str} {sp : Sp} (c : RMet P w K mg base j C x sp) (h : j ≤ k) : RMet P w K mg base k C x sp := by
  obtain ⟨f, fd, ps, c1, m, F, r⟩ := c.ex
  exact ⟨f, fd, ps, c1, m, F.mono h, r⟩
theorem Df.rcal {x : Str} {st : Stmt} {N ps : List Str} {k : Nat} {sp : Sp} (F : Df K mg x st ps) (S : FnScope N ps (defScope st)) (len : ∀ vs H Q E, sp vs H Q E → vs.length = ps.length)
    (hbody : ∀ (f : Addr) (cdv : Value) (A : Around) (outer : List Env) (s : Shared) (H : Hp) (vs : List V) (Q : VK) (E : XK), Room k (A.deeper (envOfC x (defScope st) s.heap.objs.size f cdv)) → sp vs H Q E →
      ∃ t, PSs (cxOf (L2N.CX P w) P w K mg base N x (defScope st) f cdv A outer s H E) (defBody st) t ∧ t { nx := fun _ H' => Q .non H', rt := Q } (start N vs) H) : RCal P w K mg base (k + 1) x sp := by
  obtain ⟨f, fd, F, hm, kp, b⟩ := F.ex
  obtain ⟨oc, od, kV, doc, pm, an, cdv, ct, osl, rfl, lk, hcd⟩ := F.ex
  exact ⟨f, _, ps, fn_of lk hcd S len fun A outer s H vs Q E hr hsp => hbody f cdv A outer s H vs Q E hr hsp, hm, kp, b⟩
theorem Dm.rmet {C : Addr} {m qual : Str} {st : Stmt} {N ps : List Str} {k : Nat} {sp : Sp} (F : Dm K C m qual st ps) (S : FnScope N ps (defScope st)) (len : ∀ vs H Q E, sp vs H Q E → vs.length = ps.length)
    (hbody : ∀ (f : Addr) (cdv : Value) (A : Around) (outer : List Env) (s : Shared) (H : Hp) (vs : List V) (Q : VK) (E : XK), Room k (A.deeper (envOfC qual (defScope st) s.heap.objs.size f cdv)) → sp vs H Q E →
      ∃ t, PSs (cxOf (L2N.CX P w) P w K mg base N qual (defScope st) f cdv A outer s H E) (defBody st) t ∧ t { nx := fun _ H' => Q .non H', rt := Q } (start N vs) H) : RMet P w K mg base (k + 1) C m sp := by
  obtain ⟨f, fd, c, me, F, b⟩ := F.ex
  obtain ⟨oc, od, kV, doc, pm, an, cdv, ct, osl, rfl, lk, hcd⟩ := F.ex
  exact ⟨f, _, ps, c, me, fn_of lk hcd S len fun A outer s H vs Q E hr hsp => hbody f cdv A outer s H vs Q E hr hsp, b⟩
end
/-- an error's __init__: self.f = v -/
def spErr (C : Addr) (f : Str) : Sp := fun vs H Q _ => ∃ (a : Addr) (v : V), vs = [.ref a, v] ∧ H a = some (exo a C none) ∧ ∀ dx, H dx = none → dx ≠ a → Q .non (upd (upd H dx (exd dx [(f, v)])) a (exo a C (some dx)))
/-- what the top says of an error's class, f its one attribute -/
structure ErC (K : PySem.W.Frag) (mg : Str → Option Value) (name : Str) (f : Str) (C : Addr) : Prop where
  oex : OexC K C
  exc : ExcC K C
  no : PySem.W.findIn K (.ref C) f = some none
  mgC : mg name = some (.ref C)
/-- its __init__, walked -/
structure ErI (P : Program) (w : World) (K : PySem.W.Frag) (mg : Str → Option Value) (base : Heap) (f : Str) (C : Addr) : Prop where
  ex : ∃ fI fd ps, PySem.W.findIn K (.ref C) "__init__" = some (some (.ref fI)) ∧ PySem.W.typeIn K (.ref fI) = some (.type "function") ∧ FnOk P w K mg base CX0 1 fI fd ps (spErr C f) ∧ Binds K fd ps []
/-- raise C(e): e's value v, then for every new d the way out -/
def RaiseOk (C : Addr) (f : Str) (W : XK) (v : V) (H1 : Hp) : Prop :=
  [v].length ≤ 1000 ∧ ∀ a, H1 a = none → spErr C f (.ref a :: ([v] ++ [])) (upd H1 a (exo a C none))
    (fun u H2 => u = .non ∧ ∃ (d : Addr) (fs : List (Str × V)), H2 a = some (exo a C (some d)) ∧ H2 d = some (exd d fs) ∧ H1 d = none ∧ W (.ref C) (some d) (upd (L2.del H2 a) d (.xd fs))) (fun _ _ _ => False)
theorem raiseOk {C : Addr} {f : Str} {W : XK} {v : V} {H1 : Hp} (h : ∀ d, H1 d = none → W (.ref C) (some d) (upd H1 d (.xd [(f, v)]))) : RaiseOk C f W v H1 := by
  refine ⟨by show 1 ≤ 1000; decide, fun a ha => ⟨a, v, rfl, upd_same, fun dx hdx hne => ⟨rfl, dx, [(f, v)], upd_same, by rw [upd_ne hne, upd_same], ?_, ?_⟩⟩⟩
  · rw [upd_ne hne] at hdx
    exact hdx
  · have hd1 : H1 dx = none := by
      rw [upd_ne hne] at hdx
      exact hdx
    have e : upd (L2.del (upd (upd (upd H1 a (exo a C none)) dx (exd dx [(f, v)])) a (exo a C (some dx))) a) dx (.xd [(f, v)]) = upd H1 dx (.xd [(f, v)]) := by
      funext b
      by_cases h1 : b = dx
      · rw [h1, upd_same, upd_same]
      · rw [upd_ne h1, upd_ne h1]
        by_cases h2 : b = a
        · rw [h2, L2.del_same, ha]
        · rw [L2.del_ne h2, upd_ne h2, upd_ne h1, upd_ne h2]
    rw [e]
    exact h dx hd1
def tRaiseE (C : Addr) (f : Str) (W : L2.St → XK) (te : TE) : TS := fun _ σ H => te σ H fun v H1 => RaiseOk C f (W σ) v H1
theorem kr_raise {X : Cx} {W : WX} {C : Addr} {f x : Str} {k : Nat} {p pos pos' : Pos} {e : Expr} {te : TE} (T : ErC X.K X.mg x f C) (I : ErI X.prog X.w X.K X.mg X.base f C) (hr : Room (k + 2) X.A) (hc : X.calm = true) (tk : L2N.Takes X W) (hg : Gl X x) (he : PE X e te)
    (hdb : (x == ("__debug__" : Str)) = false := by decide) (hs : starEach [e] X.env = (false, eval e X.env) :: starEach [] X.env := by rfl) (hpl : (backTo pos (starEach [] X.env)).any (·.1) = false := by rfl) :
    PS X (.Raise (some (.Call (.Name x p) [e] [] pos)) none pos') (tRaiseE C f (fun σ cls d H => W cls d σ H) te) := by
  obtain ⟨fI, fd, ps, iC, tI, F, b⟩ := I.ex
  exact L2N.ps_raise hc tk (KH.pmkN T.oex iC tI F (hr.mono (by omega)) b pass0 hg T.mgC (pa_cons he pa_nil hs) hdb hs hpl)
theorem takes0N {X : Cx} : L2N.Takes X (fun _ _ _ _ => False) := fun _ _ x => by
  obtain ⟨_, _, _, _, _, _, _, _, _, _, _, _, _, _, _, _, z⟩ := x
  exact z.elim
/-- C(e, ..) in a try -/
def tMakeS (C : Addr) (sp : Sp) (E : L2.St → XK) (t : TA) : TE := fun σ H Q => t σ H fun vs H1 => ∀ x dx, H1 x = none → H1 dx = none → dx ≠ x →
  sp (.ref x :: (vs ++ [])) (upd (upd H1 dx (.own x)) x (.ins C dx [])) (fun v H2 => v = .non ∧ Q (.ref x) H2) (E σ)
theorem pe_makeS {X : Cx} {CX : CXT} {k : Nat} {f C : Addr} {fd : FuncData} {ps : List Str} {sp : Sp} {E : L2.St → XK} {x : Str} {p pos : Pos} {e : Expr} {es : List Expr} {t : TA} (M : Mk X.K C f) (F : FnOk X.prog X.w X.K X.mg X.base CX k f fd ps sp) (hr : Room (k + 1) X.A) (hg : Gl X x) (hm : X.mg x = some (.ref C)) (hb : Binds X.K fd ps []) (hx : ∀ σ, PassesAt CX X σ (E σ))
    (ha : PA X (e :: es) t) (hdb : (x == ("__debug__" : Str)) = false := by decide) (he : starEach (e :: es) X.env = (false, eval e X.env) :: starEach es X.env := by rfl) (hpl : (backTo pos (starEach es X.env)).any (·.1) = false := by rfl) :
    PE X (.Call (.Name x p) (e :: es) [] pos) (tMakeS C sp E t) := by
  refine ⟨fun pins s σ H Q I h => ?_⟩
  refine wpAny_Call_Name_kw (ld_glob I hg hm ?_ hdb)
  refine PySem.W.callWith_K (h₀ := X.base) I.ok.mod.kin M.kp (thn (ha.run pos pins s σ H _ I h) fun us s1 ⟨vs, H1, I1, r, q⟩ => ⟨I1.kIn, ?_⟩) he hpl
  show wpAny (model X.prog X.w) X.A (call (.ref C) us) (EP X pins σ Q) X.xe s1
  have hq := q (s1.heap.objs.size + 1) s1.heap.objs.size (I1.hok.fresh (Nat.le_succ _)) (I1.hok.fresh (Nat.le_refl _)) (Nat.ne_of_lt (Nat.lt_succ_self _))
  have I2 := Inv.made (C := C) I1
  have r2 : Vals (V.ref (s1.heap.objs.size + 1) :: (vs ++ [])) (Value.ref (s1.heap.objs.size + 1) :: (us ++ [])) := .cons rfl (r.append .nil)
  have hl : (Value.ref (s1.heap.objs.size + 1) :: us ++ []).length = ps.length := by
    have e := r2.length
    rw [F.len _ _ _ _ hq] at e
    exact e.symm
  have bb := hb _ (Value.ref (s1.heap.objs.size + 1) :: us) I2.kIn hl
  rw [List.cons_append] at bb
  refine wpAny_call (make_map (f := f) I1.kIn M.makes M.init (beq_iff_eq.mp M.fn) (codeAny_mono (F.run _ X.stack _ _ ⟨Value.ref (s1.heap.objs.size + 1) :: us, []⟩ (Value.ref (s1.heap.objs.size + 1) :: (us ++ [])) _ _ (E σ) (hr.make C us [])
    (I2.env0.make C us []) bb r2 hq) fun r s' hq' => ?_))
  cases r with
  | error e => exact hx σ pins _ _ e s' I2 hq'
  | ok fl =>
    cases fl with
    | ret u =>
      obtain ⟨v, H', I3, rv, ev, q3⟩ := I2.after hq'
      subst ev
      exact ⟨rv, ⟨V.ref (s1.heap.objs.size + 1), H', I3, rfl, q3⟩⟩
    | next => exact False.elim hq'
    | brk => exact False.elim hq'
    | cont => exact False.elim hq'
end KW
namespace KO
open PySem PySem.Spec PySem.W PyProof.Rows
section
variable {prog : Program} {w : World} {M : Model} {A : Around} {E : Value → Shared → Prop} {s : Shared} {K : Frag} {x C f L : Addr} {h₀ : Heap} {m : Str → Option Value} {ox : Obj} {od : Option Obj} {b tb : Value}
theorem ifBound_B {name : Str} {id : String} {args : List Value} {Q : Option Value → Shared → Prop} (X : K.In s.heap) (I : InstAt s.heap x ox C od) (hs : findIn K (.ref C) name = some (some (.builtin id)))
    (hb : ∀ self, bindSpecial (.builtin id) self = pure (.builtin id, [self])) (h : wpAny M A (call (.builtin id) (.ref x :: args)) (fun v => Q (some v)) E s) : wpAny M A (callSpecialIfBound? (.ref x) name args) Q E s := by
  simp only [callSpecialIfBound?, bindSpecialIfBound?]
  refine wpAny_holding (wpAny_bind (wpAny_bind (wpAny_bind (I.type.here ((looks_findIn X hs).here ?_)))))
  refine wpAny_bind (wpAny_askSetting (wpAny_ite ?_))
  have fin : wpAny M A (call (.builtin id) ([.ref x] ++ args) >>= fun v => pure (some v)) Q E s := wpAny_bind (wpAny_mono h (fun v s' h' => wpAny_pure h') fun _ _ h' => h')
  split
  · exact wpAny_bind ((Looks.of_pure (hb _)).here (wpAny_pure (by exact fin)))
  · exact wpAny_tryCatch (wpAny_bind ((Looks.of_pure (hb _)).here (wpAny_pure (by exact fin))))
theorem objNe {Q : Value → Shared → Prop} (hu : A.in1.units < cLine) (X : K.In s.heap) (I : InstAt s.heap x ox C od) (hm : mroIn K C (.type "object") = some true) (he : findIn K (.ref C) "__eq__" = some (some (.ref f))) (hf : isFn K (.ref f) = true)
    (h : wpAny (model prog w) A.in1 (call (.ref f) [.ref x, b]) (fun v s' => ∃ r, v = .bool r ∧ Q (.bool (!r)) s') E s) : wpAny (model prog w) A (call (.builtin "object.__ne__") [.ref x, b]) Q E s := by
  refine wpAny_call (codeAny_call_builtin PySem.F.slot_object_ne.plain PySem.F.entry_object_ne (check_slot (i := "object.__ne__") (owner := "object") (n := "__ne__") (by decide +kernel) (by decide +kernel) (I.type.andThen (looks_mroIn X hm)) (PySem.F.args_object_ne_2 _ _) ?_))
  unfold Builtin.«object.__ne__»
  refine wpAny_bind (m := slotArgs "__ne__" 1 _) (wpAny_pure ?_)
  refine wpAny_bind (m := cRoomFor _ _) (wpAny_cRoomFor hu ?_)
  refine wpAny_bind (m := callSpecialIfBound? (.ref x) (Str.ofString "__eq__") _) (ifBound_K X I he hf (wpAny_mono h (fun r s' hq => ?_) fun _ _ y => y))
  obtain ⟨r, rfl, hq⟩ := hq
  refine wpAny_bind (m := truthy (.bool r)) (wpAny_truthy_bool ?_)
  exact wpAny_pure hq
theorem ne_K {Q : Value → Shared → Prop} (hu : A.units + 1 < cLine) (F : Fr h₀ L s.heap m) (X₀ : K.In h₀) (I : InstAt s.heap x ox C od) (hb : Looks (model prog w) s.heap (typeOf b) tb) (hn : notFirst K C tb = true)
    (hs : findIn K (.ref C) "__ne__" = some (some (.builtin "object.__ne__"))) (hm : mroIn K C (.type "object") = some true) (he : findIn K (.ref C) "__eq__" = some (some (.ref f))) (hf : isFn K (.ref f) = true)
    (h : wpAny (model prog w) A.in1 (call (.ref f) [.ref x, b]) (fun v s' => ∃ r, v = .bool r ∧ Q (.bool (!r)) s') E s) : wpAny (model prog w) A (richCompare .NotEq (.ref x) b) Q E s := by
  have X := X₀.keeps F.keep
  have one : wpAny (model prog w) A (tryCompare (.ref x) (cmpInfo .NotEq).2.1 b) (fun r s' => ∃ v, r = some v ∧ Q v s') E s := by
    unfold tryCompare
    refine wpAny_bind (ifBound_B X I hs PySem.F.slot_object_ne.bind (objNe hu X I hm he hf (wpAny_mono h (fun v s' hv => ?_) fun _ _ e => e)))
    obtain ⟨r, rfl, hv⟩ := hv
    exact ⟨r, rfl, wpAny_pure ⟨_, rfl, hv⟩⟩
  unfold richCompare
  simp only [oneThing_ref]
  refine wpAny_holding (wpAny_bind (wpAny_cRoomFor (Nat.lt_of_succ_lt hu) ?_))
  refine wpAny_bind (I.type.here (wpAny_bind (hb.here ?_)))
  split
  · rename_i q
    have e : subIn K tb (.ref C) = some false := by
      rcases Bool.or_eq_true_iff.mp hn with e | e
      · rw [beq_iff_eq.mp e] at q; simp at q
      · exact beq_iff_eq.mp e
    refine wpAny_bind ((looks_subIn X e).here ?_)
    simp only [Bool.false_eq_true, if_false]
    refine wpAny_bind (wpAny_mono one (fun r s' z => ?_) fun _ _ e => e)
    obtain ⟨v, rfl, hq⟩ := z
    exact wpAny_pure hq
  · refine wpAny_bind (wpAny_pure ?_)
    simp only [Bool.false_eq_true, if_false]
    refine wpAny_bind (wpAny_mono one (fun r s' z => ?_) fun _ _ e => e)
    obtain ⟨v, rfl, hq⟩ := z
    exact wpAny_pure hq
end
end KO
namespace KW
open PySem PySem.Spec PyProof.Rows L2
/-- what a class with an own == says -/
structure EqC (K : PySem.W.Frag) (C f : Addr) : Prop where
  eq : PySem.W.findIn K (.ref C) "__eq__" = some (some (.ref f))
  fn : PySem.W.isFn K (.ref f) = true
  ne : PySem.W.findIn K (.ref C) "__ne__" = some (some (.builtin "object.__ne__"))
  ob : PySem.W.mroIn K C (.type "object") = some true
end KW
namespace KW
open PySem PySem.Spec PyProof.Rows L2
end KW
namespace KC
open PySem PySem.Spec PySem.Froz PyProof.Rows L2
def txOf : Value → Str
  | .str k _ => k
  | _ => Str.empty
/-- what the set holds, one by one -/
def Holds1 (D : SD) (l : List Str) : Prop := (D.1.toList.map fun e => txOf e.2).Perm l ∧ ∀ e ∈ D.1.toList, ∃ k u, e.2 = Value.str k u
def SetT (P : Program) (w : World) (h : Heap) (a : Addr) (l : List Str) : Prop := ∃ D, h.get? a = some (sObj "set" D) ∧ TxOk P w D l ∧ l.Nodup ∧ Ris D.2.2.place.toList ∧ (w.params.followText "set-order" = true ∨ D.2.2.led = true) ∧ Holds1 D l
/-- the set of texts at a -/
def SetTO (P : Program) (w : World) (a : Addr) (l : List Str) : HO := .ext fun h => SetT P w h a l
end KC
namespace KC
open PySem PySem.Spec PyProof.Rows L2
/-- pairs of texts: by the first, then by the second -/
def lexL (p q : List Nat × List Nat) : Bool := if p.1 = q.1 then decide (p.2 < q.2) else decide (p.1 < q.1)
def IsPairS (h : Heap) (v : Value) (p : List Nat × List Nat) : Prop := ∃ a o x y t u n, v = .ref a ∧ h.get? a = some o ∧ o.cls = .type "tuple" ∧ o.data = .seq #[.str x t, .str y u] n ∧ p = (x.cps.toList, y.cps.toList)
theorem IsPairS.keeps {h h' : Heap} {v : Value} {p : List Nat × List Nat} (q : IsPairS h v p) (k : ∀ b o, h.get? b = some o → o.cls = .type "tuple" → h'.get? b = some o) : IsPairS h' v p := by
  obtain ⟨a, o, x, y, t, u, n, e, ho, hc, hd⟩ := q
  exact ⟨a, o, x, y, t, u, n, e, k _ _ ho hc, hc, hd⟩
end KC
namespace RZ
open PySem PySem.Spec PyProof.Rows L2
/-- the text's signs and the list's items as they stand at each turn, in new pairs -/
def ItzS (K : PySem.W.Frag) (l : Str) (b : Addr) : It :=
  ⟨fun i H => ∃ (ys : List V) (c : Nat) (y : V), SqL K H b ys ∧ l.cps[i]? = some c ∧ ys[i]? = some y,
    fun i H v H' => ∃ T c y, v = .ref T ∧ H T = none ∧ H' = upd H T (.tup [.str ⟨#[c]⟩, y]) ∧ l.cps[i]? = some c ∧ ∀ ys, SqL K H b ys → ys[i]? = some y,
    fun i H => ∃ ys : List V, SqL K H b ys ∧ i ≤ l.cps.size ∧ i ≤ ys.length ∧ (i = l.cps.size ∨ i = ys.length)⟩
end RZ
namespace KW
open PySem PySem.Spec PyProof.Rows L2
def nmB (l : List Nat) : Bool := decide (1 ≤ l.length) && decide (l.length ≤ 4) && (l.all fun c => decide (c ∈ abc)) && !([wIf, wElse, wEnd].contains l)
abbrev pmq : List Nat := [43, 45, 63]
def wyB (l : List Nat) : Bool := decide (1 ≤ l.length) && decide (l.length ≤ 3) && (l.all fun c => decide (c ∈ pmq))
theorem kept_eq : [V.str (Str.ofString "if"), V.str (Str.ofString "else"), V.str (Str.ofString "end")] = LS [wIf, wElse, wEnd] := by decide +kernel
theorem pmq_eq : (Str.ofString "+-?") = S pmq := by decide +kernel
/-- what the top keeps for names and ways -/
structure NwC (K : PySem.W.Frag) (mg : Str → Option Value) : Prop where
  letters : ∃ t, mg "LETTERS" = some (.str (Str.ofString "abcdefghijklmnopqrstuvwxyz") t)
  ways : ∃ t, mg "WAYS" = some (.str (Str.ofString "+-?") t)
  kept : ∃ a, mg "KEPT_WORDS" = some (.ref a) ∧ ∀ H, SqT K H a (LS [wIf, wElse, wEnd])
theorem all_map (l : List Nat) (p : Nat → Bool) : (l.map p).all id = l.all p := by
  rw [List.all_map]
  rfl
/-- ways -/
def Wy (l : List Nat) : Prop := (∀ c ∈ l, c ∈ pmq) ∧ 1 ≤ l.length ∧ l.length ≤ 3
theorem Wy.b {l : List Nat} (h : Wy l) : wyB l = true := by
  unfold wyB
  rw [decide_eq_true h.2.1, decide_eq_true h.2.2]
  simpa using h.1
theorem Nm.b {l : List Nat} (h : Nm l) : nmB l = true := by
  unfold nmB
  rw [decide_eq_true h.2.1, decide_eq_true h.2.2.1]
  have h1 : (l.all fun c => decide (c ∈ abc)) = true := by
    rw [List.all_eq_true]
    intro c hc
    have := h.1 c hc
    simp
    omega
  have h2 : [wIf, wElse, wEnd].contains l = false := by
    simp only [List.contains_eq_mem, decide_eq_false_iff_not, List.mem_cons, List.not_mem_nil, or_false, not_or]
    exact ⟨h.2.2.2.1, h.2.2.2.2.1, h.2.2.2.2.2⟩
  rw [h1, h2]
  rfl
end KW
namespace PL
open PySem PySem.Spec PyProof.Rows L2 KW
/-- no table of code objects -/
class Nb (o : HO) : Prop where
  ne : ∀ ps, o ≠ .tbl ps
instance {x} : Nb (.lst x) := ⟨fun _ z => nomatch z⟩
instance {x} : Nb (.tup x) := ⟨fun _ z => nomatch z⟩
instance {x} : Nb (.dK x) := ⟨fun _ z => nomatch z⟩
instance {x} : Nb (.dT x) := ⟨fun _ z => nomatch z⟩
instance {x y} : Nb (.set x y) := ⟨fun _ z => nomatch z⟩
instance {x y z} : Nb (.ins x y z) := ⟨fun _ z => nomatch z⟩
instance {x} : Nb (.own x) := ⟨fun _ z => nomatch z⟩
instance {x} : Nb (.xd x) := ⟨fun _ z => nomatch z⟩
instance {x y} : Nb (.met x y) := ⟨fun _ z => nomatch z⟩
instance {x y} : Nb (.rng x y) := ⟨fun _ z => nomatch z⟩
instance {x y} : Nb (.frz x y) := ⟨fun _ z => nomatch z⟩
instance {x} : Nb (.ext x) := ⟨fun _ z => nomatch z⟩
instance {a b c} : Nb (exo a b c) := ⟨fun _ z => nomatch z⟩
instance {a b} : Nb (exd a b) := ⟨fun _ z => nomatch z⟩
instance {P w a l} : Nb (KC.SetTO P w a l) := ⟨fun _ z => nomatch z⟩
instance {p q} : Nb (DL.OutO p q) := ⟨fun _ z => nomatch z⟩
instance {q} : Nb (DL.InO q) := ⟨fun _ z => nomatch z⟩
instance {c q} : Nb (LamX.CodeO c q) := ⟨fun _ z => nomatch z⟩
theorem heap_of : ∀ n : Nat, ∃ h : Heap, h.objs.size = n
  | 0 => ⟨{ objs := #[] }, rfl⟩
  | n + 1 => by
    obtain ⟨h, e⟩ := heap_of n
    exact ⟨h.push { cls := .none, data := .fields #[] }, by rw [← e]; simp [Heap.push]⟩
theorem setTO_ne {P : Program} {w : World} {a : Addr} {l : List Str} {q : Str} : KC.SetTO P w a l ≠ LamX.CodeO a q := fun z => by
  unfold KC.SetTO LamX.CodeO at z
  have z := HO.ext.inj z
  obtain ⟨h, e⟩ := heap_of a
  have z := congrFun z (h.push { cls := .none, data := .fields #[.none, .str q (0 : Nat)] })
  have hc : ∃ (oc : Obj) (vs : Array Value) (t : Tok), (h.push { cls := .none, data := .fields #[.none, .str q (0 : Nat)] }).get? a = some oc ∧ oc.data = .fields vs ∧ vs[1]? = some (.str q t) := ⟨_, _, _, by rw [← e]; exact Heap.get?_push_size _ rfl, rfl, rfl⟩
  rw [← z] at hc
  obtain ⟨D, hD, _⟩ := hc
  rw [← e, Heap.get?_push_size _ rfl] at hD
  cases hD
theorem outO_ne {p q : Addr} {s : Str} : DL.OutO p q ≠ LamX.CodeO p s := fun z => by
  unfold DL.OutO LamX.CodeO at z
  have z := HO.ext.inj z
  obtain ⟨h, e⟩ := heap_of p
  have z := congrFun z (h.push { cls := .none, data := .fields #[.none, .str s (0 : Nat)] })
  have hc : ∃ (oc : Obj) (vs : Array Value) (t : Tok), (h.push { cls := .none, data := .fields #[.none, .str s (0 : Nat)] }).get? p = some oc ∧ oc.data = .fields vs ∧ vs[1]? = some (.str s t) := ⟨_, _, _, by rw [← e]; exact Heap.get?_push_size _ rfl, rfl, rfl⟩
  rw [← z] at hc
  obtain ⟨d, its, n, _, hD⟩ := hc
  rw [← e, Heap.get?_push_size _ rfl] at hD
  cases hD
/-- all but the tables stays -/
def Same (H H' : Hp) : Prop := ∀ b o, H b = some o → ∀ [Nb o], H' b = some o
/-- the tables stay tables -/
def Tbs (H H' : Hp) : Prop := ∀ b ps, H b = some (.tbl ps) → ∃ ps', H' b = some (.tbl ps')
theorem Tbs.trans {H H1 H2 : Hp} (a : Tbs H H1) (b : Tbs H1 H2) : Tbs H H2 := fun c ps h => let ⟨_, h1⟩ := a c ps h; b c _ h1
theorem Tbs.refl (H : Hp) : Tbs H H := fun _ ps h => ⟨ps, h⟩
namespace Same
variable {H H' H2 : Hp}
theorem refl (H : Hp) : Same H H := fun _ _ h => h
theorem of (s : L2.Same H H') : Same H H' := fun b o e => s b o e
theorem trans (a : Same H H') (b : Same H' H2) : Same H H2 := fun c o h => b c o (a c o h)
theorem tup {K : PySem.W.Frag} {p : Addr} {vs : List V} (s : Same H H') (h : SqT K H p vs) : SqT K H' p vs := by
  rcases h with (h | ⟨u, h⟩) | h
  · exact .inl (.inl (s _ _ h))
  · exact .inl (.inr ⟨u, s _ _ h⟩)
  · exact .inr h
theorem seq {K : PySem.W.Frag} {p : Addr} {vs : List V} (s : Same H H') (h : SqL K H p vs) : SqL K H' p vs := by
  rcases h with (h | ⟨u, h⟩) | h
  · exact .inl (.inl (s _ _ h))
  · exact .inl (.inr ⟨u, s _ _ h⟩)
  · exact .inr h
/-- what is new was not there, if the tables stay -/
theorem free {p : Addr} (s : Same H H') (t : Tbs H H') (h : H' p = none) : H p = none := by
  cases e : H p with
  | none => rfl
  | some o =>
    by_cases hb : ∃ ps, o = .tbl ps
    · obtain ⟨ps, rfl⟩ := hb
      obtain ⟨ps', z⟩ := t _ _ e
      rw [h] at z
      cases z
    · have : Nb o := ⟨fun ps z => hb ⟨ps, z⟩⟩
      rw [s _ _ e] at h
      cases h
end Same
/-- what a value means -/
inductive M where
  | non | bl (b : Bool) | int (i : Int) | str (l : List Nat) | lst (xs : List M) | tup (xs : List M) | obj (c : Nat) (fs : List M) | dct (ks : List (List Nat)) (vs : List M) | err (e : Nat) (fs : List M)
/-- what a def may hold alone: the feed, a list, an instance that is being made, a dict by texts, by tuples of texts -/
inductive OC where
  | feed | lst (xs : List M) | ins (c : Nat) (fs : List (Str × M)) | dk (kvs : List (List Nat × M)) | dt (kvs : List (List (List Nat) × M)) | scr (ns : List Int) | st (P : Program) (w : World) (ls : List (List Nat)) | deal
/-- what a slot, an operand is: nothing known; a value; held alone (by this def; by its caller); new and held by none; an error -/
inductive R where
  | no | v (m : M) | o (l : Bool) (c : OC) | f (c : OC) | x (a d : Addr) (e : Nat) (m : M)
/-- the attributes of the classes, in the order of their making -/
def an : Nat → List Str
  | 0 => ["name", "ways"]
  | 1 => ["kind", "word", "step", "parts", "names", "steps", "marks", "text"]
  | 2 => ["word", "steps"]
  | 3 => ["steps"]
  | 4 => ["entries", "steps"]
  | 5 => ["name", "expr", "key", "names", "steps", "told"]
  | 6 => ["name", "expr", "key", "names", "steps", "told"]
  | 7 => ["name", "expr", "key", "names", "steps", "told"]
  | 8 => ["word", "key", "names", "steps", "told"]
  | 9 => ["left", "right", "rows", "others", "key", "names", "steps", "told"]
  | 10 => ["rows", "key", "names", "steps", "told"]
  | 11 => ["rows", "names", "steps", "words", "weight"]
  | 12 => ["text", "known", "at"]
  | 13 => ["told", "steps", "at"]
  | 14 => ["whole"]
  | 15 => ["size", "told", "steps"]
  | 16 => ["world"]
  | 17 => ["source", "run", "held", "entered", "refused", "at"]
  | 18 => ["refused", "at", "held"]
  | 19 => ["left", "right", "sign", "names", "steps"]
  | 20 => ["source", "first", "second"]
  | 21 => ["p", "q", "kind", "alone", "supposed", "names", "steps", "weight", "wanted"]
  | 22 => ["p", "q", "name", "kind", "alone", "supposed", "names", "steps", "weight"]
  | 23 => ["p", "out", "into", "kind", "alone", "supposed", "names", "steps", "weight"]
  | 24 => ["p", "out", "into", "kind", "alone", "supposed", "names", "steps", "weight"]
  | 25 => ["p", "kind", "alone", "supposed", "names", "steps", "weight", "words"]
  | 26 => ["p", "comparison", "kind", "alone", "supposed", "names", "steps", "weight"]
  | 27 => ["p", "at", "side", "kind", "alone", "supposed", "names", "steps", "weight"]
  | _ => []
/-- the errors' attributes -/
def ef : Nat → Str
  | 4 => "at"
  | 10 => "at"
  | 6 => "name"
  | 8 => "name"
  | 9 => "name"
  | _ => "word"
structure Ev where
  K : PySem.W.Frag
  cs : Nat → Addr
  ecs : Nat → Addr
  has : Nat → Prop
  /-- the tables of code objects that may grow, and the names of what they hold -/
  tb : List (Addr × Str)
mutual
inductive Rp (Ω : Ev) (H : Hp) : V → M → Prop where
  | non : Rp Ω H .non .non
  | bl (b : Bool) : Rp Ω H (.bl b) (.bl b)
  | int (i : Int) : Rp Ω H (.int i) (.int i)
  | str {l : List Nat} (h : l.length ≤ 100000) : Rp Ω H (.str (S l)) (.str l)
  | lst {p : Addr} {vs : List V} {ms : List M} (h : H p = some (.lst vs)) (a : RpL Ω H vs ms) : Rp Ω H (.ref p) (.lst ms)
  | tup {p : Addr} {vs : List V} {ms : List M} (h : SqT Ω.K H p vs) (a : RpL Ω H vs ms) : Rp Ω H (.ref p) (.tup ms)
  | obj {p dx : Addr} {c : Nat} {vs : List V} {ms : List M} (h : H p = some (.ins (Ω.cs c) dx ((an c).zip vs))) (n : vs.length = (an c).length) (a : RpL Ω H vs ms) (g : Ω.has c) : Rp Ω H (.ref p) (.obj c ms)
  | dct {p : Addr} {ks : List (List Nat)} {vs : List V} {ms : List M} (h : H p = some (.dK ((ks.map fun k => (Sum.inr (S k) : Key)).zip vs))) (n : vs.length = ks.length) (a : RpL Ω H vs ms) : Rp Ω H (.ref p) (.dct ks ms)
  | err {p d : Addr} {e : Nat} {v : V} {m : M} (g : e < 13) (h : H p = some (exo p (Ω.ecs e) (some d))) (h2 : H d = some (.xd [(ef e, v)])) (a : Rp Ω H v m) : Rp Ω H (.ref p) (.err e [m])
  | err0 {p : Addr} {e : Nat} (g : e < 13) (h : H p = some (exo p (Ω.ecs e) none)) : Rp Ω H (.ref p) (.err e [])
inductive RpL (Ω : Ev) (H : Hp) : List V → List M → Prop where
  | nil : RpL Ω H [] []
  | cons {v : V} {m : M} {vs : List V} {ms : List M} (h : Rp Ω H v m) (t : RpL Ω H vs ms) : RpL Ω H (v :: vs) (m :: ms)
end
section
variable {Ω : Ev} {H H' : Hp}
mutual
theorem Rp.mono (s : Same H H') : ∀ {v : V} {m : M}, Rp Ω H v m → Rp Ω H' v m
  | _, _, .non => .non
  | _, _, .bl b => .bl b
  | _, _, .int i => .int i
  | _, _, .str h => .str h
  | _, _, .lst h a => .lst (s _ _ h) (RpL.mono s a)
  | _, _, .tup h a => .tup (Same.tup s h) (RpL.mono s a)
  | _, _, .obj h n a g => .obj (s _ _ h) n (RpL.mono s a) g
  | _, _, .dct h n a => .dct (s _ _ h) n (RpL.mono s a)
  | _, _, .err g h h2 a => .err g (s _ _ h) (s _ _ h2) (Rp.mono s a)
  | _, _, .err0 g h => .err0 g (s _ _ h)
theorem RpL.mono (s : Same H H') : ∀ {vs : List V} {ms : List M}, RpL Ω H vs ms → RpL Ω H' vs ms
  | _, _, .nil => .nil
  | _, _, .cons h t => .cons (Rp.mono s h) (RpL.mono s t)
end
theorem RpL.length : ∀ {vs : List V} {ms : List M}, RpL Ω H vs ms → vs.length = ms.length
  | _, _, .nil => rfl
  | _, _, .cons _ t => by rw [List.length_cons, List.length_cons, t.length]
theorem RpL.get : ∀ {vs : List V} {ms : List M} {i : Nat} {m : M}, RpL Ω H vs ms → ms[i]? = some m → ∃ v, vs[i]? = some v ∧ Rp Ω H v m
  | _, _, _, _, .nil, h => by simp at h
  | _, _, 0, _, .cons h _, e => by
    simp at e
    subst e
    exact ⟨_, rfl, h⟩
  | _, _, i + 1, m, .cons _ t, e => by
    obtain ⟨v, h1, h2⟩ := RpL.get (i := i) (m := m) t (by simpa using e)
    exact ⟨v, by simpa using h1, h2⟩
theorem RpL.getV : ∀ {vs : List V} {ms : List M} {i : Nat} {v : V}, RpL Ω H vs ms → vs[i]? = some v → ∃ m, ms[i]? = some m ∧ Rp Ω H v m
  | _, _, _, _, .nil, h => by simp at h
  | _, _, 0, _, .cons h _, e => by
    simp at e
    subst e
    exact ⟨_, rfl, h⟩
  | _, _, i + 1, v, .cons _ t, e => by
    obtain ⟨m, h1, h2⟩ := RpL.getV (i := i) (v := v) t (by simpa using e)
    exact ⟨m, by simpa using h1, h2⟩
theorem RpL.append : ∀ {vs ws : List V} {ms ns : List M}, RpL Ω H vs ms → RpL Ω H ws ns → RpL Ω H (vs ++ ws) (ms ++ ns)
  | _, _, _, _, .nil, b => b
  | _, _, _, _, .cons h t, b => .cons h (t.append b)
theorem RpL.of {vs : List V} {ms : List M} (hl : vs.length = ms.length) (h : ∀ (i : Nat) v m, vs[i]? = some v → ms[i]? = some m → Rp Ω H v m) : RpL Ω H vs ms := by
  induction vs generalizing ms with
  | nil => cases ms with
    | nil => exact .nil
    | cons m ms => simp at hl
  | cons v vs ih => cases ms with
    | nil => simp at hl
    | cons m ms => exact .cons (h 0 v m rfl rfl) (ih (by simpa using hl) fun i v m a b => h (i + 1) v m (by simpa using a) (by simpa using b))
end
open Classical in
/-- the heap without what P tells -/
noncomputable def hidP (P : Addr → Prop) (H : Hp) : Hp := fun b => if P b then none else H b
theorem hidP_some {P : Addr → Prop} {H : Hp} {b : Addr} {o : HO} : hidP P H b = some o ↔ ¬ P b ∧ H b = some o := by
  unfold hidP
  by_cases h : P b
  · rw [if_pos h]
    exact Iff.intro (fun z => nomatch z) fun z => absurd h z.1
  · rw [if_neg h]
    exact Iff.intro (fun z => And.intro h z) fun z => z.2
theorem hidP_same {P P' : Addr → Prop} {H H' : Hp} (h : ∀ b o, ¬ P b → H b = some o → ∀ [Nb o], ¬ P' b ∧ H' b = some o) : Same (hidP P H) (hidP P' H') := fun b o e => by
  obtain ⟨h1, h2⟩ := hidP_some.mp e
  exact hidP_some.mpr (h b o h1 h2)
def OAt (Ω : Ev) (Hr H : Hp) (p : Addr) : OC → Prop
  | .feed => Fd H p
  | .lst xs => ∃ vs, H p = some (.lst vs) ∧ RpL Ω Hr vs xs
  | .ins c fs => Ω.has c ∧ ∃ dx vs, H p = some (.ins (Ω.cs c) dx ((fs.map (·.1)).zip vs)) ∧ vs.length = fs.length ∧ RpL Ω Hr vs (fs.map (·.2))
  | .dk kvs => ∃ vs, H p = some (.dK ((kvs.map fun kv => (Sum.inr (S kv.1) : Key)).zip vs)) ∧ vs.length = kvs.length ∧ RpL Ω Hr vs (kvs.map (·.2))
  | .scr ns => SqL Ω.K H p (ns.map V.int) ∧ ∃ o, H p = some o ∧ NT o ∧ NTb p o
  | .dt kvs => ∃ vs, H p = some (.dT ((kvs.map fun kv => kv.1.map fun l => (Sum.inr (S l) : Key)).zip vs)) ∧ vs.length = kvs.length ∧ RpL Ω Hr vs (kvs.map (·.2))
  | .st P w ls => H p = some (KC.SetTO P w p (ls.map S)) ∧ ∀ l ∈ ls, l.length ≤ 100000
  | .deal => ∃ q, H p = some (DL.OutO p q) ∧ Hr q = some (DL.InO q) ∧ p ≠ q
theorem OAt.mono {Ω : Ev} {Hr Hr' H H' : Hp} {p : Addr} {c : OC} (s : Same Hr Hr') (k : ∀ o, H p = some o → ∀ [Nb o], H' p = some o) (h : OAt Ω Hr H p c) : OAt Ω Hr' H' p c := by
  cases c with
  | feed =>
    obtain ⟨c, d, e⟩ := h
    exact ⟨c, d, k _ e⟩
  | lst xs =>
    obtain ⟨vs, e, a⟩ := h
    exact ⟨vs, k _ e, a.mono s⟩
  | ins c fs =>
    obtain ⟨g, dx, vs, e, n, a⟩ := h
    exact ⟨g, dx, vs, k _ e, n, a.mono s⟩
  | dk kvs =>
    obtain ⟨vs, e, n, a⟩ := h
    exact ⟨vs, k _ e, n, a.mono s⟩
  | dt kvs =>
    obtain ⟨vs, e, n, a⟩ := h
    exact ⟨vs, k _ e, n, a.mono s⟩
  | st P w ls => exact ⟨k _ h.1, h.2⟩
  | deal =>
    obtain ⟨q, h1, h2, h3⟩ := h
    exact ⟨q, k _ h1, s _ _ h2, h3⟩
  | scr ns =>
    obtain ⟨h, o, e, nt, nb⟩ := h
    have : Nb o := ⟨nb.1⟩
    refine ⟨?_, o, k _ e, nt, nb⟩
    rcases h with (h | ⟨u, h⟩) | h
    · exact .inl (.inl (k _ h))
    · exact .inl (.inr ⟨u, k _ h⟩)
    · exact .inr h
theorem OAt.there' {Ω : Ev} {Hr H : Hp} {p : Addr} {c : OC} (h : OAt Ω Hr H p c) : ∃ o, H p = some o ∧ NT o ∧ NTb p o := by
  cases c with
  | feed =>
    obtain ⟨c, d, e⟩ := h
    exact ⟨_, e, (fun _ z => nomatch z), (fun _ z => nomatch z), (fun _ z => by unfold LamX.CodeO at z; cases z)⟩
  | lst xs =>
    obtain ⟨vs, e, a⟩ := h
    exact ⟨_, e, (fun _ z => nomatch z), (fun _ z => nomatch z), (fun _ z => by unfold LamX.CodeO at z; cases z)⟩
  | ins c fs =>
    obtain ⟨g, dx, vs, e, n, a⟩ := h
    exact ⟨_, e, (fun _ z => nomatch z), (fun _ z => nomatch z), (fun _ z => by unfold LamX.CodeO at z; cases z)⟩
  | dk kvs =>
    obtain ⟨vs, e, n, a⟩ := h
    exact ⟨_, e, (fun _ z => nomatch z), (fun _ z => nomatch z), (fun _ z => by unfold LamX.CodeO at z; cases z)⟩
  | st P w ls => exact ⟨_, h.1, (fun _ z => nomatch z), (fun _ z => nomatch z), fun _ => setTO_ne⟩
  | deal =>
    obtain ⟨q, h1, h2, h3⟩ := h
    exact ⟨_, h1, (fun _ z => nomatch z), (fun _ z => nomatch z), fun _ => outO_ne⟩
  | dt kvs =>
    obtain ⟨vs, e, n, a⟩ := h
    exact ⟨_, e, (fun _ z => nomatch z), (fun _ z => nomatch z), (fun _ z => by unfold LamX.CodeO at z; cases z)⟩
  | scr ns => exact h.2
theorem OAt.there {Ω : Ev} {Hr H : Hp} {p : Addr} {c : OC} (h : OAt Ω Hr H p c) : ∃ o, H p = some o ∧ NT o := let ⟨o, e, n, _⟩ := h.there'; ⟨o, e, n⟩
def Own (σ : L2.St) (ρ : List R) (b : Addr) : Prop := ∃ (i : Nat) (l : Bool) (c : OC), ρ[i]? = some (.o l c) ∧ σ[i]? = some (some (.ref b))
/-- a feed that is held: an expression changes nothing else -/
def OwF (σ : L2.St) (ρ : List R) (b : Addr) : Prop := ∃ (i : Nat) (l : Bool), ρ[i]? = some (.o l .feed) ∧ σ[i]? = some (some (.ref b))
theorem OwF.own {σ : L2.St} {ρ : List R} {b : Addr} (h : OwF σ ρ b) : Own σ ρ b := by
  obtain ⟨i, l, e1, e2⟩ := h
  exact ⟨i, l, _, e1, e2⟩
/-- a def's frame: what its caller lends it, the heap at its entry, what is hidden from it, what is pinned -/
structure Fr where
  A0 : List (Addr × OC)
  H0 : Hp
  Z : Addr → Prop
  pin : Hp → Prop
  mono : ∀ H H', Same H H' → pin H → pin H'
  sf : Option Addr := none
noncomputable abbrev Hd (F : Fr) (σ : L2.St) (ρ : List R) (H : Hp) : Hp := hidP (fun b => Own σ ρ b ∨ F.Z b) H
def PN (Ω : Ev) (H : Hp) : Prop := LamX.Tabs Ω.tb H
/-- an error's attribute -/
def XM (Ω : Ev) (H : Hp) (d : Addr) (er : Nat) (m : M) : Prop := ∃ v, H d = some (.xd [(ef er, v)]) ∧ Rp Ω H v m
theorem XM.mono {Ω : Ev} {H H' : Hp} {d : Addr} {er : Nat} {m : M} (s : Same H H') (h : XM Ω H d er m) : XM Ω H' d er m := by
  obtain ⟨v, h1, h2⟩ := h
  exact ⟨v, s _ _ h1, h2.mono s⟩
/-- from the entry on: all but the feeds that are lent stays -/
def Grw (F : Fr) (H : Hp) : Prop := (∀ b o, F.H0 b = some o → (b, OC.feed) ∉ F.A0 → ∀ [Nb o], H b = some o) ∧ Tbs F.H0 H
structure Rel (Ω : Ev) (F : Fr) (σ : L2.St) (H : Hp) (ρ : List R) : Prop where
  len : ρ.length = σ.length
  grow : Grw F H
  zin : ∀ b, F.Z b → ∃ o, H b = some o ∧ NT o
  zno : ∀ b, F.Z b → ¬ Own σ ρ b
  val : ∀ (i : Nat) (m : M), ρ[i]? = some (.v m) → ∃ v, σ[i]? = some (some v) ∧ Rp Ω (Hd F σ ρ H) v m
  own : ∀ (i : Nat) (l : Bool) (c : OC), ρ[i]? = some (.o l c) → ∃ p, σ[i]? = some (some (.ref p)) ∧ OAt Ω (Hd F σ ρ H) H p c ∧ (l = false → (p, c) ∈ F.A0) ∧ (l = true → F.H0 p = none)
  inj : ∀ (i j : Nat) (l : Bool) (c : OC) (l' : Bool) (d : OC) (p : Addr), ρ[i]? = some (.o l c) → ρ[j]? = some (.o l' d) → σ[i]? = some (some (.ref p)) → σ[j]? = some (some (.ref p)) → c = d ∧ (l = true → i = j)
  par : ∀ p c, (p, c) ∈ F.A0 → ∃ i : Nat, ρ[i]? = some (.o false c) ∧ σ[i]? = some (some (.ref p))
  pin : F.pin (Hd F σ ρ H) ∧ PN Ω H
  sf : ∀ x, F.sf = some x → ∃ c fs, ρ[0]? = some (.o true (.ins c fs)) ∧ σ[0]? = some (some (.ref x))
  exc : ∀ (i : Nat) (a d : Addr) (er : Nat) (m : M), ρ[i]? = some (.x a d er m) → σ[i]? = some (some (.ref a)) ∧ XM Ω (Hd F σ ρ H) d er m
/-- from H to H' within an expression -/
structure Stp (Ω : Ev) (F : Fr) (σ : L2.St) (ρ : List R) (H H' : Hp) : Prop where
  rel : Rel Ω F σ H' ρ
  keep : ∀ b o, ¬ OwF σ ρ b → H b = some o → ∀ [Nb o], H' b = some o
  tbs : Tbs H H'
/-- only new objects, and tables that grow -/
structure Ext (Ω : Ev) (H H' : Hp) : Prop where
  s : Same H H'
  t : Tbs H H'
  p : PN Ω H → PN Ω H'
theorem PN.of {Ω : Ev} {H H' : Hp} (s : L2.Same H H') (h : PN Ω H) : PN Ω H' := LamX.Tabs.ext h s
theorem Ext.of {Ω : Ev} {H H' : Hp} (s : L2.Same H H') : Ext Ω H H' := ⟨.of s, fun _ ps h => ⟨ps, s _ _ h⟩, .of s⟩
theorem Ext.refl {Ω : Ev} (H : Hp) : Ext Ω H H := .of (fun _ _ h => h)
theorem Ext.trans {Ω : Ev} {H H1 H2 : Hp} (a : Ext Ω H H1) (b : Ext Ω H1 H2) : Ext Ω H H2 := ⟨a.s.trans b.s, a.t.trans b.t, fun h => b.p (a.p h)⟩
theorem pinM {F : Fr} {H H' : Hp} {q : Prop} (s : Same H H') (h : F.pin H ∧ q) : F.pin H' ∧ q := ⟨F.mono _ _ s h.1, h.2⟩
section
variable {Ω : Ev} {F : Fr} {σ : L2.St} {ρ : List R} {H H' H'' : Hp}
theorem Rel.excS {F' : Fr} (r : Rel Ω F σ H ρ) (s : Same (Hd F σ ρ H) (Hd F' σ ρ H')) : ∀ (i : Nat) (a d : Addr) (er : Nat) (m : M), ρ[i]? = some (.x a d er m) → σ[i]? = some (some (.ref a)) ∧ XM Ω (Hd F' σ ρ H') d er m := fun i a d er m e => ⟨(r.exc i a d er m e).1, (r.exc i a d er m e).2.mono s⟩
theorem Hd_same (k : ∀ b o, ¬ OwF σ ρ b → H b = some o → ∀ [Nb o], H' b = some o) : Same (Hd F σ ρ H) (Hd F σ ρ H') := hidP_same fun b o h e => ⟨h, k b o (fun z => h (.inl z.own)) e⟩
theorem Stp.same (s : Stp Ω F σ ρ H H') : Same (Hd F σ ρ H) (Hd F σ ρ H') := Hd_same s.keep
theorem Stp.refl (r : Rel Ω F σ H ρ) : Stp Ω F σ ρ H H := ⟨r, fun _ _ _ e => e, .refl _⟩
theorem Stp.trans (a : Stp Ω F σ ρ H H') (b : Stp Ω F σ ρ H' H'') : Stp Ω F σ ρ H H'' := ⟨b.rel, fun c o n e => b.keep c o n (a.keep c o n e), a.tbs.trans b.tbs⟩
theorem Rel.stepT (r : Rel Ω F σ H ρ) (k : ∀ b o, ¬ OwF σ ρ b → H b = some o → ∀ [Nb o], H' b = some o) (tb : Tbs H H') (pn : PN Ω H')
    (oa : ∀ (i : Nat) (l : Bool) (p : Addr), ρ[i]? = some (.o l .feed) → σ[i]? = some (some (.ref p)) → Fd H p → Fd H' p) : Stp Ω F σ ρ H H' := by
  refine ⟨⟨r.len, ⟨fun b o e n _ => k b o (fun z => ?_) (r.grow.1 b o e n), r.grow.2.trans tb⟩, fun b z => ?_, r.zno, fun i m e => ?_, fun i l c e => ?_, r.inj, r.par, ⟨F.mono _ _ (Hd_same k) r.pin.1, pn⟩, r.sf, fun i a d er m e => ⟨(r.exc i a d er m e).1, (r.exc i a d er m e).2.mono (Hd_same k)⟩⟩, k, tb⟩
  · obtain ⟨i, l, e1, e2⟩ := z
    obtain ⟨p, h1, h2, h3, h4⟩ := r.own i l _ e1
    rw [e2] at h1
    cases h1
    cases l with
    | false => exact n (h3 rfl)
    | true => rw [h4 rfl] at e; cases e
  · obtain ⟨o, e, nt⟩ := r.zin b z
    by_cases hb : ∃ ps, o = .tbl ps
    · obtain ⟨ps, rfl⟩ := hb
      obtain ⟨ps', e'⟩ := tb _ _ e
      exact ⟨_, e', fun _ z => nomatch z⟩
    · have : Nb o := ⟨fun ps z => hb ⟨ps, z⟩⟩
      exact ⟨o, k b o (fun y => r.zno b z y.own) e, nt⟩
  · obtain ⟨v, h1, h2⟩ := r.val i m e
    exact ⟨v, h1, h2.mono (Hd_same k)⟩
  · obtain ⟨p, h1, h2, h3⟩ := r.own i l c e
    refine ⟨p, h1, ?_, h3⟩
    by_cases hc : c = .feed
    · subst hc
      exact oa i l p e h1 h2
    · refine h2.mono (Hd_same k) fun o eo => k p o (fun z => hc ?_) eo
      obtain ⟨j, l', z1, z2⟩ := z
      exact (r.inj _ _ _ _ _ _ _ e z1 h1 z2).1
/-- what is owned is no table, no code object -/
theorem Rel.notT (r : Rel Ω F σ H ρ) {b : Addr} (h : OwF σ ρ b) : ∃ x y, H b = some (.lst [.int x, .int y]) := by
  obtain ⟨i, l, e1, e2⟩ := h
  obtain ⟨p, h1, h2, _⟩ := r.own i l _ e1
  rw [e2] at h1
  cases h1
  obtain ⟨c, d, e⟩ := h2
  exact ⟨c, d, e⟩
theorem Rel.pnK (r : Rel Ω F σ H ρ) (k : ∀ b o, ¬ OwF σ ρ b → H b = some o → H' b = some o) : PN Ω H' := fun p hp => by
  obtain ⟨ps, h1, h2, h3⟩ := r.pin.2 p hp
  refine ⟨ps, k _ _ (fun z => ?_) h1, h2, fun pos cv hc => ?_⟩
  · obtain ⟨x, y, e⟩ := r.notT z
    rw [h1] at e
    cases e
  · obtain ⟨c, e1, e2⟩ := h3 pos cv hc
    refine ⟨c, e1, k _ _ (fun z => ?_) e2⟩
    obtain ⟨x, y, e⟩ := r.notT z
    rw [e2] at e
    unfold LamX.CodeO at e
    cases e
theorem Rel.step (r : Rel Ω F σ H ρ) (k : ∀ b o, ¬ OwF σ ρ b → H b = some o → H' b = some o)
    (oa : ∀ (i : Nat) (l : Bool) (p : Addr), ρ[i]? = some (.o l .feed) → σ[i]? = some (some (.ref p)) → Fd H p → Fd H' p) : Stp Ω F σ ρ H H' :=
  r.stepT (fun b o n e => k b o n e) (fun b ps e => ⟨ps, k b _ (fun z => by
    obtain ⟨x, y, e'⟩ := r.notT z
    rw [e] at e'
    cases e') e⟩) (r.pnK k) oa
theorem PN.put {H : Hp} {p : Addr} {o : HO} (h : PN Ω H) (hp : ∀ u, H p = some u → NTb p u) : PN Ω (L2.upd H p o) := fun q hq => by
  obtain ⟨ps, h1, h2, h3⟩ := h q hq
  have n1 : q.1 ≠ p := fun z => by
    rw [z] at h1
    exact (hp _ h1).1 ps rfl
  refine ⟨ps, by rw [upd_ne n1]; exact h1, h2, fun pos cv hc => ?_⟩
  obtain ⟨c, e1, e2⟩ := h3 pos cv hc
  have n2 : c ≠ p := fun z => by
    subst z
    exact (hp _ e2).2 q.2 rfl
  exact ⟨c, e1, by rw [upd_ne n2]; exact e2⟩
theorem Tbs.put {H0 H : Hp} {p : Addr} {o : HO} (h : Tbs H0 H) (hp : ∀ u, H p = some u → NTb p u) : Tbs H0 (L2.upd H p o) := fun b ps e => by
  obtain ⟨ps', e'⟩ := h b ps e
  have n1 : b ≠ p := fun z => by
    rw [z] at e'
    exact (hp _ e').1 ps' rfl
  exact ⟨ps', by rw [upd_ne n1]; exact e'⟩
/-- only new objects, tables that grow -/
theorem Rel.ext (r : Rel Ω F σ H ρ) (e : Ext Ω H H') : Stp Ω F σ ρ H H' := r.stepT (fun b o _ h => e.s b o h) e.t (e.p r.pin.2) fun _ _ _ _ _ ⟨c, d, h⟩ => ⟨c, d, e.s _ _ h⟩
/-- only new objects -/
theorem Rel.same (r : Rel Ω F σ H ρ) (s : L2.Same H H') : Stp Ω F σ ρ H H' := r.step (fun b o _ e => s b o e) fun _ _ _ _ _ h => h.same s
theorem Rel.new {p : Addr} {o : HO} (r : Rel Ω F σ H ρ) (h : H p = none) : Stp Ω F σ ρ H (upd H p o) := r.same (same_upd h)
/-- what is new is not held, not hidden -/
theorem Rel.notOwn {p : Addr} (r : Rel Ω F σ H ρ) (h : H p = none) : ¬ Own σ ρ p := fun ⟨i, l, c, e1, e2⟩ => by
  obtain ⟨q, h1, h2, _⟩ := r.own i l c e1
  rw [e2] at h1
  cases h1
  obtain ⟨o, e, _⟩ := h2.there
  rw [h] at e
  cases e
theorem Rel.notZ {p : Addr} (r : Rel Ω F σ H ρ) (h : H p = none) : ¬ F.Z p := fun z => by
  obtain ⟨o, e, _⟩ := r.zin p z
  rw [h] at e
  cases e
theorem Stp.free {p : Addr} (s : Stp Ω F σ ρ H H') (h : H' p = none) : H p = none := by
  cases e : H p with
  | none => rfl
  | some o =>
    by_cases hb : ∃ ps, o = .tbl ps
    · obtain ⟨ps, rfl⟩ := hb
      obtain ⟨ps', z⟩ := s.tbs _ _ e
      rw [h] at z
      cases z
    · have : Nb o := ⟨fun ps z => hb ⟨ps, z⟩⟩
      rw [s.keep p o (fun z => s.rel.notOwn h z.own) e] at h
      cases h
theorem Rel.fresh0 {p : Addr} (r : Rel Ω F σ H ρ) (h : H p = none) : F.H0 p = none := by
  cases e : F.H0 p with
  | none => rfl
  | some o =>
    by_cases hb : ∃ ps, o = .tbl ps
    · obtain ⟨ps, rfl⟩ := hb
      obtain ⟨ps', z⟩ := r.grow.2 _ _ e
      rw [h] at z
      cases z
    · have : Nb o := ⟨fun ps z => hb ⟨ps, z⟩⟩
      rw [r.grow.1 p o e fun hc => ?_] at h
      · cases h
      · obtain ⟨i, e1, e2⟩ := r.par p _ hc
        exact r.notOwn h ⟨i, false, _, e1, e2⟩
/-- a thing held by the def's slot i -/
def RpR (Ω : Ev) (F : Fr) (σ : L2.St) (ρ : List R) (H H' : Hp) (v : V) : R → Prop
  | .no => False
  | .v m => Rp Ω (Hd F σ ρ H') v m
  | .o l c => ∃ i : Nat, ρ[i]? = some (.o l c) ∧ σ[i]? = some (some v)
  | .f c => ∃ p, v = .ref p ∧ H p = none ∧ ¬ Own σ ρ p ∧ OAt Ω (hidP (fun b => (Own σ ρ b ∨ F.Z b) ∨ b = p) H') H' p c
  | .x _ _ _ _ => False
theorem RpR.step {v : V} {r : R} (s : Stp Ω F σ ρ H' H'') (h : RpR Ω F σ ρ H H' v r) : RpR Ω F σ ρ H H'' v r := by
  cases r with
  | no => exact h
  | v m => exact Rp.mono s.same h
  | o l c => exact h
  | f c =>
    obtain ⟨p, e, hn, no, a⟩ := h
    refine ⟨p, e, hn, no, a.mono (hidP_same fun b o hb eb => ⟨hb, s.keep b o (fun z => hb (.inl (.inl z.own))) eb⟩) fun o eo => s.keep p o (fun z => no z.own) eo⟩
  | x a d e m => exact h
/-- seen from an earlier heap -/
theorem RpR.back {v : V} {r : R} (s : Stp Ω F σ ρ H H') (h : RpR Ω F σ ρ H' H'' v r) : RpR Ω F σ ρ H H'' v r := by
  cases r with
  | no => exact h
  | v m => exact h
  | o l c => exact h
  | f c =>
    obtain ⟨p, e, hn, no, a⟩ := h
    exact ⟨p, e, s.free hn, no, a⟩
  | x a d e m => exact h
/-- the operand as a list -/
def R.lst? : R → Option (List M)
  | .v (.lst xs) => some xs
  | .o _ (.lst xs) => some xs
  | .f (.lst xs) => some xs
  | _ => none
/-- .. as a list or a tuple -/
def R.seq? : R → Option (List M)
  | .v (.lst xs) => some xs
  | .v (.tup xs) => some xs
  | .o _ (.lst xs) => some xs
  | .f (.lst xs) => some xs
  | _ => none
/-- .. as a value -/
def R.m? : R → Option M
  | .v m => some m
  | .f (.lst xs) => some (.lst xs)
  | .f (.dk kvs) => some (.dct (kvs.map (·.1)) (kvs.map (·.2)))
  | _ => none
theorem RpR.lst {v : V} {r : R} {xs : List M} (s : Rel Ω F σ H' ρ) (h : RpR Ω F σ ρ H H' v r) (e : r.lst? = some xs) : ∃ p vs, v = .ref p ∧ H' p = some (.lst vs) ∧ RpL Ω (Hd F σ ρ H') vs xs := by
  unfold R.lst? at e
  split at e
  · cases e
    cases h with
    | lst hs ha => exact ⟨_, _, rfl, (hidP_some.mp hs).2, ha⟩
  · cases e
    obtain ⟨i, e1, e2⟩ := h
    obtain ⟨p, h1, ⟨vs, h2, h3⟩, _⟩ := s.own i _ _ e1
    rw [e2] at h1
    cases h1
    exact ⟨p, vs, rfl, h2, h3⟩
  · cases e
    obtain ⟨p, e1, hn, no, vs, h2, h3⟩ := h
    exact ⟨p, vs, e1, h2, h3.mono (hidP_same fun b o hb eb => ⟨fun z => hb (.inl z), eb⟩)⟩
  · cases e
theorem RpR.m {v : V} {r : R} {m : M} (h : RpR Ω F σ ρ H H' v r) (e : r.m? = some m) (nz : ∀ p, H p = none → ¬ F.Z p) : Rp Ω (Hd F σ ρ H') v m := by
  unfold R.m? at e
  split at e
  · cases e
    exact h
  · cases e
    obtain ⟨p, rfl, hn, no, vs, h2, h3⟩ := h
    exact .lst (hidP_some.mpr ⟨fun z => z.elim no (nz p hn), h2⟩) (h3.mono (hidP_same fun b o hb eb => ⟨fun z => hb (.inl z), eb⟩))
  · cases e
    obtain ⟨p, rfl, hn, no, vs, h2, h3, h4⟩ := h
    exact .dct (hidP_some.mpr ⟨fun z => z.elim no (nz p hn), by rw [List.map_map]; exact h2⟩) (by rw [h3, List.length_map]) (h4.mono (hidP_same fun b o hb eb => ⟨fun z => hb (.inl z), eb⟩))
  · cases e
theorem RpR.seq {v : V} {r : R} {xs : List M} (s : Rel Ω F σ H' ρ) (h : RpR Ω F σ ρ H H' v r) (e : r.seq? = some xs) : ∃ p vs, v = .ref p ∧ (SqL Ω.K H' p vs ∨ SqT Ω.K H' p vs) ∧ RpL Ω (Hd F σ ρ H') vs xs := by
  by_cases hl : r.lst? = some xs
  · obtain ⟨p, vs, e1, e2, e3⟩ := RpR.lst s h hl
    exact ⟨p, vs, e1, .inl (SqL.of e2), e3⟩
  · unfold R.seq? at e
    split at e
    · exact absurd e hl
    · cases e
      cases h with
      | tup hs ha => exact ⟨_, _, rfl, .inr (Same.tup (fun b o e => (hidP_some.mp e).2) hs), ha⟩
    · exact absurd e hl
    · exact absurd e hl
    · cases e
end
end PL
namespace PL
open PySem PySem.Spec PyProof.Rows L2 KW
abbrev X0 := Nat → M → Prop
abbrev TM := List R → (R → Prop) → X0 → Prop
abbrev TMB := List R → (Bool → Prop) → X0 → Prop
abbrev TMA := List R → (List R → Prop) → X0 → Prop
/-- what is raised here is wished for -/
def XL (Ω : Ev) (F : Fr) (Wx : WX) (σ : L2.St) (ρ : List R) (H : Hp) (x : X0) : Prop :=
  ∀ (er : Nat) (m : M) (d : Addr) (H' : Hp) (v : V), Stp Ω F σ ρ H H' → Hd F σ ρ H' d = some (.xd [(ef er, v)]) → Rp Ω (Hd F σ ρ H') v m → x er m → Wx (.ref (Ω.ecs er)) (some d) σ H'
theorem XL.step {Ω : Ev} {F : Fr} {Wx : WX} {σ : L2.St} {ρ : List R} {H H' : Hp} {x : X0} (h : XL Ω F Wx σ ρ H x) (s : Stp Ω F σ ρ H H') : XL Ω F Wx σ ρ H' x :=
  fun er m d H'' v s' => h er m d H'' v (s.trans s')
def lf (Ω : Ev) (Wx : WX) (t : TM) : TE := fun σ H QQ => ∃ F ρ Q x, Rel Ω F σ H ρ ∧ XL Ω F Wx σ ρ H x ∧ (∀ v H' r, Stp Ω F σ ρ H H' → RpR Ω F σ ρ H H' v r → Q r → QQ v H') ∧ t ρ Q x
def lfB (Ω : Ev) (Wx : WX) (t : TMB) : TT := fun σ H QQ => ∃ F ρ Q x, Rel Ω F σ H ρ ∧ XL Ω F Wx σ ρ H x ∧ (∀ b H', Stp Ω F σ ρ H H' → Q b → QQ b H') ∧ t ρ Q x
/-- operands in a row: the new ones are not the same -/
inductive RpRs (Ω : Ev) (F : Fr) (σ : L2.St) (ρ : List R) (H H' : Hp) : List V → List R → Prop where
  | nil : RpRs Ω F σ ρ H H' [] []
  | cons {v : V} {r : R} {vs : List V} {rs : List R} (h : RpR Ω F σ ρ H H' v r) (t : RpRs Ω F σ ρ H H' vs rs) (d : ∀ c, r = .f c → ∀ (i : Nat) c', rs[i]? = some (.f c') → vs[i]? ≠ some v) : RpRs Ω F σ ρ H H' (v :: vs) (r :: rs)
def lfA (Ω : Ev) (Wx : WX) (t : TMA) : TA := fun σ H QQ => ∃ F ρ Q x, Rel Ω F σ H ρ ∧ XL Ω F Wx σ ρ H x ∧ (∀ vs H' rs, Stp Ω F σ ρ H H' → RpRs Ω F σ ρ H H' vs rs → Q rs → QQ vs H') ∧ t ρ Q x
section
variable {Ω : Ev} {F : Fr} {σ : L2.St} {ρ : List R} {H H' H'' : Hp}
theorem RpRs.step : ∀ {vs : List V} {rs : List R}, Stp Ω F σ ρ H' H'' → RpRs Ω F σ ρ H H' vs rs → RpRs Ω F σ ρ H H'' vs rs
  | _, _, _, .nil => .nil
  | _, _, s, .cons h t d => .cons (h.step s) (t.step s) d
theorem RpRs.back : ∀ {vs : List V} {rs : List R}, Stp Ω F σ ρ H H' → RpRs Ω F σ ρ H' H'' vs rs → RpRs Ω F σ ρ H H'' vs rs
  | _, _, _, .nil => .nil
  | _, _, s, .cons h t d => .cons (h.back s) (t.back s) d
theorem RpRs.length : ∀ {vs : List V} {rs : List R}, RpRs Ω F σ ρ H H' vs rs → vs.length = rs.length
  | _, _, .nil => rfl
  | _, _, .cons _ t _ => by rw [List.length_cons, List.length_cons, t.length]
theorem RpRs.get : ∀ {vs : List V} {rs : List R} {i : Nat} {r : R}, RpRs Ω F σ ρ H H' vs rs → rs[i]? = some r → ∃ v, vs[i]? = some v ∧ RpR Ω F σ ρ H H' v r
  | _, _, _, _, .nil, h => by simp at h
  | _, _, 0, _, .cons h _ _, e => by
    simp at e
    subst e
    exact ⟨_, rfl, h⟩
  | _, _, i + 1, r, .cons _ t _, e => by
    obtain ⟨v, h1, h2⟩ := RpRs.get (i := i) (r := r) t (by simpa using e)
    exact ⟨v, by simpa using h1, h2⟩
theorem RpRs.one {vs : List V} {a : R} (h : RpRs Ω F σ ρ H H' vs [a]) : ∃ v, vs = [v] ∧ RpR Ω F σ ρ H H' v a := by
  cases h with
  | cons h t d => cases t; exact ⟨_, rfl, h⟩
/-- operands as values -/
def ms? : List R → Option (List M)
  | [] => some []
  | r :: rs => match r.m?, ms? rs with
    | some m, some ms => some (m :: ms)
    | _, _ => none
theorem RpRs.ms (nz : ∀ p, H p = none → ¬ F.Z p) : ∀ {vs : List V} {rs : List R} {ms : List M}, RpRs Ω F σ ρ H H' vs rs → ms? rs = some ms → RpL Ω (Hd F σ ρ H') vs ms
  | _, _, ms, .nil, e => by
    cases e
    exact .nil
  | _, _, ms, .cons (r := r) (rs := rs) h t d, e => by
    unfold ms? at e
    split at e
    · rename_i m ms' e1 e2
      cases e
      exact .cons (h.m e1 nz) (RpRs.ms nz t e2)
    · cases e
end
section
variable {X : Cx} {Ω : Ev} {Wx : WX}
theorem PE.imp {e : Expr} {T T' : TE} (h : PE X e T) (i : ∀ σ H Q, T' σ H Q → T σ H Q) : PE X e T' := ⟨fun pins s σ H Q I q => h.run pins s σ H Q I (i σ H Q q)⟩
theorem PT.imp {e : Expr} {T T' : TT} (h : PT X e T) (i : ∀ σ H Q, T' σ H Q → T σ H Q) : PT X e T' := ⟨fun pins s σ H Q I q => h.run pins s σ H Q I (i σ H Q q)⟩
theorem PW.imp {e : Expr} {T T' : TT} (h : PW X e T) (i : ∀ σ H Q, T' σ H Q → T σ H Q) : PW X e T' := ⟨fun w pins s σ H Q I q => h.run w pins s σ H Q I (i σ H Q q)⟩
theorem PA.imp {es : List Expr} {T T' : TA} (h : PA X es T) (i : ∀ σ H Q, T' σ H Q → T σ H Q) : PA X es T' := ⟨fun pos pins s σ H Q I q => h.run pos pins s σ H Q I (i σ H Q q)⟩
theorem PE.or {e : Expr} {T T' : TE} (h : PE X e T) (h' : PE X e T') : PE X e (fun σ H Q => T σ H Q ∨ T' σ H Q) := ⟨fun pins s σ H Q I q => q.elim (h.run pins s σ H Q I) (h'.run pins s σ H Q I)⟩
theorem OpR.or {f : Value → Value → Sem Value} {r r' : R2} (h : OpR X f r) (h' : OpR X f r') : OpR X f (fun x y H Q => r x y H Q ∨ r' x y H Q) := fun pins s σ H x y v u Q I rx ry q => q.elim (h pins s σ H x y v u Q I rx ry) (h' pins s σ H x y v u Q I rx ry)
theorem OpR.imp {f : Value → Value → Sem Value} {r r' : R2} (h : OpR X f r) (i : ∀ x y H Q, r' x y H Q → r x y H Q) : OpR X f r' := fun pins s σ H x y v u Q I rx ry q => h pins s σ H x y v u Q I rx ry (i _ _ _ _ q)
theorem CallR.or {f : Value} {r r' : List V → Hp → VK → Prop} (h : CallR X f r) (h' : CallR X f r') : CallR X f (fun xs H Q => r xs H Q ∨ r' xs H Q) := fun pins s σ H xs us Q I rx q => q.elim (h pins s σ H xs us Q I rx) (h' pins s σ H xs us Q I rx)
def tmV (i : Nat) : TM := fun ρ Q _ => match ρ[i]? with
  | some (.v m) => Q (.v m)
  | some (.o l c) => Q (.o l c)
  | _ => False
theorem pm_var {e : Expr} {i : Nat} (h : PE X e (tVar i)) : PE X e (lf Ω Wx (tmV i)) := PE.imp h fun σ H QQ hh => by
  obtain ⟨F, ρ, Q, x, r, xl, k, t⟩ := hh
  unfold tmV at t
  split at t
  · rename_i m e
    obtain ⟨v, h1, h2⟩ := r.val i m e
    exact ⟨v, h1, k v H (.v m) (.refl r) h2 t⟩
  · rename_i l c e
    obtain ⟨p, h1, h2⟩ := r.own i l c e
    exact ⟨_, h1, k _ H (.o l c) (.refl r) ⟨i, e, h1⟩ t⟩
  · exact t.elim
def tmC (m : M) : TM := fun _ Q _ => Q (.v m)
theorem pm_c {e : Expr} {v : V} {m : M} (h : PE X e (tC v)) (rp : ∀ H, Rp Ω H v m) : PE X e (lf Ω Wx (tmC m)) := PE.imp h fun σ H QQ hh => by
  obtain ⟨F, ρ, Q, x, r, xl, k, t⟩ := hh
  exact k v H (.v m) (.refl r) (rp _) t
theorem pm_int {i : Int} {j pos} : PE X (.Constant (.int i) j pos) (lf Ω Wx (tmC (.int i))) := pm_c pe_int fun _ => .int i
theorem pm_bl {b : Bool} {j pos} : PE X (.Constant (.bool b) j pos) (lf Ω Wx (tmC (.bl b))) := pm_c pe_bl fun _ => .bl b
theorem pm_non {j pos} : PE X (.Constant .none j pos) (lf Ω Wx (tmC .non)) := pm_c pe_non fun _ => .non
/-- a written text by its code points -/
def tx (s : String) : List Nat := s.toList.map Char.toNat
theorem pm_str (s : String) {x : Str} {j pos} (h : x = S (tx s) := by decide +kernel) (hl : (tx s).length ≤ 100000 := by decide) : PE X (.Constant (.str x) j pos) (lf Ω Wx (tmC (.str (tx s)))) := by
  subst h
  exact pm_c pe_str fun _ => .str hl
theorem pm_gstr {x : Str} {l : List Nat} {t : Tok} {p : Pos} (hg : Gl X x) (hm : X.mg x = some (.str (S l) t)) (hl : l.length ≤ 100000 := by decide) (hdb : (x == ("__debug__" : Str)) = false := by decide) : PE X (.Name x p) (lf Ω Wx (tmC (.str l))) := pm_c (pe_gstr hg hm hdb) fun _ => .str hl
theorem pm_gref {x : Str} {C : Addr} {m : M} {p : Pos} (hg : Gl X x) (hm : X.mg x = some (.ref C) ∧ ∀ H, Rp Ω H (.ref C) m) (hdb : (x == ("__debug__" : Str)) = false := by decide) : PE X (.Name x p) (lf Ω Wx (tmC m)) := pm_c (pe_gref hg hm.1 hdb) hm.2
/-- an operation by what its operands mean -/
def OpM (Ω : Ev) (X : Cx) (f : Value → Value → Sem Value) (sem : R → R → (R → Prop) → Prop) : Prop := ∃ r : R2, OpR X f r ∧ ∀ (F : Fr) (σ : L2.St) (ρ : List R) (H H' : Hp) (x y : V) (a b : R) (Q : R → Prop) (QQ : VK),
  Stp Ω F σ ρ H H' → RpR Ω F σ ρ H H' x a → RpR Ω F σ ρ H H' y b → sem a b Q → (∀ v H'' r, Stp Ω F σ ρ H' H'' → RpR Ω F σ ρ H' H'' v r → Q r → QQ v H'') → (∀ p, H p = none → ¬ F.Z p) → r x y H' QQ
theorem OpM.or {f : Value → Value → Sem Value} {s s' : R → R → (R → Prop) → Prop} (h : OpM Ω X f s) (h' : OpM Ω X f s') : OpM Ω X f (fun a b Q => s a b Q ∨ s' a b Q) := by
  obtain ⟨r, o, k⟩ := h
  obtain ⟨r', o', k'⟩ := h'
  exact ⟨_, o.or o', fun F σ ρ H H' x y a b Q QQ st ha hb q K nz => q.elim (fun q => .inl (k F σ ρ H H' x y a b Q QQ st ha hb q K nz)) fun q => .inr (k' F σ ρ H H' x y a b Q QQ st ha hb q K nz)⟩
theorem OpM.imp {f : Value → Value → Sem Value} {s s' : R → R → (R → Prop) → Prop} (h : OpM Ω X f s) (i : ∀ a b Q, s' a b Q → s a b Q) : OpM Ω X f s' := by
  obtain ⟨r, o, k⟩ := h
  exact ⟨r, o, fun F σ ρ H H' x y a b Q QQ st ha hb q K nz => k F σ ρ H H' x y a b Q QQ st ha hb (i _ _ _ q) K nz⟩
def tmOp (sem : R → R → (R → Prop) → Prop) (ta tb : TM) : TM := fun ρ Q x => ta ρ (fun a => tb ρ (fun b => sem a b Q) x) x
theorem tmOp_run {r : R2} {sem : R → R → (R → Prop) → Prop} {ta tb : TM} {σ : L2.St} {H : Hp} {QQ : VK}
    (k2 : ∀ (F : Fr) (σ : L2.St) (ρ : List R) (H H' : Hp) (x y : V) (a b : R) (Q : R → Prop) (QQ : VK), Stp Ω F σ ρ H H' → RpR Ω F σ ρ H H' x a → RpR Ω F σ ρ H H' y b → sem a b Q → (∀ v H'' r, Stp Ω F σ ρ H' H'' → RpR Ω F σ ρ H' H'' v r → Q r → QQ v H'') → (∀ p, H p = none → ¬ F.Z p) → r x y H' QQ)
    (h : lf Ω Wx (tmOp sem ta tb) σ H QQ) : tOp r (lf Ω Wx ta) (lf Ω Wx tb) σ H QQ := by
  obtain ⟨F, ρ, Q, x, rl, xl, k, t⟩ := h
  refine ⟨F, ρ, _, x, rl, xl, fun va H1 ra s1 rp1 t1 => ?_, t⟩
  refine ⟨F, ρ, _, x, s1.rel, xl.step s1, fun vb H2 rb s2 rp2 t2 => ?_, t1⟩
  exact k2 F σ ρ H H2 va vb ra rb Q QQ (s1.trans s2) (rp1.step s2) (rp2.back s1) t2 (fun v H3 r' s3 rp3 q => k v H3 r' ((s1.trans s2).trans s3) (rp3.back (s1.trans s2)) q) fun p hp => rl.notZ hp
theorem pm_op {op : Operator} {a b : Expr} {pos : Pos} {sem : R → R → (R → Prop) → Prop} {ta tb : TM} (h : OpM Ω X (binaryOp op) sem) (ha : PE X a (lf Ω Wx ta)) (hb : PE X b (lf Ω Wx tb)) : PE X (.BinOp a op b pos) (lf Ω Wx (tmOp sem ta tb)) := by
  obtain ⟨r, o, k⟩ := h
  exact PE.imp (pe_op o ha hb) fun σ H QQ hh => tmOp_run k hh
theorem pm_cmp {op : CmpOp} {a b : Expr} {pos : Pos} {sem : R → R → (R → Prop) → Prop} {ta tb : TM} (h : OpM Ω X (compareOp op) sem) (ha : PE X a (lf Ω Wx ta)) (hb : PE X b (lf Ω Wx tb)) (hm : behindInMarks op b = false) : PE X (.Compare a [op] [b] pos) (lf Ω Wx (tmOp sem ta tb)) := by
  obtain ⟨r, o, k⟩ := h
  exact PE.imp (pe_cmpR o ha hb hm) fun σ H QQ hh => tmOp_run k hh
end
end PL
namespace KW
open PySem PySem.Spec PyProof.Rows L2
structure Bi2 (mg : Str → Option Value) : Prop where
  sorted : mg "sorted" = none
  sum : mg "sum" = none
def tNev : TE := fun _ _ _ => False
theorem pe_never {X : Cx} {e : Expr} : PE X e tNev := ⟨fun _ _ _ _ _ _ h => h.elim⟩
theorem kk_sum {X : Cx} (K : PySem.W.Frag) (hK : X.K = K) (hc : X.calm = true) : CallR X (.builtin "sum") (rSum K) := by subst hK; exact cr_sum hc
/-- t * 1 is t -/
theorem tuple_mul1 (l : Addr) (items : Array Value) (n : Nat) (dd : Option Addr) (sl : Array (Option Value)) (u : Tok) :
    Meets (Builtin.«tuple.__mul__» ⟨[.ref l, .int 1 u], []⟩) (fun _ R s => s.heap.get? l = some { cls := .type "tuple", dict := dd, data := .seq items n, slots := sl } ∧ R (.ok (.ret (Value.ref l))) s) :=
  .of_wp fun prog w A R s h => by
    obtain ⟨hp, g, d, tk, os⟩ := s
    obtain ⟨hl, h⟩ := h
    have f1 := AutoSeq1.idx_int
    have c0 : (decide ((1 : Int) < -(2 ^ 63)) || decide ((1 : Int) ≥ 2 ^ 63)) = false := by decide
    have c1 : (items.isEmpty || (1 : Int) == 1) = true := by simp
    wp_walk using wpAny_loadPart' hl
    repeat (first
      | (refine wpAny_ite_false (decide_eq_false (by rw [c0]; exact Bool.false_ne_true)) ?_; wp_walk using wpAny_loadPart' hl)
      | (refine wpAny_ite_true (decide_eq_true c1) ?_; wp_walk using wpAny_loadPart' hl))
    exact ⟨_, rfl, h⟩
def rRepTA (K : PySem.W.Frag) : R2 := fun x y H Q => (∃ l xs, x = .ref l ∧ y = .int 1 ∧ SqT K H l xs ∧ Q (.ref l) H) ∨ rRepT K x y H Q
theorem op_repTA {X : Cx} (K : PySem.W.Frag) (hK : X.K = K) : OpR X (binaryOp .Mult) (rRepTA K) := by
  subst hK
  intro pins s σ H x y v u Q I rx ry h
  rcases h with ⟨l, xs, rfl, rfl, hT, q⟩ | h
  · cases rx
    obtain ⟨t, rfl⟩ := ry
    obtain ⟨its, r, ⟨⟨cls, dd, data, sl⟩, ho, hc, n, hd⟩, hs⟩ := I.tuple hT
    simp only at hc hd
    subst hc hd
    refine wpAny_binaryOp_repeat_ref (T := "tuple") (U := "int") (by decide) ⟨_, ho, rfl⟩ (fun s' => typeIs_int s' 1 t) noFill_tuple_mul F.fills_int_mul F.slot_int_rmul repeat_tuple F.slot_int_index.lookup
      (call_meets F.slot_int_rmul (typeIs_int s 1 t) F.entry_int_rmul (F.args_int_rmul_2 _ _) (int_rmul_tuple 1 t l its.toArray n dd sl)
        ⟨ho, rfl, ⟨_, ho, rfl⟩, call_meets F.slot_tuple_mul ⟨_, ho, rfl⟩ F.entry_tuple_mul (F.args_tuple_mul_2 _ _) (tuple_mul1 l its.toArray n dd sl t) ⟨ho, ?_⟩⟩)
    exact ⟨.ref l, H, I, rfl, q⟩
  · exact op_repT pins s σ H x y v u Q I rx ry h
section
variable {K : PySem.W.Frag} {H H' : Hp}
theorem tyT {a : Addr} {xs : List V} (h : SqT K H a xs) : TyX K H (.ref a) (.type "tuple") := by
  rcases h with (h | ⟨o, h⟩) | ⟨o, its, n, h, c, _⟩
  · exact .base (.tup h)
  · exact .fTuple h
  · exact .kTuple h c
end
abbrev tyNames : List String := ["NoneType", "bool", "int", "str", "list", "tuple", "dict"]
theorem kitT : ∀ t ∈ tyNames, kitB t "tuple" = some (decide (t = "tuple")) := by decide +kernel
theorem kitL : ∀ t ∈ tyNames, kitB t "list" = some (decide (t = "list")) := by decide +kernel
/-- what isinstance asks of an own class's instances -/
structure IsC (K : PySem.W.Frag) (C : Addr) : Prop where
  cl : Cls K C
  ha : PySem.W.findIn K (.ref C) "__class__" = some (some (.builtin "object.__class__"))
  hn : PySem.W.specialIn K (.builtin "object.__class__") "__get__" = some (some (.builtin "getset_descriptor.__get__"))
  ht : PySem.W.takesIn K (.builtin "object.__class__") = some true
  hm : PySem.W.mroIn K C (.type "object") = some true
  ns : PySem.W.kitOne K (.ref C) (.type "str") = some false
theorem IsC.ty {K : PySem.W.Frag} {C : Addr} (T : IsC K C) {H : Hp} {a dx : Addr} {fs : List (Str × V)} (e : H a = some (.ins C dx fs)) : TyX K H (.ref a) (.ref C) := .base (.ins e T.cl T.ha T.hn T.ht T.hm)
theorem putF_new {k : Str} {v : V} : ∀ {fs : List (Str × V)}, k ∉ fs.map (·.1) → putF k v fs = fs ++ [(k, v)]
  | [], _ => rfl
  | (k', v') :: r, h => by
    have h1 : k' ≠ k := fun e => h (by simp [e])
    have h2 : k ∉ r.map (·.1) := fun e => h (by simp at e ⊢; exact .inr e)
    show (if k' = k then _ else (k', v') :: putF k v r) = _
    rw [if_neg h1, putF_new h2]
    rfl
end KW
namespace PL
open PySem PySem.Spec PyProof.Rows L2 KW
section
variable {Ω : Ev} {F : Fr} {σ : L2.St} {ρ : List R} {H H' : Hp} {x : V}
theorem rv {m : M} (h : Rp Ω (Hd F σ ρ H') x m) : RpR Ω F σ ρ H H' x (.v m) := h
theorem RpR.int {i : Int} (h : RpR Ω F σ ρ H H' x (.v (.int i))) : x = .int i := by cases (show Rp Ω _ x (.int i) from h); rfl
theorem RpR.bl {b : Bool} (h : RpR Ω F σ ρ H H' x (.v (.bl b))) : x = .bl b := by cases (show Rp Ω _ x (.bl b) from h); rfl
theorem RpR.non (h : RpR Ω F σ ρ H H' x (.v .non)) : x = .non := by cases (show Rp Ω _ x .non from h); rfl
theorem RpR.str {l : List Nat} (h : RpR Ω F σ ρ H H' x (.v (.str l))) : x = .str (S l) ∧ l.length ≤ 100000 := by
  cases (show Rp Ω _ x (.str l) from h) with
  | str h' => exact ⟨rfl, h'⟩
theorem hid_sub {P : Addr → Prop} {H : Hp} : Same (hidP P H) H := fun _ _ e => (hidP_some.mp e).2
theorem RpR.tup {ms : List M} (h : RpR Ω F σ ρ H H' x (.v (.tup ms))) : ∃ p vs, x = .ref p ∧ SqT Ω.K H' p vs ∧ RpL Ω (Hd F σ ρ H') vs ms := by
  cases (show Rp Ω _ x (.tup ms) from h) with
  | tup h' a => exact ⟨_, _, rfl, Same.tup hid_sub h', a⟩
theorem RpR.obj {c : Nat} {ms : List M} (h : RpR Ω F σ ρ H H' x (.v (.obj c ms))) : ∃ p dx vs, x = .ref p ∧ H' p = some (.ins (Ω.cs c) dx ((an c).zip vs)) ∧ vs.length = (an c).length ∧ RpL Ω (Hd F σ ρ H') vs ms ∧ Ω.has c := by
  cases (show Rp Ω _ x (.obj c ms) from h) with
  | obj h' n a g => exact ⟨_, _, _, rfl, hid_sub _ _ h', n, a, g⟩
theorem RpR.newL {p : Addr} {vs : List V} {xs : List M} (r : Rel Ω F σ H' ρ) (hp : H' p = none) (h : RpL Ω (Hd F σ ρ H') vs xs) : RpR Ω F σ ρ H' (upd H' p (.lst vs)) (.ref p) (.f (.lst xs)) :=
  ⟨p, rfl, hp, r.notOwn hp, vs, upd_same, h.mono (hidP_same fun b o hb e _ => by
    have n : b ≠ p := ne_of_none e hp
    exact ⟨fun z => z.elim hb n, by rw [upd_ne n]; exact e⟩)⟩
theorem RpR.newT {p : Addr} {vs : List V} {xs : List M} (r : Rel Ω F σ H' ρ) (hp : H' p = none) (h : RpL Ω (Hd F σ ρ H') vs xs) : RpR Ω F σ ρ H' (upd H' p (.tup vs)) (.ref p) (.v (.tup xs)) := by
  refine rv (.tup (vs := vs) (SqT.of (hidP_some.mpr ⟨fun z => z.elim (r.notOwn hp) (r.notZ hp), upd_same⟩)) (h.mono (Hd_same fun b o _ e => ?_)))
  rw [upd_ne (ne_of_none e hp)]
  exact e
theorem RpL.drop : ∀ (n : Nat) {vs : List V} {ms : List M}, RpL Ω H vs ms → RpL Ω H (vs.drop n) (ms.drop n)
  | 0, _, _, h => h
  | _ + 1, _, _, .nil => .nil
  | n + 1, _, _, .cons _ t => RpL.drop n t
theorem RpL.take : ∀ (n : Nat) {vs : List V} {ms : List M}, RpL Ω H vs ms → RpL Ω H (vs.take n) (ms.take n)
  | 0, _, _, _ => .nil
  | _ + 1, _, _, .nil => .nil
  | n + 1, _, _, .cons h t => .cons h (RpL.take n t)
theorem RpL.rep {vs : List V} {ms : List M} (h : RpL Ω H vs ms) : ∀ n : Nat, RpL Ω H (List.replicate n vs).flatten (List.replicate n ms).flatten
  | 0 => .nil
  | n + 1 => by
    rw [List.replicate_succ, List.replicate_succ, List.flatten_cons, List.flatten_cons]
    exact h.append (RpL.rep h n)
end
theorem line_le {n : Nat} (h : n ≤ 100000) : n ≤ sizeLine := Nat.le_trans h (by decide)
theorem S_line {l : List Nat} (h : l.length ≤ 100000) : (S l).length ≤ sizeLine := by rw [SX.S_len]; exact line_le h
section
variable {X : Cx} {Ω : Ev} {Wx : WX}
def semAdd : R → R → (R → Prop) → Prop := fun a b Q => match a, b with
  | .v (.int i), .v (.int j) => Q (.v (.int (i + j)))
  | .v (.str s), .v (.str t) => s.length + t.length ≤ 100000 ∧ Q (.v (.str (s ++ t)))
  | .v (.tup s), .v (.tup t) => s.length + t.length ≤ 100000 ∧ Q (.v (.tup (s ++ t)))
  | a, b => match a.lst?, b.lst? with
    | some s, some t => s.length + t.length ≤ 100000 ∧ Q (.f (.lst (s ++ t)))
    | _, _ => False
theorem om_add (hK : X.K = Ω.K) : OpM Ω X (binaryOp .Add) semAdd := by
  refine ⟨_, OpR.or (OpR.or op_add op_add_str) (OpR.or op_cat (kk_catA Ω.K hK)), fun F σ ρ H H' x y a b Q QQ st ha hb q K nz => ?_⟩
  unfold semAdd at q
  split at q
  · cases ha.int
    cases hb.int
    exact .inl (.inl ⟨_, _, rfl, rfl, K _ H' _ (.refl st.rel) (rv (.int _)) q⟩)
  · obtain ⟨rfl, h1⟩ := ha.str
    obtain ⟨rfl, h2⟩ := hb.str
    refine .inl (.inr ⟨_, _, rfl, rfl, by rw [SX.S_len, SX.S_len]; exact line_le q.1, ?_⟩)
    rw [SX.S_cat]
    exact K _ H' _ (.refl st.rel) (rv (.str (by rw [List.length_append]; exact q.1))) q.2
  · obtain ⟨p, vs, rfl, h1, a1⟩ := ha.tup
    obtain ⟨p', ws, rfl, h2, a2⟩ := hb.tup
    refine .inr (.inr ⟨p, p', vs, ws, rfl, rfl, h1, h2, by rw [a1.length, a2.length]; exact line_le q.1, fun e => ?_, fun _ e => ?_, fun _ _ t ht => ?_⟩)
    · subst e
      cases a1
      exact K _ H' _ (.refl st.rel) (rv hb) q.2
    · subst e
      cases a2
      exact K _ H' _ (.refl st.rel) (rv ha) (by simpa using q.2)
    · exact K _ _ _ (st.rel.new ht) (RpR.newT st.rel ht (a1.append a2)) q.2
  · split at q
    · rename_i s t e1 e2
      obtain ⟨p, vs, rfl, h1, a1⟩ := RpR.lst st.rel ha e1
      obtain ⟨p', ws, rfl, h2, a2⟩ := RpR.lst st.rel hb e2
      refine .inr (.inl ⟨p, p', vs, ws, rfl, rfl, h1, h2, by rw [a1.length, a2.length]; exact line_le q.1, fun t ht => ?_⟩)
      exact K _ _ _ (st.rel.new ht) (RpR.newL st.rel ht (a1.append a2)) q.2
    · exact q.elim
def semInt (f : Int → Int → Int) (C : Int → Int → Prop) : R → R → (R → Prop) → Prop := fun a b Q => match a, b with
  | .v (.int i), .v (.int j) => C i j ∧ Q (.v (.int (f i j)))
  | _, _ => False
theorem om_int {op : Operator} {f : Int → Int → Int} {C : Int → Int → Prop} (h : OpR X (binaryOp op) (rI C fun i j => .int (f i j))) : OpM Ω X (binaryOp op) (semInt f C) := by
  refine ⟨_, h, fun F σ ρ H H' x y a b Q QQ st ha hb q K nz => ?_⟩
  unfold semInt at q
  split at q
  · cases ha.int
    cases hb.int
    exact ⟨_, _, rfl, rfl, q.1, K _ H' _ (.refl st.rel) (rv (.int _)) q.2⟩
  · exact q.elim
theorem om_sub : OpM Ω X (binaryOp .Sub) (semInt (· - ·) fun _ _ => True) := om_int (OpR.imp op_sub fun _ _ _ _ ⟨i, j, e1, e2, _, q⟩ => ⟨i, j, e1, e2, q⟩)
def semMul : R → R → (R → Prop) → Prop := fun a b Q => match a, b with
  | .v (.int i), .v (.int j) => ((-(2 ^ 64) < i ∧ i < 2 ^ 64) ∨ (-(2 ^ 64) < j ∧ j < 2 ^ 64)) ∧ Q (.v (.int (i * j)))
  | .v (.tup s), .v (.int k) => s ≠ [] ∧ s.length ≤ 1000 ∧ 1 ≤ k ∧ k ≤ 1000 ∧ Q (.v (.tup (List.replicate k.toNat s).flatten))
  | a, b => match a.lst?, b with
    | some s, .v (.int k) => -(2 ^ 63) ≤ k ∧ k < 2 ^ 63 ∧ s.length * k.toNat ≤ 100000 ∧ Q (.f (.lst (List.replicate k.toNat s).flatten))
    | _, _ => False
theorem om_mul (hK : X.K = Ω.K) : OpM Ω X (binaryOp .Mult) semMul := by
  refine ⟨_, OpR.or op_mul (OpR.or op_rep (op_repTA Ω.K hK)), fun F σ ρ H H' x y a b Q QQ st ha hb q K nz => ?_⟩
  unfold semMul at q
  split at q
  · cases ha.int
    cases hb.int
    exact .inl ⟨_, _, rfl, rfl, q.1, K _ H' _ (.refl st.rel) (rv (.int _)) q.2⟩
  · obtain ⟨p, vs, rfl, h1, a1⟩ := ha.tup
    cases hb.int
    rename_i s k
    obtain ⟨q0, q1, q2, q3, q4⟩ := q
    have hv : vs ≠ [] := fun e => by
      subst e
      cases a1
      exact q0 rfl
    by_cases hk : k = 1
    · subst hk
      refine .inr (.inr (.inl ⟨p, vs, rfl, rfl, h1, K _ H' _ (.refl st.rel) (rv ha) ?_⟩))
      simpa using q4
    · refine .inr (.inr (.inr ⟨p, k, vs, rfl, rfl, h1, hv, by omega, q3, by rw [a1.length]; exact q1, fun t ht => ?_⟩))
      exact K _ _ _ (st.rel.new ht) (RpR.newT st.rel ht (a1.rep _)) q4
  · split at q
    · rename_i s k e1 _ _
      obtain ⟨p, vs, rfl, h1, a1⟩ := RpR.lst st.rel ha (by assumption)
      cases hb.int
      refine .inr (.inl ⟨p, _, vs, rfl, rfl, h1, q.1, q.2.1, by rw [a1.length]; exact line_le q.2.2.1, fun t ht => ?_⟩)
      exact K _ _ _ (st.rel.new ht) (RpR.newL st.rel ht (a1.rep _)) q.2.2.2
    · exact q.elim
def semOrd (f : Int → Int → Bool) (g : List Nat → List Nat → Bool) : R → R → (R → Prop) → Prop := fun a b Q => match a, b with
  | .v (.int i), .v (.int j) => Q (.v (.bl (f i j)))
  | .v (.str s), .v (.str t) => Q (.v (.bl (g s t)))
  | _, _ => False
theorem om_ord {op : CmpOp} {f : Int → Int → Bool} {g : List Nat → List Nat → Bool} (h : OpR X (compareOp op) (rI0 fun i j => .bl (f i j))) (h' : OpR X (compareOp op) (fun x y H Q => ∃ i j, x = .str i ∧ y = .str j ∧ Q (.bl (g i.cps.toList j.cps.toList)) H)) : OpM Ω X (compareOp op) (semOrd f g) := by
  refine ⟨_, OpR.or h h', fun F σ ρ H H' x y a b Q QQ st ha hb q K nz => ?_⟩
  unfold semOrd at q
  split at q
  · cases ha.int
    cases hb.int
    exact .inl ⟨_, _, rfl, rfl, K _ H' _ (.refl st.rel) (rv (.bl _)) q⟩
  · obtain ⟨rfl, h1⟩ := ha.str
    obtain ⟨rfl, h2⟩ := hb.str
    exact .inr ⟨_, _, rfl, rfl, K _ H' _ (.refl st.rel) (rv (.bl _)) q⟩
  · exact q.elim
theorem om_le : OpM Ω X (compareOp .LtE) (semOrd (fun i j => decide (i ≤ j)) fun s t => !decide (t < s)) := om_ord op_le op_le_str
theorem om_gt : OpM Ω X (compareOp .Gt) (semOrd (fun i j => decide (j < i)) fun s t => decide (t < s)) := om_ord op_gt op_gt_str
def R.isN : R → Bool
  | .v .non => true
  | _ => false
def semIs (neg : Bool) : R → R → (R → Prop) → Prop := fun a b Q => match b with
  | .v .non => Q (.v (.bl (if neg then !a.isN else a.isN)))
  | _ => False
theorem isN_eq {F : Fr} {σ : L2.St} {ρ : List R} {H H' : Hp} {x : V} {a : R} (r : Rel Ω F σ H' ρ) (h : RpR Ω F σ ρ H H' x a) : decide (x = .non) = a.isN := by
  cases a with
  | no => exact h.elim
  | v m => cases (show Rp Ω _ x m from h) <;> rfl
  | o l c =>
    obtain ⟨i, e1, e2⟩ := h
    obtain ⟨p, h1, _⟩ := r.own i l c e1
    rw [e2] at h1
    cases h1
    rfl
  | f c =>
    obtain ⟨p, rfl, _⟩ := h
    rfl
  | x a d e m => exact h.elim
theorem om_isnot : OpM Ω X (compareOp .IsNot) (semIs true) := by
  refine ⟨_, op_notN, fun F σ ρ H H' x y a b Q QQ st ha hb q K nz => ?_⟩
  unfold semIs at q
  split at q
  · refine ⟨hb.non, ?_⟩
    rw [isN_eq st.rel ha]
    exact K _ H' _ (.refl st.rel) (rv (.bl _)) q
  · exact q.elim
def tmB (t : TM) : TMB := fun ρ Q x => t ρ (fun r => ∃ b, r = .v (.bl b) ∧ Q b) x
theorem pm_t {e : Expr} {t : TM} (h : PE X e (lf Ω Wx t)) (he : ∀ whole, isTrue e X.env whole = (do let v ← whole; standAt e.pos; holding [v] (truthy v)) := by intro _; rfl) : PT X e (lfB Ω Wx (tmB t)) := PT.imp (pt_val h he) fun σ H QQ hh => by
  obtain ⟨F, ρ, Q, x, r, xl, k, t⟩ := hh
  refine ⟨F, ρ, _, x, r, xl, fun v H' r s rp q => ?_, t⟩
  obtain ⟨b, rfl, q⟩ := q
  exact ⟨b, rp.bl, k b H' s q⟩
theorem pm_tcmp {op : CmpOp} {a b : Expr} {pos : Pos} {sem : R → R → (R → Prop) → Prop} {ta tb : TM} (h : OpM Ω X (compareOp op) sem) (ha : PE X a (lf Ω Wx ta)) (hb : PE X b (lf Ω Wx tb)) (hm : behindInMarks op b = false) : PT X (.Compare a [op] [b] pos) (lfB Ω Wx (tmB (tmOp sem ta tb))) := by
  obtain ⟨r, o, k⟩ := h
  refine PT.imp (pt_cmpR o ha hb hm) fun σ H QQ hh => ?_
  obtain ⟨F, ρ, Q, x, rl, xl, k0, t⟩ := hh
  refine tmOp_run k (Wx := Wx) ⟨F, ρ, _, x, rl, xl, fun v H' r s rp q => ?_, t⟩
  obtain ⟨b, rfl, q⟩ := q
  exact ⟨b, rp.bl, k0 b H' s q⟩
def tmAnd (t u : TMB) : TMB := fun ρ Q x => t ρ (fun b => if b = true then u ρ Q x else Q false) x
def tmOr (t u : TMB) : TMB := fun ρ Q x => t ρ (fun b => if b = true then Q true else u ρ Q x) x
def tmNot (t : TMB) : TMB := fun ρ Q x => t ρ (fun b => Q (!b)) x
theorem pm_not {a : Expr} {pos : Pos} {t : TMB} (h : PT X a (lfB Ω Wx t)) : PT X (.UnaryOp .Not a pos) (lfB Ω Wx (tmNot t)) := PT.imp (pt_not h) fun σ H QQ hh => by
  obtain ⟨F, ρ, Q, x, r, xl, k, t⟩ := hh
  exact ⟨F, ρ, _, x, r, xl, fun b H' s q => k _ H' s q, t⟩
theorem pm_and1 {a : Expr} {pos : Pos} {t : TMB} (h : PT X a (lfB Ω Wx t)) : PW X (.BoolOp .And [a] pos) (lfB Ω Wx t) := pw_and1 h
theorem pm_or1 {a : Expr} {pos : Pos} {t : TMB} (h : PT X a (lfB Ω Wx t)) : PW X (.BoolOp .Or [a] pos) (lfB Ω Wx t) := pw_or1 h
theorem pm_and {a b : Expr} {rest : List Expr} {pos : Pos} {t u : TMB} (h : PT X a (lfB Ω Wx t)) (h2 : PW X (.BoolOp .And (b :: rest) pos) (lfB Ω Wx u)) : PW X (.BoolOp .And (a :: b :: rest) pos) (lfB Ω Wx (tmAnd t u)) := PW.imp (pw_and h h2) fun σ H QQ hh => by
  obtain ⟨F, ρ, Q, x, r, xl, k, t⟩ := hh
  refine ⟨F, ρ, _, x, r, xl, fun b H' s q => ?_, t⟩
  cases b with
  | true => exact iteT ⟨F, ρ, _, x, s.rel, xl.step s, fun b H'' s' q' => k b H'' (s.trans s') q', by simpa using q⟩
  | false => exact iteF (k false H' s (by simpa using q))
theorem pm_or {a b : Expr} {rest : List Expr} {pos : Pos} {t u : TMB} (h : PT X a (lfB Ω Wx t)) (h2 : PW X (.BoolOp .Or (b :: rest) pos) (lfB Ω Wx u)) : PW X (.BoolOp .Or (a :: b :: rest) pos) (lfB Ω Wx (tmOr t u)) := PW.imp (pw_or h h2) fun σ H QQ hh => by
  obtain ⟨F, ρ, Q, x, r, xl, k, t⟩ := hh
  refine ⟨F, ρ, _, x, r, xl, fun b H' s q => ?_, t⟩
  cases b with
  | true => exact iteT (k true H' s (by simpa using q))
  | false => exact iteF ⟨F, ρ, _, x, s.rel, xl.step s, fun b H'' s' q' => k b H'' (s.trans s') q', by simpa using q⟩
/-- and, or as values: bools -/
def tmAndV (t u : TM) : TM := fun ρ Q x => t ρ (fun r => ∃ b, r = .v (.bl b) ∧ if b = true then u ρ Q x else Q (.v (.bl false))) x
def tmOrV (t u : TM) : TM := fun ρ Q x => t ρ (fun r => ∃ b, r = .v (.bl b) ∧ if b = true then Q (.v (.bl true)) else u ρ Q x) x
theorem pm_one {a : Expr} {op} {pos : Pos} {t : TM} (h : PE X a (lf Ω Wx t)) : PE X (.BoolOp op [a] pos) (lf Ω Wx t) := pe_one h
theorem pm_andV {a b : Expr} {rest : List Expr} {pos : Pos} {t u : TM} (h : PE X a (lf Ω Wx t)) (h2 : PE X (.BoolOp .And (b :: rest) pos) (lf Ω Wx u)) : PE X (.BoolOp .And (a :: b :: rest) pos) (lf Ω Wx (tmAndV t u)) := PE.imp (pe_and h h2) fun σ H QQ hh => by
  obtain ⟨F, ρ, Q, x, r, xl, k, t⟩ := hh
  refine ⟨F, ρ, _, x, r, xl, fun v H' r' s rp q => ?_, t⟩
  obtain ⟨b, rfl, q⟩ := q
  refine ⟨b, rp.bl, ?_⟩
  cases b with
  | true => exact iteT ⟨F, ρ, _, x, s.rel, xl.step s, fun v H'' r'' s' rp' q' => k v H'' r'' (s.trans s') (rp'.back s) q', by simpa using q⟩
  | false => exact iteF (k _ H' _ s (rv (.bl _)) (by simpa using q))
def tmNotV (t : TM) : TM := fun ρ Q x => t ρ (fun r => ∃ b, r = .v (.bl b) ∧ Q (.v (.bl (!b)))) x
def tmIf (c : TMB) (t u : TM) : TM := fun ρ Q x => c ρ (fun b => if b = true then t ρ Q x else u ρ Q x) x
theorem pm_ifExp {c a b : Expr} {pos : Pos} {tc : TMB} {t u : TM} (hc : PT X c (lfB Ω Wx tc)) (ha : PE X a (lf Ω Wx t)) (hb : PE X b (lf Ω Wx u)) : PE X (.IfExp c a b pos) (lf Ω Wx (tmIf tc t u)) := PE.imp (pe_ifExp hc ha hb) fun σ H QQ hh => by
  obtain ⟨F, ρ, Q, x, r, xl, k, t⟩ := hh
  refine ⟨F, ρ, _, x, r, xl, fun b H' s q => ?_, t⟩
  cases b with
  | true => exact iteT ⟨F, ρ, _, x, s.rel, xl.step s, fun v H'' r'' s' rp' q' => k v H'' r'' (s.trans s') (rp'.back s) q', by simpa using q⟩
  | false => exact iteF ⟨F, ρ, _, x, s.rel, xl.step s, fun v H'' r'' s' rp' q' => k v H'' r'' (s.trans s') (rp'.back s) q', by simpa using q⟩
def tmNil : TMA := fun _ Q _ => Q []
def tmCons (t : TM) (u : TMA) : TMA := fun ρ Q x => t ρ (fun r => u ρ (fun rs => Q (r :: rs)) x) x
theorem pm_nil : PA X [] (lfA Ω Wx tmNil) := PA.imp pa_nil fun σ H QQ hh => by
  obtain ⟨F, ρ, Q, x, r, xl, k, t⟩ := hh
  exact k [] H [] (.refl r) .nil t
theorem pm_cons {e : Expr} {es : List Expr} {t : TM} {u : TMA} (h : PE X e (lf Ω Wx t)) (h2 : PA X es (lfA Ω Wx u)) (hs : starEach (e :: es) X.env = (false, eval e X.env) :: starEach es X.env := by rfl) : PA X (e :: es) (lfA Ω Wx (tmCons t u)) := PA.imp (pa_cons h h2 hs) fun σ H QQ hh => by
  obtain ⟨F, ρ, Q, x, r, xl, k, t⟩ := hh
  refine ⟨F, ρ, _, x, r, xl, fun v H' r' s rp q => ?_, t⟩
  refine ⟨F, ρ, _, x, s.rel, xl.step s, fun vs H'' rs s' rps q' => ?_, q⟩
  refine k (v :: vs) H'' (r' :: rs) (s.trans s') (.cons (rp.step s') (rps.back s) fun c e i c' e' ev => ?_) q'
  subst e
  obtain ⟨p, rfl, hn, no, a⟩ := rp
  obtain ⟨w, e1, p', rfl, hn', _⟩ := rps.get e'
  rw [e1] at ev
  cases ev
  obtain ⟨o, eo, _⟩ := a.there
  rw [hn'] at eo
  cases eo
def tmTup (u : TMA) : TM := fun ρ Q x => u ρ (fun rs => ∃ ms, ms? rs = some ms ∧ ms.length ≤ 100000 ∧ Q (.v (.tup ms))) x
def tmLst (u : TMA) : TM := fun ρ Q x => u ρ (fun rs => ∃ ms, ms? rs = some ms ∧ ms.length ≤ 100000 ∧ Q (.f (.lst ms))) x
theorem pm_tup {es : List Expr} {x1} {pos : Pos} {u : TMA} (h : PA X es (lfA Ω Wx u)) : PE X (.Tuple es x1 pos) (lf Ω Wx (tmTup u)) := PE.imp (pe_tup h) fun σ H QQ hh => by
  obtain ⟨F, ρ, Q, x, r, xl, k, t⟩ := hh
  refine ⟨F, ρ, _, x, r, xl, fun vs H' rs s rp q => ?_, t⟩
  obtain ⟨ms, e, hl, q⟩ := q
  have a := rp.ms (fun p hp => r.notZ hp) e
  refine ⟨by rw [a.length]; exact line_le hl, fun p hp => k _ _ _ (s.trans (s.rel.new hp)) (RpR.back s (.newT s.rel hp a)) q⟩
theorem pm_lst {es : List Expr} {pos : Pos} {u : TMA} (h : PA X es (lfA Ω Wx u)) : PE X (.List es pos) (lf Ω Wx (tmLst u)) := PE.imp (pe_lst h) fun σ H QQ hh => by
  obtain ⟨F, ρ, Q, x, r, xl, k, t⟩ := hh
  refine ⟨F, ρ, _, x, r, xl, fun vs H' rs s rp q => ?_, t⟩
  obtain ⟨ms, e, hl, q⟩ := q
  have a := rp.ms (fun p hp => r.notZ hp) e
  refine ⟨by rw [a.length]; exact line_le hl, fun p hp => k _ _ _ (s.trans (s.rel.new hp)) (RpR.back s (.newL s.rel hp a)) q⟩
def semIx : R → R → (R → Prop) → Prop := fun a b Q => match a, b with
  | .v (.str s), .v (.int i) => ∃ c, atI s i = some c ∧ Q (.v (.str [c]))
  | a, .v (.int i) => match a.seq? with
    | some xs => ∃ m, atI xs i = some m ∧ Q (.v m)
    | none => False
  | _, _ => False
theorem RpL.atI {Ω : Ev} {H : Hp} {vs : List V} {ms : List M} (h : RpL Ω H vs ms) {i : Int} {m : M} (e : L2.atI ms i = some m) : ∃ v, L2.atI vs i = some v ∧ Rp Ω H v m := by
  unfold L2.atI at e ⊢
  rw [h.length]
  cases hj : ixN ms.length i with
  | none => rw [hj] at e; cases e
  | some j =>
    rw [hj] at e
    exact h.get e
def IxM (Ω : Ev) (X : Cx) (sem : R → R → (R → Prop) → Prop) : Prop := ∃ r : R2, IxR X r ∧ ∀ (F : Fr) (σ : L2.St) (ρ : List R) (H H' : Hp) (x y : V) (a b : R) (Q : R → Prop) (QQ : VK),
  Stp Ω F σ ρ H H' → RpR Ω F σ ρ H H' x a → RpR Ω F σ ρ H H' y b → sem a b Q → (∀ v H'' r, Stp Ω F σ ρ H' H'' → RpR Ω F σ ρ H' H'' v r → Q r → QQ v H'') → (∀ p, H p = none → ¬ F.Z p) → r x y H' QQ
theorem ixm (hK : X.K = Ω.K) : IxM Ω X semIx := by
  refine ⟨_, kk_ix Ω.K hK, fun F σ ρ H H' x y a b Q QQ st ha hb q K nz => ?_⟩
  unfold semIx at q
  split at q
  · obtain ⟨rfl, h1⟩ := ha.str
    cases hb.int
    obtain ⟨c, e, q⟩ := q
    exact .inr (.inr ⟨_, _, c, rfl, rfl, S_line h1, e, K _ H' _ (.refl st.rel) (rv (.str (l := [c]) (by simp))) q⟩)
  · split at q
    · rename_i xs e1
      obtain ⟨p, vs, rfl, h1, a1⟩ := RpR.seq st.rel ha e1
      cases hb.int
      obtain ⟨m, e, q⟩ := q
      obtain ⟨v, ev, rv⟩ := a1.atI e
      have fin := K v H' (.v m) (.refl st.rel) rv q
      exact h1.elim (fun h => .inl ⟨p, vs, _, v, rfl, rfl, h, ev, fin⟩) fun h => .inr (.inl ⟨p, vs, _, v, rfl, rfl, h, ev, fin⟩)
    · exact q.elim
  · exact q.elim
theorem pm_ix {a b : Expr} {pos : Pos} {sem : R → R → (R → Prop) → Prop} {ta tb : TM} (h : IxM Ω X sem) (ha : PE X a (lf Ω Wx ta)) (hb : PE X b (lf Ω Wx tb)) (hs : PlainIx b) : PE X (.Subscript a b pos) (lf Ω Wx (tmOp sem ta tb)) := by
  obtain ⟨r, o, k⟩ := h
  exact PE.imp (pe_ix o ha hb hs) fun σ H QQ hh => tmOp_run k hh
abbrev TMO := List R → (Option Int → Prop) → X0 → Prop
def lfO (Ω : Ev) (Wx : WX) (t : TMO) : TO := fun σ H QQ => ∃ F ρ Q x, Rel Ω F σ H ρ ∧ XL Ω F Wx σ ρ H x ∧ (∀ b H', Stp Ω F σ ρ H H' → Q b → QQ b H') ∧ t ρ Q x
theorem PO.imp {e : Option Expr} {T T' : TO} (h : PO X e T) (i : ∀ σ H Q, T' σ H Q → T σ H Q) : PO X e T' := ⟨fun pins s σ H Q I q => h.run pins s σ H Q I (i σ H Q q)⟩
def tmON : TMO := fun _ Q _ => Q none
def tmOS (t : TM) : TMO := fun ρ Q x => t ρ (fun r => ∃ i, r = .v (.int i) ∧ Q (some i)) x
theorem pm_on : PO X none (lfO Ω Wx tmON) := PO.imp po_none fun σ H QQ hh => by
  obtain ⟨F, ρ, Q, x, r, xl, k, t⟩ := hh
  exact k none H (.refl r) t
theorem pm_os {e : Expr} {t : TM} (h : PE X e (lf Ω Wx t)) : PO X (some e) (lfO Ω Wx (tmOS t)) := PO.imp (po_some h) fun σ H QQ hh => by
  obtain ⟨F, ρ, Q, x, r, xl, k, t⟩ := hh
  refine ⟨F, ρ, _, x, r, xl, fun v H' r s rp q => ?_, t⟩
  obtain ⟨i, rfl, q⟩ := q
  exact ⟨i, rp.int, k (some i) H' s q⟩
def cutM (xs : List M) (lo hi : Option Int) : List M := (xs.drop (HT.sIx xs.length 0 lo)).take (HT.sIx xs.length xs.length hi - HT.sIx xs.length 0 lo)
def cutT (l : List Nat) (lo hi : Option Int) : List Nat := (Txt.slice (S l) lo hi).cps.toList
def semSl (a : R) (lo hi : Option Int) (Q : R → Prop) : Prop := match a with
  | .v (.tup xs) => Q (.v (.tup (cutM xs lo hi)))
  | .o _ (.scr ns) => Q (.f (.lst (cutM (ns.map M.int) lo hi)))
  | .v (.str l) => (cutT l lo hi).length ≤ 100000 ∧ Q (.v (.str (cutT l lo hi)))
  | a => match a.lst? with
    | some xs => Q (.f (.lst (cutM xs lo hi)))
    | none => False
theorem RpL.cut {Ω : Ev} {H : Hp} {vs : List V} {ms : List M} (h : RpL Ω H vs ms) (lo hi : Option Int) : RpL Ω H (cutV vs lo hi) (cutM ms lo hi) := by
  unfold cutV cutM
  rw [h.length]
  exact RpL.take _ (RpL.drop _ h)
theorem RpL.ints {Ω : Ev} {H : Hp} : ∀ ns : List Int, RpL Ω H (ns.map V.int) (ns.map M.int)
  | [] => .nil
  | n :: r => .cons (.int n) (RpL.ints r)
end
end PL
namespace PL
open PySem PySem.Spec PyProof.Rows L2 KW
section
variable {X : Cx} {Ω : Ev} {Wx : WX}
def tmSl (t : TM) (lo hi : TMO) : TM := fun ρ Q x => t ρ (fun a => lo ρ (fun l => hi ρ (fun h => semSl a l h Q) x) x) x
theorem pm_slice {e : Expr} {lo hi : Option Expr} {p2 pos : Pos} {t : TM} {tl th : TMO} (hK : X.K = Ω.K) (he : PE X e (lf Ω Wx t)) (hl : PO X lo (lfO Ω Wx tl)) (hh : PO X hi (lfO Ω Wx th)) : PE X (.Subscript e (.Slice lo hi none p2) pos) (lf Ω Wx (tmSl t tl th)) :=
  PE.imp (pe_slice ((kk_slL Ω.K hK).or ((kk_slA Ω.K hK).or C8.sl_txt)) he hl hh) fun σ H QQ hh => by
  obtain ⟨F, ρ, Q, x, r, xl, k, t⟩ := hh
  refine ⟨F, ρ, _, x, r, xl, fun v H1 a s1 rp q => ?_, t⟩
  refine ⟨F, ρ, _, x, s1.rel, xl.step s1, fun l H2 s2 q => ?_, q⟩
  refine ⟨F, ρ, _, x, s2.rel, (xl.step s1).step s2, fun h H3 s3 q => ?_, q⟩
  have s13 := (s1.trans s2).trans s3
  have rp3 := rp.step (s2.trans s3)
  unfold semSl at q
  split at q
  · obtain ⟨p, vs, rfl, h1, a1⟩ := rp3.tup
    have a2 := a1.cut l h
    refine .inr (.inl ⟨p, vs, rfl, h1, fun hw => ?_, fun hw p' hp' => ?_⟩)
    · have e : ∀ {α : Type} (zs : List α), zs.length = vs.length → (zs.drop (HT.sIx zs.length 0 l)).take (HT.sIx zs.length zs.length h - HT.sIx zs.length 0 l) = zs := fun zs hz => by
        rw [hz, hw.1, hw.2, List.drop_zero, Nat.sub_zero, ← hz, List.take_length]
      have e2 := e _ a1.length.symm
      refine k _ H3 _ s13 (rv ?_) q
      unfold cutM
      rw [e2]
      exact rp3
    · exact k _ _ _ (s13.trans (s13.rel.new hp')) (RpR.back s13 (RpR.newT s13.rel hp' a2)) q
  · obtain ⟨i, e1, e2⟩ := rp3
    obtain ⟨p, g1, ⟨g2, _⟩, _⟩ := s13.rel.own i _ _ e1
    rw [e2] at g1
    cases g1
    exact .inl ⟨_, _, rfl, g2, fun p' hp' => k _ _ _ (s13.trans (s13.rel.new hp')) (RpR.back s13 (RpR.newL s13.rel hp' ((RpL.ints _).cut l h))) q⟩
  · obtain ⟨rfl, h1⟩ := rp3.str
    refine .inr (.inr ⟨_, rfl, S_line h1, k _ H3 _ s13 (rv ?_) q.2⟩)
    have e : ∀ ll : List Nat, Txt.slice (S ll) l h = S (cutT ll l h) := fun ll => (SX.S_tl _).symm
    rw [e]
    exact .str q.1
  · split at q
    · rename_i xs e1
      obtain ⟨p, vs, rfl, h1, a1⟩ := RpR.lst s13.rel rp3 e1
      exact .inl ⟨p, vs, rfl, SqL.of h1, fun p' hp' => k _ _ _ (s13.trans (s13.rel.new hp')) (RpR.back s13 (RpR.newL s13.rel hp' (a1.cut l h))) q⟩
    · exact q.elim
/-- what the classes say -/
structure EvOk (Ω : Ev) : Prop where
  cl : ∀ c, Ω.has c → Cls Ω.K (Ω.cs c)
  na : ∀ c, Ω.has c → ∀ f ∈ an c, NoAttr Ω.K (Ω.cs c) f
  isc : ∀ c, Ω.has c → IsC Ω.K (Ω.cs c)
  kit : ∀ c c', Ω.has c → Ω.has c' → PySem.W.kitOne Ω.K (.ref (Ω.cs c)) (.ref (Ω.cs c')) = some (decide (c = c'))
  kitT : ∀ t ∈ tyNames, ∀ c, Ω.has c → PySem.W.kitOne Ω.K (.type t) (.ref (Ω.cs c)) = some false
  nf : ∀ c, Ω.has c → (∀ t ∈ tyNames, PySem.W.notFirst Ω.K (Ω.cs c) (.type t) = true) ∧ ∀ c', Ω.has c' → PySem.W.notFirst Ω.K (Ω.cs c) (.ref (Ω.cs c')) = true
  ns : ∀ c, Ω.has c → ∀ t ∈ tyNames, PySem.W.subIn Ω.K (.ref (Ω.cs c)) (.type t) = some false
  inj : ∀ c c', Ω.has c → Ω.has c' → Ω.cs c = Ω.cs c' → c = c'
  einj : ∀ e e', e < 13 → e' < 13 → Ω.ecs e = Ω.ecs e' → e = e'
  exc : ∀ e, e < 13 → ExcC Ω.K (Ω.ecs e)
  kitE : ∀ e, e < 13 → ∀ c, Ω.has c → PySem.W.kitOne Ω.K (.ref (Ω.ecs e)) (.ref (Ω.cs c)) = some false
  kitEN : ∀ e, e < 13 → ∀ T ∈ ["bool", "int", "str", "list", "tuple"], PySem.W.kitOne Ω.K (.ref (Ω.ecs e)) (.type T) = some false
  kitN : ∀ t ∈ tyNames, ∀ c, Ω.has c → PySem.W.kitOne Ω.K (.ref (Ω.cs c)) (.type t) = some false
/-- the attribute f of an instance of the class c -/
def atf (f : Str) (c : Nat) (ms : List M) : Option M := ((an c).zip ms).lookup f
theorem lookup_mem {α : Type} {f : Str} {a : α} : ∀ {ks : List Str} {vs : List α}, (ks.zip vs).lookup f = some a → f ∈ ks
  | [], _, h => by simp at h
  | _ :: _, [], h => by simp at h
  | k :: ks, v :: vs, h => by
    rw [List.zip_cons_cons, List.lookup_cons] at h
    split at h
    · rename_i e
      have : f = k := by simpa using e
      rw [this]
      exact List.mem_cons_self
    · exact List.mem_cons_of_mem _ (lookup_mem h)
theorem RpL.lookup {H : Hp} {f : Str} {m : M} : ∀ {ks : List Str} {vs : List V} {ms : List M}, RpL Ω H vs ms → (ks.zip ms).lookup f = some m → ∃ v, (ks.zip vs).lookup f = some v ∧ Rp Ω H v m
  | [], _, _, _, h => by simp at h
  | _ :: _, _, _, .nil, h => by simp at h
  | k :: ks, _, _, .cons h1 t, h => by
    rw [List.zip_cons_cons, List.lookup_cons] at h ⊢
    split at h
    · cases h
      exact ⟨_, rfl, h1⟩
    · exact RpL.lookup t h
def semFld (f : Str) : R → (R → Prop) → Prop := fun r Q => match r with
  | .v (.obj c ms) => ∃ m, atf f c ms = some m ∧ Q (.v m)
  | .o _ (.ins c fs) => f ∈ an c ∧ ∃ m, fs.lookup f = some m ∧ Q (.v m)
  | _ => False
def tmFld (f : Str) (t : TM) : TM := fun ρ Q x => t ρ (fun r => semFld f r Q) x
theorem zip_keys {fs : List (Str × M)} : (fs.map (·.1)).zip (fs.map (·.2)) = fs := by
  induction fs with
  | nil => rfl
  | cons a r ih => rw [List.map_cons, List.map_cons, List.zip_cons_cons, ih]
theorem pm_fld {e : Expr} {f : Str} {pos : Pos} {t : TM} (EO : EvOk Ω) (hK : X.K = Ω.K) (he : PE X e (lf Ω Wx t)) (hb : attributeBase e f X.env (eval e X.env) = eval e X.env) : PE X (.Attribute e f pos) (lf Ω Wx (tmFld f t)) :=
  PE.imp (kk_fld Ω.K hK he hb) fun σ H QQ hh => by
  obtain ⟨F, ρ, Q, x, r, xl, k, t⟩ := hh
  refine ⟨F, ρ, _, x, r, xl, fun v H1 a s1 rp q => ?_, t⟩
  unfold semFld at q
  split at q
  · obtain ⟨p, dx, vs, rfl, h1, n, a1, g⟩ := rp.obj
    obtain ⟨m, e, q⟩ := q
    obtain ⟨v, ev, rv'⟩ := a1.lookup e
    exact ⟨p, _, dx, _, v, rfl, h1, EO.cl _ g, EO.na _ g _ (lookup_mem ev), ev, k v H1 _ s1 (rv rv') q⟩
  · rename_i l0 c0 fs
    obtain ⟨i, e1, e2⟩ := rp
    obtain ⟨p, h1, ⟨g, dx, vs, h2, n, a1⟩, _⟩ := s1.rel.own i _ _ e1
    rw [e2] at h1
    cases h1
    obtain ⟨hf, m, e, q⟩ := q
    obtain ⟨v, ev, rv'⟩ := a1.lookup (ks := fs.map (·.1)) (f := f) (m := m) (by rw [zip_keys]; exact e)
    exact ⟨p, _, dx, _, v, rfl, h2, EO.cl _ g, EO.na _ g _ hf, ev, k v H1 _ s1 (rv rv') q⟩
  · exact q.elim
end
end PL
namespace PL
open PySem PySem.Spec PyProof.Rows L2 KW
abbrev FM := List R → (R → Prop) → X0 → Prop
def Fr0 (A0 : List (Addr × OC)) (H : Hp) (Z : Addr → Prop) : Fr := ⟨A0, H, Z, fun _ => True, fun _ _ _ _ => trivial, none⟩
def R.ret : R → Prop
  | .v _ => True
  | .f _ => True
  | _ => False
/-- a def's promise from what its arguments mean -/
def spM (Ω : Ev) (f : FM) : Sp := fun vs H Q E => ∃ A0 Z rs Qm xm, Rel Ω (Fr0 A0 H Z) (vs.map some) H rs ∧ XL Ω (Fr0 A0 H Z) (fun cls d _ H => E cls d H) (vs.map some) rs H xm ∧
  (∀ v H' r, Stp Ω (Fr0 A0 H Z) (vs.map some) rs H H' → RpR Ω (Fr0 A0 H Z) (vs.map some) rs H H' v r → r.ret → Qm r → Q v H') ∧ f rs Qm xm
/-- how an operand is handed over -/
def co : R → R
  | .v m => .v m
  | .o _ c => .o false c
  | .f (.lst xs) => .v (.lst xs)
  | .f (.dk kvs) => .v (.dct (kvs.map (·.1)) (kvs.map (·.2)))
  | _ => .no
theorem co_v {r : R} {m : M} (h : co r = .v m) : r.m? = some m := by
  unfold co at h
  split at h
  · cases h; rfl
  · cases h
  · cases h; rfl
  · cases h; rfl
  · cases h
theorem co_o {r : R} {l : Bool} {c : OC} (h : co r = .o l c) : l = false ∧ ∃ l', r = .o l' c := by
  unfold co at h
  split at h
  · cases h
  · cases h; exact ⟨rfl, _, rfl⟩
  · cases h
  · cases h
  · cases h
def lent (vs : List V) (rs : List R) : List (Addr × OC) := (vs.zip rs).filterMap fun z => match z with
  | (.ref p, .o false c) => some (p, c)
  | _ => none
theorem mem_lent {vs : List V} {rs : List R} {p : Addr} {c : OC} : (p, c) ∈ lent vs rs ↔ ∃ i : Nat, vs[i]? = some (.ref p) ∧ rs[i]? = some (.o false c) := by
  unfold lent
  rw [List.mem_filterMap]
  constructor
  · rintro ⟨⟨v, r⟩, hm, e⟩
    obtain ⟨i, hi⟩ := List.mem_iff_getElem?.mp hm
    rw [List.getElem?_zip_eq_some] at hi
    split at e
    · rename_i h
      cases h
      cases e
      exact ⟨i, hi.1, hi.2⟩
    · cases e
  · rintro ⟨i, h1, h2⟩
    exact ⟨(.ref p, .o false c), List.mem_iff_getElem?.mpr ⟨i, List.getElem?_zip_eq_some.mpr ⟨h1, h2⟩⟩, rfl⟩
section
variable {Ω : Ev} {F : Fr} {σ : L2.St} {ρ : List R} {H H1 H2 : Hp} {vs : List V} {rs : List R}
def hid2 (F : Fr) (σ : L2.St) (ρ : List R) (vs : List V) (rs : List R) : Addr → Prop := fun b => (Own σ ρ b ∨ F.Z b) ∧ ¬ Own (vs.map some) (rs.map co) b
theorem ownA (r : Rel Ω F σ H1 ρ) (rp : RpRs Ω F σ ρ H H1 vs rs) {i : Nat} {l : Bool} {c : OC} (e : (rs.map co)[i]? = some (.o l c)) : l = false ∧ ∃ (l' : Bool) (j : Nat) (p : Addr), vs[i]? = some (.ref p) ∧ ρ[j]? = some (.o l' c) ∧ σ[j]? = some (some (.ref p)) := by
  rw [List.getElem?_map] at e
  cases hr : rs[i]? with
  | none => rw [hr] at e; cases e
  | some a =>
    rw [hr] at e
    obtain ⟨hl, l', rfl⟩ := co_o (Option.some.inj e)
    obtain ⟨v, e1, j, e2, e3⟩ := rp.get hr
    obtain ⟨p, h1, _⟩ := r.own j l' c e2
    rw [e3] at h1
    cases h1
    exact ⟨hl, l', j, p, e1, e2, e3⟩
theorem map_some_get {i : Nat} {v : V} : (vs.map some)[i]? = some (some v) ↔ vs[i]? = some v := by
  rw [List.getElem?_map]
  cases vs[i]? <;> simp
theorem ownA_sub (r : Rel Ω F σ H1 ρ) (rp : RpRs Ω F σ ρ H H1 vs rs) {b : Addr} (h : Own (vs.map some) (rs.map co) b) : Own σ ρ b := by
  obtain ⟨i, l, c, e1, e2⟩ := h
  obtain ⟨_, l', j, p, h1, h2, h3⟩ := ownA r rp e1
  rw [map_some_get.mp e2] at h1
  cases h1
  exact ⟨j, l', c, h2, h3⟩
theorem hid2_iff (r : Rel Ω F σ H1 ρ) (rp : RpRs Ω F σ ρ H H1 vs rs) (b : Addr) : (Own (vs.map some) (rs.map co) b ∨ hid2 F σ ρ vs rs b) ↔ (Own σ ρ b ∨ F.Z b) := by
  constructor
  · rintro (h | h)
    · exact .inl (ownA_sub r rp h)
    · exact h.1
  · intro h
    by_cases z : Own (vs.map some) (rs.map co) b
    · exact .inl z
    · exact .inr ⟨h, z⟩
abbrev FrC (F : Fr) (σ : L2.St) (ρ : List R) (vs : List V) (rs : List R) (H : Hp) : Fr := Fr0 (lent vs (rs.map co)) H (hid2 F σ ρ vs rs)
theorem args_rel (r : Rel Ω F σ H1 ρ) (rp : RpRs Ω F σ ρ H H1 vs rs) (nz : ∀ p, H p = none → ¬ F.Z p) : Rel Ω (FrC F σ ρ vs rs H1) (vs.map some) H1 (rs.map co) := by
  have same : Same (Hd F σ ρ H1) (Hd (FrC F σ ρ vs rs H1) (vs.map some) (rs.map co) H1) := hidP_same fun b o h e => ⟨fun z => h ((hid2_iff r rp b).mp z), e⟩
  refine ⟨by rw [List.length_map, List.length_map, rp.length], ⟨fun b o e _ => e, .refl _⟩, fun b z => ?_, fun b z => z.2, fun i m e => ?_, fun i l c e => ?_, fun i j l c l' d p e1 e2 h1 h2 => ?_, fun p c h => ?_, ⟨trivial, r.pin.2⟩, (fun x h => by cases h), fun i a d er m e => ?_⟩
  · rcases z.1 with ⟨i, l, c, e1, e2⟩ | z
    · obtain ⟨p, h1, h2, _⟩ := r.own i l c e1
      rw [e2] at h1
      cases h1
      exact h2.there
    · exact r.zin b z
  · rw [List.getElem?_map] at e
    cases hr : rs[i]? with
    | none => rw [hr] at e; cases e
    | some a =>
      rw [hr] at e
      obtain ⟨v, e1, e2⟩ := rp.get hr
      exact ⟨v, map_some_get.mpr e1, (e2.m (co_v (Option.some.inj e)) nz).mono same⟩
  · obtain ⟨hl, l', j, p, h1, h2, h3⟩ := ownA r rp e
    obtain ⟨p', g1, g2, _⟩ := r.own j l' c h2
    rw [h3] at g1
    cases g1
    refine ⟨p, map_some_get.mpr h1, g2.mono same fun _ z => z, fun _ => mem_lent.mpr ⟨i, h1, by rw [e, hl]⟩, fun z => by rw [hl] at z; cases z⟩
  · obtain ⟨hl, a1, a2, a3, a4, a5, a6⟩ := ownA r rp e1
    obtain ⟨hl', b1, b2, b3, b4, b5, b6⟩ := ownA r rp e2
    rw [map_some_get.mp h1] at a4
    rw [map_some_get.mp h2] at b4
    cases a4
    cases b4
    exact ⟨(r.inj _ _ _ _ _ _ _ a5 b5 a6 b6).1, fun z => by rw [hl] at z; cases z⟩
  · obtain ⟨i, h1, h2⟩ := mem_lent.mp h
    exact ⟨i, h2, map_some_get.mpr h1⟩
  · rw [List.getElem?_map] at e
    cases hr : rs[i]? with
    | none => rw [hr] at e; cases e
    | some b =>
      rw [hr] at e
      have e := Option.some.inj e
      unfold co at e
      split at e <;> cases e
/-- behind the call -/
theorem call_back (r : Rel Ω F σ H1 ρ) (rp : RpRs Ω F σ ρ H H1 vs rs) (s : Stp Ω (FrC F σ ρ vs rs H1) (vs.map some) (rs.map co) H1 H2) : Stp Ω F σ ρ H1 H2 := by
  refine r.stepT (fun b o n e => s.keep b o (fun z => n ?_) e) s.tbs s.rel.pin.2 fun i l p e1 e2 oa => ?_
  · obtain ⟨i, l, e1, e2⟩ := z
    obtain ⟨_, l', j, p, h1, h2, h3⟩ := ownA r rp e1
    rw [map_some_get.mp e2] at h1
    cases h1
    exact ⟨j, l', h2, h3⟩
  by_cases z : OwF (vs.map some) (rs.map co) p
  · obtain ⟨j, l1, z1, z2⟩ := z
    obtain ⟨q, g1, g2, _⟩ := s.rel.own j l1 _ z1
    rw [z2] at g1
    cases g1
    exact g2
  · obtain ⟨c, d, e⟩ := oa
    exact ⟨c, d, s.keep p _ z e⟩
theorem res_back {v : V} {a : R} (r : Rel Ω F σ H1 ρ) (rp : RpRs Ω F σ ρ H H1 vs rs) (h : RpR Ω (FrC F σ ρ vs rs H1) (vs.map some) (rs.map co) H1 H2 v a) (ha : a.ret) : RpR Ω F σ ρ H1 H2 v a := by
  have same : Same (Hd (FrC F σ ρ vs rs H1) (vs.map some) (rs.map co) H2) (Hd F σ ρ H2) := hidP_same fun b o h e => ⟨fun z => h ((hid2_iff r rp b).mpr z), e⟩
  cases a with
  | no => exact ha.elim
  | v m => exact Rp.mono same h
  | o l c => exact ha.elim
  | f c =>
    obtain ⟨p, e, hn, no, oa⟩ := h
    exact ⟨p, e, hn, r.notOwn hn, oa.mono (hidP_same fun b o h e => ⟨fun z => h (z.elim (fun z => .inl ((hid2_iff r rp b).mpr z)) .inr), e⟩) fun _ z => z⟩
  | x a d e m => exact ha.elim
theorem call_xl {Wx : WX} {x : X0} (r : Rel Ω F σ H1 ρ) (rp : RpRs Ω F σ ρ H H1 vs rs) (xl : XL Ω F Wx σ ρ H1 x) : XL Ω (FrC F σ ρ vs rs H1) (fun cls d _ H => Wx cls d σ H) (vs.map some) (rs.map co) H1 x := by
  intro er m d H2 v s hd hv hx
  exact xl er m d H2 v (call_back r rp s) ((hidP_same fun b o h e => ⟨fun z => h ((hid2_iff r rp b).mpr z), e⟩) _ _ hd) (hv.mono (hidP_same fun b o h e => ⟨fun z => h ((hid2_iff r rp b).mpr z), e⟩)) hx
/-- the promise is asked -/
theorem spM_of {Wx : WX} {f : FM} {Q : R → Prop} {x : X0} {QQ : VK} (s : Stp Ω F σ ρ H H1) (r0 : Rel Ω F σ H ρ) (rp : RpRs Ω F σ ρ H H1 vs rs) (xl : XL Ω F Wx σ ρ H x) (k : ∀ v H' r, Stp Ω F σ ρ H H' → RpR Ω F σ ρ H H' v r → Q r → QQ v H') (h : f (rs.map co) Q x) : spM Ω f vs H1 QQ (WE Wx σ) :=
  ⟨_, _, rs.map co, Q, x, args_rel s.rel rp fun p hp => r0.notZ hp, call_xl s.rel rp (xl.step s), fun v H' a s' rp' ha q => k v H' a (s.trans (call_back s.rel rp s')) (RpR.back s (res_back s.rel rp rp' ha)) q, h⟩
end
structure CalM (P : Program) (w : World) (Ω : Ev) (mg : Str → Option Value) (base : Heap) (k : Nat) (x : Str) (f : FM) : Prop where
  c : RCal P w Ω.K mg base k x (spM Ω f)
theorem CalM.mono {P : Program} {w : World} {Ω : Ev} {mg : Str → Option Value} {base : Heap} {j k : Nat} {x : Str} {f : FM} (c : CalM P w Ω mg base j x f) (h : j ≤ k) : CalM P w Ω mg base k x f := ⟨rcalMono c.c h⟩
def tmCall (f : FM) (u : TMA) : TM := fun ρ Q x => u ρ (fun rs => f (rs.map co) Q x) x
section
variable {X : Cx} {Ω : Ev} {Wx : WX}
theorem pm_call {k j : Nat} {x : Str} {f : FM} {p pos : Pos} {e : Expr} {es : List Expr} {u : TMA} (c : CalM X.prog X.w Ω X.mg X.base k x f) (hK : X.K = Ω.K) (tk : L2N.Takes X Wx) (hr : Room j X.A) (hk : k ≤ j) (hg : Gl X x) (ha : PA X (e :: es) (lfA Ω Wx u))
    (hdb : (x == ("__debug__" : Str)) = false := by decide) (he : starEach (e :: es) X.env = (false, eval e X.env) :: starEach es X.env := by rfl) (hpl : (backTo pos (starEach es X.env)).any (·.1) = false := by rfl) :
    PE X (.Call (.Name x p) (e :: es) [] pos) (lf Ω Wx (tmCall f u)) := by
  obtain ⟨fa, fd, ps, Fn, hm, kp, b⟩ := c.c.ex
  rw [← hK] at Fn kp b
  refine PE.imp (pe_callSD Fn (hr.mono hk) hg hm kp b .nil (fun σ => L2N.passAt tk σ) ha hdb he hpl) fun σ H QQ hh => ?_
  obtain ⟨F, ρ, Q, x, r, xl, k, t⟩ := hh
  refine ⟨F, ρ, _, x, r, xl, fun vs H1 rs s rp q => ?_, t⟩
  show spM Ω f (vs ++ []) H1 QQ (WE Wx σ)
  rw [List.append_nil]
  exact spM_of s r rp xl k q
end
end PL
namespace PL
open PySem PySem.Spec PyProof.Rows L2 KW
structure CM where
  nx : List R → Prop
  rt : List R → R → Prop
  bk : List R → Prop := fun _ => False
  ct : List R → Prop := fun _ => False
  ex : Nat → M → List R → Prop := fun _ _ _ => False
abbrev TMS := List R → CM → Prop
def InA (F : Fr) (b : Addr) : Prop := ∃ c, (b, c) ∈ F.A0
/-- what is returned -/
def RpT (Ω : Ev) (F : Fr) (H : Hp) (v : V) : R → Prop
  | .v m => Rp Ω (hidP (fun b => InA F b ∨ F.Z b ∨ F.sf = some b) H) v m
  | .f c => ∃ p, v = .ref p ∧ F.H0 p = none ∧ ¬ InA F p ∧ OAt Ω (hidP (fun b => (InA F b ∨ F.Z b) ∨ b = p) H) H p c
  | _ => False
structure Lk (Ω : Ev) (F : Fr) (Wx : WX) (C : CM) (D : Ends) : Prop where
  nx : ∀ σ H ρ, Rel Ω F σ H ρ → C.nx ρ → D.nx σ H
  rt : ∀ σ H ρ v r, Rel Ω F σ H ρ → RpT Ω F H v r → C.rt ρ r → D.rt v H
  bk : ∀ σ H ρ, Rel Ω F σ H ρ → C.bk ρ → D.bk σ H
  ct : ∀ σ H ρ, Rel Ω F σ H ρ → C.ct ρ → D.ct σ H
  ex : ∀ σ H ρ er m d v, Rel Ω F σ H ρ → Hd F σ ρ H d = some (.xd [(ef er, v)]) → Rp Ω (Hd F σ ρ H) v m → C.ex er m ρ → Wx (.ref (Ω.ecs er)) (some d) σ H
def lfS (Ω : Ev) (Wx : WX) (t : TMS) : TS := fun D σ H => ∃ F ρ C, Rel Ω F σ H ρ ∧ Lk Ω F Wx C D ∧ t ρ C
theorem Lk.xl {Ω : Ev} {F : Fr} {Wx : WX} {C : CM} {D : Ends} {σ : L2.St} {H : Hp} {ρ : List R} (k : Lk Ω F Wx C D) : XL Ω F Wx σ ρ H (fun er m => C.ex er m ρ) := fun er m d H' v s hd hv hx => k.ex σ H' ρ er m d v s.rel hd hv hx
theorem InA_sub {Ω : Ev} {F : Fr} {σ : L2.St} {H : Hp} {ρ : List R} (r : Rel Ω F σ H ρ) {b : Addr} (h : InA F b) : Own σ ρ b := by
  obtain ⟨c, hc⟩ := h
  obtain ⟨i, e1, e2⟩ := r.par b c hc
  exact ⟨i, false, c, e1, e2⟩
theorem sf_own {Ω : Ev} {F : Fr} {σ : L2.St} {H : Hp} {ρ : List R} (r : Rel Ω F σ H ρ) {b : Addr} (h : F.sf = some b) : Own σ ρ b := by
  obtain ⟨c, fs, e1, e2⟩ := r.sf b h
  exact ⟨0, true, _, e1, e2⟩
section
variable {X : Cx} {Ω : Ev} {Wx : WX}
theorem PS.imp {st : Stmt} {T T' : TS} (h : PS X st T) (i : ∀ D σ H, T' D σ H → T D σ H) : PS X st T' := ⟨fun pins s σ H D I q => h.run pins s σ H D I (i D σ H q)⟩
theorem PSs.imp {st : List Stmt} {T T' : TS} (h : PSs X st T) (i : ∀ D σ H, T' D σ H → T D σ H) : PSs X st T' := ⟨fun pins s σ H D I q => h.run pins s σ H D I (i D σ H q)⟩
def tmNext : TMS := fun ρ C => C.nx ρ
def tmSeq (t u : TMS) : TMS := fun ρ C => t ρ { C with nx := fun ρ' => u ρ' C }
def tmCut (t u : TMS) : TMS := fun ρ C => ∃ I : List R → Prop, t ρ { C with nx := I } ∧ ∀ ρ', I ρ' → u ρ' C
theorem pms_nil : PSs X [] (lfS Ω Wx tmNext) := PSs.imp pss_nil fun D σ H hh => by
  obtain ⟨F, ρ, C, r, k, t⟩ := hh
  exact k.nx σ H ρ r t
theorem pms_one {st : Stmt} {t : TMS} (h : PS X st (lfS Ω Wx t)) : PSs X [st] (lfS Ω Wx t) := pss_one h
theorem pms_cons {st : Stmt} {rest : List Stmt} {t u : TMS} (h : PS X st (lfS Ω Wx t)) (h2 : PSs X rest (lfS Ω Wx u)) : PSs X (st :: rest) (lfS Ω Wx (tmSeq t u)) := PSs.imp (pss_cons h h2) fun D σ H hh => by
  obtain ⟨F, ρ, C, r, k, t⟩ := hh
  exact ⟨F, ρ, { C with nx := fun ρ' => u ρ' C }, r, ⟨fun σ' H' ρ' r' q => ⟨F, ρ', C, r', k, q⟩, k.rt, k.bk, k.ct, k.ex⟩, t⟩
def tmNever : TMS := fun _ _ => False
theorem pms_never {st : Stmt} : PS X st (lfS Ω Wx tmNever) := PS.imp ps_never fun D σ H hh => by
  obtain ⟨F, ρ, C, r, k, t⟩ := hh
  exact t
/-- slot i may be written -/
def free (ρ : List R) (i : Nat) : Bool := match ρ[i]? with
  | some (.o false _) => false
  | some (.o true (.ins _ _)) => false
  | _ => true
def nofeed (ρ : List R) (i : Nat) : Bool := match ρ[i]? with
  | some (.o _ .feed) => false
  | _ => true
/-- the slot gets the operand -/
def put (i : Nat) (r : R) (ρ : List R) (K : List R → Prop) : Prop := free ρ i = true ∧ match r with
  | .v m => K (ρ.set i (.v m))
  | .f c => K (ρ.set i (.o true c))
  | _ => False
theorem set_get {α : Type} {l : List α} {i j : Nat} {a b : α} (h : (l.set i a)[j]? = some b) : (i = j ∧ b = a) ∨ (i ≠ j ∧ l[j]? = some b) := by
  rw [List.getElem?_set] at h
  split at h
  · rename_i e
    split at h
    · exact .inl ⟨e, (Option.some.inj h).symm⟩
    · cases h
  · rename_i e
    exact .inr ⟨e, h⟩
theorem set_ne {α : Type} {l : List α} {i j : Nat} {a : α} (h : i ≠ j) : (l.set i a)[j]? = l[j]? := by rw [List.getElem?_set, if_neg h]
theorem set_eq {α β : Type} {l : List α} {l' : List β} (hl : l'.length = l.length) {i : Nat} {a : α} {b x : β} (h : (l'.set i b)[i]? = some x) : (l.set i a)[i]? = some a := by
  rw [List.getElem?_set, if_pos rfl] at h ⊢
  split at h
  · rename_i e
    rw [if_pos (by omega)]
  · cases h
section
variable {F : Fr} {σ : L2.St} {ρ : List R} {H H' : Hp}
theorem free_no {i : Nat} (h : free ρ i = true) {c : OC} : ρ[i]? ≠ some (.o false c) := fun e => by
  unfold free at h
  rw [e] at h
  cases h
theorem free_ni {i : Nat} (h : free ρ i = true) {c : Nat} {fs : List (Str × M)} : ρ[i]? ≠ some (.o true (.ins c fs)) := fun e => by
  unfold free at h
  rw [e] at h
  cases h
theorem Rel.excSet {F F' : Fr} {σ : L2.St} {ρ : List R} {H H' : Hp} {i : Nat} {x : Option V} {R0 : R} (r : Rel Ω F σ H ρ) (hR : ∀ a d er m, R0 ≠ .x a d er m) (s : Same (Hd F σ ρ H) (Hd F' (σ.set i x) (ρ.set i R0) H')) : ∀ (j : Nat) (a d : Addr) (er : Nat) (m : M), (ρ.set i R0)[j]? = some (.x a d er m) → (σ.set i x)[j]? = some (some (.ref a)) ∧ XM Ω (Hd F' (σ.set i x) (ρ.set i R0) H') d er m := fun j a d er m e => by
  rcases set_get e with ⟨_, z⟩ | ⟨n, e'⟩
  · exact absurd z.symm (hR a d er m)
  · obtain ⟨g1, g2⟩ := r.exc j a d er m e'
    exact ⟨by rw [set_ne n]; exact g1, g2.mono s⟩
theorem sf_set {i : Nat} {v : Option V} {a : R} (r : Rel Ω F σ H ρ) (hf : free ρ i = true) : ∀ x, F.sf = some x → ∃ c fs, (ρ.set i a)[0]? = some (.o true (.ins c fs)) ∧ (σ.set i v)[0]? = some (some (.ref x)) := fun x hx => by
  obtain ⟨c, fs, e1, e2⟩ := r.sf x hx
  have n : i ≠ 0 := fun z => free_ni hf (z ▸ e1)
  exact ⟨c, fs, by rw [set_ne n]; exact e1, by rw [set_ne n]; exact e2⟩
/-- a value is stored -/
theorem Rel.setV {i : Nat} {v : V} {m : M} (r : Rel Ω F σ H ρ) (hf : free ρ i = true) (h : Rp Ω (Hd F σ ρ H) v m) : Rel Ω F (σ.set i (some v)) H (ρ.set i (.v m)) := by
  have sub : ∀ {b}, Own (σ.set i (some v)) (ρ.set i (.v m)) b → Own σ ρ b := fun {b} ⟨j, l, c, e1, e2⟩ => by
    rcases set_get e1 with ⟨_, z⟩ | ⟨n, e1⟩
    · cases z
    · rw [set_ne n] at e2
      exact ⟨j, l, c, e1, e2⟩
  have same : Same (Hd F σ ρ H) (Hd F (σ.set i (some v)) (ρ.set i (.v m)) H) := hidP_same fun b o n e => ⟨fun z => n (z.imp sub id), e⟩
  refine ⟨by rw [List.length_set, List.length_set, r.len], r.grow, r.zin, fun b z o => r.zno b z (sub o), fun j m' e => ?_, fun j l c e => ?_, fun j k l c l' d p e1 e2 h1 h2 => ?_, fun p c hc => ?_, pinM same r.pin, sf_set r hf, r.excSet (fun _ _ _ _ z => nomatch z) same⟩
  · rcases set_get e with ⟨e0, z⟩ | ⟨n, e'⟩
    · cases z
      subst e0
      exact ⟨v, set_eq r.len e, h.mono same⟩
    · obtain ⟨v', g1, g2⟩ := r.val j m' e'
      exact ⟨v', by rw [set_ne n]; exact g1, g2.mono same⟩
  · rcases set_get e with ⟨_, z⟩ | ⟨n, e'⟩
    · cases z
    · obtain ⟨p, g1, g2, g3⟩ := r.own j l c e'
      exact ⟨p, by rw [set_ne n]; exact g1, g2.mono same fun _ z => z, g3⟩
  · rcases set_get e1 with ⟨_, z⟩ | ⟨n1, e1'⟩
    · cases z
    rcases set_get e2 with ⟨_, z⟩ | ⟨n2, e2'⟩
    · cases z
    rw [set_ne n1] at h1
    rw [set_ne n2] at h2
    exact r.inj j k l c l' d p e1' e2' h1 h2
  · obtain ⟨j, e1, e2⟩ := r.par p c hc
    have n : i ≠ j := fun z => free_no hf (z ▸ e1)
    exact ⟨j, by rw [set_ne n]; exact e1, by rw [set_ne n]; exact e2⟩
/-- what is new is held by the slot -/
theorem Rel.setF {i : Nat} {p : Addr} {c : OC} (r0 : Rel Ω F σ H ρ) (s : Stp Ω F σ ρ H H') (hf : free ρ i = true) (hn : H p = none) (no : ¬ Own σ ρ p) (oa : OAt Ω (hidP (fun b => (Own σ ρ b ∨ F.Z b) ∨ b = p) H') H' p c) : Rel Ω F (σ.set i (some (.ref p))) H' (ρ.set i (.o true c)) := by
  have r := s.rel
  have sub : ∀ {b}, Own (σ.set i (some (.ref p))) (ρ.set i (.o true c)) b → Own σ ρ b ∨ b = p := fun {b} ⟨j, l, d, e1, e2⟩ => by
    rcases set_get e1 with ⟨z0, z⟩ | ⟨n, e1⟩
    · cases z0
      rcases set_get e2 with ⟨_, z⟩ | ⟨n, _⟩
      · cases z
        exact .inr rfl
      · exact absurd rfl n
    · rw [set_ne n] at e2
      exact .inl ⟨j, l, d, e1, e2⟩
  have nz : ¬ F.Z p := r0.notZ hn
  have same : Same (Hd F σ ρ H) (Hd F (σ.set i (some (.ref p))) (ρ.set i (.o true c)) H') := hidP_same fun b o n e => ⟨fun z => by
    rcases z with z | z
    · rcases sub z with z | rfl
      · exact n (.inl z)
      · rw [hn] at e; cases e
    · exact n (.inr z), s.keep b o (fun z => n (.inl z.own)) e⟩
  have same2 : Same (hidP (fun b => (Own σ ρ b ∨ F.Z b) ∨ b = p) H') (Hd F (σ.set i (some (.ref p))) (ρ.set i (.o true c)) H') := hidP_same fun b o n e => ⟨fun z => n (z.elim (fun z => (sub z).elim (fun z => .inl (.inl z)) .inr) fun z => .inl (.inr z)), e⟩
  refine ⟨by rw [List.length_set, List.length_set, r.len], r.grow, r.zin, fun b z o => ?_, fun j m e => ?_, fun j l d e => ?_, fun j k l c1 l' d q e1 e2 h1 h2 => ?_, fun q d hc => ?_, ⟨(pinM same r0.pin).1, r.pin.2⟩, sf_set r0 hf, r0.excSet (fun _ _ _ _ z => nomatch z) same⟩
  · rcases sub o with o | rfl
    · exact r.zno b z o
    · exact nz z
  · rcases set_get e with ⟨_, z⟩ | ⟨n, e'⟩
    · cases z
    · obtain ⟨v', g1, g2⟩ := r0.val j m e'
      exact ⟨v', by rw [set_ne n]; exact g1, g2.mono same⟩
  · rcases set_get e with ⟨e0, z⟩ | ⟨n, e'⟩
    · cases z
      subst e0
      exact ⟨p, set_eq r.len e, oa.mono same2 fun _ z => z, (fun z => by cases z), fun _ => r0.fresh0 hn⟩
    · obtain ⟨q, g1, g2, g3⟩ := r0.own j l d e'
      obtain ⟨q', g1', g2', _⟩ := r.own j l d e'
      rw [g1] at g1'
      cases g1'
      refine ⟨q, by rw [set_ne n]; exact g1, ?_, g3⟩
      by_cases hc : d = .feed
      · subst hc
        exact g2'
      · refine g2.mono same fun o eo => s.keep q o (fun z => hc ?_) eo
        obtain ⟨k, l', z1, z2⟩ := z
        exact (r0.inj _ _ _ _ _ _ _ e' z1 g1 z2).1
  · rcases set_get e1 with ⟨z0, z⟩ | ⟨n1, e1'⟩
    · cases z
      subst z0
      rcases set_get e2 with ⟨z0, z⟩ | ⟨n2, e2'⟩
      · cases z
        exact ⟨rfl, fun _ => z0⟩
      · rw [set_eq r.len e1] at h1
        cases h1
        rw [set_ne n2] at h2
        exact absurd ⟨k, l', d, e2', h2⟩ no
    · rw [set_ne n1] at h1
      rcases set_get e2 with ⟨z0, z⟩ | ⟨n2, e2'⟩
      · cases z
        subst z0
        rw [set_eq r.len e2] at h2
        cases h2
        exact absurd ⟨j, l, c1, e1', h1⟩ no
      · rw [set_ne n2] at h2
        exact r.inj j k l c1 l' d q e1' e2' h1 h2
  · obtain ⟨j, e1, e2⟩ := r.par q d hc
    have n : i ≠ j := fun z => free_no hf (z ▸ e1)
    exact ⟨j, by rw [set_ne n]; exact e1, by rw [set_ne n]; exact e2⟩
/-- one more is hidden -/
def Fr.hide (F : Fr) (p : Addr) : Fr := { F with Z := fun b => F.Z b ∨ b = p }
theorem Rel.hide {p : Addr} (r : Rel Ω F σ H ρ) (s : Stp Ω F σ ρ H H') (hn : H p = none) (ht : ∃ o, H' p = some o ∧ NT o) : Rel Ω (F.hide p) σ H' ρ := by
  have no := r.notOwn hn
  have same : Same (Hd F σ ρ H) (Hd (F.hide p) σ ρ H') := hidP_same fun b o n e => ⟨(fun z => by
    rcases z with z | z | rfl
    · exact n (.inl z)
    · exact n (.inr z)
    · rw [hn] at e; cases e), s.keep b o (fun z => n (.inl z.own)) e⟩
  refine ⟨r.len, s.rel.grow, fun b z => ?_, fun b z o => ?_, fun i m e => ?_, fun i l c e => ?_, r.inj, r.par, ⟨(pinM same r.pin).1, s.rel.pin.2⟩, r.sf, r.excS same⟩
  · rcases z with z | rfl
    · exact s.rel.zin b z
    · exact ht
  · rcases z with z | rfl
    · exact r.zno b z o
    · exact no o
  · obtain ⟨v, h1, h2⟩ := r.val i m e
    exact ⟨v, h1, h2.mono same⟩
  · obtain ⟨q, h1, h2, h3⟩ := r.own i l c e
    refine ⟨q, h1, ?_, h3⟩
    by_cases hc : c = .feed
    · subst hc
      obtain ⟨q', h1', h2', _⟩ := s.rel.own i l _ e
      rw [h1] at h1'
      cases h1'
      exact h2'
    · refine h2.mono same fun o eo => s.keep q o (fun z => hc ?_) eo
      obtain ⟨k, l', z1, z2⟩ := z
      exact (r.inj _ _ _ _ _ _ _ e z1 h1 z2).1
theorem Rel.unhide {p : Addr} (r : Rel Ω (F.hide p) σ H ρ) : Rel Ω F σ H ρ := by
  have same : Same (Hd (F.hide p) σ ρ H) (Hd F σ ρ H) := hidP_same fun b o n e => ⟨fun z => n (z.imp id .inl), e⟩
  refine ⟨r.len, r.grow, fun b z => r.zin b (.inl z), fun b z => r.zno b (.inl z), fun i m e => ?_, fun i l c e => ?_, r.inj, r.par, pinM same r.pin, r.sf, r.excS same⟩
  · obtain ⟨v, h1, h2⟩ := r.val i m e
    exact ⟨v, h1, h2.mono same⟩
  · obtain ⟨q, h1, h2, h3⟩ := r.own i l c e
    exact ⟨q, h1, h2.mono same fun _ z => z, h3⟩
theorem Stp.unhide {p : Addr} (s : Stp Ω (F.hide p) σ ρ H H') : Stp Ω F σ ρ H H' := ⟨s.rel.unhide, s.keep, s.tbs⟩
theorem XL.hide {p : Addr} {x : X0} (h : XL Ω F Wx σ ρ H x) : XL Ω (F.hide p) Wx σ ρ H x := fun er m d H' v s hd hv hx => h er m d H' v s.unhide ((hidP_same fun b o n e => ⟨fun z => n (z.imp id .inl), e⟩) _ _ hd) (hv.mono (hidP_same fun b o n e => ⟨fun z => n (z.imp id .inl), e⟩)) hx
end
/-- targets are stored one by one while the sides are read in the slots as they were -/
structure Par (Ω : Ev) (F F' : Fr) (σ0 : L2.St) (ρ0 : List R) (σc : L2.St) (ρc : List R) (H : Hp) : Prop where
  e : Rel Ω F' σ0 H ρ0
  c : Rel Ω F σc H ρc
  sub : ∀ b, Own σc ρc b ∨ F.Z b → Own σ0 ρ0 b ∨ F'.Z b
  fd : ∀ b, OwF σ0 ρ0 b → OwF σc ρc b
theorem Par.init {F : Fr} {σ : L2.St} {ρ : List R} {H : Hp} (r : Rel Ω F σ H ρ) : Par Ω F F σ ρ σ ρ H := ⟨r, r, fun _ h => h, fun _ h => h⟩
section
variable {F F' : Fr} {σ0 σc : L2.St} {ρ0 ρc : List R} {H H1 : Hp}
theorem Par.stp (P : Par Ω F F' σ0 ρ0 σc ρc H) (s : Stp Ω F' σ0 ρ0 H H1) : Stp Ω F σc ρc H H1 := by
  refine P.c.stepT (fun b o n e => s.keep b o (fun z => n (P.fd b z)) e) s.tbs s.rel.pin.2 fun i l p e1 e2 hf => ?_
  by_cases z : OwF σ0 ρ0 p
  · obtain ⟨j, l', z1, z2⟩ := z
    obtain ⟨q, g1, g2, _⟩ := s.rel.own j l' _ z1
    rw [z2] at g1
    cases g1
    exact g2
  · obtain ⟨c, d, e⟩ := hf
    exact ⟨c, d, s.keep p _ z e⟩
theorem Par.next {i : Nat} {v : V} {a : R} {K : List R → Prop} (P : Par Ω F F' σ0 ρ0 σc ρc H) (s : Stp Ω F' σ0 ρ0 H H1) (rp : RpR Ω F' σ0 ρ0 H H1 v a) (q : put i a ρc K) : ∃ ρ', Rel Ω F (σc.set i (some v)) H1 ρ' ∧ K ρ' ∧
    (nofeed ρc i = true → ∃ F'', Par Ω F F'' σ0 ρ0 (σc.set i (some v)) ρ' H1 ∧ ∀ (Wx : WX) (x : X0), XL Ω F' Wx σ0 ρ0 H x → XL Ω F'' Wx σ0 ρ0 H1 x) := by
  obtain ⟨hf, q⟩ := q
  have sc := P.stp s
  have fd : ∀ (r : R), nofeed ρc i = true → ∀ b, OwF σ0 ρ0 b → OwF (σc.set i (some v)) (ρc.set i r) b := fun r hn b z => by
    obtain ⟨j, l, e1, e2⟩ := P.fd b z
    have n : i ≠ j := fun h => by
      subst h
      unfold nofeed at hn
      rw [e1] at hn
      cases hn
    exact ⟨j, l, by rw [set_ne n]; exact e1, by rw [set_ne n]; exact e2⟩
  cases a with
  | no => exact q.elim
  | v m =>
    have h : Rp Ω (Hd F σc ρc H1) v m := Rp.mono (hidP_same fun b o n e => ⟨fun z => n (P.sub b z), e⟩) rp
    refine ⟨_, sc.rel.setV hf h, q, fun hn => ⟨F', ⟨s.rel, sc.rel.setV hf h, fun b z => P.sub b (z.imp (fun z => ?_) id), fd _ hn⟩, fun _ _ xl => xl.step s⟩⟩
    obtain ⟨j, l, c, e1, e2⟩ := z
    rcases set_get e1 with ⟨_, z⟩ | ⟨n, e1⟩
    · cases z
    · rw [set_ne n] at e2
      exact ⟨j, l, c, e1, e2⟩
  | o l c => exact q.elim
  | f c =>
    obtain ⟨p, rfl, hn, no, oa⟩ := rp
    have noc : ¬ Own σc ρc p := P.c.notOwn hn
    have oa' : OAt Ω (hidP (fun b => (Own σc ρc b ∨ F.Z b) ∨ b = p) H1) H1 p c := oa.mono (hidP_same fun b o n e => ⟨fun z => n (z.imp (P.sub b) id), e⟩) fun _ z => z
    have R := Rel.setF P.c sc hf hn noc oa'
    refine ⟨_, R, q, fun hh => ⟨F'.hide p, ⟨P.e.hide s hn oa.there, R, fun b z => ?_, fd _ hh⟩, fun _ _ xl => (xl.step s).hide⟩⟩
    rcases z with ⟨j, l, d, e1, e2⟩ | z
    · rcases set_get e1 with ⟨z0, z⟩ | ⟨n, e1⟩
      · subst z0
        rcases set_get e2 with ⟨_, z⟩ | ⟨n, _⟩
        · cases z
          exact .inr (.inr rfl)
        · exact absurd rfl n
      · rw [set_ne n] at e2
        exact (P.sub b (.inl ⟨j, l, d, e1, e2⟩)).imp id .inl
    · exact (P.sub b (.inr z)).imp id .inl
  | x a d e m => exact q.elim
end
def tmSet (i : Nat) (t : TM) : TMS := fun ρ C => t ρ (fun r => put i r ρ C.nx) (fun er m => C.ex er m ρ)
theorem set_run {i : Nat} {t : TM} {D : Ends} {σ : L2.St} {H : Hp} (h : lfS Ω Wx (tmSet i t) D σ H) : lf Ω Wx t σ H (fun x H1 => gName i x σ H1 D.nx) := by
  obtain ⟨F, ρ, C, r, k, t⟩ := h
  refine ⟨F, ρ, _, _, r, k.xl, fun v H1 a s rp q => ?_, t⟩
  obtain ⟨ρ', R, q', _⟩ := (Par.init r).next s rp q
  exact k.nx _ _ ρ' R q'
theorem pms_set {i : Nat} {x : Str} {e : Expr} {t : TM} {pos pos' : Pos} (hN : X.N.Nodup) (hi : X.N[i]? = some x) (hx : Loc X.env.scope x) (he : PE X e (lf Ω Wx t)) (hs : swapsWith e (some (.Name x pos')) pos.line X.env = pure false := by rfl) (hf : X.fn x = true ∨ X.env.scope.names.lookup x = some .local := by first | exact .inl rfl | exact .inr rfl | assumption) :
    PS X (.Assign [.Name x pos'] e pos) (lfS Ω Wx (tmSet i t)) := PS.imp (ps_set hN hi hx he hs hf) fun D σ H hh => set_run hh
def tmPar (i j : Nat) (t u : TM) : TMS := fun ρ C => nofeed ρ i = true ∧ t ρ (fun a => put i a ρ fun ρ1 => u ρ (fun b => put j b ρ1 C.nx) fun er m => C.ex er m ρ) (fun er m => C.ex er m ρ)
theorem par_run {i j : Nat} {t u : TM} {D : Ends} {σ : L2.St} {H : Hp} (h : lfS Ω Wx (tmPar i j t u) D σ H) : tPar i j (tCons (lf Ω Wx t) (tCons (lf Ω Wx u) tNil)) D σ H := by
  obtain ⟨F, ρ, C, r, k, hn, t⟩ := h
  refine ⟨F, ρ, _, _, r, k.xl, fun v H1 a s rp q => ?_, t⟩
  obtain ⟨ρ1, R, q1, P1⟩ := (Par.init r).next s rp q
  obtain ⟨F1, P1, xl1⟩ := P1 hn
  refine ⟨F1, ρ, _, _, P1.e, xl1 _ _ k.xl, fun w H2 b s2 rp2 q2 => ?_, q1⟩
  obtain ⟨ρ2, R2, q2, _⟩ := P1.next s2 rp2 q2
  exact ⟨v, w, rfl, k.nx _ _ ρ2 R2 q2⟩
theorem pms_par {i j : Nat} {x y : Str} {a b : Expr} {t u : TM} {px py pt : Pos} {kt k2 pt2} {pos : Pos} (hc : X.calm = true) (hN : X.N.Nodup) (hi : X.N[i]? = some x) (hj : X.N[j]? = some y) (hij : i ≠ j)
    (hx : X.env.scope.names.lookup x = some .local) (hy : X.env.scope.names.lookup y = some .local) (ha : PE X a (lf Ω Wx t)) (hb : PE X b (lf Ω Wx u))
    (hw : swappedStores [.Tuple [.Name x px, .Name y py] kt pt] (.Tuple [a, b] k2 pt2) X.env = pure (some [x, y]))
    (hs : swapsWithSole [.Tuple [.Name x px, .Name y py] kt pt] (.Tuple [a, b] k2 pt2) pos.line X.env = pure false := by rfl) (h1 : starEach [a, b] X.env = (false, eval a X.env) :: starEach [b] X.env := by rfl) (h2 : starEach [b] X.env = (false, eval b X.env) :: starEach [] X.env := by rfl) :
    PS X (.Assign [.Tuple [.Name x px, .Name y py] kt pt] (.Tuple [a, b] k2 pt2) pos) (lfS Ω Wx (tmPar i j t u)) := PS.imp (ps_par hc hN hi hj hij hx hy (pa_cons ha (pa_cons hb pa_nil h2) h1) hw hs) fun D σ H hh => par_run hh
def tmPar3 (i j l : Nat) (t u z : TM) : TMS := fun ρ C => nofeed ρ i = true ∧ nofeed ρ j = true ∧ t ρ (fun a => put i a ρ fun ρ1 => u ρ (fun b => put j b ρ1 fun ρ2 => nofeed ρ1 j = true ∧ z ρ (fun c => put l c ρ2 C.nx) fun er m => C.ex er m ρ) fun er m => C.ex er m ρ) (fun er m => C.ex er m ρ)
theorem par3_run {i j l : Nat} {t u z : TM} {D : Ends} {σ : L2.St} {H : Hp} (h : lfS Ω Wx (tmPar3 i j l t u z) D σ H) : tPar3 i j l (tCons (lf Ω Wx t) (tCons (lf Ω Wx u) (tCons (lf Ω Wx z) tNil))) D σ H := by
  obtain ⟨F, ρ, C, r, k, hn, _, t⟩ := h
  refine ⟨F, ρ, _, _, r, k.xl, fun v H1 a s rp q => ?_, t⟩
  obtain ⟨ρ1, R, q1, P1⟩ := (Par.init r).next s rp q
  obtain ⟨F1, P1, xl1⟩ := P1 hn
  refine ⟨F1, ρ, _, _, P1.e, xl1 _ _ k.xl, fun w H2 b s2 rp2 q2 => ?_, q1⟩
  obtain ⟨ρ2, R2, ⟨hn2, q2⟩, P2⟩ := P1.next s2 rp2 q2
  obtain ⟨F2, P2, xl2⟩ := P2 hn2
  refine ⟨F2, ρ, _, _, P2.e, xl2 _ _ (xl1 _ _ k.xl), fun y H3 c s3 rp3 q3 => ?_, q2⟩
  obtain ⟨ρ3, R3, q3, _⟩ := P2.next s3 rp3 q3
  exact ⟨v, w, y, rfl, k.nx _ _ ρ3 R3 q3⟩
theorem pms_par3 {i j l : Nat} {x y z : Str} {a b c : Expr} {t u s : TM} {px py pz pt pos : Pos} {kt k2 pt2} (hc : X.calm = true) (hN : X.N.Nodup) (hi : X.N[i]? = some x) (hj : X.N[j]? = some y) (hl : X.N[l]? = some z) (hij : i ≠ j) (hil : i ≠ l) (hjl : j ≠ l)
    (hx : X.env.scope.names.lookup x = some .local) (hy : X.env.scope.names.lookup y = some .local) (hz : X.env.scope.names.lookup z = some .local) (ha : PE X a (lf Ω Wx t)) (hb : PE X b (lf Ω Wx u)) (hc' : PE X c (lf Ω Wx s))
    (hw : swappedStores [.Tuple [.Name x px, .Name y py, .Name z pz] kt pt] (.Tuple [a, b, c] k2 pt2) X.env = pure (some [x, y, z]))
    (hs : swapsWithSole [.Tuple [.Name x px, .Name y py, .Name z pz] kt pt] (.Tuple [a, b, c] k2 pt2) pos.line X.env = pure false := by rfl)
    (h1 : starEach [a, b, c] X.env = (false, eval a X.env) :: starEach [b, c] X.env := by rfl) (h2 : starEach [b, c] X.env = (false, eval b X.env) :: starEach [c] X.env := by rfl) (h3 : starEach [c] X.env = (false, eval c X.env) :: starEach [] X.env := by rfl) :
    PS X (.Assign [.Tuple [.Name x px, .Name y py, .Name z pz] kt pt] (.Tuple [a, b, c] k2 pt2) pos) (lfS Ω Wx (tmPar3 i j l t u s)) := PS.imp (ps_par3 hc hN hi hj hl hij hil hjl hx hy hz (pa_cons ha (pa_cons hb (pa_cons hc' pa_nil h3) h2) h1) hw hs) fun D σ H hh => par3_run hh
def tmIfS (c : TMB) (t u : TMS) : TMS := fun ρ C => c ρ (fun b => if b = true then t ρ C else u ρ C) (fun er m => C.ex er m ρ)
theorem pms_if {c : Expr} {a b : List Stmt} {pos : Pos} {tc : TMB} {t u : TMS} (hc : PT X c (lfB Ω Wx tc)) (ha : PSs X a (lfS Ω Wx t)) (hb : PSs X b (lfS Ω Wx u)) : PS X (.If c a b pos) (lfS Ω Wx (tmIfS tc t u)) := PS.imp (ps_if hc ha hb) fun D σ H hh => by
  obtain ⟨F, ρ, C, r, k, t⟩ := hh
  refine ⟨F, ρ, _, _, r, k.xl, fun b H1 s q => ?_, t⟩
  cases b with
  | true => exact iteT ⟨F, ρ, C, s.rel, k, by simpa using q⟩
  | false => exact iteF ⟨F, ρ, C, s.rel, k, by simpa using q⟩
def retM (r : R) (K : R → Prop) : Prop := match r with
  | .v m => K (.v m)
  | .f c => K (.f c)
  | .o true c => K (.f c)
  | _ => False
def tmRet (t : TM) : TMS := fun ρ C => t ρ (fun r => retM r (C.rt ρ)) (fun er m => C.ex er m ρ)
theorem ret_rt {F : Fr} {σ : L2.St} {ρ : List R} {H H1 : Hp} {v : V} {a : R} {K : R → Prop} (r : Rel Ω F σ H ρ) (s : Stp Ω F σ ρ H H1) (rp : RpR Ω F σ ρ H H1 v a) (q : retM a K) : ∃ a', RpT Ω F H1 v a' ∧ K a' := by
  unfold retM at q
  split at q
  · rename_i m
    refine ⟨.v m, (show Rp Ω (hidP (fun b => InA F b ∨ F.Z b ∨ F.sf = some b) H1) v m from Rp.mono (hidP_same fun b o n e => ⟨fun z => n (z.elim (fun z => .inl (InA_sub s.rel z)) fun z => z.elim .inr fun z => .inl (sf_own s.rel z)), e⟩) rp), q⟩
  · rename_i c
    obtain ⟨p, e, hn, no, oa⟩ := rp
    exact ⟨.f c, ⟨p, e, r.fresh0 hn, fun z => no (InA_sub s.rel z), oa.mono (hidP_same fun b o n e => ⟨fun z => n (z.imp (fun z => z.imp (InA_sub s.rel) id) id), e⟩) fun _ z => z⟩, q⟩
  · rename_i c
    obtain ⟨i, e1, e2⟩ := rp
    obtain ⟨p, h1, h2, _, h4⟩ := s.rel.own i _ _ e1
    rw [e2] at h1
    cases h1
    refine ⟨.f c, ⟨p, rfl, h4 rfl, fun ⟨c', z⟩ => ?_, h2.mono (hidP_same fun b o n e => ⟨fun z => n (z.elim (fun z => z.imp (InA_sub s.rel) id) fun z => .inl ⟨i, _, _, e1, by rw [z]; exact e2⟩), e⟩) fun _ z => z⟩, q⟩
    obtain ⟨j, z1, z2⟩ := s.rel.par p c' z
    have e := (s.rel.inj _ _ _ _ _ _ _ e1 z1 e2 z2).2 rfl
    subst e
    rw [e1] at z1
    cases z1
  · exact q.elim
theorem pms_ret {e : Expr} {pos : Pos} {t : TM} (he : PE X e (lf Ω Wx t)) : PS X (.Return (some e) pos) (lfS Ω Wx (tmRet t)) := PS.imp (ps_ret he) fun D σ H hh => by
  obtain ⟨F, ρ, C, r, k, t⟩ := hh
  refine ⟨F, ρ, _, _, r, k.xl, fun v H1 a s rp q => ?_, t⟩
  obtain ⟨a', h1, h2⟩ := ret_rt r s rp q
  exact k.rt σ H1 ρ v a' s.rel h1 h2
def tmDrop (t : TM) : TMS := fun ρ C => t ρ (fun _ => C.nx ρ) (fun er m => C.ex er m ρ)
/-- what slot i holds alone is a value from now on -/
def frz (i : Nat) (ρ : List R) : List R := match ρ[i]? with
  | some (.o true (.lst xs)) => ρ.set i (.v (.lst xs))
  | _ => ρ
end
end PL
namespace PL
open PySem PySem.Spec PyProof.Rows L2 KW
section
variable {P : Program} {w : World} {Ω : Ev} {mg : Str → Option Value} {base : Heap}
def endC (Q : R → Prop) (x : X0) : CM := { nx := fun _ => Q (.v .non), rt := fun _ => Q, ex := fun er m _ => x er m }
theorem start_get {vs : List V} {n i : Nat} {v : V} (h : (vs.map some ++ List.replicate n (none : Option V))[i]? = some (some v)) : (vs.map some)[i]? = some (some v) := by
  rw [List.getElem?_append] at h
  split at h
  · exact h
  · rw [List.getElem?_replicate] at h
    split at h <;> cases h
theorem rest_get {rs : List R} {n i : Nat} {a : R} (h : (rs ++ List.replicate n R.no)[i]? = some a) : rs[i]? = some a ∨ a = .no := by
  rw [List.getElem?_append] at h
  split at h
  · exact .inl h
  · rw [List.getElem?_replicate] at h
    split at h
    · exact .inr (Option.some.inj h).symm
    · cases h
theorem app_get {α : Type} {l m : List α} {i : Nat} {a : α} (h : l[i]? = some a) : (l ++ m)[i]? = some a := by
  have hi : i < l.length := (List.getElem?_eq_some_iff.mp h).1
  rw [List.getElem?_append_left hi]
  exact h
/-- at the entry of a def -/
theorem Rel.entry {F : Fr} {H : Hp} {vs : List V} {rs : List R} (n : Nat) (r : Rel Ω F (vs.map some) H rs) : Rel Ω F (vs.map some ++ List.replicate n none) H (rs ++ List.replicate n R.no) := by
  have ow : ∀ b, Own (vs.map some ++ List.replicate n none) (rs ++ List.replicate n R.no) b ↔ Own (vs.map some) rs b := fun b => by
    constructor
    · rintro ⟨i, l, c, e1, e2⟩
      rcases rest_get e1 with e1 | z
      · exact ⟨i, l, c, e1, start_get e2⟩
      · cases z
    · rintro ⟨i, l, c, e1, e2⟩
      exact ⟨i, l, c, app_get e1, app_get e2⟩
  have same : Same (Hd F (vs.map some) rs H) (Hd F (vs.map some ++ List.replicate n none) (rs ++ List.replicate n R.no) H) := hidP_same fun b o n e => ⟨fun z => n (z.imp (ow b).mp id), e⟩
  refine ⟨by rw [List.length_append, List.length_append, r.len, List.length_replicate, List.length_replicate], r.grow, r.zin, fun b z o => r.zno b z ((ow b).mp o), fun i m e => ?_, fun i l c e => ?_, fun i j l c l' d p e1 e2 h1 h2 => ?_, fun p c h => ?_, pinM same r.pin, fun x hx => (r.sf x hx).elim fun c ⟨fs, e1, e2⟩ => ⟨c, fs, app_get e1, app_get e2⟩, fun i a d er m e => ?_⟩
  · rcases rest_get e with e | z
    · obtain ⟨v, h1, h2⟩ := r.val i m e
      exact ⟨v, app_get h1, h2.mono same⟩
    · cases z
  · rcases rest_get e with e | z
    · obtain ⟨p, h1, h2, h3⟩ := r.own i l c e
      exact ⟨p, app_get h1, h2.mono same fun _ z => z, h3⟩
    · cases z
  · rcases rest_get e1 with e1 | z
    · rcases rest_get e2 with e2 | z
      · exact r.inj i j l c l' d p e1 e2 (start_get h1) (start_get h2)
      · cases z
    · cases z
  · obtain ⟨i, e1, e2⟩ := r.par p c h
    exact ⟨i, app_get e1, app_get e2⟩
  · rcases rest_get e with e | z
    · obtain ⟨h1, h2⟩ := r.exc i a d er m e
      exact ⟨app_get h1, h2.mono same⟩
    · cases z
/-- at its end: the arguments as they were -/
theorem Rel.exit {A0 : List (Addr × OC)} {Z : Addr → Prop} {H H' : Hp} {vs : List V} {rs : List R} {σ : L2.St} {ρ : List R} (r0 : Rel Ω (Fr0 A0 H Z) (vs.map some) H rs) (r : Rel Ω (Fr0 A0 H Z) σ H' ρ) : Stp Ω (Fr0 A0 H Z) (vs.map some) rs H H' := by
  refine r0.stepT (fun b o n e => r.grow.1 b o e fun hb => n ?_) r.grow.2 r.pin.2 fun i l p e1 e2 _ => ?_
  · obtain ⟨i, h1, h2⟩ := r0.par b _ hb
    exact ⟨i, false, h1, h2⟩
  · obtain ⟨p', h1, h2, h3, h4⟩ := r0.own i l _ e1
    rw [e2] at h1
    cases h1
    cases l with
    | false =>
      obtain ⟨j, g1, g2⟩ := r.par p _ (h3 rfl)
      obtain ⟨q, k1, k2, _⟩ := r.own j _ _ g1
      rw [g2] at k1
      cases k1
      exact k2
    | true =>
      obtain ⟨o, eo, _⟩ := h2.there
      have : H p = none := h4 rfl
      rw [this] at eo
      cases eo
theorem InA_iff {A0 : List (Addr × OC)} {Z : Addr → Prop} {H : Hp} {vs : List V} {rs : List R} (r0 : Rel Ω (Fr0 A0 H Z) (vs.map some) H rs) (b : Addr) : InA (Fr0 A0 H Z) b ↔ Own (vs.map some) rs b := by
  constructor
  · exact InA_sub r0
  · rintro ⟨i, l, c, e1, e2⟩
    obtain ⟨p', h1, h2, h3, h4⟩ := r0.own i l _ e1
    rw [e2] at h1
    cases h1
    cases l with
    | false => exact ⟨c, h3 rfl⟩
    | true =>
      obtain ⟨o, eo, _⟩ := h2.there
      have : H b = none := h4 rfl
      rw [this] at eo
      cases eo
theorem def_end {A0 : List (Addr × OC)} {Z : Addr → Prop} {H : Hp} {vs : List V} {rs : List R} {Qm : R → Prop} {xm : X0} {Q : VK} {E : XK} (r0 : Rel Ω (Fr0 A0 H Z) (vs.map some) H rs) (xl : XL Ω (Fr0 A0 H Z) (fun cls d _ H => E cls d H) (vs.map some) rs H xm)
    (k : ∀ v H' r, Stp Ω (Fr0 A0 H Z) (vs.map some) rs H H' → RpR Ω (Fr0 A0 H Z) (vs.map some) rs H H' v r → r.ret → Qm r → Q v H') : Lk Ω (Fr0 A0 H Z) (fun cls d _ H => E cls d H) (endC Qm xm) { nx := fun _ H' => Q .non H', rt := Q } := by
  have ia := InA_iff r0
  refine ⟨fun σ H' ρ r q => k .non H' (.v .non) (r0.exit r) (rv .non) trivial q, fun σ H' ρ v a r rp q => ?_, fun _ _ _ _ z => z.elim, fun _ _ _ _ z => z.elim, fun σ H' ρ er m d v r hd hv hx => ?_⟩
  · cases a with
    | no => exact rp.elim
    | v m => exact k v H' (.v m) (r0.exit r) (rv (Rp.mono (hidP_same fun b o n e => ⟨fun z => n (z.imp (ia b).mpr .inl), e⟩) rp)) trivial q
    | o l c => exact rp.elim
    | f c =>
      obtain ⟨p, e, hn, no, oa⟩ := rp
      exact k v H' (.f c) (r0.exit r) ⟨p, e, hn, fun z => no ((ia p).mpr z), oa.mono (hidP_same fun b o n e => ⟨fun z => n (z.imp (fun z => z.imp (ia b).mpr id) id), e⟩) fun _ z => z⟩ trivial q
    | x a d e m => exact rp.elim
  · exact xl er m d H' v (r0.exit r) ((hidP_same fun b o n e => ⟨fun z => n (z.imp (fun z => InA_sub r ((ia b).mpr z)) id), e⟩) _ _ hd) (hv.mono (hidP_same fun b o n e => ⟨fun z => n (z.imp (fun z => InA_sub r ((ia b).mpr z)) id), e⟩)) hx
/-- a def of the module, walked -/
theorem calM {x : Str} {st : Stmt} {N ps : List Str} {k : Nat} {f : FM} {t : TMS} (D : Df Ω.K mg x st ps) (S : FnScope N ps (defScope st)) (len : ∀ rs Q x, f rs Q x → rs.length = ps.length)
    (body : ∀ (fa : Addr) (cdv : Value) (A : Around) (outer : List Env) (s : Shared) (H : Hp) (E : XK), Room k (A.deeper (envOfC x (defScope st) s.heap.objs.size fa cdv)) → PSs (cxOf (L2N.CX P w) P w Ω.K mg base N x (defScope st) fa cdv A outer s H E) (defBody st) (lfS Ω (fun cls d _ H => E cls d H) t))
    (h : ∀ rs Q x, f rs Q x → t (rs ++ List.replicate (N.length - ps.length) .no) (endC Q x)) : CalM P w Ω mg base (k + 1) x f := by
  refine ⟨D.rcal S (fun vs H Q E hh => ?_) (fun fa cdv A outer s H vs Q E hr hh => ?_)⟩
  · obtain ⟨A0, Z, rs, Qm, xm, r, xl, kk, hf⟩ := hh
    rw [← len rs Qm xm hf, r.len, List.length_map]
  · obtain ⟨A0, Z, rs, Qm, xm, r, xl, kk, hf⟩ := hh
    refine ⟨_, body fa cdv A outer s H E hr, ?_⟩
    have hl : vs.length = ps.length := by rw [← len rs Qm xm hf, r.len, List.length_map]
    refine ⟨_, _, endC Qm xm, ?_, def_end r xl kk, h rs Qm xm hf⟩
    show Rel Ω (Fr0 A0 H Z) (vs.map some ++ List.replicate (N.length - vs.length) none) H _
    rw [hl]
    exact r.entry _
/-- a def that is never called -/
theorem calM_never {x : Str} {st : Stmt} {ps : List Str} {f : FM} (D : Df Ω.K mg x st ps) (h : ∀ rs Q x, ¬ f rs Q x) : CalM P w Ω mg base 0 x f := by
  obtain ⟨fa, fd, F, hm, kp, b⟩ := D.ex
  exact ⟨fa, fd, ps, ⟨fun vs H Q E ⟨_, _, rs, Qm, xm, _, _, _, q⟩ => (h _ _ _ q).elim, fun A outer s H args us vs Q E hr he hb hv ⟨_, _, rs, Qm, xm, _, _, _, q⟩ => (h _ _ _ q).elim⟩, hm, kp, b⟩
end
end PL
namespace PL
open PySem PySem.Spec PyProof.Rows L2 KW
/-- what is walked: items of hidden heap Hr, the object in Hf -/
inductive Src (Ω : Ev) (Hr Hf : Hp) : It → List M → Prop where
  | lst {p : Addr} {vs : List V} {ms : List M} (h : Hf p = some (.lst vs)) (a : RpL Ω Hr vs ms) : Src Ω Hr Hf (Itl Ω.K p) ms
  | tup {p : Addr} {vs : List V} {ms : List M} (h : SqT Ω.K Hf p vs) (a : RpL Ω Hr vs ms) : Src Ω Hr Hf (Itt Ω.K p) ms
  | str {l : List Nat} : Src Ω Hr Hf (Its (S l)) (l.map fun c => .str [c])
  | rng {lo : Int} {n : Nat} : Src Ω Hr Hf (Itr lo n) ((List.range n).map fun i => .int (lo + (i : Nat)))
  | enm {p : Addr} {vs : List V} {ms : List M} (h : Hf p = some (.lst vs)) (a : RpL Ω Hr vs ms) : Src Ω Hr Hf (Ite Ω.K p) (ms.zipIdx.map fun z => .tup [.int (z.2 : Nat), z.1])
  | zipL {p q : Addr} {vs ws : List V} {ms ns : List M} (h : Hf p = some (.lst vs)) (a : RpL Ω Hr vs ms) (h' : Hf q = some (.lst ws)) (b : RpL Ω Hr ws ns) : Src Ω Hr Hf (Itz Ω.K p q) ((ms.zip ns).map fun z => .tup [z.1, z.2])
  | zipT {p q : Addr} {vs ws : List V} {ms ns : List M} (h : SqT Ω.K Hf p vs) (a : RpL Ω Hr vs ms) (h' : SqT Ω.K Hf q ws) (b : RpL Ω Hr ws ns) : Src Ω Hr Hf (RZ.ItzT Ω.K p q) ((ms.zip ns).map fun z => .tup [z.1, z.2])
  | zipS {l : List Nat} {q : Addr} {ws : List V} {ns : List M} (h' : Hf q = some (.lst ws)) (b : RpL Ω Hr ws ns) : Src Ω Hr Hf (RZ.ItzS Ω.K (S l) q) (((l.map fun c => M.str [c]).zip ns).map fun z => .tup [z.1, z.2])
  | rev {p : Addr} {vs : List V} {ms : List M} (h : Hf p = some (.lst vs)) (a : RpL Ω Hr vs ms) : Src Ω Hr Hf (Itv Ω.K p vs.length) ms.reverse
  | keys {d : Addr} {od : Obj} {kvs : List (Key × V)} {ls : List (List Nat)} (h : Hf d = some (.frz od (.dK kvs))) (hk : kvs.map (·.1) = ls.map fun l => (Sum.inr (S l) : Key)) (hl : ∀ l ∈ ls, l.length ≤ 100000) : Src Ω Hr Hf (Itk d od kvs) (ls.map M.str)
/-- an item as it comes -/
def ItOk (Ω : Ev) (Hr Hf : Hp) (x : V) (H' : Hp) (m : M) : Prop := (H' = Hf ∧ Rp Ω Hr x m) ∨ ∃ T va vb a b, x = .ref T ∧ Hf T = none ∧ H' = upd Hf T (.tup [va, vb]) ∧ Rp Ω Hr va a ∧ Rp Ω Hr vb b ∧ m = .tup [a, b]
section
variable {Ω : Ev} {Hr Hr' Hf Hf' : Hp} {J : It} {ms : List M}
theorem Src.same (s : Same Hr Hr') (s' : Same Hf Hf') (h : Src Ω Hr Hf J ms) : Src Ω Hr' Hf' J ms := by
  have kt : ∀ {p vs}, SqT Ω.K Hf p vs → SqT Ω.K Hf' p vs := fun {p vs} h => Same.tup s' h
  cases h with
  | lst h a => exact .lst (s' _ _ h) (a.mono s)
  | tup h a => exact .tup (kt h) (a.mono s)
  | str => exact .str
  | rng => exact .rng
  | enm h a => exact .enm (s' _ _ h) (a.mono s)
  | zipL h a h' b => exact .zipL (s' _ _ h) (a.mono s) (s' _ _ h') (b.mono s)
  | zipT h a h' b => exact .zipT (kt h) (a.mono s) (kt h') (b.mono s)
  | zipS h' b => exact .zipS (s' _ _ h') (b.mono s)
  | rev h a => exact .rev (s' _ _ h) (a.mono s)
  | keys h hk hl => exact .keys (s' _ _ h) hk hl
theorem Src.go {i : Nat} (h : Src Ω Hr Hf J ms) (hi : i < ms.length) : J.go i Hf := by
  cases h with
  | @lst p vs ms h a =>
    have hv : i < vs.length := by rw [a.length]; exact hi
    exact ⟨vs, vs[i], SqL.of h, List.getElem?_eq_getElem hv⟩
  | @tup p vs ms h a =>
    have hv : i < vs.length := by rw [a.length]; exact hi
    exact ⟨vs, vs[i], h, List.getElem?_eq_getElem hv⟩
  | @str l =>
    show i < l.toArray.size
    simpa using hi
  | @rng lo n =>
    show i < n
    simpa using hi
  | @enm p vs ms h a =>
    have hv : i < vs.length := by rw [a.length]; simpa using hi
    exact ⟨vs, vs[i], SqL.of h, List.getElem?_eq_getElem hv⟩
  | @zipL p q vs ws ms ns h a h' b =>
    have e := hi
    rw [List.length_map, List.length_zip] at e
    have hv : i < vs.length := by rw [a.length]; omega
    have hw : i < ws.length := by rw [b.length]; omega
    exact ⟨vs, ws, vs[i], ws[i], SqL.of h, SqL.of h', List.getElem?_eq_getElem hv, List.getElem?_eq_getElem hw⟩
  | @zipT p q vs ws ms ns h a h' b =>
    have e := hi
    rw [List.length_map, List.length_zip] at e
    have hv : i < vs.length := by rw [a.length]; omega
    have hw : i < ws.length := by rw [b.length]; omega
    exact ⟨vs, ws, vs[i], ws[i], h, h', List.getElem?_eq_getElem hv, List.getElem?_eq_getElem hw⟩
  | @zipS l q ws ns h' b =>
    have e := hi
    rw [List.length_map, List.length_zip, List.length_map] at e
    have hl : i < l.length := by omega
    have hw : i < ws.length := by rw [b.length]; omega
    exact ⟨ws, l[i], ws[i], SqL.of h', by show l.toArray[i]? = _; simp [hl], List.getElem?_eq_getElem hw⟩
  | @rev p vs ms h a =>
    have hv : i < vs.length := by rw [a.length]; simpa using hi
    exact ⟨hv, vs, vs[vs.length - 1 - i]'(by omega), SqL.of h, List.getElem?_eq_getElem (by omega)⟩
  | @keys d od kvs ls h hk hl =>
    have e := congrArg List.length hk
    rw [List.length_map, List.length_map] at e
    rw [List.length_map] at hi
    exact ⟨h, by omega⟩
theorem Src.stop (h : Src Ω Hr Hf J ms) : J.stop ms.length Hf := by
  cases h with
  | @lst p vs ms h a => exact ⟨vs, SqL.of h, by rw [a.length]; exact Nat.le_refl _⟩
  | @tup p vs ms h a => exact ⟨vs, h, by rw [a.length]; exact Nat.le_refl _⟩
  | @str l =>
    show l.toArray.size ≤ _
    simp
  | @rng lo n =>
    show n ≤ _
    simp
  | @enm p vs ms h a => exact ⟨vs, SqL.of h, by rw [a.length]; simp⟩
  | @zipL p q vs ws ms ns h a h' b =>
    refine ⟨vs, ws, SqL.of h, SqL.of h', ?_⟩
    rw [List.length_map, List.length_zip, a.length, b.length]
    omega
  | @zipT p q vs ws ms ns h a h' b =>
    refine ⟨vs, ws, h, h', ?_⟩
    rw [List.length_map, List.length_zip, a.length, b.length]
    omega
  | @zipS l q ws ns h' b =>
    have hz : (S l).cps.size = l.length := by show l.toArray.size = _; simp
    refine ⟨ws, SqL.of h', ?_, ?_, ?_⟩ <;> rw [List.length_map, List.length_zip, List.length_map] <;> first | (rw [hz, b.length]; omega) | (rw [hz]; omega) | (rw [b.length]; omega)
  | @rev p vs ms h a =>
    show vs.length ≤ _
    rw [a.length]
    simp
  | @keys d od kvs ls h hk hl =>
    have e := congrArg List.length hk
    rw [List.length_map, List.length_map] at e
    exact ⟨h, by rw [List.length_map]; omega⟩
theorem Src.yld {i : Nat} {x : V} {H' : Hp} (h : Src Ω Hr Hf J ms) (hi : i < ms.length) (y : J.yld i Hf x H') : ∃ m, ms[i]? = some m ∧ ItOk Ω Hr Hf x H' m := by
  cases h with
  | @lst p vs ms h a =>
    obtain ⟨e, q⟩ := y
    obtain ⟨m, e1, e2⟩ := a.getV (q vs (SqL.of h))
    exact ⟨m, e1, .inl ⟨e, e2⟩⟩
  | @tup p vs ms h a =>
    obtain ⟨e, q⟩ := y
    obtain ⟨m, e1, e2⟩ := a.getV (q vs h)
    exact ⟨m, e1, .inl ⟨e, e2⟩⟩
  | @str l =>
    obtain ⟨e, c, hc, rfl⟩ := y
    have hc' : l[i]? = some c := by
      have : (l.toArray)[i]? = some c := hc
      simpa using this
    exact ⟨.str [c], by rw [List.getElem?_map, hc']; rfl, .inl ⟨e, .str (l := [c]) (by simp)⟩⟩
  | @rng lo n =>
    obtain ⟨e, rfl⟩ := y
    have hi' : i < n := by simpa using hi
    exact ⟨.int (lo + (i : Nat)), by rw [List.getElem?_map, List.getElem?_range hi']; rfl, .inl ⟨e, .int _⟩⟩
  | @enm p vs ms h a =>
    obtain ⟨T, z, rfl, hT, rfl, q⟩ := y
    obtain ⟨m, e1, e2⟩ := a.getV (q vs (SqL.of h))
    exact ⟨.tup [.int (i : Nat), m], by rw [List.getElem?_map, List.getElem?_zipIdx, e1]; simp, .inr ⟨T, _, _, _, _, rfl, hT, rfl, .int _, e2, rfl⟩⟩
  | @zipL p q vs ws ms ns h a h' b =>
    obtain ⟨T, x, z, rfl, hT, rfl, q1, q2⟩ := y
    obtain ⟨m, e1, e2⟩ := a.getV (q1 vs (SqL.of h))
    obtain ⟨n, f1, f2⟩ := b.getV (q2 ws (SqL.of h'))
    exact ⟨.tup [m, n], by rw [List.getElem?_map, show (ms.zip ns)[i]? = some (m, n) from List.getElem?_zip_eq_some.mpr ⟨e1, f1⟩]; rfl, .inr ⟨T, _, _, _, _, rfl, hT, rfl, e2, f2, rfl⟩⟩
  | @zipT p q vs ws ms ns h a h' b =>
    obtain ⟨T, x, z, rfl, hT, rfl, q1, q2⟩ := y
    obtain ⟨m, e1, e2⟩ := a.getV (q1 vs h)
    obtain ⟨n, f1, f2⟩ := b.getV (q2 ws h')
    exact ⟨.tup [m, n], by rw [List.getElem?_map, show (ms.zip ns)[i]? = some (m, n) from List.getElem?_zip_eq_some.mpr ⟨e1, f1⟩]; rfl, .inr ⟨T, _, _, _, _, rfl, hT, rfl, e2, f2, rfl⟩⟩
  | @zipS l q ws ns h' b =>
    obtain ⟨T, c, z, rfl, hT, rfl, hc, q2⟩ := y
    obtain ⟨n, f1, f2⟩ := b.getV (q2 ws (SqL.of h'))
    have hc' : l[i]? = some c := by
      have : (l.toArray)[i]? = some c := hc
      simpa using this
    exact ⟨.tup [.str [c], n], by rw [List.getElem?_map, show ((l.map fun c => M.str [c]).zip ns)[i]? = some (.str [c], n) from List.getElem?_zip_eq_some.mpr ⟨by rw [List.getElem?_map, hc']; rfl, f1⟩]; rfl, .inr ⟨T, _, _, _, _, rfl, hT, rfl, .str (l := [c]) (by simp), f2, rfl⟩⟩
  | @rev p vs ms h a =>
    obtain ⟨e, q⟩ := y
    have hi' : i < ms.length := by simpa using hi
    obtain ⟨m, e1, e2⟩ := a.getV (q vs (SqL.of h))
    exact ⟨m, by rw [List.getElem?_reverse hi', ← a.length]; exact e1, .inl ⟨e, e2⟩⟩
  | @keys d od kvs ls h hk hl =>
    obtain ⟨e, k, v, hkv, rfl⟩ := y
    have e1 := congrArg (fun l => l[i]?) hk
    simp only [List.getElem?_map, hkv, Option.map_some] at e1
    obtain ⟨l, hl', e2⟩ := Option.map_eq_some_iff.mp e1.symm
    subst e2
    exact ⟨.str l, by rw [List.getElem?_map, hl']; rfl, .inl ⟨e, .str (hl l (List.mem_of_getElem? hl'))⟩⟩
end
abbrev TMI := List R → (List M → Prop) → X0 → Prop
/-- what is walked; Hv: a value, not held by a slot -/
def lfI (Ω : Ev) (Wx : WX) (hv : Bool) (t : TMI) : TI := fun σ H RR => ∃ F ρ Q x, Rel Ω F σ H ρ ∧ XL Ω F Wx σ ρ H x ∧ (∀ J H' ms, Stp Ω F σ ρ H H' → Src Ω (Hd F σ ρ H') (if hv = true then Hd F σ ρ H' else hidP (OwF σ ρ) H') J ms → Q ms → RR J H') ∧ t ρ Q x
section
variable {X : Cx} {Ω : Ev} {Wx : WX} {tg : Expr}
theorem PI.imp {e : Expr} {T T' : TI} (h : PI X tg e T) (i : ∀ σ H Q, T' σ H Q → T σ H Q) : PI X tg e T' := ⟨fun pins s σ H Q I q => h.run pins s σ H Q I (i σ H Q q)⟩
def iAny (K : PySem.W.Frag) (tl : TE) : TI := fun σ H R => tl σ H fun x H1 => (∃ a, x = .ref a ∧ (∃ xs, SqL K H1 a xs) ∧ R (Itl K a) H1) ∨ (∃ a, x = .ref a ∧ (∃ xs, SqT K H1 a xs) ∧ R (Itt K a) H1) ∨ ∃ z, x = .str z ∧ R (Its z) H1
theorem pi_any {l : Expr} {tl : TE} (hl : PE X l tl) : PI X tg l (iAny X.K tl) := by
  refine ⟨fun pins s σ H R I h => ?_⟩
  refine thn (hl.run pins s σ H _ I h) fun v s1 ⟨x, H1, I1, r1, q1⟩ => ?_
  rcases q1 with ⟨a, e, ⟨xs, hq⟩, q⟩ | ⟨a, e, ⟨xs, hq⟩, q⟩ | ⟨z, e, q⟩
  · subst e
    cases r1
    obtain ⟨its, rv, p, hz⟩ := I1.list hq
    refine wpAny_pyIter_list p.isList ?_
    refine ⟨s1.heap.objs.size, [s1.heap.objs.size], _, _, H1, rfl, I1.kept (t' := s1.toks) fun b o e => Heap.get?_push_of_some _ e, turn_list a _, ⟨_, Heap.get?_push_size _ rfl, rfl, rfl⟩, fun b hb => ?_, q⟩
    have e : b = s1.heap.objs.size := by simpa using hb
    subst e
    exact I1.fpOk (Nat.le_refl _) (I1.hok.fresh (Nat.le_refl _))
  · subst e
    cases r1
    obtain ⟨its, rv, p, hz⟩ := I1.tuple hq
    refine wpAny_pyIter_tuple (show s1.heap.IsTuple a its.toArray from p) ?_
    refine ⟨s1.heap.objs.size, [s1.heap.objs.size], _, _, H1, rfl, I1.kept (t' := s1.toks) fun b o e => Heap.get?_push_of_some _ e, turn_tuple a _, ⟨_, Heap.get?_push_size _ rfl, rfl, rfl⟩, fun b hb => ?_, q⟩
    have e : b = s1.heap.objs.size := by simpa using hb
    subst e
    exact I1.fpOk (Nat.le_refl _) (I1.hok.fresh (Nat.le_refl _))
  · subst e
    obtain ⟨t, rfl⟩ := r1
    cases ha : z.cps.all (· < 128)
    · exact wpAny_pyIter_wide ha (pi_one (tk := s1.toks) I1 _ (turn_str _ z t "str_iterator" (.inr rfl)) ⟨_, Heap.get?_push_size _ rfl, rfl, rfl⟩ q)
    · exact wpAny_pyIter_ascii ha (pi_one (tk := s1.toks) I1 _ (turn_str _ z t "str_ascii_iterator" (.inl rfl)) ⟨_, Heap.get?_push_size _ rfl, rfl, rfl⟩ q)
/-- the operand walked -/
def R.its? (hv : Bool) : R → Option (List M)
  | .v (.lst xs) => some xs
  | .v (.tup xs) => some xs
  | .v (.str l) => some (l.map fun c => .str [c])
  | .f (.lst xs) => some xs
  | .o _ (.lst xs) => if hv then none else some xs
  | _ => none
def tmIter (hv : Bool) (t : TM) : TMI := fun ρ Q x => t ρ (fun r => ∃ ms, r.its? hv = some ms ∧ Q ms) x
theorem kk_any {K : PySem.W.Frag} (hK : X.K = K) {l : Expr} {tl : TE} (hl : PE X l tl) : PI X tg l (iAny K tl) := by subst hK; exact pi_any hl
theorem hv_src {F : Fr} {σ : L2.St} {ρ : List R} {H' : Hp} {J : It} {ms : List M} (hv : Bool) (h : Src Ω (Hd F σ ρ H') (Hd F σ ρ H') J ms) : Src Ω (Hd F σ ρ H') (if hv = true then Hd F σ ρ H' else hidP (OwF σ ρ) H') J ms := by
  cases hv with
  | true => exact h
  | false => exact h.same (fun _ _ e => e) (hidP_same fun b o n e => ⟨fun z => n (.inl z.own), e⟩)
/-- a list operand that no feed is -/
theorem RpR.lstF {F : Fr} {σ : L2.St} {ρ : List R} {H H' : Hp} {v : V} {r : R} {xs : List M} (s : Rel Ω F σ H' ρ) (h : RpR Ω F σ ρ H H' v r) (e : r.lst? = some xs) : ∃ p vs, v = .ref p ∧ hidP (OwF σ ρ) H' p = some (.lst vs) ∧ RpL Ω (Hd F σ ρ H') vs xs := by
  obtain ⟨p, vs, rfl, h1, h2⟩ := RpR.lst s h e
  refine ⟨p, vs, rfl, hidP_some.mpr ⟨fun z => ?_, h1⟩, h2⟩
  unfold R.lst? at e
  split at e
  · cases (show Rp Ω _ _ _ from h) with
    | lst hs ha => exact (hidP_some.mp hs).1 (.inl z.own)
  · obtain ⟨i, e1, e2⟩ := h
    obtain ⟨j, l', z1, z2⟩ := z
    have := (s.inj _ _ _ _ _ _ _ e1 z1 e2 z2).1
    cases this
  · obtain ⟨q, e1, hn, no, _⟩ := h
    cases e1
    exact no z.own
  · cases e
theorem pm_iter (hv : Bool) {e : Expr} {t : TM} (hK : X.K = Ω.K) (h : PE X e (lf Ω Wx t)) : PI X tg e (lfI Ω Wx hv (tmIter hv t)) := PI.imp (kk_any hK h) fun σ H RR hh => by
  obtain ⟨F, ρ, Q, x, r, xl, k, t⟩ := hh
  refine ⟨F, ρ, _, x, r, xl, fun v H' a s rp q => ?_, t⟩
  obtain ⟨ms, e, q⟩ := q
  unfold R.its? at e
  split at e
  · cases e
    cases (show Rp Ω _ v _ from rp) with
    | lst hs ha => exact .inl ⟨_, rfl, ⟨_, SqL.of (hid_sub _ _ hs)⟩, k _ H' _ s (hv_src hv (.lst hs ha)) q⟩
  · cases e
    cases (show Rp Ω _ v _ from rp) with
    | tup hs ha => exact .inr (.inl ⟨_, rfl, ⟨_, Same.tup hid_sub hs⟩, k _ H' _ s (hv_src hv (.tup hs ha)) q⟩)
  · cases e
    obtain ⟨rfl, hl⟩ := rp.str
    exact .inr (.inr ⟨_, rfl, k _ H' _ s .str q⟩)
  · cases e
    cases (show Rp Ω _ v (.lst ms) from RpR.m rp rfl fun p hp => r.notZ hp) with
    | lst hs ha => exact .inl ⟨_, rfl, ⟨_, SqL.of (hid_sub _ _ hs)⟩, k _ H' _ s (hv_src hv (.lst hs ha)) q⟩
  · cases hv with
    | true => cases e
    | false =>
      cases e
      obtain ⟨p, vs, rfl, h1, a1⟩ := RpR.lstF s.rel rp rfl
      exact .inl ⟨_, rfl, ⟨_, SqL.of (hid_sub _ _ h1)⟩, k _ H' _ s (.lst h1 a1) q⟩
  · cases e
def tmRange1 (t : TM) : TMI := fun ρ Q x => t ρ (fun r => ∃ n : Int, r = .v (.int n) ∧ -(2 ^ 62) ≤ n ∧ n < 2 ^ 62 ∧ Q ((List.range n.toNat).map fun i => .int (0 + (i : Nat)))) x
theorem pm_range1 (hv : Bool) {a : Expr} {t : TM} {p pos : Pos} (hg : Gl X "range") (hm : X.mg "range" = none) (h : PE X a (lf Ω Wx t)) (hs : starEach [a] X.env = [(false, eval a X.env)] := by rfl) : PI X tg (.Call (.Name "range" p) [a] [] pos) (lfI Ω Wx hv (tmRange1 t)) :=
  PI.imp (pi_range1 hg hm (pa_cons h pa_nil hs) hs) fun σ H RR hh => by
  obtain ⟨F, ρ, Q, x, r, xl, k, t⟩ := hh
  refine ⟨F, ρ, _, x, r, xl, fun v H' a s rp q => ?_, t⟩
  obtain ⟨n, rfl, h1, h2, q⟩ := q
  exact ⟨n, by rw [rp.int], h1, h2, k _ H' _ s .rng q⟩
def tmRange2 (t u : TM) : TMI := fun ρ Q x => t ρ (fun r => u ρ (fun r' => ∃ m n : Int, r = .v (.int m) ∧ r' = .v (.int n) ∧ (-(2 ^ 62) ≤ m ∧ m < 2 ^ 62 ∧ -(2 ^ 62) ≤ n ∧ n < 2 ^ 62) ∧ Q ((List.range (n - m).toNat).map fun i => .int (m + (i : Nat)))) x) x
def tmEnum (hv : Bool) (t : TM) : TMI := fun ρ Q x => t ρ (fun r => ∃ xs, r.lst? = some xs ∧ (hv = true → r.m? = some (.lst xs)) ∧ Q (xs.zipIdx.map fun z => .tup [.int (z.2 : Nat), z.1])) x
theorem kk_enum {K : PySem.W.Frag} (hK : X.K = K) {e : Expr} {ta : TA} {p pos tpos : Pos} {elts : List Expr} {kk : Nat} (hg : Gl X "enumerate") (hm : X.mg "enumerate" = none) (ha : PA X [e] ta) (hs : starEach [e] X.env = [(false, eval e X.env)] := by rfl) :
    PI X (.Tuple elts kk tpos) (.Call (.Name "enumerate" p) [e] [] pos) (iEnum K ta) := by subst hK; exact pi_enum hg hm ha hs
theorem pm_enum (hv : Bool) {e : Expr} {t : TM} {p pos tpos : Pos} {elts : List Expr} {kk : Nat} (hK : X.K = Ω.K) (hg : Gl X "enumerate") (hm : X.mg "enumerate" = none) (h : PE X e (lf Ω Wx t)) (hs : starEach [e] X.env = [(false, eval e X.env)] := by rfl) :
    PI X (.Tuple elts kk tpos) (.Call (.Name "enumerate" p) [e] [] pos) (lfI Ω Wx hv (tmEnum hv t)) := PI.imp (kk_enum hK hg hm (pa_cons h pa_nil hs) hs) fun σ H RR hh => by
  obtain ⟨F, ρ, Q, x, r, xl, k, t⟩ := hh
  refine ⟨F, ρ, _, x, r, xl, fun v H' a s rp q => ?_, t⟩
  obtain ⟨xs, e, hm, q⟩ := q
  cases hv with
  | true =>
    cases (show Rp Ω _ v (.lst xs) from RpR.m rp (hm rfl) fun p hp => r.notZ hp) with
    | lst hs ha => exact ⟨_, _, rfl, SqL.of (hid_sub _ _ hs), k _ H' _ s (.enm hs ha) q⟩
  | false =>
    obtain ⟨p, vs, rfl, h1, a1⟩ := RpR.lstF s.rel rp e
    exact ⟨p, vs, rfl, SqL.of (hid_sub _ _ h1), k _ H' _ s (.enm h1 a1) q⟩
def tmZip (t u : TM) : TMI := fun ρ Q x => t ρ (fun r => u ρ (fun r' => match r, r' with
  | .v (.tup a), .v (.tup b) => Q ((a.zip b).map fun z => .tup [z.1, z.2])
  | r, r' => match r.m?, r'.m? with
    | some (.lst a), some (.lst b) => Q ((a.zip b).map fun z => .tup [z.1, z.2])
    | _, _ => False) x) x
theorem kk_zip {K : PySem.W.Frag} (hK : X.K = K) {e e2 : Expr} {ta : TA} {p pos tpos : Pos} {elts : List Expr} {kk : Nat} (hg : Gl X "zip") (hm : X.mg "zip" = none) (ha : PA X [e, e2] ta)
    (hs : starEach [e, e2] X.env = (false, eval e X.env) :: starEach [e2] X.env := by rfl) (hpl : (backTo pos (starEach [e2] X.env)).any (·.1) = false := by rfl) : PI X (.Tuple elts kk tpos) (.Call (.Name "zip" p) [e, e2] [] pos) (RZ.iZipA K ta) := by subst hK; exact RZ.pi_zipA hg hm ha hs hpl
theorem pm_zip (hv : Bool) {e e2 : Expr} {t u : TM} {p pos tpos : Pos} {elts : List Expr} {kk : Nat} (hK : X.K = Ω.K) (hg : Gl X "zip") (hm : X.mg "zip" = none) (h : PE X e (lf Ω Wx t)) (h2 : PE X e2 (lf Ω Wx u))
    (hs : starEach [e, e2] X.env = (false, eval e X.env) :: starEach [e2] X.env := by rfl) (hs2 : starEach [e2] X.env = (false, eval e2 X.env) :: starEach [] X.env := by rfl) (hpl : (backTo pos (starEach [e2] X.env)).any (·.1) = false := by rfl) :
    PI X (.Tuple elts kk tpos) (.Call (.Name "zip" p) [e, e2] [] pos) (lfI Ω Wx hv (tmZip t u)) := PI.imp (kk_zip hK hg hm (pa_cons h (pa_cons h2 pa_nil hs2) hs) hs hpl) fun σ H RR hh => by
  obtain ⟨F, ρ, Q, x, r, xl, k, t⟩ := hh
  refine ⟨F, ρ, _, x, r, xl, fun v H1 a s rp q => ?_, t⟩
  refine ⟨F, ρ, _, x, s.rel, xl.step s, fun w H2 b s2 rp2 q2 => ?_, q⟩
  have s12 := s.trans s2
  have rpa := rp.step s2
  have rpb := rp2.back s
  split at q2
  · cases (show Rp Ω _ v _ from rpa) with
    | tup hs ha => cases (show Rp Ω _ w _ from rpb) with
      | tup hs' hb => exact ⟨_, _, _, _, rfl, .inr ⟨Same.tup hid_sub hs, Same.tup hid_sub hs', k _ H2 _ s12 (hv_src hv (.zipT hs ha hs' hb)) q2⟩⟩
  · split at q2
    · rename_i e1 e2
      cases (show Rp Ω _ v _ from RpR.m rpa e1 fun p hp => r.notZ hp) with
      | lst hs ha => cases (show Rp Ω _ w _ from RpR.m rpb e2 fun p hp => r.notZ hp) with
        | lst hs' hb => exact ⟨_, _, _, _, rfl, .inl ⟨SqL.of (hid_sub _ _ hs), SqL.of (hid_sub _ _ hs'), k _ H2 _ s12 (hv_src hv (.zipL hs ha hs' hb)) q2⟩⟩
    · exact q2.elim
/-- zip of a text and a list -/
def tmZipS (t u : TM) : TMI := fun ρ Q x => t ρ (fun r => u ρ (fun r' => ∃ l ns, r = .v (.str l) ∧ r'.m? = some (.lst ns) ∧ Q (((l.map fun c => M.str [c]).zip ns).map fun z => .tup [z.1, z.2])) x) x
def tmRev (t : TM) : TMI := fun ρ Q x => t ρ (fun r => ∃ xs, r.m? = some (.lst xs) ∧ Q xs.reverse) x
end
end PL
namespace PL
open PySem PySem.Spec PyProof.Rows L2 KW
abbrev TMG := M → List R → (List R → Prop) → Prop
/-- outside vs the slots are as they were -/
def Out (vs : List Nat) (σ σ' : L2.St) : Prop := σ'.length = σ.length ∧ ∀ j, j ∉ vs → σ'[j]? = σ[j]?
/-- the slots vs are not held -/
def noOwn (ρ : List R) (vs : List Nat) : Bool := vs.all fun i => match ρ[i]? with
  | some (.o _ _) => false
  | _ => true
theorem noOwn_at {ρ : List R} {vs : List Nat} (h : noOwn ρ vs = true) {i : Nat} {l : Bool} {c : OC} (hi : ρ[i]? = some (.o l c)) : i ∉ vs := fun hm => by
  unfold noOwn at h
  have := List.all_eq_true.mp h i hm
  rw [hi] at this
  cases this
/-- what is held is as it was -/
def OwEq (σ : L2.St) (ρ : List R) (σ' : L2.St) (ρ' : List R) : Prop := ∀ b, (Own σ' ρ' b ↔ Own σ ρ b) ∧ (OwF σ' ρ' b ↔ OwF σ ρ b)
def lfG (Ω : Ev) (vs : List Nat) (t : TMG) : TG := fun v σ H K => ∃ F ρ m Kp, Rel Ω F σ H ρ ∧ Rp Ω (Hd F σ ρ H) v m ∧ (∀ σ' ρ', Rel Ω F σ' H ρ' → Out vs σ σ' → (noOwn ρ vs = true → OwEq σ ρ σ' ρ') → Kp ρ' → K σ' H) ∧ t m ρ Kp
section
variable {X : Cx} {Ω : Ev} {Wx : WX}
theorem PG.imp {e : Expr} {T T' : TG} (h : PG X e T) (i : ∀ v σ H Q, T' v σ H Q → T v σ H Q) : PG X e T' := ⟨fun pins s σ H v u Q I r q => h.run pins s σ H v u Q I r (i v σ H Q q)⟩
def tgN (i : Nat) : TMG := fun m ρ K => put i (.v m) ρ K
theorem Out.set {vs : List Nat} {σ : L2.St} {i : Nat} {x : Option V} (h : i ∈ vs) : Out vs σ (σ.set i x) := ⟨List.length_set, fun j hj => set_ne fun e => hj (e ▸ h)⟩
theorem own_setV {σ : L2.St} {ρ : List R} {i : Nat} {v : V} {m : M} {b : Addr} (h : Own (σ.set i (some v)) (ρ.set i (.v m)) b) : Own σ ρ b := by
  obtain ⟨k, l, c, e1, e2⟩ := h
  rcases set_get e1 with ⟨_, z⟩ | ⟨n, e1⟩
  · cases z
  · rw [set_ne n] at e2
    exact ⟨k, l, c, e1, e2⟩
theorem OwEq.set {σ : L2.St} {ρ : List R} {vs : List Nat} {i : Nat} {v : V} {m : M} (hi : i ∈ vs) (h : noOwn ρ vs = true) : OwEq σ ρ (σ.set i (some v)) (ρ.set i (.v m)) := fun b => by
  refine ⟨⟨own_setV, fun ⟨j, l, c, e1, e2⟩ => ?_⟩, ⟨fun ⟨j, l, e1, e2⟩ => ?_, fun ⟨j, l, e1, e2⟩ => ?_⟩⟩
  · have n : i ≠ j := fun e => noOwn_at h e1 (e ▸ hi)
    exact ⟨j, l, c, by rw [set_ne n]; exact e1, by rw [set_ne n]; exact e2⟩
  · rcases set_get e1 with ⟨_, z⟩ | ⟨n, e1⟩
    · cases z
    · rw [set_ne n] at e2
      exact ⟨j, l, e1, e2⟩
  · have n : i ≠ j := fun e => noOwn_at h e1 (e ▸ hi)
    exact ⟨j, l, by rw [set_ne n]; exact e1, by rw [set_ne n]; exact e2⟩
theorem OwEq.trans {σ σ1 σ2 : L2.St} {ρ ρ1 ρ2 : List R} (a : OwEq σ ρ σ1 ρ1) (b : OwEq σ1 ρ1 σ2 ρ2) : OwEq σ ρ σ2 ρ2 := fun x => ⟨(b x).1.trans (a x).1, (b x).2.trans (a x).2⟩
theorem noOwn_set {ρ : List R} {vs : List Nat} {i : Nat} {m : M} (h : noOwn ρ vs = true) : noOwn (ρ.set i (.v m)) vs = true := by
  unfold noOwn
  rw [List.all_eq_true]
  intro j hj
  cases e : (ρ.set i (.v m))[j]? with
  | none => rfl
  | some a =>
    rcases set_get e with ⟨_, z⟩ | ⟨n, e'⟩
    · subst z
      rfl
    · cases a with
      | o l c => exact absurd hj (noOwn_at h e')
      | no => rfl
      | v m => rfl
      | f c => rfl
      | x a b => rfl
theorem pmg_name {i : Nat} {e : Expr} (vs : List Nat) (hi : i ∈ vs) (h : PG X e (gName i)) : PG X e (lfG Ω vs (tgN i)) := PG.imp h fun v σ H K hh => by
  obtain ⟨F, ρ, m, Kp, r, rp, k, t⟩ := hh
  exact k _ _ (r.setV t.1 rp) (Out.set hi) (OwEq.set hi) t.2
def tgT (i j : Nat) : TMG := fun m ρ K => match m with
  | .tup [a, b] => put i (.v a) ρ fun ρ' => put j (.v b) ρ' K
  | _ => False
theorem pmg_tup {i j : Nat} {e : Expr} (vs : List Nat) (hi : i ∈ vs) (hj : j ∈ vs) (h : PG X e (gTup Ω.K 2 (gCons (gName i) (gCons (gName j) gNil)))) : PG X e (lfG Ω vs (tgT i j)) := PG.imp h fun v σ H K hh => by
  obtain ⟨F, ρ, m, Kp, r, rp, k, t⟩ := hh
  unfold tgT at t
  split at t
  · cases rp with
    | tup hs ha =>
      cases ha with
      | cons ha1 hb =>
        cases hb with
        | cons hb1 hc =>
          cases hc
          refine ⟨_, _, rfl, Same.tup hid_sub hs, rfl, _, _, rfl, _, _, rfl, rfl, ?_⟩
          have r1 := r.setV t.1 ha1
          exact k _ _ (r1.setV t.2.1 (hb1.mono (hidP_same fun b o n e => ⟨fun z => n (z.imp own_setV id), e⟩))) ⟨by rw [List.length_set, List.length_set], fun q hq => by
            have n1 : j ≠ q := fun e => hq (e ▸ hj)
            have n2 : i ≠ q := fun e => hq (e ▸ hi)
            rw [set_ne n1, set_ne n2]⟩ (fun h => (OwEq.set hi h).trans (OwEq.set hj (noOwn_set h))) t.2.2
  · exact t.elim
def forM (tg : TMG) (tb : TMS) : List M → List R → CM → Prop
  | [], ρ, C => C.nx ρ
  | m :: ms, ρ, C => tg m ρ fun ρ' => tb ρ' { C with nx := fun ρ2 => forM tg tb ms ρ2 C, ct := fun ρ2 => forM tg tb ms ρ2 C, bk := C.nx }
def tmFor (ti : TMI) (tg : TMG) (tb : TMS) : TMS := fun ρ C => ti ρ (fun ms => forM tg tb ms ρ C) (fun er m => C.ex er m ρ)
def Fr.pins (F : Fr) (Ω : Ev) (J : It) (ms : List M) : Fr := { F with pin := fun H => F.pin H ∧ Src Ω H H J ms, mono := fun H H' s h => ⟨F.mono _ _ s h.1, h.2.same s s⟩ }
theorem Rel.pinned {F : Fr} {σ : L2.St} {ρ : List R} {H : Hp} {J : It} {ms : List M} (r : Rel Ω F σ H ρ) (h : Src Ω (Hd F σ ρ H) (Hd F σ ρ H) J ms) : Rel Ω (F.pins Ω J ms) σ H ρ := ⟨r.len, r.grow, r.zin, r.zno, r.val, r.own, r.inj, r.par, ⟨⟨r.pin.1, h⟩, r.pin.2⟩, r.sf, r.exc⟩
theorem Rel.unpin {F : Fr} {σ : L2.St} {ρ : List R} {H : Hp} {J : It} {ms : List M} (r : Rel Ω (F.pins Ω J ms) σ H ρ) : Rel Ω F σ H ρ := ⟨r.len, r.grow, r.zin, r.zno, r.val, r.own, r.inj, r.par, ⟨r.pin.1.1, r.pin.2⟩, r.sf, r.exc⟩
theorem item_rel {F : Fr} {σ : L2.St} {ρ : List R} {H H' : Hp} {x : V} {m : M} (r : Rel Ω F σ H ρ) (h : ItOk Ω (Hd F σ ρ H) H x H' m) : Stp Ω F σ ρ H H' ∧ Rp Ω (Hd F σ ρ H') x m := by
  rcases h with ⟨rfl, h⟩ | ⟨T, va, vb, a, b, rfl, hT, rfl, h1, h2, rfl⟩
  · exact ⟨.refl r, h⟩
  · exact ⟨r.new hT, RpR.newT (H' := H) r hT (.cons h1 (.cons h2 .nil))⟩
theorem pms_for {tg iter : Expr} {body : List Stmt} {pos : Pos} {ti : TMI} {g : TMG} {tb : TMS} {vs : List Nat} (hp : PassesOwn (model X.prog X.w) X.A X.env X.xe) (hc : X.calm = true) (hi : PI X tg iter (lfI Ω Wx true ti)) (hg : PG X tg (lfG Ω vs g)) (hb : PSs X body (lfS Ω Wx tb))
    (hs : ∀ x, foldedSetIterable iter X.env x = pure x := by intro _; rfl) : PS X (.For tg iter body [] pos) (lfS Ω Wx (tmFor ti g tb)) := PS.imp (ps_for hp hc hi hg hb hs) fun D σ H hh => by
  obtain ⟨F, ρ, C, r, k, t⟩ := hh
  refine ⟨F, ρ, _, _, r, k.xl, fun J H1 ms s src q => ?_, t⟩
  have src : Src Ω (Hd F σ ρ H1) (Hd F σ ρ H1) J ms := src
  let F' := F.pins Ω J ms
  refine ⟨fun i n σ' H' => n = ms.length - i ∧ i ≤ ms.length ∧ ∃ ρ', Rel Ω F' σ' H' ρ' ∧ forM g tb (ms.drop i) ρ' C, ⟨ms.length, rfl, Nat.zero_le _, ρ, s.rel.pinned src, q⟩, ?_⟩
  rintro i n σ' H' ⟨rfl, hle, ρ', r', q'⟩
  have sr : Src Ω (Hd F σ' ρ' H') H' J ms := r'.pin.1.2.same (fun _ _ e => e) hid_sub
  by_cases hlt : i < ms.length
  · refine .inr ⟨sr.go hlt, fun σ2 H2 => ∃ ρ2, Rel Ω F' σ2 H2 ρ2 ∧ forM g tb (ms.drop (i + 1)) ρ2 C, fun σ2 H2 ⟨ρ2, r2, q2⟩ => ⟨ms.length - (i + 1), by omega, rfl, hlt, ρ2, r2, q2⟩, fun x H2 y => ?_⟩
    obtain ⟨m, em, ok⟩ := sr.yld hlt y
    obtain ⟨s2, rp⟩ := item_rel (F := F') r' ok
    have ed : ms.drop i = m :: ms.drop (i + 1) := by
      obtain ⟨h1, h2⟩ := List.getElem?_eq_some_iff.mp em
      rw [List.drop_eq_getElem_cons h1, h2]
    rw [ed] at q'
    refine ⟨F', ρ', m, _, s2.rel, rp, fun σ3 ρ3 r3 _ _ q3 => ⟨F', ρ3, _, r3, ?_, q3⟩, q'⟩
    refine ⟨fun σ4 H4 ρ4 r4 q4 => ⟨ρ4, r4, q4⟩, fun σ4 H4 ρ4 v a r4 rp4 q4 => k.rt σ4 H4 ρ4 v a r4.unpin rp4 q4, fun σ4 H4 ρ4 r4 q4 => k.nx σ4 H4 ρ4 r4.unpin q4, fun σ4 H4 ρ4 r4 q4 => ⟨ρ4, r4, q4⟩, fun σ4 H4 ρ4 er m d v r4 => k.ex σ4 H4 ρ4 er m d v r4.unpin⟩
  · have e : i = ms.length := by omega
    subst e
    refine .inl ⟨sr.stop, k.nx σ' H' ρ' r'.unpin ?_⟩
    rw [List.drop_length] at q'
    exact q'
/-- a for by an invariant -/
theorem forM_inv {tg : TMG} {tb : TMS} {C : CM} {ms : List M} (I : Nat → List R → Prop) {ρ : List R} (h0 : I 0 ρ) (hs : ∀ i m ρ, ms[i]? = some m → I i ρ → ∀ NX : List R → Prop, (∀ ρ', I (i + 1) ρ' → NX ρ') → tg m ρ fun ρ' => tb ρ' { C with nx := NX, ct := NX, bk := C.nx }) (hd : ∀ ρ, I ms.length ρ → C.nx ρ) : forM tg tb ms ρ C := by
  suffices H : ∀ (k : Nat) (i : Nat) ρ, ms.length - i = k → i ≤ ms.length → I i ρ → forM tg tb (ms.drop i) ρ C from H _ 0 ρ rfl (Nat.zero_le _) h0
  intro k
  induction k with
  | zero =>
    intro i ρ hk hi h
    have e : i = ms.length := by omega
    subst e
    rw [List.drop_length]
    exact hd ρ h
  | succ k ih =>
    intro i ρ hk hi h
    have hlt : i < ms.length := by omega
    rw [List.drop_eq_getElem_cons hlt]
    exact hs i _ ρ (List.getElem?_eq_getElem hlt) h _ fun ρ' h' => ih (i + 1) ρ' (by omega) hlt h'
end
end PL
namespace PL
open PySem PySem.Spec PyProof.Rows L2 KW
def wipeR (ρ : List R) : List Nat → List R
  | [] => ρ
  | v :: vs => (wipeR ρ vs).set v .no
theorem wipeR_length (ρ : List R) : ∀ vs : List Nat, (wipeR ρ vs).length = ρ.length
  | [] => rfl
  | v :: vs => by unfold wipeR; rw [List.length_set, wipeR_length ρ vs]
theorem wipeR_get {ρ : List R} {i : Nat} {a : R} : ∀ {vs : List Nat}, (wipeR ρ vs)[i]? = some a → (ρ[i]? = some a ∧ i ∉ vs) ∨ a = .no
  | [], h => .inl ⟨h, by simp⟩
  | v :: vs, h => by
    unfold wipeR at h
    rcases set_get h with ⟨_, e⟩ | ⟨n, h⟩
    · exact .inr e
    · rcases wipeR_get h with ⟨h1, h2⟩ | h
      · exact .inl ⟨h1, by simp only [List.mem_cons, not_or]; exact ⟨fun e => n e.symm, h2⟩⟩
      · exact .inr h
theorem wipeR_out {ρ : List R} {i : Nat} : ∀ {vs : List Nat}, i ∉ vs → (wipeR ρ vs)[i]? = ρ[i]?
  | [], _ => rfl
  | v :: vs, h => by
    unfold wipeR
    rw [set_ne (fun e => h (by rw [e]; exact List.mem_cons_self)), wipeR_out fun m => h (List.mem_cons_of_mem _ m)]
theorem wipe_ext : ∀ {vs : List Nat} {σ σ' : L2.St}, Out vs (wipe σ vs) σ' → wipe σ' vs = wipe σ vs := by
  intro vs σ σ' ⟨hl, h⟩
  refine List.ext_getElem? fun j => ?_
  by_cases hj : j ∈ vs
  · have key : ∀ (ws : List Nat) (τ : L2.St), j ∈ ws → (wipe τ ws)[j]? = if j < τ.length then some none else none := by
      intro ws
      induction ws with
      | nil => intro τ h; cases h
      | cons w ws ih =>
        intro τ h
        unfold wipe
        by_cases e : w = j
        · subst e
          rw [List.getElem?_set, if_pos rfl, wipe_length]
        · rw [set_ne e]
          exact ih τ (by simpa [Ne.symm e] using h)
    rw [key vs σ' hj, key vs σ hj, hl, wipe_length]
  · rw [wipe_out hj, h j hj]
abbrev X1 : X0 := fun _ _ => False
abbrev Wx0 : WX := fun _ _ _ _ => False
/-- one item of a comprehension -/
def elM (tg : TMG) (tt : TMB) (te : TM) (ρ : List R) (m : M) (K : M → Prop) (Sk : Prop) : Prop := tg m ρ fun ρ' => tt ρ' (fun b => if b = true then te ρ' (fun r => ∃ y, r.m? = some y ∧ K y) X1 else Sk) X1
def lcM (tg : TMG) (tt : TMB) (te : TM) (ρ : List R) : List M → List M → (List M → Prop) → Prop
  | [], acc, Q => Q acc
  | m :: ms, acc, Q => elM tg tt te ρ m (fun y => acc.length < 100000 ∧ lcM tg tt te ρ ms (acc ++ [y]) Q) (lcM tg tt te ρ ms acc Q)
theorem lcM_inv {tg : TMG} {tt : TMB} {te : TM} {ρ : List R} {ms : List M} {Q : List M → Prop} (I : Nat → List M → Prop) (h0 : I 0 []) (hs : ∀ i m acc, ms[i]? = some m → I i acc → ∀ N : List M → Prop, (∀ acc', I (i + 1) acc' → N acc') → elM tg tt te ρ m (fun y => acc.length < 100000 ∧ N (acc ++ [y])) (N acc)) (hd : ∀ acc, I ms.length acc → Q acc) : lcM tg tt te ρ ms [] Q := by
  suffices H : ∀ (k : Nat) (i : Nat) acc, ms.length - i = k → i ≤ ms.length → I i acc → lcM tg tt te ρ (ms.drop i) acc Q from H _ 0 [] rfl (Nat.zero_le _) h0
  intro k
  induction k with
  | zero =>
    intro i acc hk hi h
    have e : i = ms.length := by omega
    subst e
    rw [List.drop_length]
    exact hd acc h
  | succ k ih =>
    intro i acc hk hi h
    have hlt : i < ms.length := by omega
    rw [List.drop_eq_getElem_cons hlt]
    exact hs i _ acc (List.getElem?_eq_getElem hlt) h _ fun acc' h' => ih (i + 1) acc' (by omega) hlt h'
/-- items that are kept by p, each told by g -/
theorem lcM_fn {tg : TMG} {tt : TMB} {te : TM} {ρ : List R} (p : M → Bool) (g : M → M) {Q : List M → Prop} : ∀ {ms acc : List M}, (∀ m ∈ ms, ∀ (K : M → Prop) (Sk : Prop), (p m = true → K (g m)) → (p m = false → Sk) → elM tg tt te ρ m K Sk) → acc.length + ms.length ≤ 100000 → Q (acc ++ (ms.filter p).map g) → lcM tg tt te ρ ms acc Q
  | [], acc, _, _, q => by
    unfold lcM
    simpa using q
  | m :: ms, acc, h, hl, q => by
    unfold lcM
    rw [List.length_cons] at hl
    refine h m List.mem_cons_self _ _ (fun e => ⟨by omega, ?_⟩) (fun e => ?_)
    · refine lcM_fn p g (fun m' hm => h m' (List.mem_cons_of_mem _ hm)) (by rw [List.length_append, List.length_singleton]; omega) ?_
      rw [List.filter_cons, e, if_pos rfl, List.map_cons] at q
      simpa using q
    · refine lcM_fn p g (fun m' hm => h m' (List.mem_cons_of_mem _ hm)) (by omega) ?_
      rw [List.filter_cons, e, if_neg (by decide)] at q
      exact q
/-- items each told by g -/
theorem lcM_map {te : TM} {tg : TMG} {ρ : List R} (g : M → M) {Q : List M → Prop} {ms : List M} (h : ∀ m ∈ ms, ∀ K : M → Prop, K (g m) → tg m ρ fun ρ' => te ρ' (fun r => ∃ y, r.m? = some y ∧ K y) X1) (hl : ms.length ≤ 100000) (q : Q (ms.map g)) : lcM tg (fun _ Q _ => Q true) te ρ ms [] Q := by
  refine lcM_fn (fun _ => true) g (fun m hm K Sk h1 _ => ?_) (by simpa using hl) (by rw [List.nil_append, List.filter_eq_self.mpr fun _ _ => rfl]; exact q)
  unfold elM
  have := h m hm K (h1 rfl)
  exact this
def tmLc (vs : List Nat) (ti : TMI) (tg : TMG) (tt : TMB) (te : TM) : TM := fun ρ Q x => noOwn ρ vs = true ∧ ti ρ (fun ms => lcM tg tt te (wipeR ρ vs) ms [] fun acc => Q (.f (.lst acc))) x
abbrev tmYes : TMB := fun _ Q _ => Q true
section
variable {X : Cx} {Ω : Ev} {Wx : WX}
theorem PTs.imp {e : List Expr} {T T' : TT} (h : PTs X e T) (i : ∀ σ H Q, T' σ H Q → T σ H Q) : PTs X e T' := ⟨fun pins s σ H Q I q => h.run pins s σ H Q I (i σ H Q q)⟩
theorem pmt_nil : PTs X [] (lfB Ω Wx tmYes) := PTs.imp pts_nil fun σ H QQ hh => by
  obtain ⟨F, ρ, Q, x, r, xl, k, t⟩ := hh
  exact k true H (.refl r) t
theorem pmt_one {c : Expr} {t : TMB} (h : PT X c (lfB Ω Wx t)) : PTs X [c] (lfB Ω Wx t) := pts_one h
section
variable {F : Fr} {σ σ2 : L2.St} {ρ ρ2 : List R} {H H' : Hp} {vs : List Nat}
theorem own_wipe (h : noOwn ρ vs = true) (b : Addr) : Own (wipe σ vs) (wipeR ρ vs) b ↔ Own σ ρ b := by
  constructor
  · rintro ⟨i, l, c, e1, e2⟩
    rcases wipeR_get e1 with ⟨e1, hi⟩ | z
    · exact ⟨i, l, c, e1, (wipe_some e2).1⟩
    · cases z
  · rintro ⟨i, l, c, e1, e2⟩
    have hi := noOwn_at h e1
    exact ⟨i, l, c, by rw [wipeR_out hi]; exact e1, by rw [wipe_out hi]; exact e2⟩
theorem owf_wipe (h : noOwn ρ vs = true) (b : Addr) : OwF (wipe σ vs) (wipeR ρ vs) b ↔ OwF σ ρ b := by
  constructor
  · rintro ⟨i, l, e1, e2⟩
    rcases wipeR_get e1 with ⟨e1, hi⟩ | z
    · exact ⟨i, l, e1, (wipe_some e2).1⟩
    · cases z
  · rintro ⟨i, l, e1, e2⟩
    have hi := noOwn_at h e1
    exact ⟨i, l, by rw [wipeR_out hi]; exact e1, by rw [wipe_out hi]; exact e2⟩
theorem noOwn_wipe (h : noOwn ρ vs = true) : noOwn (wipeR ρ vs) vs = true := by
  unfold noOwn
  rw [List.all_eq_true]
  intro j hj
  cases e : (wipeR ρ vs)[j]? with
  | none => rfl
  | some a =>
    rcases wipeR_get e with ⟨e', n⟩ | z
    · exact absurd hj n
    · subst z
      rfl
theorem Rel.wipe (r : Rel Ω F σ H ρ) (h : noOwn ρ vs = true) : Rel Ω F (wipe σ vs) H (wipeR ρ vs) := by
  have ow := own_wipe (σ := σ) h
  have same : Same (Hd F σ ρ H) (Hd F (L2.wipe σ vs) (wipeR ρ vs) H) := hidP_same fun b o n e => ⟨fun z => n (z.imp (ow b).mp id), e⟩
  refine ⟨by rw [wipeR_length, wipe_length, r.len], r.grow, r.zin, fun b z o => r.zno b z ((ow b).mp o), fun i m e => ?_, fun i l c e => ?_, fun i j l c l' d p e1 e2 h1 h2 => ?_, fun p c hc => ?_, pinM same r.pin, fun x hx => ?_, fun i a d er m e => ?_⟩
  · rcases wipeR_get e with ⟨e, hi⟩ | z
    · obtain ⟨v, h1, h2⟩ := r.val i m e
      exact ⟨v, by rw [wipe_out hi]; exact h1, h2.mono same⟩
    · cases z
  · rcases wipeR_get e with ⟨e, hi⟩ | z
    · obtain ⟨p, h1, h2, h3⟩ := r.own i l c e
      exact ⟨p, by rw [wipe_out hi]; exact h1, h2.mono same fun _ z => z, h3⟩
    · cases z
  · rcases wipeR_get e1 with ⟨e1, hi⟩ | z
    · rcases wipeR_get e2 with ⟨e2, hj⟩ | z
      · exact r.inj i j l c l' d p e1 e2 (wipe_some h1).1 (wipe_some h2).1
      · cases z
    · cases z
  · obtain ⟨i, e1, e2⟩ := r.par p c hc
    have hi := noOwn_at h e1
    exact ⟨i, by rw [wipeR_out hi]; exact e1, by rw [wipe_out hi]; exact e2⟩
  · obtain ⟨c, fs, e1, e2⟩ := r.sf x hx
    have hi := noOwn_at h e1
    exact ⟨c, fs, by rw [wipeR_out hi]; exact e1, by rw [wipe_out hi]; exact e2⟩
  · rcases wipeR_get e with ⟨e, hi⟩ | z
    · obtain ⟨h1, h2⟩ := r.exc i a d er m e
      exact ⟨by rw [wipe_out hi]; exact h1, h2.mono same⟩
    · cases z
theorem ntb_lst {p : Addr} {xs : List V} : NTb p (.lst xs) := ⟨(fun _ z => nomatch z), fun _ z => by unfold LamX.CodeO at z; cases z⟩
/-- what is hidden may change -/
theorem Rel.updZ {D : Addr} {o : HO} (r : Rel Ω F σ H ρ) (hz : F.Z D) (h0 : F.H0 D = none) (nt : NT o) (hp : ∀ u, H D = some u → NTb D u) : Rel Ω F σ (upd H D o) ρ := by
  have no := r.zno D hz
  have ne : ∀ {b}, b ≠ D → upd H D o b = H b := fun h => upd_ne h
  have same : Same (Hd F σ ρ H) (Hd F σ ρ (upd H D o)) := hidP_same fun b o' n e => ⟨n, by
    have nb : b ≠ D := fun z => n (.inr (by rw [z]; exact hz))
    rw [ne nb]
    exact e⟩
  refine ⟨r.len, ⟨fun b o' e n _ => ?_, r.grow.2.put hp⟩, fun b z => ?_, r.zno, fun i m e => ?_, fun i l c e => ?_, r.inj, r.par, ⟨(pinM same r.pin).1, r.pin.2.put hp⟩, r.sf, r.excS same⟩
  · rw [ne (fun z => by rw [z, h0] at e; cases e)]
    exact r.grow.1 b o' e n
  · by_cases e : b = D
    · rw [e]
      exact ⟨o, upd_same, nt⟩
    · rw [ne e]
      exact r.zin b z
  · obtain ⟨v, h1, h2⟩ := r.val i m e
    exact ⟨v, h1, h2.mono same⟩
  · obtain ⟨p, h1, h2, h3⟩ := r.own i l c e
    exact ⟨p, h1, h2.mono same fun o' e' => by rw [ne (fun z => no ⟨i, l, c, e, z ▸ h1⟩)]; exact e', h3⟩
end
theorem lc_run {vs : List Nat} {ti : TMI} {tg : TMG} {tt : TMB} {te : TM} {σ : L2.St} {H : Hp} {QQ : VK} (hh : lf Ω Wx (tmLc vs ti tg tt te) σ H QQ) : tLc (lfI Ω Wx false ti) (lfG Ω vs tg) (lfB Ω Wx0 tt) (lf Ω Wx0 te) vs σ H QQ := by
  obtain ⟨F, ρ, Q, x, r, xl, k, hno, t⟩ := hh
  refine ⟨F, ρ, _, x, r, xl, fun J H1 ms s src q D hD => ?_, t⟩
  have src : Src Ω (Hd F σ ρ H1) (hidP (OwF σ ρ) H1) J ms := src
  have hDs : H D = none := s.free hD
  have nD := s.rel.notOwn hD
  have h0 : F.H0 D = none := s.rel.fresh0 hD
  let F' := F.hide D
  have hz : F'.Z D := .inr rfl
  -- from the outer view to the one that hides D
  have base : ∀ acc, Rel Ω F' σ (upd H1 D (.lst acc)) ρ := fun acc => s.rel.hide (s.rel.new hD) hD ⟨_, upd_same, fun _ z => nomatch z⟩
  refine ⟨fun i n H2 => n = ms.length - i ∧ i ≤ ms.length ∧ ∃ av acc, H2 D = some (.lst av) ∧ Rel Ω F' σ H2 ρ ∧ RpL Ω (Hd F' σ ρ H2) av acc ∧ Src Ω (Hd F' σ ρ H2) (hidP (fun b => OwF σ ρ b ∨ b = D) H2) J ms ∧ ((∀ b o, ¬ OwF σ ρ b → b ≠ D → H1 b = some o → ∀ [Nb o], H2 b = some o) ∧ Tbs H1 H2) ∧ lcM tg tt te (wipeR ρ vs) (ms.drop i) acc fun acc => Q (.f (.lst acc)), ⟨ms.length, rfl, Nat.zero_le _, [], [], upd_same, base [], .nil, ?_, ⟨fun b o _ hb e _ => by rw [upd_ne hb]; exact e, fun b ps e => ⟨ps, by rw [upd_ne (ne_of_none e hD)]; exact e⟩⟩, q⟩, ?_⟩
  · refine src.same (hidP_same fun b o n e => ⟨fun z => ?_, by rw [upd_ne (ne_of_none e hD)]; exact e⟩) (hidP_same fun b o n e => ⟨fun z => z.elim n (ne_of_none e hD), by rw [upd_ne (ne_of_none e hD)]; exact e⟩)
    rcases z with z | z | z
    · exact n (.inl z)
    · exact n (.inr z)
    · rw [z, hD] at e; cases e
  rintro i n H2 ⟨rfl, hle, av, acc, hDa, r2, ra, sr, kp, q2⟩
  have sr' : Src Ω (Hd F' σ ρ H2) H2 J ms := sr.same (fun _ _ e => e) hid_sub
  by_cases hlt : i < ms.length
  · refine .inr ⟨sr'.go hlt, fun H3 => ∃ av acc, H3 D = some (.lst av) ∧ Rel Ω F' σ H3 ρ ∧ RpL Ω (Hd F' σ ρ H3) av acc ∧ Src Ω (Hd F' σ ρ H3) (hidP (fun b => OwF σ ρ b ∨ b = D) H3) J ms ∧ ((∀ b o, ¬ OwF σ ρ b → b ≠ D → H1 b = some o → ∀ [Nb o], H3 b = some o) ∧ Tbs H1 H3) ∧ lcM tg tt te (wipeR ρ vs) (ms.drop (i + 1)) acc fun acc => Q (.f (.lst acc)),
      fun H3 ⟨av, acc, z⟩ => ⟨ms.length - (i + 1), by omega, rfl, hlt, av, acc, z⟩, fun x H3 y => ?_⟩
    obtain ⟨m, em, ok⟩ := sr'.yld hlt y
    have ed : ms.drop i = m :: ms.drop (i + 1) := by
      obtain ⟨h1, h2⟩ := List.getElem?_eq_some_iff.mp em
      rw [List.drop_eq_getElem_cons h1, h2]
    rw [ed] at q2
    obtain ⟨s3, rp⟩ := item_rel (F := F') r2 ok
    have ow := own_wipe (σ := σ) hno
    have of := owf_wipe (σ := σ) hno
    refine ⟨F', wipeR ρ vs, m, _, s3.rel.wipe hno, rp.mono (hidP_same fun b o n e => ⟨fun z => n (z.imp (ow b).mp id), e⟩), fun σ4 ρ4 r4 out oe q4 => ⟨wipe_ext out, F', ρ4, _, X1, r4, fun _ _ _ _ _ _ _ _ z => z.elim, fun b H5 s5 q5 => ?_, q4⟩, q2⟩
    have oe := oe (noOwn_wipe hno)
    -- back to the outer slots, from the heap H2 on
    have back : ∀ H6, Stp Ω F' σ4 ρ4 H3 H6 → Stp Ω F' σ ρ H2 H6 ∧ H6 D = some (.lst av) := fun H6 s6 => by
      have nf : ∀ b, OwF σ4 ρ4 b ↔ OwF σ ρ b := fun b => (oe b).2.trans (of b)
      have k3 : ∀ b o, ¬ OwF σ ρ b → H2 b = some o → ∀ [Nb o], H6 b = some o := fun b o n e => s6.keep b o (fun z => n ((nf b).mp z)) (s3.keep b o n e)
      refine ⟨r2.stepT k3 (s3.tbs.trans s6.tbs) s6.rel.pin.2 fun i l p e1 e2 _ => ?_, k3 D _ (fun z => r2.zno D hz z.own) hDa⟩
      obtain ⟨j, l', z1, z2⟩ := (nf p).mpr ⟨i, l, e1, e2⟩
      obtain ⟨p', g1, g2, _⟩ := s6.rel.own j l' _ z1
      rw [z2] at g1
      cases g1
      exact g2
    have src6 : ∀ H6, Stp Ω F' σ ρ H2 H6 → Src Ω (Hd F' σ ρ H6) (hidP (fun b => OwF σ ρ b ∨ b = D) H6) J ms := fun H6 s6 => sr.same s6.same (hidP_same fun b o n e => ⟨n, s6.keep b o (fun z => n (.inl z)) e⟩)
    cases b with
    | false =>
      obtain ⟨s6, hD6⟩ := back H5 s5
      refine iteF ⟨av, acc, hD6, s6.rel, ra.mono s6.same, src6 H5 s6, ⟨fun b o n hb e => s6.keep b o n (kp.1 b o n hb e), kp.2.trans s6.tbs⟩, by simpa using q5⟩
    | true =>
      refine iteT ⟨F', ρ4, _, X1, s5.rel, fun _ _ _ _ _ _ _ _ z => z.elim, fun y H6 a s6 rp6 q6 => ?_, by simpa using q5⟩
      obtain ⟨ym, ey, hl, q6⟩ := q6
      have ry := RpR.m rp6 ey fun p hp => s5.rel.notZ hp
      obtain ⟨s7, hD7⟩ := back H6 (s5.trans s6)
      refine ⟨av, hD7, ?_, av ++ [y], acc ++ [ym], upd_same, s7.rel.updZ hz h0 (fun _ z => nomatch z) (fun u z => by rw [hD7] at z; cases z; exact ntb_lst), ?_, ?_, ⟨fun b o n hb e _ => ?_, (kp.2.trans s7.tbs).put (fun u z => by rw [hD7] at z; cases z; exact ntb_lst)⟩, q6⟩
      · rw [ra.length]
        exact Nat.lt_of_lt_of_le hl (by decide)
      · have same : Same (Hd F' σ ρ H6) (Hd F' σ ρ (upd H6 D (.lst (av ++ [y])))) := hidP_same fun b o n e => ⟨n, by
          have nb : b ≠ D := fun z => n (.inr (by rw [z]; exact hz))
          rw [upd_ne nb]
          exact e⟩
        refine ((ra.mono s7.same).append (.cons (ry.mono (hidP_same fun b o n e => ⟨fun z => n (z.imp (fun z => (oe b).1.mpr ((ow b).mpr z)) id), e⟩)) .nil)).mono same
      · have s8 := src6 H6 s7
        refine s8.same (hidP_same fun b o n e => ⟨n, ?_⟩) (hidP_same fun b o n e => ⟨n, ?_⟩)
        · have nb : b ≠ D := fun z => n (.inr (by rw [z]; exact hz))
          rw [upd_ne nb]
          exact e
        · have nb : b ≠ D := fun z => n (.inr z)
          rw [upd_ne nb]
          exact e
      · rw [upd_ne hb]
        exact s7.keep b o n (kp.1 b o n hb e)
  · have e : i = ms.length := by omega
    subst e
    rw [List.drop_length] at q2
    refine .inl ⟨sr'.stop, k (.ref D) H2 (.f (.lst acc)) ⟨r2.unhide, fun b o n e _ => ?_, s.tbs.trans kp.2⟩ ⟨D, rfl, hDs, nD, av, hDa, ra.mono (hidP_same fun b o n e => ⟨fun z => n (z.elim (fun z => z.imp id .inl) fun z => .inr (.inr z)), e⟩)⟩ q2⟩
    have hb : b ≠ D := ne_of_none e hDs
    exact kp.1 b o n hb (s.keep b o n e)
theorem pm_lc {elt tg iter : Expr} {ifs : List Expr} {scope : Scope} {own : List (Str × Nat)} {pos : Pos} {ti : TMI} {g : TMG} {tt : TMB} {te : TM} (hc : X.calm = true) (hN : X.N.Nodup) (hi : PI X tg iter (lfI Ω Wx false ti)) (ok : BlkOk X.N X.env.scope scope own)
    (hg : ∀ (s : Shared) (H : Hp) (C : Addr) (cl : List (Str × Addr)) (fp : List Addr), PG (X.blk s H scope (compEnvC scope cl C X.env) fp) tg (lfG Ω (own.map (·.2)) g)) (ht : ∀ (s : Shared) (H : Hp) (C : Addr) (cl : List (Str × Addr)) (fp : List Addr), PTs (X.blk s H scope (compEnvC scope cl C X.env) fp) ifs (lfB Ω Wx0 tt))
    (he : ∀ (s : Shared) (H : Hp) (C : Addr) (cl : List (Str × Addr)) (fp : List Addr), PE (X.blk s H scope (compEnvC scope cl C X.env) fp) elt (lf Ω Wx0 te)) (hs : ∀ x, foldedSetIterable iter X.env x = pure x := by intro _; rfl) :
    PE X (.ListComp elt [⟨tg, iter, ifs, 0⟩] scope pos) (lf Ω Wx (tmLc (own.map (·.2)) ti g tt te)) := PE.imp (pe_lc hc hN hi ok hg ht he hs) fun σ H QQ hh => lc_run hh
theorem pms_setLc {i : Nat} {y : Str} {py : Pos} {elt tg iter : Expr} {ifs : List Expr} {scope : Scope} {own : List (Str × Nat)} {pos spos : Pos} {ti : TMI} {g : TMG} {tt : TMB} {te : TM} (hc : X.calm = true) (hN : X.N.Nodup) (hy : X.N[i]? = some y) (hyl : X.env.scope.names.lookup y = some .local)
    (hsw : swapsWith (.ListComp elt [⟨tg, iter, ifs, 0⟩] scope pos) (some (.Name y py)) spos.line X.env = pure true) (hi : PI X tg iter (lfI Ω Wx false ti)) (ok : BlkOk X.N X.env.scope scope own)
    (hg : ∀ (s : Shared) (H : Hp) (C : Addr) (cl : List (Str × Addr)) (fp : List Addr), PG (X.blk s H scope (compEnvC scope cl C X.env) fp) tg (lfG Ω (own.map (·.2)) g)) (ht : ∀ (s : Shared) (H : Hp) (C : Addr) (cl : List (Str × Addr)) (fp : List Addr), PTs (X.blk s H scope (compEnvC scope cl C X.env) fp) ifs (lfB Ω Wx0 tt))
    (he : ∀ (s : Shared) (H : Hp) (C : Addr) (cl : List (Str × Addr)) (fp : List Addr), PE (X.blk s H scope (compEnvC scope cl C X.env) fp) elt (lf Ω Wx0 te)) (hs : ∀ x, foldedSetIterable iter X.env x = pure x := by intro _; rfl) :
    PS X (.Assign [.Name y py] (.ListComp elt [⟨tg, iter, ifs, 0⟩] scope pos) spos) (lfS Ω Wx (tmSet i (tmLc (own.map (·.2)) ti g tt te))) := PS.imp (ps_setLc hc hN hy hyl hsw hi ok hg ht he hs) fun D σ H hh => lc_run (set_run hh)
end
end PL
namespace PL
open PySem PySem.Spec PyProof.Rows L2 KW
section
variable {X : Cx} {Ω : Ev} {Wx : WX}
def CallM (Ω : Ev) (X : Cx) (f : Value) (sem : List R → (R → Prop) → Prop) : Prop := ∃ r : List V → Hp → VK → Prop, CallR X f r ∧ ∀ (F : Fr) (σ : L2.St) (ρ : List R) (H H' : Hp) (vs : List V) (rs : List R) (Q : R → Prop) (QQ : VK),
  Stp Ω F σ ρ H H' → RpRs Ω F σ ρ H H' vs rs → sem rs Q → (∀ v H'' r, Stp Ω F σ ρ H' H'' → RpR Ω F σ ρ H' H'' v r → Q r → QQ v H'') → (∀ p, H p = none → ¬ F.Z p) → r vs H' QQ
def tmCallB (sem : List R → (R → Prop) → Prop) (u : TMA) : TM := fun ρ Q x => u ρ (fun rs => sem rs Q) x
theorem callB_run {r : List V → Hp → VK → Prop} {sem : List R → (R → Prop) → Prop} {u : TMA} {σ : L2.St} {H : Hp} {QQ : VK}
    (k2 : ∀ (F : Fr) (σ : L2.St) (ρ : List R) (H H' : Hp) (vs : List V) (rs : List R) (Q : R → Prop) (QQ : VK), Stp Ω F σ ρ H H' → RpRs Ω F σ ρ H H' vs rs → sem rs Q → (∀ v H'' r, Stp Ω F σ ρ H' H'' → RpR Ω F σ ρ H' H'' v r → Q r → QQ v H'') → (∀ p, H p = none → ¬ F.Z p) → r vs H' QQ)
    (hh : lf Ω Wx (tmCallB sem u) σ H QQ) : tCB r (lfA Ω Wx u) σ H QQ := by
  obtain ⟨F, ρ, Q, x, rl, xl, k, t⟩ := hh
  exact ⟨F, ρ, _, x, rl, xl, fun vs H1 rs s rp q => k2 F σ ρ H H1 vs rs Q QQ s rp q (fun v H2 r s2 rp2 q2 => k v H2 r (s.trans s2) (rp2.back s) q2) fun p hp => rl.notZ hp, t⟩
def semLen : List R → (R → Prop) → Prop := fun rs Q => match rs with
  | [.v (.str l)] => Q (.v (.int (l.length : Nat)))
  | [.o _ (.scr ns)] => Q (.v (.int (ns.length : Nat)))
  | [r] => match r.seq? with
    | some xs => Q (.v (.int (xs.length : Nat)))
    | none => False
  | _ => False
theorem cm_len (hK : X.K = Ω.K) : CallM Ω X (.builtin "len") semLen := by
  refine ⟨_, kk_len Ω.K hK, fun F σ ρ H H' vs rs Q QQ st ha q K nz => ?_⟩
  unfold semLen at q
  split at q
  · obtain ⟨v, rfl, h⟩ := ha.one
    obtain ⟨rfl, hl⟩ := h.str
    refine ⟨_, _, rfl, ⟨S_line hl, rfl⟩, ?_⟩
    rw [SX.S_len]
    exact K _ H' _ (.refl st.rel) (rv (.int _)) q
  · obtain ⟨v, rfl, h⟩ := ha.one
    obtain ⟨i, e1, e2⟩ := h
    obtain ⟨p, g1, ⟨g2, _⟩, _⟩ := st.rel.own i _ _ e1
    rw [e2] at g1
    cases g1
    exact ⟨_, _, rfl, .inl ⟨_, g2, (List.length_map _).symm⟩, K _ H' _ (.refl st.rel) (rv (.int _)) q⟩
  · obtain ⟨v, rfl, h⟩ := ha.one
    split at q
    · rename_i xs e
      obtain ⟨p, vs, rfl, hs, a⟩ := RpR.seq st.rel h e
      refine ⟨_, vs.length, rfl, hs.elim (fun h => .inl ⟨vs, h, rfl⟩) fun h => .inr ⟨vs, h, rfl⟩, ?_⟩
      rw [a.length]
      exact K _ H' _ (.refl st.rel) (rv (.int _)) q
    · exact q.elim
  · exact q.elim
def semInt1 : List R → (R → Prop) → Prop := fun rs Q => match rs with
  | [.v (.int i)] => Q (.v (.int i))
  | [.v (.bl b)] => Q (.v (.int (if b = true then 1 else 0)))
  | _ => False
def semList : List R → (R → Prop) → Prop := fun rs Q => match rs with
  | [.v (.str l)] => Q (.f (.lst (l.map fun c => .str [c])))
  | [r] => match r.seq? with
    | some xs => Q (.f (.lst xs))
    | none => False
  | _ => False
def semTuple : List R → (R → Prop) → Prop := fun rs Q => match rs with
  | [r] => match r.seq? with
    | some xs => Q (.v (.tup xs))
    | none => False
  | _ => False
theorem cm_tuple (hK : X.K = Ω.K) : CallM Ω X (.type "tuple") semTuple := by
  refine ⟨_, kk_tuple_of Ω.K hK, fun F σ ρ H H' vs rs Q QQ st ha q K nz => ?_⟩
  unfold semTuple at q
  split at q
  · obtain ⟨v, rfl, h⟩ := ha.one
    split at q
    · rename_i xs e
      by_cases hl : ∃ ys, (by assumption : R) = .v (.tup ys)
      · obtain ⟨ys, hy⟩ := hl
        subst hy
        cases e
        cases (show Rp Ω _ v _ from h) with
        | tup hs a => exact ⟨_, _, rfl, .inr ⟨Same.tup hid_sub hs, K _ H' _ (.refl st.rel) (rv h) q⟩⟩
      · have e' : R.lst? (by assumption : R) = some xs := by
          unfold R.seq? at e
          split at e
          · exact e
          · exact absurd ⟨_, rfl⟩ hl
          · exact e
          · exact e
          · cases e
        obtain ⟨p, vs, rfl, hs, a⟩ := RpR.lst st.rel h e'
        exact ⟨_, vs, rfl, .inl ⟨SqL.of hs, fun p' hp' => K _ _ _ (st.rel.new hp') (RpR.newT st.rel hp' a) q⟩⟩
    · exact q.elim
  · exact q.elim
/-- a row of truths -/
def bls : List M → Option (List Bool)
  | [] => some []
  | .bl b :: r => (bls r).map (b :: ·)
  | _ :: _ => none
theorem bls_map (bs : List Bool) : bls (bs.map M.bl) = some bs := by
  induction bs with
  | nil => rfl
  | cons b r ih => rw [List.map_cons, bls, ih]; rfl
theorem RpL.bls {H : Hp} : ∀ {vs : List V} {ms : List M} {bs : List Bool}, RpL Ω H vs ms → PL.bls ms = some bs → vs = bs.map V.bl
  | _, _, _, .nil, e => by
    cases e
    rfl
  | _, _, bs, .cons (m := m) h t, e => by
    cases m with
    | bl b =>
      unfold PL.bls at e
      cases h
      cases e' : PL.bls _ with
      | none => rw [e'] at e; cases e
      | some bs' =>
        rw [e'] at e
        cases e
        rw [RpL.bls t e']
        rfl
    | non => cases e
    | int i => cases e
    | str l => cases e
    | lst xs => cases e
    | tup xs => cases e
    | obj c fs => cases e
    | _ => cases e
def semAll (f : List Bool → Bool) : List R → (R → Prop) → Prop := fun rs Q => match rs with
  | [r] => match r.lst? with
    | some xs => ∃ bs, bls xs = some bs ∧ Q (.v (.bl (f bs)))
    | none => False
  | _ => False
theorem cm_all (hK : X.K = Ω.K) (hc : X.calm = true) : CallM Ω X (.builtin "all") (semAll fun bs => bs.all id) := by
  refine ⟨_, kk_all Ω.K hK hc, fun F σ ρ H H' vs rs Q QQ st ha q K nz => ?_⟩
  unfold semAll at q
  split at q
  · obtain ⟨v, rfl, h⟩ := ha.one
    split at q
    · rename_i xs e
      obtain ⟨bs, eb, q⟩ := q
      obtain ⟨p, vs, rfl, hs, a⟩ := RpR.lst st.rel h e
      have := a.bls eb
      subst this
      exact ⟨p, bs, rfl, SqL.of hs, K _ H' _ (.refl st.rel) (rv (.bl _)) q⟩
    · exact q.elim
  · exact q.elim
end
section
variable {P : Program} {w : World} {Ω : Ev} {mg : Str → Option Value} {base : Heap}
theorem fnUp {k : Nat} {f : Addr} {fd : FuncData} {ps : List Str} {sp : Sp} (F : FnOk P w Ω.K mg base CX0 k f fd ps sp) : FnOk P w Ω.K mg base (L2N.CX P w) k f fd ps sp := by
  refine ⟨F.len, fun A outer s H args us vs Q E hr he hb hv hs => codeAny_mono (F.run A outer s H args us vs Q E hr he hb hv hs) fun r s' h => ?_⟩
  cases r with
  | error e => exact h.elim
  | ok fl =>
    cases fl with
    | ret u => exact h
    | next => exact h.elim
    | brk => exact h.elim
    | cont => exact h.elim
theorem calUp {k : Nat} {x : Str} {sp sp' : Sp} (c : C8.Cal P w Ω.K mg base k x sp []) (h : ∀ vs H Q E, sp' vs H Q E → sp vs H Q E) : RCal P w Ω.K mg base k x sp' := by
  obtain ⟨f, fd, ps, ds, F, hm, kp, b, vv⟩ := c.ex
  cases vv
  exact ⟨f, fd, ps, fnUp (F.imp h), hm, kp, b⟩
theorem Rel.feedStep {F : Fr} {σ : L2.St} {ρ : List R} {H H' : Hp} {i : Nat} {l : Bool} {p : Addr} (r : Rel Ω F σ H ρ) (e1 : ρ[i]? = some (.o l .feed)) (e2 : σ[i]? = some (some (.ref p))) (f' : Fd H' p) (kb : KB p H H') : Stp Ω F σ ρ H H' := by
  refine r.step (fun b o n e => kb b o (fun z => n (z ▸ ⟨i, l, e1, e2⟩)) e) fun j l' q _ _ hf => ?_
  by_cases h : q = p
  · rw [h]
    exact f'
  · obtain ⟨c, d, e⟩ := hf
    exact ⟨c, d, kb q _ h e⟩
theorem rel_two {F : Fr} {vs : List V} {a b : R} {H : Hp} (r : Rel Ω F (vs.map some) H [a, b]) : ∃ v w, vs = [v, w] := by
  have h := r.len
  rw [List.length_map] at h
  match vs, h with
  | [v, w], _ => exact ⟨v, w, rfl⟩
def drawF : FM := fun rs Q _ => match rs with
  | [.o _ .feed, .v (.int m)] => 0 < m ∧ m < 1073741824 ∧ ∀ r : Int, 0 ≤ r → r < m → Q (.v (.int r))
  | _ => False
theorem calM_draw {k : Nat} (c : C8.Cal P w Ω.K mg base k "_law_draw" spDraw []) : CalM P w Ω mg base k "_law_draw" drawF := by
  refine ⟨calUp c fun vs H Q E hh => ?_⟩
  obtain ⟨A0, Z, rs, Qm, xm, r, xl, kk, hf⟩ := hh
  unfold drawF at hf
  split at hf
  · obtain ⟨v, w, rfl⟩ := rel_two r
    obtain ⟨p, e1, e2, _⟩ := r.own 0 _ _ rfl
    obtain ⟨v', g1, g2⟩ := r.val 1 _ rfl
    cases e1
    cases g1
    cases g2
    exact ⟨p, _, rfl, e2, hf.1, hf.2.1, fun r' H' r0 r1 f' kb => kk _ H' _ (r.feedStep (i := 0) rfl rfl f' kb) (rv (.int _)) trivial (hf.2.2 r' r0 r1)⟩
  · exact hf.elim
def feedF : FM := fun rs Q _ => match rs with
  | [.o _ (.scr _), .v (.int k)] => 0 ≤ k ∧ Q (.f .feed)
  | _ => False
theorem calM_feed {k : Nat} (c : C8.Cal P w Ω.K mg base k "_law_feed" (spFeed Ω.K) []) : CalM P w Ω mg base k "_law_feed" feedF := by
  refine ⟨calUp c fun vs H Q E hh => ?_⟩
  obtain ⟨A0, Z, rs, Qm, xm, r, xl, kk, hf⟩ := hh
  unfold feedF at hf
  split at hf
  · obtain ⟨v, w, rfl⟩ := rel_two r
    obtain ⟨p0, e1, ⟨hs, _⟩, _⟩ := r.own 0 _ _ rfl
    obtain ⟨v'', g1, g2⟩ := r.val 1 _ rfl
    cases e1
    cases g1
    cases g2
    exact ⟨_, _, _, rfl, hs, hf.1, fun p H' hp s f' => kk _ H' (.f .feed) (r.same s) ⟨p, rfl, hp, r.notOwn hp, f'⟩ trivial hf.2⟩
  · exact hf.elim
/-- the law's own promise -/
def lawF : FM := fun rs Q _ => ∃ ns : List Int, rs = [.o false (.scr ns)] ∧ ns.length ≤ 63 ∧ Q (.v (.bl true))
theorem law_of {k : Nat} {f : Addr} {fd : FuncData} {ps : List Str} (c : FnOk P w Ω.K mg base (L2N.CX P w) k f fd ps (spM Ω lawF)) : FnOk P w Ω.K mg base CX0 k f fd ps (spLaw Ω.K Ω.tb) := by
  have key : ∀ vs H Q E, spLaw Ω.K Ω.tb vs H Q E → spM Ω lawF vs H Q E0 := fun vs H Q E h => by
    obtain ⟨a, ns, rfl, hs, hl, ho, hp, q⟩ := h
    refine ⟨[(a, .scr ns)], fun _ => False, [.o false (.scr ns)], fun r => r = .v (.bl true), fun _ _ => False, ?_, fun _ _ _ _ _ _ _ _ z => z.elim, fun v H' r st rp _ e => ?_, ns, rfl, hl, rfl⟩
    · refine ⟨rfl, ⟨fun b o e _ => e, .refl _⟩, fun b z => z.elim, fun b z => z.elim, fun i m e => ?_, fun i l c e => ?_, fun i j l c l' d p e1 e2 h1 h2 => ?_, fun p c h => ?_, ⟨trivial, hp⟩, (fun x h => by cases h), fun i a d er m e => ?_⟩
      · cases i with
        | zero => cases e
        | succ i => simp at e
      · cases i with
        | zero =>
          cases e
          exact ⟨a, rfl, ⟨hs, ho⟩, fun _ => List.mem_singleton.mpr rfl, fun z => by cases z⟩
        | succ i => simp at e
      · cases i with
        | zero =>
          cases j with
          | zero =>
            cases e1
            cases e2
            exact ⟨rfl, fun _ => rfl⟩
          | succ j => simp at e2
        | succ i => simp at e1
      · have e := List.mem_singleton.mp (show (p, c) ∈ [(a, OC.scr ns)] from h)
        cases e
        exact ⟨0, rfl, rfl⟩
      · cases i with
        | zero => cases e
        | succ i => simp at e
    · subst e
      cases rp.bl
      exact q H'
  refine ⟨fun vs H Q E h => c.len vs H Q E0 (key vs H Q E h), fun A outer s H args us vs Q E hr he hb hv hs => codeAny_mono (c.run A outer s H args us vs Q E0 hr he hb hv (key vs H Q E hs)) fun r s' h => ?_⟩
  cases r with
  | error e =>
    obtain ⟨_, _, _, _, _, _, _, _, _, _, _, _, z⟩ := h
    exact z.elim
  | ok fl =>
    cases fl with
    | ret u => exact h
    | next => exact h.elim
    | brk => exact h.elim
    | cont => exact h.elim
end
end PL
namespace PL
open PySem PySem.Spec PyProof.Rows L2 KW
section
variable {X : Cx} {Ω : Ev} {Wx : WX}
theorem pm_callB {id : String} {x : Str} {p pos : Pos} {e : Expr} {es : List Expr} {u : TMA} {sem : List R → (R → Prop) → Prop} (h : CallM Ω X (.builtin id) sem) (hg : Gl X x) (hm : X.mg x = none) (hv : bootBuiltins x = some (.builtin id)) (ha : PA X (e :: es) (lfA Ω Wx u)) (hn : x ≠ "__name__" := by decide) (hdb : (x == ("__debug__" : Str)) = false := by decide)
    (he : starEach (e :: es) X.env = (false, eval e X.env) :: starEach es X.env := by rfl) (hpl : (backTo pos (starEach es X.env)).any (·.1) = false := by rfl) : PE X (.Call (.Name x p) (e :: es) [] pos) (lf Ω Wx (tmCallB sem u)) := by
  obtain ⟨r, o, k⟩ := h
  exact PE.imp (pe_callB o hg hm hv ha hn hdb he hpl) fun σ H QQ hh => callB_run k hh
theorem pm_callTy {T : String} {x : Str} {p pos : Pos} {e : Expr} {es : List Expr} {u : TMA} {sem : List R → (R → Prop) → Prop} (h : CallM Ω X (.type T) sem) (hg : Gl X x) (hm : X.mg x = none) (hv : bootBuiltins x = some (.type T)) (ha : PA X (e :: es) (lfA Ω Wx u)) (hn : x ≠ "__name__" := by decide) (hdb : (x == ("__debug__" : Str)) = false := by decide)
    (he : starEach (e :: es) X.env = (false, eval e X.env) :: starEach es X.env := by rfl) (hpl : (backTo pos (starEach es X.env)).any (·.1) = false := by rfl) : PE X (.Call (.Name x p) (e :: es) [] pos) (lf Ω Wx (tmCallB sem u)) := by
  obtain ⟨r, o, k⟩ := h
  exact PE.imp (pe_callTy o hg hm hv ha hn hdb he hpl) fun σ H QQ hh => callB_run k hh
def tmChain (s s' : R → R → (R → Prop) → Prop) (ta tb tc : TM) : TM := fun ρ Q x => ta ρ (fun a => tb ρ (fun b => s a b fun z => ∃ k, z = .v (.bl k) ∧ if k = true then tc ρ (fun c => s' b c Q) x else Q (.v (.bl false))) x) x
theorem chain_run {r r' : R2} {s s' : R → R → (R → Prop) → Prop} {ta tb tc : TM} {σ : L2.St} {H : Hp} {QQ : VK}
    (k1 : ∀ (F : Fr) (σ : L2.St) (ρ : List R) (H H' : Hp) (x y : V) (a b : R) (Q : R → Prop) (QQ : VK), Stp Ω F σ ρ H H' → RpR Ω F σ ρ H H' x a → RpR Ω F σ ρ H H' y b → s a b Q → (∀ v H'' r, Stp Ω F σ ρ H' H'' → RpR Ω F σ ρ H' H'' v r → Q r → QQ v H'') → (∀ p, H p = none → ¬ F.Z p) → r x y H' QQ)
    (k2 : ∀ (F : Fr) (σ : L2.St) (ρ : List R) (H H' : Hp) (x y : V) (a b : R) (Q : R → Prop) (QQ : VK), Stp Ω F σ ρ H H' → RpR Ω F σ ρ H H' x a → RpR Ω F σ ρ H H' y b → s' a b Q → (∀ v H'' r, Stp Ω F σ ρ H' H'' → RpR Ω F σ ρ H' H'' v r → Q r → QQ v H'') → (∀ p, H p = none → ¬ F.Z p) → r' x y H' QQ)
    (h : lf Ω Wx (tmChain s s' ta tb tc) σ H QQ) : tChain r r' (lf Ω Wx ta) (lf Ω Wx tb) (lf Ω Wx tc) σ H QQ := by
  obtain ⟨F, ρ, Q, x, rl, xl, k, t⟩ := h
  refine ⟨F, ρ, _, x, rl, xl, fun va H1 ra s1 rp1 t1 => ?_, t⟩
  refine ⟨F, ρ, _, x, s1.rel, xl.step s1, fun vb H2 rb s2 rp2 t2 => ?_, t1⟩
  have s12 := s1.trans s2
  refine k1 F σ ρ H H2 va vb ra rb _ _ s12 (rp1.step s2) (rp2.back s1) t2 (fun v H3 r' s3 rp3 q => ?_) fun p hp => rl.notZ hp
  obtain ⟨b, rfl, q⟩ := q
  refine ⟨b, rp3.bl, ?_⟩
  have s13 := s12.trans s3
  cases b with
  | true =>
    refine iteT ⟨F, ρ, _, x, s13.rel, xl.step s13, fun vc H4 rc s4 rp4 t4 => ?_, by simpa using q⟩
    have s14 := s13.trans s4
    exact k2 F σ ρ H H4 vb vc rb rc Q QQ s14 ((rp2.back s1).step (s3.trans s4)) (rp4.back s13) t4 (fun v H5 r' s5 rp5 q5 => k v H5 r' (s14.trans s5) (rp5.back s14) q5) fun p hp => rl.notZ hp
  | false => exact iteF (k _ H3 _ s13 (rv (.bl _)) (by simpa using q))
theorem pm_chain {op op' : CmpOp} {a b c : Expr} {pos : Pos} {s s' : R → R → (R → Prop) → Prop} {ta tb tc : TM} (h : OpM Ω X (compareOp op) s) (h' : OpM Ω X (compareOp op') s') (ha : PE X a (lf Ω Wx ta)) (hb : PE X b (lf Ω Wx tb)) (hc : PE X c (lf Ω Wx tc)) (hm : lastMarks [op, op'] [b, c] = false := by with_unfolding_all rfl) :
    PE X (.Compare a [op, op'] [b, c] pos) (lf Ω Wx (tmChain s s' ta tb tc)) := by
  obtain ⟨r, o, k⟩ := h
  obtain ⟨r', o', k'⟩ := h'
  exact PE.imp (pe_chain o o' ha hb hc hm) fun σ H QQ hh => chain_run k k' hh
theorem pm_tchain {op op' : CmpOp} {a b c : Expr} {pos : Pos} {s s' : R → R → (R → Prop) → Prop} {ta tb tc : TM} (h : OpM Ω X (compareOp op) s) (h' : OpM Ω X (compareOp op') s') (ha : PE X a (lf Ω Wx ta)) (hb : PE X b (lf Ω Wx tb)) (hc : PE X c (lf Ω Wx tc)) (hm : lastMarks [op, op'] [b, c] = false := by with_unfolding_all rfl) :
    PT X (.Compare a [op, op'] [b, c] pos) (lfB Ω Wx (tmB (tmChain s s' ta tb tc))) := by
  obtain ⟨r, o, k⟩ := h
  obtain ⟨r', o', k'⟩ := h'
  refine PT.imp (pt_chain o o' ha hb hc hm) fun σ H QQ hh => ?_
  obtain ⟨F, ρ, Q, x, rl, xl, k0, t⟩ := hh
  refine chain_run k k' (Wx := Wx) ⟨F, ρ, _, x, rl, xl, fun v H' r s rp q => ?_, t⟩
  obtain ⟨b, rfl, q⟩ := q
  exact ⟨b, rp.bl, k0 b H' s q⟩
def txs : List M → Option (List (List Nat))
  | [] => some []
  | .str l :: r => (txs r).map (l :: ·)
  | _ :: _ => none
theorem txs_map (ls : List (List Nat)) : txs (ls.map M.str) = some ls := by
  induction ls with
  | nil => rfl
  | cons b r ih => rw [List.map_cons, txs, ih]; rfl
theorem RpL.txs {H : Hp} : ∀ {vs : List V} {ms : List M} {ls : List (List Nat)}, RpL Ω H vs ms → PL.txs ms = some ls → vs = (ls.map S).map V.str
  | _, _, _, .nil, e => by
    cases e
    rfl
  | _, _, ls, .cons (m := m) h t, e => by
    cases m with
    | str l =>
      unfold PL.txs at e
      cases h
      cases e' : PL.txs _ with
      | none => rw [e'] at e; cases e
      | some ls' =>
        rw [e'] at e
        cases e
        rw [RpL.txs t e']
        rfl
    | non => cases e
    | int i => cases e
    | bl l => cases e
    | lst xs => cases e
    | tup xs => cases e
    | obj c fs => cases e
    | _ => cases e
/-- texts put together -/
abbrev jn (sep : List Nat) (ls : List (List Nat)) : List Nat := TL.joinL sep ls
def semJoin (a b : R) (Q : R → Prop) : Prop := match a with
  | .v (.str sep) => match b.seq? with
    | some xs => ∃ ls, txs xs = some ls ∧ (ls.map (·.length)).sum + ls.length * sep.length ≤ 100000 ∧ (jn sep ls).length ≤ 100000 ∧ Q (.v (.str (jn sep ls)))
    | none => False
  | _ => False
def tmJoin (t u : TM) : TM := fun ρ Q x => t ρ (fun a => (∃ l, a = .v (.str l)) ∧ u ρ (fun b => semJoin a b Q) x) x
theorem pm_join {o e : Expr} {apos cpos : Pos} {t u : TM} (hK : X.K = Ω.K) (ho : PE X o (lf Ω Wx t)) (he : PE X e (lf Ω Wx u))
    (hbase : attributeBase o "join" X.env (eval o X.env) = eval o X.env := by rfl)
    (hfew : ((backTo cpos (starEach [e] X.env)).all (fun x => !x.1) && (backToKw cpos (keywordEach [] X.env)).all (fun x => x.1.isSome) && decide ([e].length + ([] : List Keyword).length + (if ([] : List Keyword).isEmpty then 0 else 1) < 30)) = true := by rfl)
    (hline : (apos.endLine == cpos.line) = true := by rfl) (hs : starEach [e] X.env = (false, eval e X.env) :: starEach [] X.env := by rfl) (hplain : (backTo cpos (starEach [] X.env)).any (·.1) = false := by rfl) :
    PE X (.Call (.Attribute o "join" apos) [e] [] cpos) (lf Ω Wx (tmJoin t u)) :=
  PE.imp (kk_bm Ω.K hK PySem.F.plainAttrs_str PySem.F.slot_str_join PySem.F.type_str_join (kk_join Ω.K hK) ho (pa_cons he pa_nil hs) hbase hfew hline hs hplain) fun σ H QQ hh => by
  obtain ⟨F, ρ, Q, x, r, xl, k, t⟩ := hh
  refine ⟨F, ρ, _, x, r, xl, fun v H1 a s rp q => ?_, t⟩
  obtain ⟨⟨l, rfl⟩, q⟩ := q
  obtain ⟨rfl, hl⟩ := rp.str
  refine ⟨rfl, F, ρ, _, x, s.rel, xl.step s, fun w H2 b s2 rp2 q2 => ?_, q⟩
  change (match R.seq? b with
    | some xs => ∃ ls, txs xs = some ls ∧ (ls.map (·.length)).sum + ls.length * l.length ≤ 100000 ∧ (jn l ls).length ≤ 100000 ∧ Q (.v (.str (jn l ls)))
    | none => False) at q2
  split at q2
  · rename_i xs e
    obtain ⟨ls, es, h1, h2, q2⟩ := q2
    obtain ⟨p, vs, rfl, hs, a⟩ := RpR.seq s2.rel rp2 e
    have := a.txs es
    subst this
    refine ⟨_, p, ls.map S, rfl, rfl, hs, ?_, ?_⟩
    · rw [SX.lens, List.length_map, SX.S_len]
      omega
    · rw [SX.join_S]
      exact k _ H2 _ (s.trans s2) (rv (.str h2)) q2
  · exact q2.elim
end
section
variable {Ω : Ev} {F : Fr} {σ : L2.St} {ρ : List R} {H : Hp}
theorem Rel.updO {i : Nat} {p : Addr} {c c' : OC} {o : HO} (r : Rel Ω F σ H ρ) (e1 : ρ[i]? = some (.o true c)) (e2 : σ[i]? = some (some (.ref p))) (oa : OAt Ω (Hd F σ ρ H) (upd H p o) p c') (hi' : (∃ d fs, c = .ins d fs) → ∃ d fs, c' = .ins d fs) : Rel Ω F σ (upd H p o) (ρ.set i (.o true c')) := by
  have hp0 : F.H0 p = none := by
    obtain ⟨q, h1, _, _, h4⟩ := r.own i _ _ e1
    rw [e2] at h1
    cases h1
    exact h4 rfl
  have hi : i < ρ.length := (List.getElem?_eq_some_iff.mp e1).1
  have ow : ∀ b, Own σ (ρ.set i (.o true c')) b ↔ Own σ ρ b := fun b => by
    constructor
    · rintro ⟨j, l, d, h1, h2⟩
      rcases set_get h1 with ⟨z0, z⟩ | ⟨n, h1⟩
      · subst z0
        exact ⟨i, _, _, e1, h2⟩
      · exact ⟨j, l, d, h1, h2⟩
    · rintro ⟨j, l, d, h1, h2⟩
      by_cases z : i = j
      · subst z
        exact ⟨i, _, _, by rw [List.getElem?_set_self hi], h2⟩
      · exact ⟨j, l, d, by rw [set_ne z]; exact h1, h2⟩
  have op : Own σ ρ p := ⟨i, _, _, e1, e2⟩
  have same : Same (Hd F σ ρ H) (Hd F σ (ρ.set i (.o true c')) (upd H p o)) := hidP_same fun b o' n e => ⟨fun z => n (z.imp (ow b).mp id), by
    have nb : b ≠ p := fun z => n (.inl (z ▸ op))
    rw [upd_ne nb]
    exact e⟩
  have hp : ∀ u, H p = some u → NTb p u := fun u hu => by
    obtain ⟨q, h1, h2, _⟩ := r.own i _ _ e1
    rw [e2] at h1
    cases h1
    obtain ⟨o', e', _, n⟩ := h2.there'
    rw [hu] at e'
    cases e'
    exact n
  refine ⟨by rw [List.length_set, r.len], ⟨fun b o' e n _ => ?_, r.grow.2.put hp⟩, fun b z => ?_, fun b z y => r.zno b z ((ow b).mp y), fun j m e => ?_, fun j l d e => ?_, fun j k l c1 l' d q h1 h2 g1 g2 => ?_, fun q d hq => ?_, ⟨(pinM same r.pin).1, r.pin.2.put hp⟩, fun x hx => ?_, fun j a d er m e => ?_⟩
  · have nb : b ≠ p := fun z => by rw [z, hp0] at e; cases e
    rw [upd_ne nb]
    exact r.grow.1 b o' e n
  · have nb : b ≠ p := fun y => r.zno b z (y ▸ op)
    rw [upd_ne nb]
    exact r.zin b z
  · rcases set_get e with ⟨_, z⟩ | ⟨n, e'⟩
    · cases z
    · obtain ⟨v, h1, h2⟩ := r.val j m e'
      exact ⟨v, h1, h2.mono same⟩
  · rcases set_get e with ⟨z0, z⟩ | ⟨n, e'⟩
    · cases z
      subst z0
      exact ⟨p, e2, oa.mono same fun _ z => z, (fun z => by cases z), fun _ => hp0⟩
    · obtain ⟨q, h1, h2, h3⟩ := r.own j l d e'
      refine ⟨q, h1, h2.mono same fun o' eo _ => ?_, h3⟩
      have nq : q ≠ p := fun z => n ((r.inj _ _ _ _ _ _ _ e1 e' e2 (z ▸ h1)).2 rfl)
      rw [upd_ne nq]
      exact eo
  · rcases set_get h1 with ⟨z0, z⟩ | ⟨n1, h1'⟩
    · cases z
      subst z0
      rcases set_get h2 with ⟨z0, z⟩ | ⟨n2, h2'⟩
      · cases z
        exact ⟨rfl, fun _ => z0⟩
      · have := (r.inj _ _ _ _ _ _ _ e1 h2' g1 g2).2 rfl
        exact absurd this n2
    · rcases set_get h2 with ⟨z0, z⟩ | ⟨n2, h2'⟩
      · cases z
        subst z0
        have := (r.inj _ _ _ _ _ _ _ e1 h1' g2 g1).2 rfl
        exact absurd this n1
      · exact r.inj j k l c1 l' d q h1' h2' g1 g2
  · obtain ⟨j, h1, h2⟩ := r.par q d hq
    have n : i ≠ j := fun z => by
      subst z
      rw [e1] at h1
      cases h1
    exact ⟨j, by rw [set_ne n]; exact h1, h2⟩
  · obtain ⟨d, fs, g1, g2⟩ := r.sf x hx
    by_cases z : i = 0
    · subst z
      rw [e1] at g1
      cases g1
      obtain ⟨d', fs', rfl⟩ := hi' ⟨_, _, rfl⟩
      exact ⟨d', fs', List.getElem?_set_self hi, g2⟩
    · exact ⟨d, fs, by rw [set_ne z]; exact g1, g2⟩
  · rcases set_get e with ⟨_, z⟩ | ⟨n, e'⟩
    · cases z
    · obtain ⟨g1, g2⟩ := r.exc j a d er m e'
      exact ⟨g1, g2.mono same⟩
end
section
variable {X : Cx} {Ω : Ev} {Wx : WX}
/-- the list in slot i, if this def may change it -/
def ownL (ρ : List R) (i : Nat) : Option (List M) := match ρ[i]? with
  | some (.o true (.lst xs)) => some xs
  | _ => none
theorem ownL_at {ρ : List R} {i : Nat} {xs : List M} (h : ownL ρ i = some xs) : ρ[i]? = some (.o true (.lst xs)) := by
  unfold ownL at h
  split at h
  · cases h
    assumption
  · cases h
def tmAppend (i : Nat) (t : TM) : TMS := fun ρ C => ∃ xs, ownL ρ i = some xs ∧ t ρ (fun r => ∃ m, r.m? = some m ∧ xs.length < 100000 ∧ C.nx (ρ.set i (.o true (.lst (xs ++ [m]))))) (fun er m => C.ex er m ρ)
end
end PL
namespace GB
open PySem PySem.SeqAt
open AutoSeq1 (wpAny_loadPart')
open MeetsSeq MeetsSeq2 MeetsSeq3 SeqRoads2
section
variable {prog : Program} {w : World} {A : Around} {R : Result → Shared → Prop}
def PairI (prog : Program) (w : World) (A : Around) (E : Value → Shared → Prop) (l b : Addr) (N : Nat) (e : Nat → Bool) (I : Shared → Prop) : Prop :=
  ∀ s, I s → ∃ (items items2 : Array Value) (n n2 : Nat), s.heap.get? l = some { cls := .type "list", data := .seq items n } ∧ s.heap.get? b = some { cls := .type "list", data := .seq items2 n2 } ∧ items.size = N ∧ items2.size = N ∧
    ∀ i (h1 : i < items.size) (h2 : i < items2.size), wpAny (model prog w) A.in1 (eqBool items[i] items2[i]) (fun r s' => r = e i ∧ I s') E s
theorem eq_loopB (l b : Addr) (N : Nat) (e : Nat → Bool) (I : Shared → Prop) (hl : PairI prog w A (fun e s' => R (.error e) s') l b N e I)
    (fin : ∀ s, I s → R (.ok (.ret (.bool ((List.range N).all e)))) s) (k : Nat) :
    ∀ i : Nat, N - i = k → i ≤ N → (∀ j, j < i → e j = true) → ∀ s, I s →
      wpAny (model prog w) A.in1 (Builtin.«list.__eq__.loop» ⟨[.ref l, .ref b, rawInt i, rawInt 2], []⟩) (GQ.FinOf prog w A R) (fun e s' => R (.error e) s') s := by
  induction k with
  | zero =>
    intro i hk hi ha s h
    obtain ⟨items, items2, n, n2, hl1, hb1, hs1, hs2, _⟩ := hl _ h
    have hi' : i = N := by omega
    have hR := fin s h
    rw [show (List.range N).all e = true by rw [List.all_eq_true]; intro j hj; exact ha j (by have := List.mem_range.mp hj; omega)] at hR
    obtain ⟨hp, g, d, tk, os⟩ := s
    wp_walk using wpAny_loadPart' hl1, wpAny_loadPart' hb1
    have hi1 : items[((i : Nat) : Int).toNat]? = none := by simp; omega
    have hi2 : items2[((i : Nat) : Int).toNat]? = none := by simp; omega
    rw [hi1, hi2]
    wp_walk using wpAny_loadPart' hl1, wpAny_loadPart' hb1
    show R (.ok (.ret (.bool (items.size == items2.size)))) _
    rw [hs1, hs2]
    simpa using hR
  | succ k ih =>
    intro i hk hi ha s h
    obtain ⟨items, items2, n, n2, hl1, hb1, hs1, hs2, turn⟩ := hl _ h
    have hlt : i < items.size := by omega
    have hlt2 : i < items2.size := by omega
    have ht := turn i hlt hlt2
    obtain ⟨hp, g, d, tk, os⟩ := s
    wp_walk using wpAny_loadPart' hl1, wpAny_loadPart' hb1
    have hi1 : items[((i : Nat) : Int).toNat]? = some items[i] := by simp [hlt]
    have hi2 : items2[((i : Nat) : Int).toNat]? = some items2[i] := by simp [hlt2]
    have hc : ((i : Int) + 1) = ((i + 1 : Nat) : Int) := by omega
    rw [hi1, hi2]
    refine wpAny_bind (wpAny_mono ht (fun r s2 h2 => ?_) fun _ _ x => x)
    obtain ⟨hr, h2⟩ := h2
    subst hr
    cases he : e i with
    | true =>
      have hrec := ih (i + 1) (by omega) (by omega) (fun j hj => by
        rcases Nat.lt_succ_iff_lt_or_eq.mp hj with z | z
        · exact ha j z
        · rw [z]; exact he) s2 h2
      obtain ⟨hp2, g2, d2, tk2, os2⟩ := s2
      wp_walk
      rw [hc]
      exact ⟨plainId_quiet plain_eq_loop _, codeAny_builtin entry_eq_loop (by
        rw [Around.under_plainId plain_eq_loop _]
        exact hrec)⟩
    | false =>
      have hR := fin s2 h2
      rw [show (List.range N).all e = false by rw [List.all_eq_false]; exact ⟨i, List.mem_range.mpr (by omega), by rw [he]; decide⟩] at hR
      obtain ⟨items', items2', n', n2', hl1', hb1', hs1', hs2', _⟩ := hl _ h2
      obtain ⟨hp2, g2, d2, tk2, os2⟩ := s2
      have hi1' : items'[((i : Nat) : Int).toNat]? = some (items'[i]'(by omega)) := by simp [show i < items'.size by omega]
      have hi2' : items2'[((i : Nat) : Int).toNat]? = some (items2'[i]'(by omega)) := by simp [show i < items2'.size by omega]
      wp_walk using wpAny_loadPart' hl1', wpAny_loadPart' hb1'
      rw [hi1', hi2']
      wp_walk
      exact hR
theorem list_eqB (l b : Addr) (N : Nat) (e : Nat → Bool) (I : Shared → Prop) (hl : PairI prog w A (fun e s' => R (.error e) s') l b N e I)
    (fin : ∀ s, I s → R (.ok (.ret (.bool ((List.range N).all e)))) s) {s : Shared} (h : I s) :
    wpAny (model prog w) A.in1 (Builtin.«list.__eq__» ⟨[.ref l, .ref b], []⟩) (GQ.FinOf prog w A R) (fun e s' => R (.error e) s') s := by
  obtain ⟨items, items2, n, n2, hl1, hb1, hs1, hs2, _⟩ := hl _ h
  have hrec := eq_loopB (A := A) (R := R) l b N e I hl fin _ 0 rfl (Nat.zero_le _) (fun j hj => absurd hj (Nat.not_lt_zero _)) s h
  obtain ⟨hp, g, d, tk, os⟩ := s
  have f3 := AutoSeq1.sub_list_list
  have hne : ¬ (items.size != items2.size) = true := by simp [hs1, hs2]
  wp_walk using wpAny_loadPart' hl1, wpAny_loadPart' hb1
  exact ⟨plainId_quiet plain_eq_loop _, codeAny_builtin entry_eq_loop (by
    rw [Around.under_plainId plain_eq_loop _]
    exact hrec)⟩
theorem tuple_eqB (l b : Addr) (items items2 : Array Value) (n n2 : Nat) (dd dd2 : Option Addr) (sl sl2 : Array (Option Value)) (e : Nat → Bool) (I : Shared → Prop)
    (turn : ∀ i (h1 : i < items.size) (h2 : i < items2.size) s, I s → wpAny (model prog w) A.in1 (eqBool items[i] items2[i]) (fun r s' => r = e i ∧ I s') (fun e s' => R (.error e) s') s)
    (fin : ∀ s, I s → R (.ok (.ret (.bool ((List.range (min items.size items2.size)).all e && items.size == items2.size)))) s) {s : Shared} (hl1 : s.heap.get? l = some { cls := .type "tuple", dict := dd, data := .seq items n, slots := sl }) (hb1 : s.heap.get? b = some { cls := .type "tuple", dict := dd2, data := .seq items2 n2, slots := sl2 }) (h : I s) :
    wpAny (model prog w) A.in1 (Builtin.«tuple.__eq__» ⟨[.ref l, .ref b], []⟩) (GQ.FinOf prog w A R) (fun e s' => R (.error e) s') s := by
  have f2 := AutoSeq1.sub_tuple_tuple
  have hZ : (items.toList.zip items2.toList).length = min items.size items2.size := by simp
  have h0 := h
  obtain ⟨hp, g, d, tk, os⟩ := s
  wp_walk using wpAny_loadPart' hl1, wpAny_loadPart' hb1, wpAny_forIn_list _ (fun rest b s' => b.1 = none ∧ ∃ i, rest = (items.toList.zip items2.toList).drop i ∧ i ≤ min items.size items2.size ∧ (∀ j, j < i → e j = true) ∧ I s') _
  case turn =>
    rintro ⟨y, x⟩ rest b s' ⟨hb', i, hz, hi, ha, hI⟩
    have hlt : i < (items.toList.zip items2.toList).length := by
      rcases Nat.lt_or_ge i (items.toList.zip items2.toList).length with h' | h'
      · exact h'
      · rw [List.drop_of_length_le h'] at hz; cases hz
    have h1 : i < items.size := by omega
    have h2 : i < items2.size := by omega
    rw [List.drop_eq_getElem_cons hlt] at hz
    injection hz with hyx hrest
    have hy : y = items[i] := by have := congrArg Prod.fst hyx; simpa using this
    have hx : x = items2[i] := by have := congrArg Prod.snd hyx; simpa using this
    subst hy hx
    refine wpAny_bind (wpAny_mono (turn i h1 h2 s' hI) (fun r s2 q2 => ?_) fun _ _ x => x)
    obtain ⟨hr, q2⟩ := q2
    subst hr
    cases he : e i with
    | true =>
      wp_walk
      exact ⟨rfl, i + 1, hrest, by omega, (fun j hj => by
        rcases Nat.lt_succ_iff_lt_or_eq.mp hj with z | z
        · exact ha j z
        · rw [z]; exact he), q2⟩
    | false =>
      have hR := fin s2 q2
      rw [show (List.range (min items.size items2.size)).all e = false by rw [List.all_eq_false]; exact ⟨i, List.mem_range.mpr (by omega), by rw [he]; decide⟩] at hR
      wp_walk
      simpa using hR
  case fin =>
    rintro ⟨b1, b2⟩ s' ⟨hb', i, hz, hi, ha, hI⟩
    simp only at hb'
    subst hb'
    have hge : min items.size items2.size ≤ i := by
      rcases Nat.lt_or_ge i (items.toList.zip items2.toList).length with h' | h'
      · rw [List.drop_eq_getElem_cons h'] at hz; cases hz
      · rw [hZ] at h'; exact h'
    have hR := fin s' hI
    rw [show (List.range (min items.size items2.size)).all e = true by rw [List.all_eq_true]; intro j hj; exact ha j (by have := List.mem_range.mp hj; omega), Bool.true_and] at hR
    wp_walk
    simpa [Builtin.Tuple.tupleCompareSizes] using hR
  case h =>
    exact ⟨rfl, 0, rfl, Nat.zero_le _, (fun j hj => absurd hj (Nat.not_lt_zero _)), h0⟩
def ItemI (prog : Program) (w : World) (A : Around) (E : Value → Shared → Prop) (l : Addr) (x : Value) (N : Nat) (e : Nat → Bool) (I : Shared → Prop) : Prop :=
  ∀ s, I s → ∃ (items : Array Value) (n : Nat), s.heap.get? l = some { cls := .type "list", data := .seq items n } ∧ items.size = N ∧
    ∀ i (h1 : i < items.size), wpAny (model prog w) A.in1 (eqBool items[i] x) (fun r s' => r = e i ∧ I s') E s
theorem in_loopB (l : Addr) (x : Value) (N : Nat) (e : Nat → Bool) (I : Shared → Prop) (hl : ItemI prog w A (fun e s' => R (.error e) s') l x N e I)
    (fin : ∀ s, I s → R (.ok (.ret (.bool ((List.range N).any e)))) s) (k : Nat) :
    ∀ i : Nat, N - i = k → i ≤ N → (∀ j, j < i → e j = false) → ∀ s, I s →
      wpAny (model prog w) A.in1 (Builtin.«list.__contains__.loop» ⟨[.ref l, x, rawInt i], []⟩) (GQ.FinOf prog w A R) (fun e s' => R (.error e) s') s := by
  induction k with
  | zero =>
    intro i hk hi ha s h
    obtain ⟨items, n, hl1, hs1, _⟩ := hl _ h
    have hR := fin s h
    rw [show (List.range N).any e = false by rw [List.any_eq_false]; intro j hj; rw [ha j (by have := List.mem_range.mp hj; omega)]; decide] at hR
    obtain ⟨hp, g, d, tk, os⟩ := s
    wp_walk using wpAny_loadPart' hl1
    have hi1 : items[((i : Nat) : Int).toNat]? = none := by simp; omega
    rw [hi1]
    wp_walk
    exact hR
  | succ k ih =>
    intro i hk hi ha s h
    obtain ⟨items, n, hl1, hs1, turn⟩ := hl _ h
    have hlt : i < items.size := by omega
    have ht := turn i hlt
    obtain ⟨hp, g, d, tk, os⟩ := s
    wp_walk using wpAny_loadPart' hl1
    have hi1 : items[((i : Nat) : Int).toNat]? = some items[i] := by simp [hlt]
    have hc : ((i : Int) + 1) = ((i + 1 : Nat) : Int) := by omega
    rw [hi1]
    refine wpAny_bind (wpAny_mono ht (fun r s2 h2 => ?_) fun _ _ x => x)
    obtain ⟨hr, h2⟩ := h2
    subst hr
    cases he : e i with
    | true =>
      have hR := fin s2 h2
      rw [show (List.range N).any e = true by rw [List.any_eq_true]; exact ⟨i, List.mem_range.mpr (by omega), he⟩] at hR
      obtain ⟨hp2, g2, d2, tk2, os2⟩ := s2
      wp_walk
      exact hR
    | false =>
      have hrec := ih (i + 1) (by omega) (by omega) (fun j hj => by
        rcases Nat.lt_succ_iff_lt_or_eq.mp hj with z | z
        · exact ha j z
        · rw [z]; exact he) s2 h2
      obtain ⟨hp2, g2, d2, tk2, os2⟩ := s2
      wp_walk
      rw [hc]
      exact ⟨plainId_quiet plain_contains_loop _, codeAny_builtin entry_contains_loop (by
        rw [Around.under_plainId plain_contains_loop _]
        exact hrec)⟩
theorem list_inB (l : Addr) (x : Value) (N : Nat) (e : Nat → Bool) (I : Shared → Prop) (hl : ItemI prog w A (fun e s' => R (.error e) s') l x N e I)
    (fin : ∀ s, I s → R (.ok (.ret (.bool ((List.range N).any e)))) s) {s : Shared} (h : I s) :
    wpAny (model prog w) A.in1 (Builtin.«list.__contains__» ⟨[.ref l, x], []⟩) (GQ.FinOf prog w A R) (fun e s' => R (.error e) s') s := by
  obtain ⟨items, n, hl1, hs1, _⟩ := hl _ h
  have hrec := in_loopB (A := A) (R := R) l x N e I hl fin _ 0 rfl (Nat.zero_le _) (fun j hj => absurd hj (Nat.not_lt_zero _)) s h
  obtain ⟨hp, g, d, tk, os⟩ := s
  wp_walk using wpAny_loadPart' hl1
  exact ⟨plainId_quiet plain_contains_loop _, codeAny_builtin entry_contains_loop (by
    rw [Around.under_plainId plain_contains_loop _]
    exact hrec)⟩
theorem tuple_inB (l : Addr) (x : Value) (items : Array Value) (n : Nat) (dd : Option Addr) (sl : Array (Option Value)) (e : Nat → Bool) (I : Shared → Prop)
    (turn : ∀ i (h1 : i < items.size) s, I s → wpAny (model prog w) A.in1 (eqBool items[i] x) (fun r s' => r = e i ∧ I s') (fun e s' => R (.error e) s') s)
    (fin : ∀ s, I s → R (.ok (.ret (.bool ((List.range items.size).any e)))) s) {s : Shared} (hl1 : s.heap.get? l = some { cls := .type "tuple", dict := dd, data := .seq items n, slots := sl }) (h : I s) :
    wpAny (model prog w) A.in1 (Builtin.«tuple.__contains__» ⟨[.ref l, x], []⟩) (GQ.FinOf prog w A R) (fun e s' => R (.error e) s') s := by
  have h0 := h
  obtain ⟨hp, g, d, tk, os⟩ := s
  wp_walk using wpAny_loadPart' hl1, wpAny_forIn_array _ (fun rest b s' => b.1 = none ∧ ∃ i, rest = items.toList.drop i ∧ i ≤ items.size ∧ (∀ j, j < i → e j = false) ∧ I s') _
  case turn =>
    rintro y rest b s' ⟨hb', i, hz, hi, ha, hI⟩
    have hlt : i < items.toList.length := by
      rcases Nat.lt_or_ge i items.toList.length with h' | h'
      · exact h'
      · rw [List.drop_of_length_le h'] at hz; cases hz
    have h1 : i < items.size := by simpa using hlt
    rw [List.drop_eq_getElem_cons hlt] at hz
    injection hz with hy hrest
    have hy : y = items[i] := by simpa using hy
    subst hy
    refine wpAny_bind (wpAny_mono (turn i h1 s' hI) (fun r s2 q2 => ?_) fun _ _ x => x)
    obtain ⟨hr, q2⟩ := q2
    subst hr
    cases he : e i with
    | true =>
      have hR := fin s2 q2
      rw [show (List.range items.size).any e = true by rw [List.any_eq_true]; exact ⟨i, List.mem_range.mpr h1, he⟩] at hR
      wp_walk
      exact hR
    | false =>
      wp_walk
      exact ⟨rfl, i + 1, hrest, h1, fun j hj => by
        rcases Nat.lt_succ_iff_lt_or_eq.mp hj with z | z
        · exact ha j z
        · rw [z]; exact he, q2⟩
  case fin =>
    rintro ⟨b1, b2⟩ s' ⟨hb', i, hz, hi, ha, hI⟩
    simp only at hb'
    subst hb'
    have hge : items.size ≤ i := by
      rcases Nat.lt_or_ge i items.toList.length with h' | h'
      · rw [List.drop_eq_getElem_cons h'] at hz; cases hz
      · simpa using h'
    have hR := fin s' hI
    rw [show (List.range items.size).any e = false by rw [List.any_eq_false]; intro j hj; rw [ha j (by have := List.mem_range.mp hj; omega)]; decide] at hR
    wp_walk
    exact hR
  case h =>
    exact ⟨rfl, 0, by simp, Nat.zero_le _, (fun j hj => absurd hj (Nat.not_lt_zero _)), h0⟩
end
section
variable {prog : Program} {w : World} {A : Around} {E : Value → Shared → Prop} {s : Shared}
theorem rc_listB {l b : Addr} {N : Nat} {e : Nat → Bool} {Q : Value → Shared → Prop} (hu : A.units < cLine) (I : Shared → Prop) (hl : PairI prog w A E l b N e I)
    (fin : ∀ s, I s → Q (.bool ((List.range N).all e)) s) (h : I s) : wpAny (model prog w) A (richCompare .Eq (.ref l) (.ref b)) Q E s := by
  obtain ⟨items, items2, n, n2, hl1, hb1, _, _, _⟩ := hl _ h
  refine wpAny_richCompare_same_room (op := .Eq) ⟨_, hl1, rfl⟩ ⟨_, hb1, rfl⟩ F.slot_list_eq (GQ.call_here F.slot_list_eq ⟨_, hl1, rfl⟩ F.entry_list_eq (F.args_list_eq_2 _ _) ?_) hu
  exact list_eqB (R := wants (fun v s' => v ≠ .notImplemented ∧ Q v s') E) l b N e I hl (fun s' q => ⟨(fun x => nomatch x), fin s' q⟩) h
theorem rc_tupB {l b : Addr} {items items2 : Array Value} {e : Nat → Bool} {Q : Value → Shared → Prop} (hu : A.units < cLine) (I : Shared → Prop)
    (hl : s.heap.IsTuple l items) (hb : s.heap.IsTuple b items2)
    (turn : ∀ i (h1 : i < items.size) (h2 : i < items2.size) s, I s → wpAny (model prog w) A.in1 (eqBool items[i] items2[i]) (fun r s' => r = e i ∧ I s') E s)
    (fin : ∀ s, I s → Q (.bool ((List.range (min items.size items2.size)).all e && items.size == items2.size)) s) (h : I s) : wpAny (model prog w) A (richCompare .Eq (.ref l) (.ref b)) Q E s := by
  obtain ⟨⟨cls, dd, data, sl⟩, ho, hc, n, hd⟩ := id hl
  obtain ⟨⟨cls2, dd2, data2, sl2⟩, ho2, hc2, n2, hd2⟩ := id hb
  simp only at hc hd hc2 hd2
  subst hc hd hc2 hd2
  refine wpAny_richCompare_same_room (op := .Eq) ⟨_, ho, rfl⟩ ⟨_, ho2, rfl⟩ F.slot_tuple_eq (GQ.call_here F.slot_tuple_eq ⟨_, ho, rfl⟩ F.entry_tuple_eq (F.args_tuple_eq_2 _ _) ?_) hu
  exact tuple_eqB (R := wants (fun v s' => v ≠ .notImplemented ∧ Q v s') E) l b items items2 n n2 dd dd2 sl sl2 e I turn (fun s' q => ⟨(fun x => nomatch x), fin s' q⟩) ho ho2 h
/-- x in a list, x in a tuple, through contains -/
theorem ct_listB {l : Addr} {x : Value} {N : Nat} {e : Nat → Bool} {Q : Bool → Shared → Prop} (I : Shared → Prop) (hl : ItemI prog w A E l x N e I) (fin : ∀ s, I s → Q ((List.range N).any e) s) (h : I s) : wpAny (model prog w) A (contains (.ref l) x) Q E s := by
  obtain ⟨items, n, hl1, hs1, _⟩ := hl _ h
  refine wpAny_contains_slot ⟨_, hl1, rfl⟩ F.slot_list_contains (GQ.call_here F.slot_list_contains ⟨_, hl1, rfl⟩ F.entry_list_contains (F.args_list_contains_2 _ _) ?_)
  exact list_inB (R := wants (fun r s' => wpAny (model prog w) A (truthy r) Q E s') E) l x N e I hl (fun s' q => wpAny_truthy_bool (fin s' q)) h
theorem ct_tupB {l : Addr} {x : Value} {items : Array Value} {e : Nat → Bool} {Q : Bool → Shared → Prop} (I : Shared → Prop) (hl : s.heap.IsTuple l items)
    (turn : ∀ i (h1 : i < items.size) s, I s → wpAny (model prog w) A.in1 (eqBool items[i] x) (fun r s' => r = e i ∧ I s') E s) (fin : ∀ s, I s → Q ((List.range items.size).any e) s) (h : I s) : wpAny (model prog w) A (contains (.ref l) x) Q E s := by
  obtain ⟨⟨cls, dd, data, sl⟩, ho, hc, n, hd⟩ := id hl
  simp only at hc hd
  subst hc hd
  refine wpAny_contains_slot ⟨_, ho, rfl⟩ F.slot_tuple_contains (GQ.call_here F.slot_tuple_contains ⟨_, ho, rfl⟩ F.entry_tuple_contains (F.args_tuple_contains_2 _ _) ?_)
  exact tuple_inB (R := wants (fun r s' => wpAny (model prog w) A (truthy r) Q E s') E) l x items n dd sl e I turn (fun s' q => wpAny_truthy_bool (fin s' q)) ho h
end
end GB
namespace PL
open PySem PySem.Spec PyProof.Rows L2 KW
/-- which attributes == of a class looks at -/
def dec : Nat → List Bool
  | 0 => [true, true]
  | 1 => [true, true, true, true, false, false, false, false]
  | 2 => [true, true]
  | 3 => [true]
  | 4 => [true, false]
  | 5 => [false, false, true, false, false, false]
  | 6 => [false, false, true, false, false, false]
  | 7 => [false, false, true, false, false, false]
  | 8 => [false, true, false, false, false]
  | 9 => [false, false, false, false, true, false, false, false]
  | 10 => [false, true, false, false, false]
  | 11 => [true, false, false, false, false]
  | 15 => [true, true, true]
  | 18 => [true, false, true]
  | 19 => [true, true, true, false, false]
  | 21 => [true, true, true, true, true, false, false, false, true]
  | 22 => [true, true, true, true, true, true, false, false, false]
  | 23 => [true, true, true, true, true, true, false, false, false]
  | 24 => [true, true, true, true, true, true, false, false, false]
  | 25 => [true, true, true, true, false, false, false, true]
  | 26 => [true, true, true, true, true, false, false, false]
  | 27 => [true, true, true, true, true, true, false, false, false]
  | _ => []
mutual
def eqM : M → M → Bool
  | .non, .non => true
  | .bl a, .bl b => a == b
  | .int a, .int b => a == b
  | .bl a, .int b => (if a then 1 else 0) == b
  | .int a, .bl b => a == (if b then 1 else 0)
  | .str a, .str b => decide (a = b)
  | .lst a, .lst b => eqMs a b
  | .tup a, .tup b => eqMs a b
  | .obj c a, .obj d b => c == d && eqMk (dec c) a b
  | .dct ks a, .dct ls b => (decide (ks = ls) && eqMs a b) || (ks.length == ls.length && eqMd ks a ls b)
  | .err c a, .err d b => c == d && eqMs a b
  | _, _ => false
def eqMs : List M → List M → Bool
  | [], [] => true
  | x :: xs, y :: ys => eqM x y && eqMs xs ys
  | _, _ => false
def eqMk : List Bool → List M → List M → Bool
  | true :: k, x :: xs, y :: ys => eqM x y && eqMk k xs ys
  | false :: k, _ :: xs, _ :: ys => eqMk k xs ys
  | _, _, _ => true
/-- each key's value equal -/
def eqMd : List (List Nat) → List M → List (List Nat) → List M → Bool
  | k :: ks, x :: xs, ls, b => (match (ls.zip b).lookup k with
    | some y => eqM x y
    | none => false) && eqMd ks xs ls b
  | _, _, _, _ => true
end
mutual
theorem eqM_refl : ∀ m : M, eqM m m = true
  | .non => by simp [eqM]
  | .bl a => by simp [eqM]
  | .int a => by simp [eqM]
  | .str a => by simp [eqM]
  | .lst a => by simp only [eqM]; exact eqMs_refl a
  | .tup a => by simp only [eqM]; exact eqMs_refl a
  | .obj c a => by simp only [eqM, beq_self_eq_true, Bool.true_and]; exact eqMk_refl (dec c) a
  | .dct ks a => by simp only [eqM, eqMs_refl a, decide_true, Bool.and_self, Bool.true_or]
  | .err c a => by simp only [eqM, beq_self_eq_true, Bool.true_and]; exact eqMs_refl a
theorem eqMs_refl : ∀ ms : List M, eqMs ms ms = true
  | [] => by simp [eqMs]
  | x :: xs => by simp only [eqMs, eqM_refl x, eqMs_refl xs, Bool.and_self]
theorem eqMk_refl : ∀ (k : List Bool) (ms : List M), eqMk k ms ms = true
  | [], _ => by simp [eqMk]
  | true :: _, [] => by simp [eqMk]
  | false :: _, [] => by simp [eqMk]
  | true :: k, x :: xs => by simp only [eqMk, eqM_refl x, eqMk_refl k xs, Bool.and_self]
  | false :: k, x :: xs => by simp only [eqMk]; exact eqMk_refl k xs
end
/-- the i-th two are equal -/
def pr (xs ys : List M) (i : Nat) : Bool := match xs[i]?, ys[i]? with
  | some x, some y => eqM x y
  | _, _ => true
theorem range_all_succ (n : Nat) (e : Nat → Bool) : (List.range (n + 1)).all e = (e 0 && (List.range n).all fun i => e (i + 1)) := by
  rw [List.range_succ_eq_map, List.all_cons, List.all_map]
  rfl
theorem eqMs_pr : ∀ xs ys : List M, ((List.range (min xs.length ys.length)).all (pr xs ys) && xs.length == ys.length) = eqMs xs ys
  | [], [] => by simp [eqMs]
  | [], _ :: _ => by simp [eqMs]
  | _ :: _, [] => by simp [eqMs]
  | x :: xs, y :: ys => by
    have ih := eqMs_pr xs ys
    simp only [eqMs, ← ih, List.length_cons, Nat.succ_min_succ, range_all_succ]
    have e : (fun i => pr (x :: xs) (y :: ys) (i + 1)) = pr xs ys := by
      funext i
      simp [pr]
    rw [e]
    simp [pr, Bool.and_assoc]
theorem eqMs_len {xs ys : List M} (h : xs.length ≠ ys.length) : eqMs xs ys = false := by
  rw [← eqMs_pr]
  simp [h]
/-- x is among ys -/
def inM (x : M) (ys : List M) : Bool := ys.any fun y => eqM y x
theorem inM_pr (x : M) : ∀ ys : List M, (List.range ys.length).any (fun i => match ys[i]? with
    | some y => eqM y x
    | none => true) = inM x ys
  | [] => rfl
  | y :: ys => by
    have ih := inM_pr x ys
    unfold inM at ih ⊢
    rw [List.any_cons, ← ih, List.length_cons, List.range_succ_eq_map, List.any_cons, List.any_map]
    rfl
def M.ob : M → Bool
  | .obj _ _ => true
  | .err _ _ => true
  | _ => false
/-- no dict -/
def M.nd : M → Bool
  | .dct _ _ => false
  | .err _ _ => false
  | _ => true
def M.isStr : M → Bool
  | .str _ => true
  | _ => false
/-- no instance, or one of a walked == -/
def cOb (cl : M → Bool) (m : M) : Bool := !m.ob || cl m
/-- two meanings whose == is known: cl tells which instances have a walked == -/
def cOk (cl : M → Bool) : Nat → M → M → Bool
  | 0, _, _ => false
  | d + 1, m, m' => match m, m' with
    | .lst a, .lst b => a.length != b.length || (a.zip b).all fun z => cOk cl d z.1 z.2
    | .tup a, .tup b => (a.zip b).all fun z => cOk cl d z.1 z.2
    | m, m' => if m.ob then cl m && cOb cl m' else if m'.ob then m.nd && cl m' else m.nd && m'.nd
def eqF (cl : M → Bool) (c : Nat) : FM := fun rs Q _ => match rs with
  | [.v m, .v m'] => (∃ fs, m = .obj c fs) ∧ cl m = true ∧ cOb cl m' = true ∧ Q (.v (.bl (eqM m m')))
  | _ => False
/-- the instances' own == -/
structure OwE (P : Program) (w : World) (Ω : Ev) (mg : Str → Option Value) (base : Heap) (n : Nat) (cl : M → Bool) : Prop where
  ob : ∀ m, cl m = true → ∃ c fs, m = .obj c fs
  ex : ∀ c fs, cl (.obj c fs) = true → ∃ f fd ps, EqC Ω.K (Ω.cs c) f ∧ FnOk P w Ω.K mg base (L2N.CX P w) n f fd ps (spM Ω (eqF cl c)) ∧ Binds Ω.K fd ps []
end PL
namespace KO
open PySem PySem.Spec PySem.W PyProof.Rows
section
variable {prog : Program} {w : World} {A : Around} {E : Value → Shared → Prop} {s : Shared} {K : Frag} {x C f L : Addr} {h₀ : Heap} {m : Str → Option Value} {ox : Obj} {od : Option Obj}
theorem str_declines {a : Str} {t : Tok} {Q : Value → Shared → Prop} (I : InstAt s.heap x ox C od) (hd : ∀ v, ox.data ≠ .prim v) (h : Q .notImplemented s) : wpAny (model prog w) A (call (.builtin "str.__eq__") [.str a t, .ref x]) Q E s := by
  refine wpAny_call (codeAny_call_builtin PySem.F.slot_str_eq.plain PySem.F.entry_str_eq (PySem.F.slot_str_eq.check _ _ _ _ _ _ _ _ (typeIs_str s a t) (PySem.F.args_str_eq_2 _ _) ?_))
  have hx := I.at_
  unfold Builtin.«str.__eq__» Builtin.Str.strCompare Builtin.Str.strSlot
  refine wpAny_bind (wpAny_bind (m := slotArgs "__eq__" 1 _) (wpAny_pure ?_))
  refine wpAny_bind (m := Builtin.Str.textOf _) (wpAny_pure ?_)
  refine wpAny_pure ?_
  refine wpAny_bind (m := asStr? _) ?_
  refine wpAny_bind (wpAny_load hx ?_)
  cases hdat : ox.data with
  | prim v => exact absurd hdat (hd v)
  | _ => exact wpAny_pure (wpAny_bind (wpAny_rule (wpAny_pure h)))
theorem eq_revG {u : Value} {T id : String} {Q : Value → Shared → Prop} (hT : s.TypeIs u T) (sl : Slot T "__eq__" id) (hu : A.units < cLine) (X : K.In s.heap) (I : InstAt s.heap x ox C od) (hn : subIn K (.ref C) (.type T) = some false)
    (hs : findIn K (.ref C) "__eq__" = some (some (.ref f))) (hf : isFn K (.ref f) = true) (hd : ∀ Q : Value → Shared → Prop, Q .notImplemented s → wpAny (model prog w) A (call (.builtin id) [u, .ref x]) Q E s)
    (h : wpAny (model prog w) A (call (.ref f) [.ref x, u]) (PySem.W.CmpBack Q) E s) : wpAny (model prog w) A (richCompare .Eq u (.ref x)) Q E s := by
  have one : wpAny (model prog w) A (tryCompare (.ref x) (Str.ofString "__eq__") u) (fun r s' => ∃ v, r = some v ∧ Q v s') E s := by
    unfold tryCompare
    refine wpAny_bind (ifBound_K X I hs hf (wpAny_mono h (fun v s' hv => ?_) fun _ _ e => e))
    cases v <;> first | exact hv.elim | exact wpAny_pure ⟨_, rfl, hv⟩
  unfold richCompare
  simp only [hT.oneThing_none]
  refine wpAny_holding (wpAny_bind (wpAny_cRoomFor hu ?_))
  refine wpAny_bind (wpAny_typeOf hT (wpAny_bind (I.type.here ?_)))
  rw [if_pos (show (Value.type T != Value.ref C) = true from rfl)]
  refine wpAny_bind ((looks_subIn X hn).here ?_)
  simp only [Bool.false_eq_true, if_false, Bool.not_false, if_true]
  refine wpAny_bind (m := tryCompare u _ _) (wpAny_tryCompare_declines hT sl (hd _ ⟨rfl, ?_⟩))
  refine wpAny_bind (wpAny_mono one (fun r s' z => ?_) fun _ _ e => e)
  obtain ⟨v, rfl, hq⟩ := z
  exact wpAny_pure hq
theorem none_declines {Q : Value → Shared → Prop} (h : Q .notImplemented s) : wpAny (model prog w) A (call (.builtin "NoneType.__eq__") [.none, .ref x]) Q E s :=
  call_gives PySem.F.slot_NoneType_eq rfl PySem.F.entry_NoneType_eq (PySem.F.args_NoneType_eq_2 _ _) (SeqAt.NoneType___eq___none_ref_0 x) h
theorem asInt_no (I : InstAt s.heap x ox C od) (hd : ∀ v, ox.data ≠ .prim v) {Q : Option Int → Shared → Prop} (h : Q none s) : wpAny (model prog w) A (asInt? (.ref x)) Q E s := by
  unfold asInt?
  refine wpAny_bind (wpAny_load I.at_ ?_)
  cases hdat : ox.data with
  | prim v => exact absurd hdat (hd v)
  | _ => exact wpAny_pure h
theorem int_declines {i : Int} {t : Tok} {Q : Value → Shared → Prop} (I : InstAt s.heap x ox C od) (hd : ∀ v, ox.data ≠ .prim v) (h : Q .notImplemented s) : wpAny (model prog w) A (call (.builtin "int.__eq__") [.int i t, .ref x]) Q E s := by
  refine wpAny_call (codeAny_call_builtin PySem.F.slot_int_eq.plain PySem.F.entry_int_eq (PySem.F.slot_int_eq.check _ _ _ _ _ _ _ _ (typeIs_int s i t) (PySem.F.args_int_eq_2 _ _) ?_))
  rw [show Builtin.«int.__eq__» = Builtin.Int.intBinary "__eq__" (fun x y => ret (.bool (x == y))) from rfl]
  unfold Builtin.Int.intBinary
  refine wpAny_bind (m := slotArgs "__eq__" 1 _) (wpAny_pure ?_)
  refine wpAny_bind (m := Builtin.Int.intOfSelf _) (wpAny_pure ?_)
  refine wpAny_bind (asInt_no I hd ?_)
  exact wpAny_bind (wpAny_rule (wpAny_pure h))
theorem bool_declines {b : Bool} {Q : Value → Shared → Prop} (I : InstAt s.heap x ox C od) (hd : ∀ v, ox.data ≠ .prim v) (h : Q .notImplemented s) : wpAny (model prog w) A (call (.builtin "int.__eq__") [.bool b, .ref x]) Q E s := by
  refine wpAny_call (codeAny_call_builtin PySem.F.slot_bool_eq.plain PySem.F.entry_int_eq (PySem.F.slot_bool_eq.check _ _ _ _ _ _ _ _ (rfl : s.TypeIs (.bool b) "bool") (PySem.F.args_int_eq_2 _ _) ?_))
  rw [show Builtin.«int.__eq__» = Builtin.Int.intBinary "__eq__" (fun x y => ret (.bool (x == y))) from rfl]
  unfold Builtin.Int.intBinary
  refine wpAny_bind (m := slotArgs "__eq__" 1 _) (wpAny_pure ?_)
  refine wpAny_bind (m := Builtin.Int.intOfSelf _) (wpAny_pure ?_)
  refine wpAny_bind (asInt_no I hd ?_)
  exact wpAny_bind (wpAny_rule (wpAny_pure h))
theorem list_declines {l : Addr} {Q : Value → Shared → Prop} (X : K.In s.heap) (I : InstAt s.heap x ox C od) (hn : subIn K (.ref C) (.type "list") = some false) (hT : s.TypeIs (.ref l) "list") (h : Q .notImplemented s) : wpAny (model prog w) A (call (.builtin "list.__eq__") [.ref l, .ref x]) Q E s := by
  refine wpAny_call (codeAny_call_builtin PySem.F.slot_list_eq.plain PySem.F.entry_list_eq (PySem.F.slot_list_eq.check _ _ _ _ _ _ _ _ hT (PySem.F.args_list_eq_2 _ _) ?_))
  have LI : PySem.W.Looks (model prog w) s.heap (isInstance (.ref x) (.type "list")) false := I.type.andThen (PySem.W.looks_subIn X hn)
  show wpAny _ _ (slotArgs "__eq__" 1 _ >>= _) _ _ s
  refine wpAny_bind (m := slotArgs "__eq__" 1 _) (wpAny_pure ?_)
  dsimp only
  refine wpAny_bind (LI.here ?_)
  simp only [Bool.not_false, if_true]
  exact wpAny_pure h
theorem tuple_declines {l : Addr} {Q : Value → Shared → Prop} (X : K.In s.heap) (I : InstAt s.heap x ox C od) (hn : subIn K (.ref C) (.type "tuple") = some false) (hT : s.TypeIs (.ref l) "tuple") (h : Q .notImplemented s) : wpAny (model prog w) A (call (.builtin "tuple.__eq__") [.ref l, .ref x]) Q E s := by
  refine wpAny_call (codeAny_call_builtin PySem.F.slot_tuple_eq.plain PySem.F.entry_tuple_eq (PySem.F.slot_tuple_eq.check _ _ _ _ _ _ _ _ hT (PySem.F.args_tuple_eq_2 _ _) ?_))
  have LI : PySem.W.Looks (model prog w) s.heap (isInstance (.ref x) (.type "tuple")) false := I.type.andThen (PySem.W.looks_subIn X hn)
  show wpAny _ _ (slotArgs "__eq__" 1 _ >>= _) _ _ s
  refine wpAny_bind (m := slotArgs "__eq__" 1 _) (wpAny_pure ?_)
  dsimp only
  refine wpAny_bind (LI.here ?_)
  simp only [Bool.not_false, if_true]
  exact wpAny_pure h
end
end KO
namespace PL
open PySem PySem.Spec PyProof.Rows L2 KW
section
variable {X : Cx} {Ω : Ev} {n : Nat}
/-- how a value's type is told -/
def tyM (Ω : Ev) : M → Value
  | .non => .type "NoneType"
  | .bl _ => .type "bool"
  | .int _ => .type "int"
  | .str _ => .type "str"
  | .lst _ => .type "list"
  | .tup _ => .type "tuple"
  | .obj c _ => .ref (Ω.cs c)
  | .dct _ _ => .type "dict"
  | .err e _ => .ref (Ω.ecs e)
theorem inst_at {pins : List (Addr × Obj)} {σ : L2.St} {H : Hp} {s : Shared} {a C dx : Addr} {fs : List (Str × V)} (I : Inv X pins σ H s) (h : H a = some (.ins C dx fs)) : ∃ od, PySem.W.InstAt s.heap a (PySem.W.instObj C dx) C od := by
  obtain ⟨mA, J, _⟩ := ins_get I.hok h
  obtain ⟨od, J, _⟩ := J.look
  have e := J.at_
  rw [J.at_] at e
  obtain ⟨d, z, ne, ob, _⟩ := (show ObjOk X.prog X.w H s.heap a (.ins C dx fs) from I.hok a _ h)
  have eo : _ = PySem.W.instObj C dx := Option.some.inj (J.at_.symm.trans ob)
  rw [eo] at J
  exact ⟨od, J⟩
theorem looks_of {pins : List (Addr × Obj)} {σ : L2.St} {H Hr : Hp} {s : Shared} {y : V} {v : Value} {m : M} (hK : X.K = Ω.K) (I : Inv X pins σ H s) (hs : Same Hr H) (h : Rp Ω Hr y m) (r : RelV y v) : PySem.W.Looks (model X.prog X.w) s.heap (typeOf v) (tyM Ω m) := by
  have ref : ∀ {a : Addr} {o : Obj}, s.heap.get? a = some o → PySem.W.Looks (model X.prog X.w) s.heap (typeOf (.ref a)) o.cls := fun {a o} h A Q E s' k q => wpAny_typeOf_ref (k _ _ h) q
  cases h with
  | non => cases (show v = Value.none from r); exact PySem.W.Looks.of_pure rfl
  | bl y => cases (show v = Value.bool y from r); exact PySem.W.Looks.of_pure rfl
  | int i => obtain ⟨t, q⟩ := (show ∃ t, v = Value.int i t from r); cases q; exact PySem.W.Looks.of_pure rfl
  | str h => obtain ⟨t, q⟩ := (show ∃ t, v = Value.str _ t from r); cases q; exact PySem.W.Looks.of_pure rfl
  | lst h a =>
    cases (show v = Value.ref _ from r)
    obtain ⟨its, rv, p, _⟩ := I.list (SqL.of (hs _ _ h))
    obtain ⟨o, ho, hc, _⟩ := p.isList
    have := ref ho
    rw [hc] at this
    exact this
  | tup h a =>
    cases (show v = Value.ref _ from r)
    rw [← hK] at h
    obtain ⟨its, rv, ⟨o, ho, hc, _⟩, _⟩ := I.tuple (Same.tup hs h)
    have := ref ho
    rw [hc] at this
    exact this
  | obj h nn a g =>
    cases (show v = Value.ref _ from r)
    obtain ⟨od, J⟩ := inst_at I (hs _ _ h)
    exact J.type
  | dct h nn a =>
    cases (show v = Value.ref _ from r)
    obtain ⟨_, _, vs, _, p⟩ := (show ObjOk X.prog X.w H s.heap _ (.dK _) from I.hok _ _ (hs _ _ h))
    obtain ⟨o, es, ep, ho, hc, _⟩ := p
    have := ref ho
    rw [hc.1] at this
    exact this
  | err g h h2 a =>
    cases (show v = Value.ref _ from r)
    obtain ⟨t1, ho⟩ := exo_at I.hok (hs _ _ h)
    exact ref ho
  | err0 g h =>
    cases (show v = Value.ref _ from r)
    obtain ⟨t1, ho⟩ := exo_at I.hok (hs _ _ h)
    exact ref ho
/-- seen from an earlier heap, with what stands in it all the time -/
structure SmP (Ω : Ev) (Hr H : Hp) : Prop where
  s : Same Hr H
  p : PN Ω H
theorem SmP.trans {Hr H H' : Hp} (h : SmP Ω Hr H) (e : Ext Ω H H') : SmP Ω Hr H' := ⟨h.s.trans e.s, e.p h.p⟩
def EQ1 (X : Cx) (Ω : Ev) (n : Nat) (f : Value → Value → Sem Value) (D : M → M → Prop) : Prop :=
  ∀ (A : Around) (pins : List (Addr × Obj)) (s : Shared) (σ : L2.St) (H Hr : Hp) (x y : V) (u v : Value) (m m' : M), Sub X n A → Inv X pins σ H s → SmP Ω Hr H → Rp Ω Hr x m → Rp Ω Hr y m' → RelV x u → RelV y v → D m m' →
    wpAny (model X.prog X.w) A (f u v) (fun r s' => r = .bool (eqM m m') ∧ ∃ H', Inv X pins σ H' s' ∧ Ext Ω H H') X.xe s
/-- == gives what eqM tells, and only makes objects -/
abbrev RcE (X : Cx) (Ω : Ev) (n : Nat) (D : M → M → Prop) : Prop := EQ1 X Ω n (richCompare .Eq) D
def EqE (X : Cx) (Ω : Ev) (n : Nat) (D : M → M → Prop) : Prop :=
  ∀ (A : Around) (pins : List (Addr × Obj)) (s : Shared) (σ : L2.St) (H Hr : Hp) (x y : V) (u v : Value) (m m' : M), Sub X n A → Inv X pins σ H s → SmP Ω Hr H → Rp Ω Hr x m → Rp Ω Hr y m' → RelV x u → RelV y v → D m m' →
    wpAny (model X.prog X.w) A (eqBool u v) (fun r s' => r = eqM m m' ∧ ∃ H', Inv X pins σ H' s' ∧ Ext Ω H H') X.xe s
/-- the promise of == asked of two values -/
theorem eqF_ask {cl : M → Bool} {c : Nat} {H Hr : Hp} {x y : V} {m m' : M} (hs : SmP Ω Hr H) (hx : Rp Ω Hr x m) (hy : Rp Ω Hr y m') (h0 : ∃ fs, m = .obj c fs) (h1 : cl m = true) (h2 : cOb cl m' = true) : spM Ω (eqF cl c) [x, y] H (fun v H' => v = .bl (eqM m m') ∧ Ext Ω H H') E0 := by
  have no : ∀ b, ¬ Own [some x, some y] [R.v m, R.v m'] b := fun b ⟨i, l, c, e1, _⟩ => by
    match i, e1 with
    | 0, e1 => cases e1
    | 1, e1 => cases e1
    | i + 2, e1 => simp at e1
  have sm : Same Hr (hidP (fun b => Own [some x, some y] [R.v m, R.v m'] b ∨ ((∃ o, H b = some o ∧ NT o) ∧ Hr b = none)) H) := fun b o e => hidP_some.mpr ⟨(fun z => by
    rcases z with z | z
    · exact no b z
    · rw [z.2] at e; cases e), hs.s b o e⟩
  refine ⟨[], fun b => (∃ o, H b = some o ∧ NT o) ∧ Hr b = none, [.v m, .v m'], fun r => r = .v (.bl (eqM m m')), fun _ _ => False, ?_, fun _ _ _ _ _ _ _ _ z => z.elim, fun v H' r st rp _ e => ?_, h0, h1, h2, rfl⟩
  · refine ⟨rfl, ⟨fun b o e _ => e, .refl _⟩, fun b z => z.1, fun b _ o => no b o, fun i k e => ?_, fun i l c e => ?_, fun i j l c l' d p e => ?_, (fun p c h => by cases (show (p, c) ∈ ([] : List (Addr × OC)) from h)), ⟨trivial, hs.p⟩, (fun x h => by cases h), fun i a d er m e => ?_⟩
    · match i, e with
      | 0, e => cases e; exact ⟨x, rfl, hx.mono sm⟩
      | 1, e => cases e; exact ⟨y, rfl, hy.mono sm⟩
      | i + 2, e => simp at e
    · match i, e with
      | 0, e => cases e
      | 1, e => cases e
      | i + 2, e => simp at e
    · match i, e with
      | 0, e => cases e
      | 1, e => cases e
      | i + 2, e => simp at e
    · match i, e with
      | 0, e => cases e
      | 1, e => cases e
      | i + 2, e => simp at e
  · subst e
    exact ⟨rp.bl, fun b o e => st.keep b o (fun z => no b z.own) e, st.tbs, fun _ => st.rel.pin.2⟩
theorem own_run {cl : M → Bool} {c : Nat} {fs : List M} {A : Around} {pins : List (Addr × Obj)} {s : Shared} {σ : L2.St} {H Hr : Hp} {a : Addr} {y : V} {v : Value} {m' : M} {f : Addr} {fd : FuncData} {ps : List Str} (hK : X.K = Ω.K) (Fn : FnOk X.prog X.w Ω.K X.mg X.base (L2N.CX X.prog X.w) n f fd ps (spM Ω (eqF cl c))) (hb : Binds Ω.K fd ps []) (sb : Sub X n A) (I : Inv X pins σ H s) (hs : SmP Ω Hr H) (hx : Rp Ω Hr (.ref a) (.obj c fs)) (hy : Rp Ω Hr y m') (ry : RelV y v) (h1 : cl (.obj c fs) = true) (h2 : cOb cl m' = true) :
    wpAny (model X.prog X.w) A (call (.ref f) [.ref a, v]) (fun r s' => r = .bool (eqM (.obj c fs) m') ∧ ∃ H', Inv X pins σ H' s' ∧ Ext Ω H H') X.xe s := by
  have hsp := eqF_ask (cl := cl) hs hx hy ⟨_, rfl⟩ h1 h2
  have e0 : Env0 X.prog X.w X.K X.mg X.base A X.stack s H := by
    have e := I.env0
    exact ⟨by rw [sb.fr]; exact e.frames, e.mod, e.bs, e.bsz, e.funs, e.frf, e.hok, e.bare⟩
  rw [← hK] at Fn hb
  have hl := Fn.len _ _ _ _ hsp
  have r2 : Vals [V.ref a, y] [Value.ref a, v] := .cons rfl (.cons ry .nil)
  refine wpAny_call (codeAny_mono (Fn.run A X.stack s H ⟨[.ref a, v], []⟩ [.ref a, v] [.ref a, y] _ E0 sb.room e0 (by
    have := hb s [.ref a, v] I.kIn (by simpa using hl)
    simpa using this) r2 hsp) fun r s' hq => ?_)
  cases r with
  | error e =>
    obtain ⟨_, _, _, _, _, _, _, _, _, _, _, _, z⟩ := hq
    exact z.elim
  | ok fl =>
    cases fl with
    | ret w =>
      obtain ⟨z, H', I', rz, ez, ex⟩ := I.after hq
      subst ez
      cases rz
      exact ⟨rfl, H', I', ex⟩
    | next => exact False.elim hq
    | brk => exact False.elim hq
    | cont => exact False.elim hq
theorem nf_of (EO : EvOk Ω) {c : Nat} {m' : M} (g : Ω.has c) (h : ∀ d fs, m' = .obj d fs → Ω.has d) (ne : ∀ e fs, m' ≠ .err e fs) : PySem.W.notFirst Ω.K (Ω.cs c) (tyM Ω m') = true := by
  cases m' with
  | obj d fs => exact (EO.nf c g).2 d (h d fs rfl)
  | err e fs => exact (ne e fs rfl).elim
  | _ => exact (EO.nf c g).1 _ (by decide)
theorem has_of {H : Hp} {y : V} {m' : M} (h : Rp Ω H y m') : ∀ d fs, m' = .obj d fs → Ω.has d := fun d fs e => by
  subst e
  cases h with
  | obj _ _ _ g => exact g
theorem cOb_ne {cl : M → Bool} {m' : M} (O : OwE X.prog X.w Ω X.mg X.base n cl) (d2 : cOb cl m' = true) : ∀ e fs, m' ≠ .err e fs := fun e fs z => by
  subst z
  have h : cl (.err e fs) = true := by simpa [cOb, M.ob] using d2
  obtain ⟨c, fs', z⟩ := O.ob _ h
  cases z
/-- an own == on the left -/
theorem rc_own {cl : M → Bool} (EO : EvOk Ω) (hK : X.K = Ω.K) (O : OwE X.prog X.w Ω X.mg X.base n cl) : RcE X Ω n (fun m m' => cl m = true ∧ cOb cl m' = true) := by
  intro A pins s σ H Hr x y u v m m' sb I hs hx hy rx ry ⟨d, d2⟩
  obtain ⟨c, fs, rfl⟩ := O.ob m d
  obtain ⟨f, fd, ps, ec, Fn, hb⟩ := O.ex c fs d
  have hx' := hx
  cases hx with
  | obj h nn a g =>
    cases (show u = Value.ref _ from rx)
    obtain ⟨od, J⟩ := inst_at I (hs.s _ _ h)
    obtain ⟨mm, hF⟩ := I.fr
    have lk := looks_of hK I hs.s hy ry
    rw [← hK] at ec
    refine PySem.W.cmp_K (op := .Eq) (tb := tyM Ω m') sb.room.units0 hF I.ok.mod.kin J lk (by rw [hK]; exact nf_of EO g (has_of hy) (cOb_ne O d2)) ec.eq ec.fn ?_
    refine wpAny_mono (own_run hK Fn hb sb I hs hx' hy ry d d2) (fun r s' q => ?_) fun _ _ z => z
    obtain ⟨rfl, q⟩ := q
    exact ⟨rfl, q⟩
/-- .. on the right of what is no instance -/
theorem rc_rev {cl : M → Bool} (EO : EvOk Ω) (hK : X.K = Ω.K) (O : OwE X.prog X.w Ω X.mg X.base n cl) : RcE X Ω n (fun m m' => m.ob = false ∧ m.nd = true ∧ cl m' = true) := by
  intro A pins s σ H Hr x y u v m m' sb I hs hx hy rx ry d
  obtain ⟨c, fs, rfl⟩ := O.ob m' d.2.2
  obtain ⟨f, fd, ps, ec, Fn, hb⟩ := O.ex c fs d.2.2
  have hx' := hx
  have hy' := hy
  have hob : cOb cl m = true := by
    unfold cOb
    rw [d.1]
    rfl
  have esym : eqM (.obj c fs) m = eqM m (.obj c fs) := by
    cases m with
    | obj _ _ => cases d.1
    | _ => simp [eqM]
  cases hy with
  | @obj p dx _ vs _ h nn a g =>
    cases (show v = Value.ref _ from ry)
    obtain ⟨od, J⟩ := inst_at I (hs.s _ _ h)
    have hns : ∀ t ∈ tyNames, PySem.W.subIn X.K (.ref (Ω.cs c)) (.type t) = some false := fun t ht => by rw [hK]; exact EO.ns c g t ht
    rw [← hK] at ec
    have hd : ∀ dx v, (PySem.W.instObj (Ω.cs c) dx).data ≠ .prim v := fun dx v => (fun z => nomatch z)
    have hd := hd dx
    have go : wpAny (model X.prog X.w) A (call (.ref f) [.ref p, u]) (PySem.W.CmpBack fun r s' => r = .bool (eqM m (.obj c fs)) ∧ ∃ H', Inv X pins σ H' s' ∧ Ext Ω H H') X.xe s := by
      refine wpAny_mono (own_run hK Fn hb sb I hs hy' hx' rx d.2.2 hob) (fun r s' q => ?_) fun _ _ z => z
      obtain ⟨rfl, q⟩ := q
      rw [esym]
      exact ⟨rfl, q⟩
    cases hx with
    | non =>
      cases (show u = Value.none from rx)
      exact KO.eq_revG (rfl : s.TypeIs .none "NoneType") PySem.F.slot_NoneType_eq sb.room.units0 I.kIn J (hns _ (by decide)) ec.eq ec.fn (fun Q q => KO.none_declines q) go
    | bl b =>
      cases (show u = Value.bool b from rx)
      exact KO.eq_revG (rfl : s.TypeIs (.bool b) "bool") PySem.F.slot_bool_eq sb.room.units0 I.kIn J (hns _ (by decide)) ec.eq ec.fn (fun Q q => KO.bool_declines J hd q) go
    | int i =>
      obtain ⟨t, rfl⟩ := (show ∃ t, u = Value.int i t from rx)
      exact KO.eq_revG (typeIs_int s i t) PySem.F.slot_int_eq sb.room.units0 I.kIn J (hns _ (by decide)) ec.eq ec.fn (fun Q q => KO.int_declines J hd q) go
    | str hl =>
      obtain ⟨t, rfl⟩ := (show ∃ t, u = Value.str _ t from rx)
      exact KO.eq_revG (typeIs_str s _ t) PySem.F.slot_str_eq sb.room.units0 I.kIn J (hns _ (by decide)) ec.eq ec.fn (fun Q q => KO.str_declines J hd q) go
    | lst h a =>
      cases (show u = Value.ref _ from rx)
      obtain ⟨its, rv, p, _⟩ := I.list (SqL.of (hs.s _ _ h))
      obtain ⟨o, ho, hc, _⟩ := p.isList
      have hT : s.TypeIs (.ref _) "list" := ⟨o, ho, hc⟩
      exact KO.eq_revG hT PySem.F.slot_list_eq sb.room.units0 I.kIn J (hns _ (by decide)) ec.eq ec.fn (fun Q q => KO.list_declines I.kIn J (hns _ (by decide)) hT q) go
    | tup h a =>
      cases (show u = Value.ref _ from rx)
      rw [← hK] at h
      obtain ⟨its, rv, ⟨o, ho, hc, _⟩, _⟩ := I.tuple (Same.tup hs.s h)
      have hT : s.TypeIs (.ref _) "tuple" := ⟨o, ho, hc⟩
      exact KO.eq_revG hT PySem.F.slot_tuple_eq sb.room.units0 I.kIn J (hns _ (by decide)) ec.eq ec.fn (fun Q q => KO.tuple_declines I.kIn J (hns _ (by decide)) hT q) go
    | obj _ _ _ _ => cases d.1
    | _ => cases d.2.1
end
end PL
namespace PL
open PySem PySem.Spec PyProof.Rows L2 KW
theorem zip_inj : ∀ {ks : List Str} {vs ws : List V}, vs.length = ks.length → ws.length = ks.length → ks.zip vs = ks.zip ws → vs = ws
  | [], [], [], _, _, _ => rfl
  | [], _ :: _, _, h, _, _ => by simp at h
  | [], [], _ :: _, _, h, _ => by simp at h
  | _ :: _, [], _, h, _, _ => by simp at h
  | _ :: _, _ :: _, [], _, h, _ => by simp at h
  | k :: ks, v :: vs, w :: ws, h1, h2, e => by
    rw [List.zip_cons_cons, List.zip_cons_cons] at e
    injection e with e1 e2
    injection e1 with _ e1
    rw [e1, zip_inj (by simpa using h1) (by simpa using h2) e2]
theorem zip_injK : ∀ {ks ls : List (List Nat)} {vs ws : List V}, vs.length = ks.length → ws.length = ls.length → (ks.map fun k => (Sum.inr (S k) : Key)).zip vs = (ls.map fun k => (Sum.inr (S k) : Key)).zip ws → ks = ls ∧ vs = ws
  | [], [], [], [], _, _, _ => ⟨rfl, rfl⟩
  | [], _, _ :: _, _, h, _, _ => by simp at h
  | _ :: _, _, [], _, h, _, _ => by simp at h
  | _, [], _, _ :: _, _, h, _ => by simp at h
  | _, _ :: _, _, [], _, h, _ => by simp at h
  | [], _ :: _, [], _ :: _, _, _, e => by simp at e
  | _ :: _, [], _ :: _, [], _, _, e => by simp at e
  | k :: ks, l :: ls, v :: vs, w :: ws, h1, h2, e => by
    rw [List.map_cons, List.map_cons, List.zip_cons_cons, List.zip_cons_cons] at e
    injection e with e1 e2
    injection e1 with e0 e1
    have e0 := SX.S_inj (Sum.inr.inj e0)
    obtain ⟨h3, h4⟩ := zip_injK (by simpa using h1) (by simpa using h2) e2
    rw [e0, e1, h3, h4]
    exact ⟨rfl, rfl⟩
section
variable {X : Cx} {Ω : Ev} {n : Nat}
theorem exo_no {H : Hp} {p C : Addr} {d : Option Addr} {o : HO} (h : H p = some (exo p C d)) (e : H p = some o) (k : ∀ P, o ≠ .ext P) : False := k _ (by
  rw [h] at e
  exact (Option.some.inj e).symm)
theorem exo_nt {pins : List (Addr × Obj)} {σ : L2.St} {H : Hp} {s : Shared} {p C : Addr} {d : Option Addr} {vs : List V} (I : Inv X pins σ H s) (h : H p = some (exo p C d)) (e : SqT X.K H p vs) : False := by
  obtain ⟨its, rv, ⟨o, ho, hc, _⟩, _⟩ := I.tuple e
  obtain ⟨t1, z⟩ := exo_at I.hok h
  rw [z] at ho
  cases ho
  cases hc
theorem exo_same {pins : List (Addr × Obj)} {σ : L2.St} {H : Hp} {s : Shared} {p C C' : Addr} {d d' : Option Addr} (I : Inv X pins σ H s) (h : H p = some (exo p C d)) (h' : H p = some (exo p C' d')) : C = C' ∧ d = d' := by
  obtain ⟨t1, z⟩ := exo_at I.hok h
  obtain ⟨t2, z2⟩ := exo_at I.hok h'
  rw [z] at z2
  cases z2
  exact ⟨rfl, rfl⟩
mutual
/-- a value means one thing -/
theorem Rp.inj {pins : List (Addr × Obj)} {σ : L2.St} {H Hr : Hp} {s : Shared} (EO : EvOk Ω) (hK : X.K = Ω.K) (I : Inv X pins σ H s) (hs : Same Hr H) : ∀ (m m' : M) (v : V), Rp Ω Hr v m → Rp Ω Hr v m' → m = m'
  | .non, _, _, h, h' => by cases h; cases h'; rfl
  | .bl _, _, _, h, h' => by cases h; cases h'; rfl
  | .int _, _, _, h, h' => by cases h; cases h'; rfl
  | .str _, _, _, h, h' => by
    cases h
    generalize hv : V.str (S _) = v at h'
    cases h' with
    | str h => rw [SX.S_inj (V.str.inj hv)]
    | non => cases hv
    | bl b => cases hv
    | int i => cases hv
    | lst _ _ => cases hv
    | tup _ _ => cases hv
    | obj _ _ _ _ => cases hv
    | _ => cases hv
  | .lst ms, _, _, h, h' => by
    cases h with
    | lst e a =>
      cases h' with
      | lst e' a' =>
        rw [e] at e'
        cases e'
        rw [RpL.inj EO hK I hs ms _ _ a a']
      | tup e' a' =>
        rw [← hK] at e'
        exact absurd (I.tuple (Same.tup hs e')) (by
          rintro ⟨its, rv, ⟨o, ho, hc, _⟩, _⟩
          obtain ⟨_, _, p, _⟩ := I.list (SqL.of (hs _ _ e))
          obtain ⟨o', ho', hc', _⟩ := p.isList
          rw [ho] at ho'
          cases ho'
          rw [hc] at hc'
          simp at hc')
      | obj e' n' a' g' => rw [e] at e'; cases e'
      | dct e' n' a' => rw [e] at e'; cases e'
      | err g2 e' h2' a' => exact (exo_no e' e fun P z => by cases z).elim
      | err0 g2 e' => exact (exo_no e' e fun P z => by cases z).elim
  | .tup ms, _, _, h, h' => by
    cases h with
    | tup e a =>
      rw [← hK] at e
      cases h' with
      | lst e' a' =>
        exact absurd (I.tuple (Same.tup hs e)) (by
          rintro ⟨its, rv, ⟨o, ho, hc, _⟩, _⟩
          obtain ⟨_, _, p, _⟩ := I.list (SqL.of (hs _ _ e'))
          obtain ⟨o', ho', hc', _⟩ := p.isList
          rw [ho] at ho'
          cases ho'
          rw [hc] at hc'
          simp at hc')
      | tup e' a' =>
        rw [← hK] at e'
        have := I.tuple_inj (Same.tup hs e) (Same.tup hs e')
        subst this
        rw [RpL.inj EO hK I hs ms _ _ a a']
      | obj e' n' a' g' =>
        exact absurd (I.tuple (Same.tup hs e)) (by
          rintro ⟨its, rv, ⟨o, ho, hc, _⟩, _⟩
          obtain ⟨od, J⟩ := inst_at I (hs _ _ e')
          have := J.at_
          rw [ho] at this
          cases this
          cases hc)
      | dct e' n' a' =>
        exact absurd (I.tuple (Same.tup hs e)) (by
          rintro ⟨its, rv, ⟨o, ho, hc, _⟩, _⟩
          obtain ⟨_, _, vs, _, o', es, ep, ho', hc', _⟩ := (show ObjOk X.prog X.w H s.heap _ (.dK _) from I.hok _ _ (hs _ _ e'))
          rw [ho] at ho'
          cases ho'
          have hc'' := hc'.1
          rw [hc] at hc''
          simp at hc'')
      | err g2 e' h2' a' => exact (exo_nt I (hs _ _ e') (Same.tup hs e)).elim
      | err0 g2 e' => exact (exo_nt I (hs _ _ e') (Same.tup hs e)).elim
  | .obj c ms, _, _, h, h' => by
    cases h with
    | obj e n a g =>
      cases h' with
      | lst e' a' => rw [e] at e'; cases e'
      | tup e' a' =>
        rw [← hK] at e'
        exact absurd (I.tuple (Same.tup hs e')) (by
          rintro ⟨its, rv, ⟨o, ho, hc, _⟩, _⟩
          obtain ⟨od, J⟩ := inst_at I (hs _ _ e)
          have := J.at_
          rw [ho] at this
          cases this
          cases hc)
      | obj e' n' a' g' =>
        rw [e] at e'
        injection e' with e'
        injection e' with e1 e2 e3
        have ec := EO.inj _ _ g g' e1
        subst ec
        have ev := zip_inj n n' e3
        subst ev
        rw [RpL.inj EO hK I hs ms _ _ a a']
      | dct e' n' a' => rw [e] at e'; cases e'
      | err g2 e' h2' a' => exact (exo_no e' e fun P z => by cases z).elim
      | err0 g2 e' => exact (exo_no e' e fun P z => by cases z).elim
  | .dct ks ms, _, _, h, h' => by
    cases h with
    | dct e n a =>
      cases h' with
      | lst e' a' => rw [e] at e'; cases e'
      | obj e' n' a' g' => rw [e] at e'; cases e'
      | tup e' a' =>
        rw [← hK] at e'
        exact absurd (I.tuple (Same.tup hs e')) (by
          rintro ⟨its, rv, ⟨o, ho, hc, _⟩, _⟩
          obtain ⟨_, _, vs, _, o', es, ep, ho', hc', _⟩ := (show ObjOk X.prog X.w H s.heap _ (.dK _) from I.hok _ _ (hs _ _ e))
          rw [ho] at ho'
          cases ho'
          have hc'' := hc'.1
          rw [hc] at hc''
          simp at hc'')
      | dct e' n' a' =>
        rw [e] at e'
        injection e' with e'
        injection e' with e'
        obtain ⟨ek, ev⟩ := zip_injK n n' e'
        subst ek
        subst ev
        rw [RpL.inj EO hK I hs ms _ _ a a']
      | err g2 e' h2' a' => exact (exo_no e' e fun P z => by cases z).elim
      | err0 g2 e' => exact (exo_no e' e fun P z => by cases z).elim
  | .err x [m], _, _, h, h' => by
    cases h with
    | err g e h2 a =>
      cases h' with
      | lst e' a' => exact (exo_no e e' fun P z => by cases z).elim
      | obj e' n' a' g' => exact (exo_no e e' fun P z => by cases z).elim
      | dct e' n' a' => exact (exo_no e e' fun P z => by cases z).elim
      | tup e' a' =>
        rw [← hK] at e'
        exact (exo_nt I (hs _ _ e) (Same.tup hs e')).elim
      | err g2 e' h2' a' =>
        obtain ⟨ec, ed⟩ := exo_same I (hs _ _ e) (hs _ _ e')
        obtain rfl := EO.einj _ _ g g2 ec
        cases ed
        rw [h2] at h2'
        cases h2'
        rw [Rp.inj EO hK I hs m _ _ a a']
      | err0 g2 e' =>
        obtain ⟨_, ed⟩ := exo_same I (hs _ _ e) (hs _ _ e')
        cases ed
  | .err x [], _, _, h, h' => by
    cases h with
    | err0 g e =>
      cases h' with
      | lst e' a' => exact (exo_no e e' fun P z => by cases z).elim
      | obj e' n' a' g' => exact (exo_no e e' fun P z => by cases z).elim
      | dct e' n' a' => exact (exo_no e e' fun P z => by cases z).elim
      | tup e' a' =>
        rw [← hK] at e'
        exact (exo_nt I (hs _ _ e) (Same.tup hs e')).elim
      | err g2 e' h2' a' =>
        obtain ⟨_, ed⟩ := exo_same I (hs _ _ e) (hs _ _ e')
        cases ed
      | err0 g2 e' =>
        obtain ⟨ec, _⟩ := exo_same I (hs _ _ e) (hs _ _ e')
        obtain rfl := EO.einj _ _ g g2 ec
        rfl
  | .err x (_ :: _ :: _), _, _, h, _ => by cases h
theorem RpL.inj {pins : List (Addr × Obj)} {σ : L2.St} {H Hr : Hp} {s : Shared} (EO : EvOk Ω) (hK : X.K = Ω.K) (I : Inv X pins σ H s) (hs : Same Hr H) : ∀ (ms ms' : List M) (vs : List V), RpL Ω Hr vs ms → RpL Ω Hr vs ms' → ms = ms'
  | [], _, _, h, h' => by cases h; cases h'; rfl
  | m :: ms, _, _, h, h' => by
    cases h with
    | cons h t => cases h' with
      | cons h' t' => rw [Rp.inj EO hK I hs m _ _ h h', RpL.inj EO hK I hs ms _ _ t t']
end
/-- two built-in things whose == looks at no items -/
def bOk : M → M → Bool
  | .obj _ _, _ => false
  | _, .obj _ _ => false
  | .dct _ _, _ => false
  | _, .dct _ _ => false
  | .err _ _, _ => false
  | _, .err _ _ => false
  | .lst _, .lst _ => false
  | .tup _, .tup _ => false
  | _, _ => true
theorem rc_base (hK : X.K = Ω.K) : RcE X Ω 0 (fun m m' => bOk m m' = true) := by
  intro A pins s σ H Hr x y u v m m' sb I hs hx hy rx ry d
  have hu := sb.room.units0
  have fin : ∀ b, b = eqM m m' → SeqAt.RcAt A s u v b → wpAny (model X.prog X.w) A (richCompare .Eq u v) (fun r s' => r = .bool (eqM m m') ∧ ∃ H', Inv X pins σ H' s' ∧ Ext Ω H H') X.xe s := fun b e h => by
    subst e
    exact h _ _ _ _ ⟨rfl, H, I, .refl _⟩
  have isL : ∀ {p vs}, Hr p = some (.lst vs) → ∃ its, s.heap.IsList p its := fun {p vs} h => by
    obtain ⟨its, _, pl, _⟩ := I.list (SqL.of (hs.s _ _ h))
    exact ⟨_, pl.isList⟩
  have isT : ∀ {p vs}, SqT Ω.K Hr p vs → ∃ its, s.heap.IsTuple p its := fun {p vs} h => by
    rw [← hK] at h
    obtain ⟨its, _, pl, _⟩ := I.tuple (Same.tup hs.s h)
    exact ⟨_, pl⟩
  cases hx with
  | non =>
    cases (show u = Value.none from rx)
    cases hy with
    | non => cases (show v = Value.none from ry); exact fin _ (by simp [eqM]) .none_none
    | bl b => cases (show v = Value.bool b from ry); exact fin _ (by simp [eqM]) (.none_bool b)
    | int i => obtain ⟨t, rfl⟩ := (show ∃ t, v = Value.int i t from ry); exact fin _ (by simp [eqM]) (.none_int i t)
    | str h => obtain ⟨t, rfl⟩ := (show ∃ t, v = Value.str _ t from ry); exact fin _ (by simp [eqM]) (.none_str _ t)
    | lst h a => cases (show v = Value.ref _ from ry); obtain ⟨its, h⟩ := isL h; exact fin _ (by simp [eqM]) (.none_list h hu)
    | tup h a => cases (show v = Value.ref _ from ry); obtain ⟨its, h⟩ := isT h; exact fin _ (by simp [eqM]) (.none_tuple h hu)
    | obj h n a g => cases d
    | _ => cases d
  | bl a =>
    cases (show u = Value.bool a from rx)
    cases hy with
    | non => cases (show v = Value.none from ry); exact fin _ (by simp [eqM]) (.bool_none a)
    | bl b => cases (show v = Value.bool b from ry); exact fin _ (by simp [eqM]) (.bool_bool a b)
    | int i => obtain ⟨t, rfl⟩ := (show ∃ t, v = Value.int i t from ry); exact fin _ (by simp [eqM]) (.bool_int a i t)
    | str h => obtain ⟨t, rfl⟩ := (show ∃ t, v = Value.str _ t from ry); exact fin _ (by simp [eqM]) (.bool_str a _ t)
    | lst h _ => cases (show v = Value.ref _ from ry); obtain ⟨its, h⟩ := isL h; exact fin _ (by simp [eqM]) (.bool_list a h hu)
    | tup h _ => cases (show v = Value.ref _ from ry); obtain ⟨its, h⟩ := isT h; exact fin _ (by simp [eqM]) (.bool_tuple a h hu)
    | obj h n a g => cases d
    | _ => cases d
  | int i =>
    obtain ⟨t, rfl⟩ := (show ∃ t, u = Value.int i t from rx)
    cases hy with
    | non => cases (show v = Value.none from ry); exact fin _ (by simp [eqM]) (.int_none i t)
    | bl b => cases (show v = Value.bool b from ry); exact fin _ (by simp [eqM]) (.int_bool i t b)
    | int j => obtain ⟨t', rfl⟩ := (show ∃ t, v = Value.int j t from ry); exact fin _ (by simp [eqM]) (.int_int i t j t')
    | str h => obtain ⟨t', rfl⟩ := (show ∃ t, v = Value.str _ t from ry); exact fin _ (by simp [eqM]) (.int_str i t _ t')
    | lst h _ => cases (show v = Value.ref _ from ry); obtain ⟨its, h⟩ := isL h; exact fin _ (by simp [eqM]) (.int_list i t h hu)
    | tup h _ => cases (show v = Value.ref _ from ry); obtain ⟨its, h⟩ := isT h; exact fin _ (by simp [eqM]) (.int_tuple i t h hu)
    | obj h n a g => cases d
    | _ => cases d
  | @str l hl =>
    obtain ⟨t, rfl⟩ := (show ∃ t, u = Value.str _ t from rx)
    cases hy with
    | non => cases (show v = Value.none from ry); exact fin _ (by simp [eqM]) (.str_none _ t)
    | bl b => cases (show v = Value.bool b from ry); exact fin _ (by simp [eqM]) (.str_bool _ t b)
    | int j => obtain ⟨t', rfl⟩ := (show ∃ t, v = Value.int j t from ry); exact fin _ (by simp [eqM]) (.str_int _ t j t')
    | @str l' h => obtain ⟨t', rfl⟩ := (show ∃ t, v = Value.str _ t from ry); exact fin _ (by simp only [eqM]; exact SX.S_beq_eq) (.str_str _ t _ t')
    | lst h _ => cases (show v = Value.ref _ from ry); obtain ⟨its, h⟩ := isL h; exact fin _ (by simp [eqM]) (.str_list _ t h hu)
    | tup h _ => cases (show v = Value.ref _ from ry); obtain ⟨its, h⟩ := isT h; exact fin _ (by simp [eqM]) (.str_tuple _ t h hu)
    | obj h n a g => cases d
    | _ => cases d
  | lst h a =>
    cases (show u = Value.ref _ from rx)
    obtain ⟨its, h⟩ := isL h
    cases hy with
    | non => cases (show v = Value.none from ry); exact fin _ (by simp [eqM]) (.list_none h hu)
    | bl b => cases (show v = Value.bool b from ry); exact fin _ (by simp [eqM]) (.list_bool b h hu)
    | int j => obtain ⟨t', rfl⟩ := (show ∃ t, v = Value.int j t from ry); exact fin _ (by simp [eqM]) (.list_int j t' h hu)
    | str h' => obtain ⟨t', rfl⟩ := (show ∃ t, v = Value.str _ t from ry); exact fin _ (by simp [eqM]) (.list_str _ t' h hu)
    | lst h' _ => cases d
    | tup h' _ => cases (show v = Value.ref _ from ry); obtain ⟨its', h'⟩ := isT h'; exact fin _ (by simp [eqM]) (.list_tuple h h' hu)
    | obj h n a g => cases d
    | _ => cases d
  | tup h a =>
    cases (show u = Value.ref _ from rx)
    obtain ⟨its, h⟩ := isT h
    cases hy with
    | non => cases (show v = Value.none from ry); exact fin _ (by simp [eqM]) (.tuple_none h hu)
    | bl b => cases (show v = Value.bool b from ry); exact fin _ (by simp [eqM]) (.tuple_bool b h hu)
    | int j => obtain ⟨t', rfl⟩ := (show ∃ t, v = Value.int j t from ry); exact fin _ (by simp [eqM]) (.tuple_int j t' h hu)
    | str h' => obtain ⟨t', rfl⟩ := (show ∃ t, v = Value.str _ t from ry); exact fin _ (by simp [eqM]) (.tuple_str _ t' h hu)
    | lst h' _ => cases (show v = Value.ref _ from ry); obtain ⟨its', h'⟩ := isL h'; exact fin _ (by simp [eqM]) (.tuple_list h h' hu)
    | tup h' _ => cases d
    | obj h n a g => cases d
    | _ => cases d
  | obj h n a g => cases d
  | _ => cases hy <;> cases d
theorem eqB_of {M : Model} {A : Around} {E : Value → Shared → Prop} {s : Shared} {u v : Value} {Q : Bool → Shared → Prop} (hn : (u == v) = false) (hf : ∀ b t, u ≠ .float b t) (h : wpAny M A (richCompare .Eq u v) (fun r s' => ∃ b, r = .bool b ∧ Q b s') E s) : wpAny M A (eqBool u v) Q E s := by
  have fin : wpAny M A (richCompare .Eq u v >>= truthOfDropped) Q E s := by
    refine wpAny_bind (wpAny_mono h (fun r s' hv => ?_) fun _ _ x => x)
    obtain ⟨b, rfl, q⟩ := hv
    exact wpAny_truthy_bool q
  unfold eqBool
  refine wpAny_holding ?_
  rw [if_neg (by rw [hn]; decide)]
  cases u with
  | float b t => exact absurd rfl (hf b t)
  | _ => exact fin
theorem eq_of_rc {D : M → M → Prop} (EO : EvOk Ω) (hK : X.K = Ω.K) (h : RcE X Ω n D) : EqE X Ω n D := by
  intro A pins s σ H Hr x y u v m m' sb I hs hx hy rx ry d
  by_cases fl : flatV x = true ∧ flatV y = true
  · have q := eqAt_V (A := A) (s := s) rx ry fl.1 fl.2
    have e : eqV x y = eqM m m' := by
      cases hx <;> cases hy <;> first
        | (exfalso; have z := fl.1; simp [flatV] at z; done)
        | (exfalso; have z := fl.2; simp [flatV] at z; done)
        | (simp [eqV, eqM]; done)
        | (simp only [eqV, eqM]; exact SX.S_beq_eq)
    rw [e] at q
    exact q X.prog X.w X.xe _ ⟨rfl, H, I, .refl _⟩
  · -- at least one is a reference
    have rc := h A pins s σ H Hr x y u v m m' sb I hs hx hy rx ry d
    by_cases same : x = y
    · subst same
      have em := Rp.inj EO hK I hs.s m m' x hx hy
      subst em
      rw [eqM_refl]
      have uv : u = v := by
        cases x with
        | ref a => cases (show u = Value.ref a from rx); cases (show v = Value.ref a from ry); rfl
        | non => exact absurd ⟨rfl, rfl⟩ fl
        | bl b => exact absurd ⟨rfl, rfl⟩ fl
        | int i => exact absurd ⟨rfl, rfl⟩ fl
        | str z => exact absurd ⟨rfl, rfl⟩ fl
        | byt b => cases hx
        | flt b => cases hx
        | ty t => cases hx
      subst uv
      exact SeqAt.EqAt.same (A := A) (s := s) u X.prog X.w X.xe _ ⟨rfl, H, I, .refl _⟩
    · have nuv : (u == v) = false := by
        rw [beq_eq_false_iff_ne]
        intro e
        subst e
        exact same (rx.inj ry)
      refine eqB_of nuv (fun b t e => ?_) (wpAny_mono rc (fun r s' hv => ⟨_, hv.1, rfl, hv.2⟩) fun _ _ x => x)
      subst e
      cases hx <;> first | (cases rx; done) | (obtain ⟨_, z⟩ := rx; cases z)
/-- item by item -/
theorem turnB {D : M → M → Prop} {A : Around} (sb : Sub X (n + 1) A) (h : EqE X Ω n D) {pins : List (Addr × Obj)} {σ : L2.St} {H Hr : Hp} (hs : SmP Ω Hr H) {xs ys : List V} {its its2 : List Value} {ms ms' : List M} (a : RpL Ω Hr xs ms) (b : RpL Ω Hr ys ms') (r : Vals xs its) (r2 : Vals ys its2) (hd : ∀ (i : Nat) m m', ms[i]? = some m → ms'[i]? = some m' → D m m')
    (i : Nat) (h1 : i < its.toArray.size) (h2 : i < its2.toArray.size) (s' : Shared) (l : ∃ H', Inv X pins σ H' s' ∧ Ext Ω H H') :
    wpAny (model X.prog X.w) A.in1 (eqBool its.toArray[i] its2.toArray[i]) (fun z s2 => z = pr ms ms' i ∧ ∃ H', Inv X pins σ H' s2 ∧ Ext Ω H H') X.xe s' := by
  obtain ⟨H1, I1, e1⟩ := l
  have g1 : its[i]? = some its.toArray[i] := by
    have h1' : i < its.length := by simpa using h1
    rw [List.getElem?_eq_getElem h1'] <;> simp
  have g2 : its2[i]? = some its2.toArray[i] := by
    have h2' : i < its2.length := by simpa using h2
    rw [List.getElem?_eq_getElem h2'] <;> simp
  have k1 : i < xs.length := by rw [r.length]; simpa using h1
  have k2 : i < ys.length := by rw [r2.length]; simpa using h2
  obtain ⟨u, hu, ru⟩ := r.get (List.getElem?_eq_getElem k1)
  obtain ⟨v, hv, rv⟩ := r2.get (List.getElem?_eq_getElem k2)
  rw [g1] at hu
  rw [g2] at hv
  rw [Option.some.inj hu, Option.some.inj hv]
  obtain ⟨m, em, rm⟩ := a.getV (List.getElem?_eq_getElem k1)
  obtain ⟨m', em', rm'⟩ := b.getV (List.getElem?_eq_getElem k2)
  refine wpAny_mono (h A.in1 pins s' σ H1 Hr _ _ u v m m' sb.in1 I1 (hs.trans e1) rm rm' ru rv (hd i m m' em em')) (fun z s2 q => ?_) fun _ _ x => x
  obtain ⟨hz, H2, I2, e2⟩ := q
  refine ⟨?_, H2, I2, e1.trans e2⟩
  rw [hz]
  unfold pr
  rw [em, em']
theorem rc_lists {D : M → M → Prop} (hK : X.K = Ω.K) (h : EqE X Ω n D) : RcE X Ω (n + 1) (fun m m' => ∃ a b, m = .lst a ∧ m' = .lst b ∧ (a.length = b.length → ∀ (i : Nat) x y, a[i]? = some x → b[i]? = some y → D x y)) := by
  intro A pins s σ H Hr x y u v m m' sb I hs hx hy rx ry d
  obtain ⟨a, b, rfl, rfl, hd⟩ := d
  cases hx with
  | @lst p vs ms hp ha =>
    cases hy with
    | @lst q ws ms' hq hb =>
      cases (show u = Value.ref _ from rx)
      cases (show v = Value.ref _ from ry)
      by_cases hl : a.length = b.length
      · have e : eqM (.lst a) (.lst b) = (List.range a.length).all (pr a b) := by
          simp only [eqM]
          rw [← eqMs_pr, hl]
          simp
        rw [e]
        refine GB.rc_listB (N := a.length) (e := pr a b) sb.room.units0 (fun s' => ∃ H', Inv X pins σ H' s' ∧ Ext Ω H H') (fun s' l => ?_) (fun s' l => ⟨rfl, l⟩) ⟨H, I, .refl _⟩
        obtain ⟨H1, I1, e1⟩ := id l
        obtain ⟨z, its, k, r, e⟩ := I1.hok p _ (e1.s _ _ (hs.s _ _ hp))
        obtain ⟨z2, its2, k2, r2, e2⟩ := I1.hok q _ (e1.s _ _ (hs.s _ _ hq))
        refine ⟨its.toArray, its2.toArray, k, k2, e, e2, by rw [List.size_toArray, ← r.length, ha.length], by rw [List.size_toArray, ← r2.length, hb.length, hl], fun i h1 h2 => ?_⟩
        exact turnB sb h hs ha hb r r2 (hd hl) i h1 h2 s' l
      · obtain ⟨its, r, pl, _⟩ := I.list (SqL.of (hs.s _ _ hp))
        obtain ⟨its2, r2, pl2, _⟩ := I.list (SqL.of (hs.s _ _ hq))
        have e : eqM (.lst a) (.lst b) = false := by
          simp only [eqM]
          exact eqMs_len hl
        rw [e]
        exact SeqAt.RcAt.lists_lengths pl.isList pl2.isList (by simp [← r.length, ← r2.length, ha.length, hb.length, hl]) sb.room.units0 X.prog X.w X.xe _ ⟨rfl, H, I, .refl _⟩
theorem rc_tups {D : M → M → Prop} (hK : X.K = Ω.K) (h : EqE X Ω n D) : RcE X Ω (n + 1) (fun m m' => ∃ a b, m = .tup a ∧ m' = .tup b ∧ ∀ (i : Nat) x y, a[i]? = some x → b[i]? = some y → D x y) := by
  intro A pins s σ H Hr x y u v m m' sb I hs hx hy rx ry d
  obtain ⟨a, b, rfl, rfl, hd⟩ := d
  cases hx with
  | @tup p vs ms hp ha =>
    cases hy with
    | @tup q ws ms' hq hb =>
      cases (show u = Value.ref _ from rx)
      cases (show v = Value.ref _ from ry)
      rw [← hK] at hp hq
      obtain ⟨its, r, e, z⟩ := I.tuple (Same.tup hs.s hp)
      obtain ⟨its2, r2, e2, z2⟩ := I.tuple (Same.tup hs.s hq)
      refine GB.rc_tupB (e := pr a b) sb.room.units0 (fun s' => ∃ H', Inv X pins σ H' s' ∧ Ext Ω H H') e e2 (fun i h1 h2 s' l => turnB sb h hs ha hb r r2 hd i h1 h2 s' l) (fun s' l => ⟨?_, l⟩) ⟨H, I, .refl _⟩
      simp only [eqM]
      rw [List.size_toArray, List.size_toArray, ← r.length, ← r2.length, ha.length, hb.length, eqMs_pr]
theorem EQ1.mono {f : Value → Value → Sem Value} {D D' : M → M → Prop} {k : Nat} (h : EQ1 X Ω n f D) (hn : n ≤ k) (hd : ∀ m m', D' m m' → D m m') : EQ1 X Ω k f D' := fun A pins s σ H Hr x y u v m m' sb I hs hx hy rx ry d => h A pins s σ H Hr x y u v m m' (sb.mono hn) I hs hx hy rx ry (hd _ _ d)
theorem rcE_all {cl : M → Bool} (EO : EvOk Ω) (hK : X.K = Ω.K) (O : OwE X.prog X.w Ω X.mg X.base n cl) : ∀ d : Nat, RcE X Ω (n + d) (fun m m' => cOk cl d m m' = true)
  | 0 => fun A pins s σ H Hr x y u v m m' sb I hs hx hy rx ry d => by cases d
  | d + 1 => by
    have ih := eq_of_rc EO hK (rcE_all EO hK O d)
    have rl := rc_lists hK ih
    have rt := rc_tups hK ih
    have ro := EQ1.mono (k := n + (d + 1)) (rc_own EO hK O) (by omega) fun _ _ h => h
    have rr := EQ1.mono (k := n + (d + 1)) (rc_rev EO hK O) (by omega) fun _ _ h => h
    have rb := EQ1.mono (k := n + (d + 1)) (rc_base (X := X) hK) (by omega) fun _ _ h => h
    have zp : ∀ {a b : List M} {i : Nat} {x y : M}, ((a.zip b).all fun z => cOk cl d z.1 z.2) = true → a[i]? = some x → b[i]? = some y → cOk cl d x y = true := fun {a b i x y} h h1 h2 => by
      exact List.all_eq_true.mp h (x, y) (List.mem_iff_getElem?.mpr ⟨i, List.getElem?_zip_eq_some.mpr ⟨h1, h2⟩⟩)
    intro A pins s σ H Hr x y u v m m' sb I hs hx hy rx ry dd
    unfold cOk at dd
    split at dd
    · refine rl A pins s σ H Hr x y u v _ _ sb I hs hx hy rx ry ⟨_, _, rfl, rfl, fun hl i p q h1 h2 => ?_⟩
      rw [Bool.or_eq_true] at dd
      rcases dd with dd | dd
      · simp [hl] at dd
      · exact zp dd h1 h2
    · exact rt A pins s σ H Hr x y u v _ _ sb I hs hx hy rx ry ⟨_, _, rfl, rfl, fun i p q h1 h2 => zp dd h1 h2⟩
    · rename_i n1 n2
      by_cases om : m.ob = true
      · rw [if_pos om, Bool.and_eq_true] at dd
        exact ro A pins s σ H Hr x y u v _ _ sb I hs hx hy rx ry dd
      · rw [if_neg om] at dd
        by_cases om' : m'.ob = true
        · rw [if_pos om'] at dd
          rw [Bool.and_eq_true] at dd
          exact rr A pins s σ H Hr x y u v _ _ sb I hs hx hy rx ry ⟨by simpa using om, dd.1, dd.2⟩
        · rw [if_neg om', Bool.and_eq_true] at dd
          refine rb A pins s σ H Hr x y u v _ _ sb I hs hx hy rx ry ?_
          cases m <;> cases m' <;> first
            | rfl
            | exact absurd dd.1 Bool.false_ne_true
            | exact absurd dd.2 Bool.false_ne_true
            | exact absurd rfl om
            | exact absurd rfl om'
            | exact (n1 _ _ rfl rfl).elim
            | exact (n2 _ _ rfl rfl).elim
end
end PL
namespace GB
open PySem PySem.SeqAt
open AutoSeq1 (wpAny_loadPart')
open MeetsSeq MeetsSeq2 MeetsSeq3 SeqRoads2
section
variable {prog : Program} {w : World} {A : Around} {R : Result → Shared → Prop}
theorem ne_loopB (l b : Addr) (N : Nat) (e : Nat → Bool) (I : Shared → Prop) (hl : PairI prog w A (fun e s' => R (.error e) s') l b N e I)
    (fin : ∀ s, I s → R (.ok (.ret (.bool (!(List.range N).all e)))) s) (k : Nat) :
    ∀ i : Nat, N - i = k → i ≤ N → (∀ j, j < i → e j = true) → ∀ s, I s →
      wpAny (model prog w) A.in1 (Builtin.«list.__eq__.loop» ⟨[.ref l, .ref b, rawInt i, rawInt 3], []⟩) (GQ.FinOf prog w A R) (fun e s' => R (.error e) s') s := by
  induction k with
  | zero =>
    intro i hk hi ha s h
    obtain ⟨items, items2, n, n2, hl1, hb1, hs1, hs2, _⟩ := hl _ h
    have hi' : i = N := by omega
    have hR := fin s h
    rw [show (List.range N).all e = true by rw [List.all_eq_true]; intro j hj; exact ha j (by have := List.mem_range.mp hj; omega)] at hR
    obtain ⟨hp, g, d, tk, os⟩ := s
    wp_walk using wpAny_loadPart' hl1, wpAny_loadPart' hb1
    have hi1 : items[((i : Nat) : Int).toNat]? = none := by simp; omega
    have hi2 : items2[((i : Nat) : Int).toNat]? = none := by simp; omega
    rw [hi1, hi2]
    wp_walk using wpAny_loadPart' hl1, wpAny_loadPart' hb1
    show R (.ok (.ret (.bool (items.size != items2.size)))) _
    rw [hs1, hs2]
    simpa using hR
  | succ k ih =>
    intro i hk hi ha s h
    obtain ⟨items, items2, n, n2, hl1, hb1, hs1, hs2, turn⟩ := hl _ h
    have hlt : i < items.size := by omega
    have hlt2 : i < items2.size := by omega
    have ht := turn i hlt hlt2
    obtain ⟨hp, g, d, tk, os⟩ := s
    wp_walk using wpAny_loadPart' hl1, wpAny_loadPart' hb1
    have hi1 : items[((i : Nat) : Int).toNat]? = some items[i] := by simp [hlt]
    have hi2 : items2[((i : Nat) : Int).toNat]? = some items2[i] := by simp [hlt2]
    have hc : ((i : Int) + 1) = ((i + 1 : Nat) : Int) := by omega
    rw [hi1, hi2]
    refine wpAny_bind (wpAny_mono ht (fun r s2 h2 => ?_) fun _ _ x => x)
    obtain ⟨hr, h2⟩ := h2
    subst hr
    cases he : e i with
    | true =>
      have hrec := ih (i + 1) (by omega) (by omega) (fun j hj => by
        rcases Nat.lt_succ_iff_lt_or_eq.mp hj with z | z
        · exact ha j z
        · rw [z]; exact he) s2 h2
      obtain ⟨hp2, g2, d2, tk2, os2⟩ := s2
      wp_walk
      rw [hc]
      exact ⟨plainId_quiet plain_eq_loop _, codeAny_builtin entry_eq_loop (by
        rw [Around.under_plainId plain_eq_loop _]
        exact hrec)⟩
    | false =>
      have hR := fin s2 h2
      rw [show (List.range N).all e = false by rw [List.all_eq_false]; exact ⟨i, List.mem_range.mpr (by omega), by rw [he]; decide⟩] at hR
      obtain ⟨items', items2', n', n2', hl1', hb1', hs1', hs2', _⟩ := hl _ h2
      obtain ⟨hp2, g2, d2, tk2, os2⟩ := s2
      have hi1' : items'[((i : Nat) : Int).toNat]? = some (items'[i]'(by omega)) := by simp [show i < items'.size by omega]
      have hi2' : items2'[((i : Nat) : Int).toNat]? = some (items2'[i]'(by omega)) := by simp [show i < items2'.size by omega]
      wp_walk using wpAny_loadPart' hl1', wpAny_loadPart' hb1'
      rw [hi1', hi2']
      wp_walk
      exact hR
theorem list_neB (l b : Addr) (N : Nat) (e : Nat → Bool) (I : Shared → Prop) (hl : PairI prog w A (fun e s' => R (.error e) s') l b N e I)
    (fin : ∀ s, I s → R (.ok (.ret (.bool (!(List.range N).all e)))) s) {s : Shared} (h : I s) :
    wpAny (model prog w) A.in1 (Builtin.«list.__ne__» ⟨[.ref l, .ref b], []⟩) (GQ.FinOf prog w A R) (fun e s' => R (.error e) s') s := by
  obtain ⟨items, items2, n, n2, hl1, hb1, hs1, hs2, _⟩ := hl _ h
  have hrec := ne_loopB (A := A) (R := R) l b N e I hl fin _ 0 rfl (Nat.zero_le _) (fun j hj => absurd hj (Nat.not_lt_zero _)) s h
  obtain ⟨hp, g, d, tk, os⟩ := s
  have f3 := AutoSeq1.sub_list_list
  have hne : ¬ (items.size != items2.size) = true := by simp [hs1, hs2]
  wp_walk using wpAny_loadPart' hl1, wpAny_loadPart' hb1
  exact ⟨plainId_quiet plain_eq_loop _, codeAny_builtin entry_eq_loop (by
    rw [Around.under_plainId plain_eq_loop _]
    exact hrec)⟩
theorem tuple_neB (l b : Addr) (items items2 : Array Value) (n n2 : Nat) (dd dd2 : Option Addr) (sl sl2 : Array (Option Value)) (e : Nat → Bool) (I : Shared → Prop)
    (turn : ∀ i (h1 : i < items.size) (h2 : i < items2.size) s, I s → wpAny (model prog w) A.in1 (eqBool items[i] items2[i]) (fun r s' => r = e i ∧ I s') (fun e s' => R (.error e) s') s)
    (fin : ∀ s, I s → R (.ok (.ret (.bool (!((List.range (min items.size items2.size)).all e && items.size == items2.size))))) s) {s : Shared} (hl1 : s.heap.get? l = some { cls := .type "tuple", dict := dd, data := .seq items n, slots := sl }) (hb1 : s.heap.get? b = some { cls := .type "tuple", dict := dd2, data := .seq items2 n2, slots := sl2 }) (h : I s) :
    wpAny (model prog w) A.in1 (Builtin.«tuple.__ne__» ⟨[.ref l, .ref b], []⟩) (GQ.FinOf prog w A R) (fun e s' => R (.error e) s') s := by
  have f2 := AutoSeq1.sub_tuple_tuple
  have hZ : (items.toList.zip items2.toList).length = min items.size items2.size := by simp
  have h0 := h
  obtain ⟨hp, g, d, tk, os⟩ := s
  wp_walk using wpAny_loadPart' hl1, wpAny_loadPart' hb1, wpAny_forIn_list _ (fun rest b s' => b.1 = none ∧ ∃ i, rest = (items.toList.zip items2.toList).drop i ∧ i ≤ min items.size items2.size ∧ (∀ j, j < i → e j = true) ∧ I s') _
  case turn =>
    rintro ⟨y, x⟩ rest b s' ⟨hb', i, hz, hi, ha, hI⟩
    have hlt : i < (items.toList.zip items2.toList).length := by
      rcases Nat.lt_or_ge i (items.toList.zip items2.toList).length with h' | h'
      · exact h'
      · rw [List.drop_of_length_le h'] at hz; cases hz
    have h1 : i < items.size := by omega
    have h2 : i < items2.size := by omega
    rw [List.drop_eq_getElem_cons hlt] at hz
    injection hz with hyx hrest
    have hy : y = items[i] := by have := congrArg Prod.fst hyx; simpa using this
    have hx : x = items2[i] := by have := congrArg Prod.snd hyx; simpa using this
    subst hy hx
    refine wpAny_bind (wpAny_mono (turn i h1 h2 s' hI) (fun r s2 q2 => ?_) fun _ _ x => x)
    obtain ⟨hr, q2⟩ := q2
    subst hr
    cases he : e i with
    | true =>
      wp_walk
      exact ⟨rfl, i + 1, hrest, by omega, (fun j hj => by
        rcases Nat.lt_succ_iff_lt_or_eq.mp hj with z | z
        · exact ha j z
        · rw [z]; exact he), q2⟩
    | false =>
      have hR := fin s2 q2
      rw [show (List.range (min items.size items2.size)).all e = false by rw [List.all_eq_false]; exact ⟨i, List.mem_range.mpr (by omega), by rw [he]; decide⟩] at hR
      wp_walk
      simpa using hR
  case fin =>
    rintro ⟨b1, b2⟩ s' ⟨hb', i, hz, hi, ha, hI⟩
    simp only at hb'
    subst hb'
    have hge : min items.size items2.size ≤ i := by
      rcases Nat.lt_or_ge i (items.toList.zip items2.toList).length with h' | h'
      · rw [List.drop_eq_getElem_cons h'] at hz; cases hz
      · rw [hZ] at h'; exact h'
    have hR := fin s' hI
    rw [show (List.range (min items.size items2.size)).all e = true by rw [List.all_eq_true]; intro j hj; exact ha j (by have := List.mem_range.mp hj; omega), Bool.true_and] at hR
    wp_walk
    simpa [Builtin.Tuple.tupleCompareSizes, bne] using hR
  case h =>
    exact ⟨rfl, 0, rfl, Nat.zero_le _, (fun j hj => absurd hj (Nat.not_lt_zero _)), h0⟩
end
section
variable {prog : Program} {w : World} {A : Around} {E : Value → Shared → Prop} {s : Shared}
theorem rn_listB {l b : Addr} {N : Nat} {e : Nat → Bool} {Q : Value → Shared → Prop} (hu : A.units < cLine) (I : Shared → Prop) (hl : PairI prog w A E l b N e I)
    (fin : ∀ s, I s → Q (.bool (!(List.range N).all e)) s) (h : I s) : wpAny (model prog w) A (richCompare .NotEq (.ref l) (.ref b)) Q E s := by
  obtain ⟨items, items2, n, n2, hl1, hb1, _, _, _⟩ := hl _ h
  refine wpAny_richCompare_same_room (op := .NotEq) ⟨_, hl1, rfl⟩ ⟨_, hb1, rfl⟩ F.slot_list_ne (GQ.call_here F.slot_list_ne ⟨_, hl1, rfl⟩ F.entry_list_ne (F.args_list_ne_2 _ _) ?_) hu
  exact list_neB (R := wants (fun v s' => v ≠ .notImplemented ∧ Q v s') E) l b N e I hl (fun s' q => ⟨(fun x => nomatch x), fin s' q⟩) h
theorem rn_tupB {l b : Addr} {items items2 : Array Value} {e : Nat → Bool} {Q : Value → Shared → Prop} (hu : A.units < cLine) (I : Shared → Prop)
    (hl : s.heap.IsTuple l items) (hb : s.heap.IsTuple b items2)
    (turn : ∀ i (h1 : i < items.size) (h2 : i < items2.size) s, I s → wpAny (model prog w) A.in1 (eqBool items[i] items2[i]) (fun r s' => r = e i ∧ I s') E s)
    (fin : ∀ s, I s → Q (.bool (!((List.range (min items.size items2.size)).all e && items.size == items2.size))) s) (h : I s) : wpAny (model prog w) A (richCompare .NotEq (.ref l) (.ref b)) Q E s := by
  obtain ⟨⟨cls, dd, data, sl⟩, ho, hc, n, hd⟩ := id hl
  obtain ⟨⟨cls2, dd2, data2, sl2⟩, ho2, hc2, n2, hd2⟩ := id hb
  simp only at hc hd hc2 hd2
  subst hc hd hc2 hd2
  refine wpAny_richCompare_same_room (op := .NotEq) ⟨_, ho, rfl⟩ ⟨_, ho2, rfl⟩ F.slot_tuple_ne (GQ.call_here F.slot_tuple_ne ⟨_, ho, rfl⟩ F.entry_tuple_ne (F.args_tuple_ne_2 _ _) ?_) hu
  exact tuple_neB (R := wants (fun v s' => v ≠ .notImplemented ∧ Q v s') E) l b items items2 n n2 dd dd2 sl sl2 e I turn (fun s' q => ⟨(fun x => nomatch x), fin s' q⟩) ho ho2 h
end
end GB
namespace PL
open PySem PySem.Spec PyProof.Rows L2 KW
section
variable {X : Cx} {Ω : Ev} {n : Nat}
def RcN (X : Cx) (Ω : Ev) (n : Nat) (D : M → M → Prop) : Prop :=
  ∀ (A : Around) (pins : List (Addr × Obj)) (s : Shared) (σ : L2.St) (H Hr : Hp) (x y : V) (u v : Value) (m m' : M), Sub X n A → Inv X pins σ H s → SmP Ω Hr H → Rp Ω Hr x m → Rp Ω Hr y m' → RelV x u → RelV y v → D m m' →
    wpAny (model X.prog X.w) A (richCompare .NotEq u v) (fun r s' => r = .bool (!eqM m m') ∧ ∃ H', Inv X pins σ H' s' ∧ Ext Ω H H') X.xe s
theorem rn_base (hK : X.K = Ω.K) : RcN X Ω 0 (fun m m' => bOk m m' = true) := by
  intro A pins s σ H Hr x y u v m m' sb I hs hx hy rx ry d
  have hu := sb.room.units0
  have fin : ∀ b, b = (!eqM m m') → SeqAt.RcNeAt A s u v b → wpAny (model X.prog X.w) A (richCompare .NotEq u v) (fun r s' => r = .bool (!eqM m m') ∧ ∃ H', Inv X pins σ H' s' ∧ Ext Ω H H') X.xe s := fun b e h => by
    subst e
    exact h _ _ _ _ ⟨rfl, H, I, .refl _⟩
  have isL : ∀ {p vs}, Hr p = some (.lst vs) → ∃ its, s.heap.IsList p its := fun {p vs} h => by
    obtain ⟨its, _, pl, _⟩ := I.list (SqL.of (hs.s _ _ h))
    exact ⟨_, pl.isList⟩
  have isT : ∀ {p vs}, SqT Ω.K Hr p vs → ∃ its, s.heap.IsTuple p its := fun {p vs} h => by
    rw [← hK] at h
    obtain ⟨its, _, pl, _⟩ := I.tuple (Same.tup hs.s h)
    exact ⟨_, pl⟩
  cases hx with
  | non =>
    cases (show u = Value.none from rx)
    cases hy with
    | non => cases (show v = Value.none from ry); exact fin _ (by simp [eqM]) .none_none
    | bl b => cases (show v = Value.bool b from ry); exact fin _ (by simp [eqM]) (.none_bool b)
    | int i => obtain ⟨t, rfl⟩ := (show ∃ t, v = Value.int i t from ry); exact fin _ (by simp [eqM]) (.none_int i t)
    | str h => obtain ⟨t, rfl⟩ := (show ∃ t, v = Value.str _ t from ry); exact fin _ (by simp [eqM]) (.none_str _ t)
    | lst h a => cases (show v = Value.ref _ from ry); obtain ⟨its, h⟩ := isL h; exact fin _ (by simp [eqM]) (.none_list h hu)
    | tup h a => cases (show v = Value.ref _ from ry); obtain ⟨its, h⟩ := isT h; exact fin _ (by simp [eqM]) (.none_tuple h hu)
    | obj h n a g => cases d
    | _ => cases d
  | bl a =>
    cases (show u = Value.bool a from rx)
    cases hy with
    | non => cases (show v = Value.none from ry); exact fin _ (by simp [eqM]) (.bool_none a)
    | bl b => cases (show v = Value.bool b from ry); exact fin _ (by simp [eqM]) (.bool_bool a b)
    | int i => obtain ⟨t, rfl⟩ := (show ∃ t, v = Value.int i t from ry); exact fin _ (by simp [eqM]) (.bool_int a i t)
    | str h => obtain ⟨t, rfl⟩ := (show ∃ t, v = Value.str _ t from ry); exact fin _ (by simp [eqM]) (.bool_str a _ t)
    | lst h _ => cases (show v = Value.ref _ from ry); obtain ⟨its, h⟩ := isL h; exact fin _ (by simp [eqM]) (.bool_list a h hu)
    | tup h _ => cases (show v = Value.ref _ from ry); obtain ⟨its, h⟩ := isT h; exact fin _ (by simp [eqM]) (.bool_tuple a h hu)
    | obj h n a g => cases d
    | _ => cases d
  | int i =>
    obtain ⟨t, rfl⟩ := (show ∃ t, u = Value.int i t from rx)
    cases hy with
    | non => cases (show v = Value.none from ry); exact fin _ (by simp [eqM]) (.int_none i t)
    | bl b => cases (show v = Value.bool b from ry); exact fin _ (by simp [eqM]) (.int_bool i t b)
    | int j => obtain ⟨t', rfl⟩ := (show ∃ t, v = Value.int j t from ry); exact fin _ (by simp [eqM]) (.int_int i t j t')
    | str h => obtain ⟨t', rfl⟩ := (show ∃ t, v = Value.str _ t from ry); exact fin _ (by simp [eqM]) (.int_str i t _ t')
    | lst h _ => cases (show v = Value.ref _ from ry); obtain ⟨its, h⟩ := isL h; exact fin _ (by simp [eqM]) (.int_list i t h hu)
    | tup h _ => cases (show v = Value.ref _ from ry); obtain ⟨its, h⟩ := isT h; exact fin _ (by simp [eqM]) (.int_tuple i t h hu)
    | obj h n a g => cases d
    | _ => cases d
  | @str l hl =>
    obtain ⟨t, rfl⟩ := (show ∃ t, u = Value.str _ t from rx)
    cases hy with
    | non => cases (show v = Value.none from ry); exact fin _ (by simp [eqM]) (.str_none _ t)
    | bl b => cases (show v = Value.bool b from ry); exact fin _ (by simp [eqM]) (.str_bool _ t b)
    | int j => obtain ⟨t', rfl⟩ := (show ∃ t, v = Value.int j t from ry); exact fin _ (by simp [eqM]) (.str_int _ t j t')
    | @str l' h => obtain ⟨t', rfl⟩ := (show ∃ t, v = Value.str _ t from ry); exact fin _ (by simp only [eqM]; rw [← SX.S_beq_eq]) (.str_str _ t _ t')
    | lst h _ => cases (show v = Value.ref _ from ry); obtain ⟨its, h⟩ := isL h; exact fin _ (by simp [eqM]) (.str_list _ t h hu)
    | tup h _ => cases (show v = Value.ref _ from ry); obtain ⟨its, h⟩ := isT h; exact fin _ (by simp [eqM]) (.str_tuple _ t h hu)
    | obj h n a g => cases d
    | _ => cases d
  | lst h a =>
    cases (show u = Value.ref _ from rx)
    obtain ⟨its, h⟩ := isL h
    cases hy with
    | non => cases (show v = Value.none from ry); exact fin _ (by simp [eqM]) (.list_none h hu)
    | bl b => cases (show v = Value.bool b from ry); exact fin _ (by simp [eqM]) (.list_bool b h hu)
    | int j => obtain ⟨t', rfl⟩ := (show ∃ t, v = Value.int j t from ry); exact fin _ (by simp [eqM]) (.list_int j t' h hu)
    | str h' => obtain ⟨t', rfl⟩ := (show ∃ t, v = Value.str _ t from ry); exact fin _ (by simp [eqM]) (.list_str _ t' h hu)
    | lst h' _ => cases d
    | tup h' _ => cases (show v = Value.ref _ from ry); obtain ⟨its', h'⟩ := isT h'; exact fin _ (by simp [eqM]) (.list_tuple h h' hu)
    | obj h n a g => cases d
    | _ => cases d
  | tup h a =>
    cases (show u = Value.ref _ from rx)
    obtain ⟨its, h⟩ := isT h
    cases hy with
    | non => cases (show v = Value.none from ry); exact fin _ (by simp [eqM]) (.tuple_none h hu)
    | bl b => cases (show v = Value.bool b from ry); exact fin _ (by simp [eqM]) (.tuple_bool b h hu)
    | int j => obtain ⟨t', rfl⟩ := (show ∃ t, v = Value.int j t from ry); exact fin _ (by simp [eqM]) (.tuple_int j t' h hu)
    | str h' => obtain ⟨t', rfl⟩ := (show ∃ t, v = Value.str _ t from ry); exact fin _ (by simp [eqM]) (.tuple_str _ t' h hu)
    | lst h' _ => cases (show v = Value.ref _ from ry); obtain ⟨its', h'⟩ := isL h'; exact fin _ (by simp [eqM]) (.tuple_list h h' hu)
    | tup h' _ => cases d
    | obj h n a g => cases d
    | _ => cases d
  | obj h n a g => cases d
  | _ => cases hy <;> cases d
/-- an own == on the left -/
theorem rn_own {cl : M → Bool} (EO : EvOk Ω) (hK : X.K = Ω.K) (O : OwE X.prog X.w Ω X.mg X.base n cl) : RcN X Ω (n + 1) (fun m m' => cl m = true ∧ cOb cl m' = true) := by
  intro A pins s σ H Hr x y u v m m' sb I hs hx hy rx ry ⟨d, d2⟩
  obtain ⟨c, fs, rfl⟩ := O.ob m d
  obtain ⟨f, fd, ps, ec, Fn, hb⟩ := O.ex c fs d
  have hx' := hx
  cases hx with
  | obj h nn a g =>
    cases (show u = Value.ref _ from rx)
    obtain ⟨od, J⟩ := inst_at I (hs.s _ _ h)
    obtain ⟨mm, hF⟩ := I.fr
    have lk := looks_of hK I hs.s hy ry
    rw [← hK] at ec
    refine KO.ne_K (tb := tyM Ω m') (by have := sb.room.units; omega) hF I.ok.mod.kin J lk (by rw [hK]; exact nf_of EO g (has_of hy) (cOb_ne O d2)) ec.ne ec.ob ec.eq ec.fn ?_
    refine wpAny_mono (own_run hK Fn hb sb.in1 I hs hx' hy ry d d2) (fun r s' q => ?_) fun _ _ z => z
    obtain ⟨rfl, q⟩ := q
    exact ⟨_, rfl, rfl, q⟩
theorem rn_lists {D : M → M → Prop} (hK : X.K = Ω.K) (h : EqE X Ω n D) : RcN X Ω (n + 1) (fun m m' => ∃ a b, m = .lst a ∧ m' = .lst b ∧ (a.length = b.length → ∀ (i : Nat) x y, a[i]? = some x → b[i]? = some y → D x y)) := by
  intro A pins s σ H Hr x y u v m m' sb I hs hx hy rx ry d
  obtain ⟨a, b, rfl, rfl, hd⟩ := d
  cases hx with
  | @lst p vs ms hp ha =>
    cases hy with
    | @lst q ws ms' hq hb =>
      cases (show u = Value.ref _ from rx)
      cases (show v = Value.ref _ from ry)
      by_cases hl : a.length = b.length
      · have e : eqM (.lst a) (.lst b) = (List.range a.length).all (pr a b) := by
          simp only [eqM]
          rw [← eqMs_pr, hl]
          simp
        rw [e]
        refine GB.rn_listB (N := a.length) (e := pr a b) sb.room.units0 (fun s' => ∃ H', Inv X pins σ H' s' ∧ Ext Ω H H') (fun s' l => ?_) (fun s' l => ⟨rfl, l⟩) ⟨H, I, .refl _⟩
        obtain ⟨H1, I1, e1⟩ := id l
        obtain ⟨z, its, k, r, e⟩ := I1.hok p _ (e1.s _ _ (hs.s _ _ hp))
        obtain ⟨z2, its2, k2, r2, e2⟩ := I1.hok q _ (e1.s _ _ (hs.s _ _ hq))
        refine ⟨its.toArray, its2.toArray, k, k2, e, e2, by rw [List.size_toArray, ← r.length, ha.length], by rw [List.size_toArray, ← r2.length, hb.length, hl], fun i h1 h2 => ?_⟩
        exact turnB sb h hs ha hb r r2 (hd hl) i h1 h2 s' l
      · obtain ⟨its, r, pl, _⟩ := I.list (SqL.of (hs.s _ _ hp))
        obtain ⟨its2, r2, pl2, _⟩ := I.list (SqL.of (hs.s _ _ hq))
        have e : eqM (.lst a) (.lst b) = false := by
          simp only [eqM]
          exact eqMs_len hl
        rw [e]
        exact SeqAt.RcNeAt.lists_lengths pl.isList pl2.isList (by simp [← r.length, ← r2.length, ha.length, hb.length, hl]) sb.room.units0 X.prog X.w X.xe _ ⟨rfl, H, I, .refl _⟩
theorem rn_tups {D : M → M → Prop} (hK : X.K = Ω.K) (h : EqE X Ω n D) : RcN X Ω (n + 1) (fun m m' => ∃ a b, m = .tup a ∧ m' = .tup b ∧ ∀ (i : Nat) x y, a[i]? = some x → b[i]? = some y → D x y) := by
  intro A pins s σ H Hr x y u v m m' sb I hs hx hy rx ry d
  obtain ⟨a, b, rfl, rfl, hd⟩ := d
  cases hx with
  | @tup p vs ms hp ha =>
    cases hy with
    | @tup q ws ms' hq hb =>
      cases (show u = Value.ref _ from rx)
      cases (show v = Value.ref _ from ry)
      rw [← hK] at hp hq
      obtain ⟨its, r, e, z⟩ := I.tuple (Same.tup hs.s hp)
      obtain ⟨its2, r2, e2, z2⟩ := I.tuple (Same.tup hs.s hq)
      refine GB.rn_tupB (e := pr a b) sb.room.units0 (fun s' => ∃ H', Inv X pins σ H' s' ∧ Ext Ω H H') e e2 (fun i h1 h2 s' l => turnB sb h hs ha hb r r2 hd i h1 h2 s' l) (fun s' l => ⟨?_, l⟩) ⟨H, I, .refl _⟩
      simp only [eqM]
      rw [List.size_toArray, List.size_toArray, ← r.length, ← r2.length, ha.length, hb.length, eqMs_pr]
theorem RcN.mono {D D' : M → M → Prop} {k : Nat} (h : RcN X Ω n D) (hn : n ≤ k) (hd : ∀ m m', D' m m' → D m m') : RcN X Ω k D' := fun A pins s σ H Hr x y u v m m' sb I hs hx hy rx ry d => h A pins s σ H Hr x y u v m m' (sb.mono hn) I hs hx hy rx ry (hd _ _ d)
/-- an instance is not to the right of what is none -/
def nOk (m m' : M) : Bool := m.ob || !m'.ob
theorem rnE_all {cl : M → Bool} (EO : EvOk Ω) (hK : X.K = Ω.K) (O : OwE X.prog X.w Ω X.mg X.base n cl) : ∀ d : Nat, RcN X Ω (n + d) (fun m m' => cOk cl d m m' = true ∧ nOk m m' = true)
  | 0 => fun A pins s σ H Hr x y u v m m' sb I hs hx hy rx ry d => by cases d.1
  | d + 1 => by
    have ih := eq_of_rc EO hK (rcE_all EO hK O d)
    have rl := rn_lists hK ih
    have rt := rn_tups hK ih
    have ro := RcN.mono (k := n + (d + 1)) (rn_own EO hK O) (by omega) fun _ _ h => h
    have rb := RcN.mono (k := n + (d + 1)) (rn_base (X := X) hK) (by omega) fun _ _ h => h
    have zp : ∀ {a b : List M} {i : Nat} {x y : M}, ((a.zip b).all fun z => cOk cl d z.1 z.2) = true → a[i]? = some x → b[i]? = some y → cOk cl d x y = true := fun {a b i x y} h h1 h2 => by
      exact List.all_eq_true.mp h (x, y) (List.mem_iff_getElem?.mpr ⟨i, List.getElem?_zip_eq_some.mpr ⟨h1, h2⟩⟩)
    intro A pins s σ H Hr x y u v m m' sb I hs hx hy rx ry dn
    obtain ⟨dd, nk⟩ := dn
    unfold cOk at dd
    split at dd
    · refine rl A pins s σ H Hr x y u v _ _ sb I hs hx hy rx ry ⟨_, _, rfl, rfl, fun hl i p q h1 h2 => ?_⟩
      rw [Bool.or_eq_true] at dd
      rcases dd with dd | dd
      · simp [hl] at dd
      · exact zp dd h1 h2
    · exact rt A pins s σ H Hr x y u v _ _ sb I hs hx hy rx ry ⟨_, _, rfl, rfl, fun i p q h1 h2 => zp dd h1 h2⟩
    · rename_i n1 n2
      by_cases om : m.ob = true
      · rw [if_pos om, Bool.and_eq_true] at dd
        exact ro A pins s σ H Hr x y u v _ _ sb I hs hx hy rx ry dd
      · rw [if_neg om] at dd
        have om' : ¬ m'.ob = true := fun z => by
          unfold nOk at nk
          rw [z] at nk
          simp at nk
          exact om nk
        · rw [if_neg om', Bool.and_eq_true] at dd
          refine rb A pins s σ H Hr x y u v _ _ sb I hs hx hy rx ry ?_
          cases m <;> cases m' <;> first
            | rfl
            | exact absurd dd.1 Bool.false_ne_true
            | exact absurd dd.2 Bool.false_ne_true
            | exact absurd rfl om
            | exact absurd rfl om'
            | exact (n1 _ _ rfl rfl).elim
            | exact (n2 _ _ rfl rfl).elim
end
/-- the operand's meaning, to be read -/
def R.mv? : R → Option M
  | .v m => some m
  | .o _ (.lst xs) => some (.lst xs)
  | .f (.lst xs) => some (.lst xs)
  | _ => none
theorem RpR.mv {Ω : Ev} {F : Fr} {σ : L2.St} {ρ : List R} {H H' : Hp} {v : V} {r : R} {m : M} (s : Rel Ω F σ H' ρ) (h : RpR Ω F σ ρ H H' v r) (e : r.mv? = some m) : Rp Ω (hidP (OwF σ ρ) H') v m := by
  have sub : Same (Hd F σ ρ H') (hidP (OwF σ ρ) H') := hidP_same fun b o n e => ⟨fun z => n (.inl z.own), e⟩
  unfold R.mv? at e
  split at e
  · cases e
    exact Rp.mono sub h
  · cases e
    obtain ⟨p, vs, rfl, h1, a⟩ := RpR.lstF s h rfl
    exact .lst h1 (a.mono sub)
  · cases e
    obtain ⟨p, vs, rfl, h1, a⟩ := RpR.lstF s h rfl
    exact .lst h1 (a.mono sub)
  · cases e
structure EqP (P : Program) (w : World) (Ω : Ev) (mg : Str → Option Value) (base : Heap) (n d : Nat) (cl : M → Bool) : Prop where
  eo : EvOk Ω
  ow : OwE P w Ω mg base n cl
section
variable {X : Cx} {Ω : Ev} {n d : Nat} {cl : M → Bool}
def semEq (cl : M → Bool) (d : Nat) : R → R → (R → Prop) → Prop := fun a b Q => ∃ m m', a.mv? = some m ∧ b.mv? = some m' ∧ cOk cl d m m' = true ∧ Q (.v (.bl (eqM m m')))
def semNe (cl : M → Bool) (d : Nat) : R → R → (R → Prop) → Prop := fun a b Q => ∃ m m', a.mv? = some m ∧ b.mv? = some m' ∧ (cOk cl d m m' = true ∧ nOk m m' = true) ∧ Q (.v (.bl (!eqM m m')))
theorem om_eq (EQ : EqP X.prog X.w Ω X.mg X.base n d cl) (hK : X.K = Ω.K) (hr : Room (n + d) X.A) : OpM Ω X (compareOp .Eq) (semEq cl d) := by
  refine ⟨fun x y H QQ => ∃ Hr m m', SmP Ω Hr H ∧ Rp Ω Hr x m ∧ Rp Ω Hr y m' ∧ cOk cl d m m' = true ∧ ∀ H', Ext Ω H H' → QQ (.bl (eqM m m')) H', ?_, fun F σ ρ H H' x y a b Q QQ st ha hb q K nz => ?_⟩
  · intro pins s σ H x y v u Q I rx ry h
    obtain ⟨Hr, m, m', hs, hx, hy, hd, q⟩ := h
    show wpAny (model X.prog X.w) X.A (richCompare .Eq v u) _ _ _
    refine wpAny_mono (rcE_all EQ.eo hK EQ.ow d X.A pins s σ H Hr x y v u m m' ⟨hr, rfl⟩ I hs hx hy rx ry hd) (fun r s' z => ?_) fun _ _ x => x
    obtain ⟨rfl, H', I', e⟩ := z
    exact ⟨.bl _, H', I', rfl, q H' e⟩
  · obtain ⟨m, m', e1, e2, hd, q⟩ := q
    exact ⟨_, m, m', ⟨hid_sub, st.rel.pin.2⟩, RpR.mv st.rel ha e1, RpR.mv st.rel hb e2, hd, fun H'' s => K _ H'' _ (st.rel.ext s) (rv (.bl _)) q⟩
theorem om_ne (EQ : EqP X.prog X.w Ω X.mg X.base n d cl) (hK : X.K = Ω.K) (hr : Room (n + d) X.A) : OpM Ω X (compareOp .NotEq) (semNe cl d) := by
  refine ⟨fun x y H QQ => ∃ Hr m m', SmP Ω Hr H ∧ Rp Ω Hr x m ∧ Rp Ω Hr y m' ∧ (cOk cl d m m' = true ∧ nOk m m' = true) ∧ ∀ H', Ext Ω H H' → QQ (.bl (!eqM m m')) H', ?_, fun F σ ρ H H' x y a b Q QQ st ha hb q K nz => ?_⟩
  · intro pins s σ H x y v u Q I rx ry h
    obtain ⟨Hr, m, m', hs, hx, hy, hd, q⟩ := h
    show wpAny (model X.prog X.w) X.A (richCompare .NotEq v u) _ _ _
    refine wpAny_mono (rnE_all EQ.eo hK EQ.ow d X.A pins s σ H Hr x y v u m m' ⟨hr, rfl⟩ I hs hx hy rx ry hd) (fun r s' z => ?_) fun _ _ x => x
    obtain ⟨rfl, H', I', e⟩ := z
    exact ⟨.bl _, H', I', rfl, q H' e⟩
  · obtain ⟨m, m', e1, e2, hd, q⟩ := q
    exact ⟨_, m, m', ⟨hid_sub, st.rel.pin.2⟩, RpR.mv st.rel ha e1, RpR.mv st.rel hb e2, hd, fun H'' s => K _ H'' _ (st.rel.ext s) (rv (.bl _)) q⟩
theorem contains_all (EQ : EqP X.prog X.w Ω X.mg X.base n d cl) (hK : X.K = Ω.K) (hr : Room (n + d + 1) X.A) {pins : List (Addr × Obj)} {s : Shared} {σ : L2.St} {H Hr : Hp} {x : V} {p : Addr} {vs : List V} {u : Value} {m : M} {ms : List M} {Q : Bool → Shared → Prop} (I : Inv X pins σ H s) (hs : SmP Ω Hr H) (hx : Rp Ω Hr x m) (hq : Hr p = some (.lst vs) ∨ SqT Ω.K Hr p vs) (a : RpL Ω Hr vs ms) (rx : RelV x u) (hd : (ms.all fun y => cOk cl d y m) = true)
    (q : ∀ s' H', Inv X pins σ H' s' → Ext Ω H H' → Q (inM m ms) s') : wpAny (model X.prog X.w) X.A (contains (.ref p) u) Q X.xe s := by
  have eq := eq_of_rc EQ.eo hK (rcE_all EQ.eo hK EQ.ow d)
  let e : Nat → Bool := fun i => match ms[i]? with
    | some y => eqM y m
    | none => true
  have hin : (List.range ms.length).any e = inM m ms := inM_pr m ms
  have turn : ∀ (its : List Value), Vals vs its → ∀ (i : Nat) (h1 : i < its.toArray.size) (s' : Shared), (∃ H', Inv X pins σ H' s' ∧ Ext Ω H H') → wpAny (model X.prog X.w) X.A.in1 (eqBool its.toArray[i] u) (fun z s2 => z = e i ∧ ∃ H', Inv X pins σ H' s2 ∧ Ext Ω H H') X.xe s' := by
    intro its r i h1 s' l
    obtain ⟨H1, I1, e1⟩ := l
    have k1 : i < vs.length := by rw [r.length]; simpa using h1
    obtain ⟨v, hv, rv'⟩ := r.get (List.getElem?_eq_getElem k1)
    have g1 : its[i]? = some its.toArray[i] := by
      have h1' : i < its.length := by simpa using h1
      rw [List.getElem?_eq_getElem h1'] <;> simp
    rw [g1] at hv
    rw [Option.some.inj hv]
    obtain ⟨y, em, rm⟩ := a.getV (List.getElem?_eq_getElem k1)
    refine wpAny_mono (eq X.A.in1 pins s' σ H1 Hr _ _ v u y m ⟨hr.in1, rfl⟩ I1 (hs.trans e1) rm hx rv' rx (List.all_eq_true.mp hd y (List.mem_of_getElem? em))) (fun z s2 q => ?_) fun _ _ x => x
    obtain ⟨hz, H2, I2, e2⟩ := q
    refine ⟨?_, H2, I2, e1.trans e2⟩
    rw [hz]
    show _ = (match ms[i]? with
      | some y => eqM y m
      | none => true)
    rw [em]
  rcases hq with hq | hq
  · refine GB.ct_listB (N := vs.length) (e := e) (fun s' => ∃ H', Inv X pins σ H' s' ∧ Ext Ω H H') (fun s' l => ?_) (fun s' l => ?_) ⟨H, I, .refl _⟩
    · obtain ⟨H1, I1, e1⟩ := id l
      obtain ⟨z, its, k, r, eo⟩ := I1.hok p _ (e1.s _ _ (hs.s _ _ hq))
      exact ⟨its.toArray, k, eo, by rw [List.size_toArray, ← r.length], fun i h1 => turn its r i h1 s' l⟩
    · obtain ⟨H1, I1, e1⟩ := l
      rw [a.length, hin]
      exact q s' H1 I1 e1
  · rw [← hK] at hq
    obtain ⟨its, r, eo, z⟩ := I.tuple (Same.tup hs.s hq)
    refine GB.ct_tupB (e := e) (fun s' => ∃ H', Inv X pins σ H' s' ∧ Ext Ω H H') eo (fun i h1 s' l => turn its r i h1 s' l) (fun s' l => ?_) ⟨H, I, .refl _⟩
    obtain ⟨H1, I1, e1⟩ := l
    rw [List.size_toArray, ← r.length, a.length, hin]
    exact q s' H1 I1 e1
def M.seq? : M → Option (List M)
  | .lst xs => some xs
  | .tup xs => some xs
  | _ => none
/-- x in y: y a list, a tuple; a text of one sign in a text -/
def semIn (cl : M → Bool) (d : Nat) (neg : Bool) : R → R → (R → Prop) → Prop := fun a b Q => (∃ c l, a = .v (.str [c]) ∧ b = .v (.str l) ∧ Q (.v (.bl (if neg then !decide (c ∈ l) else decide (c ∈ l))))) ∨
  ∃ m m' xs, a.mv? = some m ∧ b.mv? = some m' ∧ m'.seq? = some xs ∧ (xs.all fun y => cOk cl d y m) = true ∧ Q (.v (.bl (if neg then !inM m xs else inM m xs)))
theorem in_r {neg : Bool} {op : CmpOp} (EQ : EqP X.prog X.w Ω X.mg X.base n d cl) (hK : X.K = Ω.K) (hr : Room (n + d + 1) X.A) (hop : ∀ a c : Value, compareOp op a c = (do let b ← contains c a; return .bool (if neg then !b else b))) (hsg : OpR X (compareOp op) (fun x y H Q => ∃ (c : Nat) (z : Str), x = .str ⟨#[c]⟩ ∧ y = .str z ∧ Q (.bl (if neg then !decide (c ∈ z.cps.toList) else decide (c ∈ z.cps.toList))) H)) : OpM Ω X (compareOp op) (semIn cl d neg) := by
  refine ⟨_, OpR.or hsg (r' := fun x y H QQ => ∃ Hr m ms p vs, SmP Ω Hr H ∧ Rp Ω Hr x m ∧ y = .ref p ∧ (Hr p = some (.lst vs) ∨ SqT Ω.K Hr p vs) ∧ RpL Ω Hr vs ms ∧ (ms.all fun y => cOk cl d y m) = true ∧ ∀ H', Ext Ω H H' → QQ (.bl (if neg then !inM m ms else inM m ms)) H') ?_, fun F σ ρ H H' x y a b Q QQ st ha hb q K nz => ?_⟩
  · intro pins s σ H x y v u Q I rx ry h
    obtain ⟨Hr, m, ms, p, vs, hs, hx, rfl, hq, a, hd, q⟩ := h
    cases (show u = Value.ref p from ry)
    rw [hop]
    refine wpAny_bind (contains_all EQ hK hr I hs hx hq a rx hd fun s' H' I' e => wpAny_pure ?_)
    exact ⟨.bl _, H', I', rfl, q H' e⟩
  · rcases q with ⟨c, l, rfl, rfl, q⟩ | ⟨m, m', xs, e1, e2, e3, hd, q⟩
    · obtain ⟨rfl, _⟩ := ha.str
      obtain ⟨rfl, _⟩ := hb.str
      exact .inl ⟨c, _, rfl, rfl, K _ H' _ (.refl st.rel) (rv (.bl _)) q⟩
    · have hx := RpR.mv st.rel ha e1
      have hy := RpR.mv st.rel hb e2
      have fin : ∀ H'', Ext Ω H' H'' → QQ (.bl (if neg then !inM m xs else inM m xs)) H'' := fun H'' s => K _ H'' _ (st.rel.ext s) (rv (.bl _)) q
      cases m' with
      | lst ys =>
        cases e3
        cases hy with
        | lst h a => exact .inr ⟨_, m, _, _, _, ⟨hid_sub, st.rel.pin.2⟩, hx, rfl, .inl h, a, hd, fin⟩
      | tup ys =>
        cases e3
        cases hy with
        | tup h a => exact .inr ⟨_, m, _, _, _, ⟨hid_sub, st.rel.pin.2⟩, hx, rfl, .inr h, a, hd, fin⟩
      | _ => cases e3
theorem om_in (EQ : EqP X.prog X.w Ω X.mg X.base n d cl) (hK : X.K = Ω.K) (hr : Room (n + d + 1) X.A) : OpM Ω X (compareOp .In) (semIn cl d false) := in_r (neg := false) EQ hK hr (fun _ _ => rfl) op_in_sign
theorem om_notin (EQ : EqP X.prog X.w Ω X.mg X.base n d cl) (hK : X.K = Ω.K) (hr : Room (n + d + 1) X.A) : OpM Ω X (compareOp .NotIn) (semIn cl d true) := in_r (neg := true) EQ hK hr (fun _ _ => rfl) op_notIn_sign
end
end PL
namespace PL
open PySem PySem.Spec PyProof.Rows L2 KW
abbrev FI := List R → (List (Str × M) → Prop) → X0 → Prop
def FrI (A0 : List (Addr × OC)) (H : Hp) (Z : Addr → Prop) (x : Addr) : Fr := { Fr0 A0 H Z with sf := some x }
def spI (Ω : Ev) (c : Nat) (f : FI) : Sp := fun vs H Q E => ∃ x dx ws H1 A0 Z rs Qm xm, vs = .ref x :: ws ∧ H = upd (upd H1 dx (.own x)) x (.ins (Ω.cs c) dx []) ∧ H1 x = none ∧ H1 dx = none ∧ dx ≠ x ∧ Rel Ω (Fr0 A0 H1 Z) (ws.map some) H1 rs ∧
  XL Ω (Fr0 A0 H1 Z) (fun cls d _ H => E cls d H) (ws.map some) rs H1 xm ∧
  (∀ H' fs, Stp Ω (Fr0 A0 H1 Z) (ws.map some) rs H1 H' → OAt Ω (hidP (fun b => (Own (ws.map some) rs b ∨ Z b) ∨ b = x) H') H' x (.ins c fs) → Qm fs → Q .non H') ∧ f rs Qm xm
structure MakM (P : Program) (w : World) (Ω : Ev) (mg : Str → Option Value) (base : Heap) (k : Nat) (x : Str) (c : Nat) (f : FI) : Prop where
  ex : ∃ fa fd ps, Mk Ω.K (Ω.cs c) fa ∧ FnOk P w Ω.K mg base (L2N.CX P w) k fa fd ps (spI Ω c f) ∧ mg x = some (.ref (Ω.cs c)) ∧ Binds Ω.K fd ps []
  has : Ω.has c
theorem MakM.mono {P : Program} {w : World} {Ω : Ev} {mg : Str → Option Value} {base : Heap} {j k : Nat} {x : Str} {c : Nat} {f : FI} (m : MakM P w Ω mg base j x c f) (h : j ≤ k) : MakM P w Ω mg base k x c f := by
  obtain ⟨fa, fd, ps, M, F, r⟩ := m.ex
  exact ⟨⟨fa, fd, ps, M, F.mono h, r⟩, m.has⟩
section
variable {Ω : Ev}
theorem Rel.noSf {A0 : List (Addr × OC)} {H H' : Hp} {Z : Addr → Prop} {x : Addr} {σ : L2.St} {ρ : List R} (r : Rel Ω (FrI A0 H Z x) σ H' ρ) : Rel Ω (Fr0 A0 H Z) σ H' ρ := ⟨r.len, r.grow, r.zin, r.zno, r.val, r.own, r.inj, r.par, r.pin, (fun _ h => by cases h), r.exc⟩
/-- the new instance is the first slot's -/
theorem Rel.self {A0 : List (Addr × OC)} {Z : Addr → Prop} {H1 H : Hp} {x : Addr} {c : OC} {σ : L2.St} {ρ : List R} (r : Rel Ω (Fr0 A0 H1 Z) σ H1 ρ) (s : L2.Same H1 H) (hx : H1 x = none) (oa : OAt Ω (hidP (fun b => (Own σ ρ b ∨ Z b) ∨ b = x) H) H x c) (hc : ∃ d fs, c = .ins d fs) : Rel Ω (FrI A0 H1 Z x) (some (.ref x) :: σ) H (.o true c :: ρ) := by
  have st := r.same s
  have ow : ∀ b, Own (some (.ref x) :: σ) (.o true c :: ρ) b ↔ (Own σ ρ b ∨ b = x) := fun b => by
    constructor
    · rintro ⟨i, l, d, e1, e2⟩
      cases i with
      | zero => cases e2; exact .inr rfl
      | succ i => exact .inl ⟨i, l, d, by simpa using e1, by simpa using e2⟩
    · rintro (⟨i, l, d, e1, e2⟩ | rfl)
      · exact ⟨i + 1, l, d, by simpa using e1, by simpa using e2⟩
      · exact ⟨0, _, _, rfl, rfl⟩
  have nx : ¬ Own σ ρ x := r.notOwn hx
  have nz : ¬ Z x := r.notZ hx
  have same : Same (Hd (Fr0 A0 H1 Z) σ ρ H1) (Hd (FrI A0 H1 Z x) (some (.ref x) :: σ) (.o true c :: ρ) H) := hidP_same fun b o n e => ⟨(fun z => by
    rcases z with z | z
    · rcases (ow b).mp z with z | rfl
      · exact n (.inl z)
      · rw [hx] at e; cases e
    · exact n (.inr z)), s b o e⟩
  have same2 : Same (hidP (fun b => (Own σ ρ b ∨ Z b) ∨ b = x) H) (Hd (FrI A0 H1 Z x) (some (.ref x) :: σ) (.o true c :: ρ) H) := hidP_same fun b o n e => ⟨fun z => n (z.elim (fun z => ((ow b).mp z).imp .inl id) fun z => .inl (.inr z)), e⟩
  refine ⟨by simp [r.len], ⟨fun b o e _ => s b o e, fun b ps e => ⟨ps, s _ _ e⟩⟩, fun b z => ?_, fun b z o => ?_, fun i m e => ?_, fun i l d e => ?_, fun i j l d l' d' p e1 e2 h1 h2 => ?_, fun p d h => ?_, ⟨trivial, PN.of s r.pin.2⟩, fun y hy => ?_, fun i a d er m e => ?_⟩
  · obtain ⟨o, e, nt⟩ := r.zin b z
    exact ⟨o, s b o e, nt⟩
  · rcases (ow b).mp o with o | rfl
    · exact r.zno b z o
    · exact nz z
  · cases i with
    | zero => cases e
    | succ i =>
      obtain ⟨v, g1, g2⟩ := r.val i m (by simpa using e)
      exact ⟨v, by simpa using g1, g2.mono same⟩
  · cases i with
    | zero =>
      cases e
      exact ⟨x, rfl, oa.mono same2 fun _ z => z, (fun z => by cases z), fun _ => hx⟩
    | succ i =>
      have e' : ρ[i]? = some (.o l d) := by simpa using e
      obtain ⟨p, g1, g2, g3⟩ := r.own i l d e'
      exact ⟨p, by simpa using g1, g2.mono same fun o eo => s p o eo, g3⟩
  · cases i with
    | zero =>
      cases e1
      cases h1
      cases j with
      | zero => cases e2; exact ⟨rfl, fun _ => rfl⟩
      | succ j => exact absurd ⟨j, l', d', by simpa using e2, by simpa using h2⟩ nx
    | succ i =>
      cases j with
      | zero =>
        cases h2
        exact absurd ⟨i, l, d, by simpa using e1, by simpa using h1⟩ nx
      | succ j =>
        have h := r.inj i j l d l' d' p (by simpa using e1) (by simpa using e2) (by simpa using h1) (by simpa using h2)
        exact ⟨h.1, fun z => by rw [h.2 z]⟩
  · obtain ⟨i, g1, g2⟩ := r.par p d h
    exact ⟨i + 1, by simpa using g1, by simpa using g2⟩
  · cases hy
    obtain ⟨d, fs, rfl⟩ := hc
    exact ⟨d, fs, rfl, rfl⟩
  · cases i with
    | zero => cases e
    | succ i =>
      obtain ⟨g1, g2⟩ := r.exc i a d er m (by simpa using e)
      exact ⟨by simpa using g1, g2.mono same⟩
end
section
variable {P : Program} {w : World} {Ω : Ev} {mg : Str → Option Value} {base : Heap}
def initC (c : Nat) (Q : List (Str × M) → Prop) (x : X0) : CM := { nx := fun ρ => ∃ fs, ρ[0]? = some (.o true (.ins c fs)) ∧ Q fs, rt := fun _ _ => False, ex := fun er m _ => x er m }
theorem makM {x qual : Str} {st : Stmt} {N ps : List Str} {k : Nat} {c : Nat} {f : FI} {t : TMS} (D : Dc Ω.K mg (Ω.cs c) x qual st ps) (S : FnScope N ps (defScope st)) (hc : Ω.has c) (len : ∀ rs Q x, f rs Q x → rs.length + 1 = ps.length)
    (body : ∀ (fa : Addr) (cdv : Value) (A : Around) (outer : List Env) (s : Shared) (H : Hp) (E : XK), Room k (A.deeper (envOfC qual (defScope st) s.heap.objs.size fa cdv)) → PSs (cxOf (L2N.CX P w) P w Ω.K mg base N qual (defScope st) fa cdv A outer s H E) (defBody st) (lfS Ω (fun cls d _ H => E cls d H) t))
    (h : ∀ rs Q x, f rs Q x → t (.o true (.ins c []) :: rs ++ List.replicate (N.length - ps.length) .no) (initC c Q x)) : MakM P w Ω mg base (k + 1) x c f := by
  obtain ⟨fa, fd, M, hm, F, b⟩ := D.ex
  obtain ⟨oc, od, kV, doc, pm, an', cdv, ct, osl, rfl, lk, hcd⟩ := F.ex
  refine ⟨⟨fa, _, ps, M, fn_of lk hcd S (fun vs H Q E hh => ?_) fun A outer s H vs Q E hr hh => ?_, hm, b⟩, hc⟩
  · obtain ⟨x, dx, ws, H1, A0, Z, rs, Qm, xm, rfl, rfl, h1, h2, h3, r, xl, kk, hf⟩ := hh
    have := r.len
    rw [List.length_map] at this
    rw [List.length_cons, ← len rs Qm xm hf, this]
  · obtain ⟨x, dx, ws, H1, A0, Z, rs, Qm, xm, rfl, rfl, h1, h2, h3, r, xl, kk, hf⟩ := hh
    refine ⟨_, body fa cdv A outer s _ E hr, ?_⟩
    have hl : ws.length + 1 = ps.length := by
      have := r.len
      rw [List.length_map] at this
      rw [← len rs Qm xm hf, this]
    have sm : L2.Same H1 (upd (upd H1 dx (.own x)) x (.ins (Ω.cs c) dx [])) := fun b o e => by
      rw [upd_ne (ne_of_none e h1), upd_ne (ne_of_none e h2)]
      exact e
    have r1 : Rel Ω (FrI A0 H1 Z x) (some (.ref x) :: ws.map some) (upd (upd H1 dx (.own x)) x (.ins (Ω.cs c) dx [])) (.o true (.ins c []) :: rs) := r.self sm h1 ⟨hc, dx, [], upd_same, rfl, .nil⟩ ⟨_, _, rfl⟩
    refine ⟨FrI A0 H1 Z x, _, initC c Qm xm, ?_, ⟨fun σ H' ρ r' q => ?_, fun _ _ _ _ _ _ _ z => z.elim, fun _ _ _ _ z => z.elim, fun _ _ _ _ z => z.elim, fun σ H' ρ er m d v r' hd hv hx => ?_⟩, h rs Qm xm hf⟩
    · show Rel Ω _ ((V.ref x :: ws).map some ++ List.replicate (N.length - (V.ref x :: ws).length) none) _ _
      rw [List.length_cons, hl]
      exact Rel.entry (vs := V.ref x :: ws) _ r1
    · obtain ⟨fs, e, q⟩ := q
      obtain ⟨c', fs', e1, e2⟩ := r'.sf x rfl
      rw [e] at e1
      cases e1
      obtain ⟨p, g1, g2, _⟩ := r'.own 0 _ _ e
      rw [e2] at g1
      cases g1
      refine kk H' fs (r.exit r'.noSf) (g2.mono (hidP_same fun b o n e' => ⟨(fun z => ?_), e'⟩) fun _ z => z) q
      rcases z with (z | z) | rfl
      · exact n (.inl (InA_sub r' ((InA_iff r b).mpr z)))
      · exact n (.inr z)
      · exact n (.inl ⟨0, _, _, e, e2⟩)
    · exact xl er m d H' v (r.exit r'.noSf) ((hidP_same fun b o n e => ⟨fun z => n (z.imp (fun z => InA_sub r' ((InA_iff r b).mpr z)) id), e⟩) _ _ hd) (hv.mono (hidP_same fun b o n e => ⟨fun z => n (z.imp (fun z => InA_sub r' ((InA_iff r b).mpr z)) id), e⟩)) hx
end
def tmMake (c : Nat) (f : FI) (u : TMA) : TM := fun ρ Q x => u ρ (fun rs => f (rs.map co) (fun fs => ∃ ms, fs = (an c).zip ms ∧ ms.length = (an c).length ∧ Q (.v (.obj c ms))) x) x
section
variable {X : Cx} {Ω : Ev} {Wx : WX}
theorem zip_fst {α β : Type} {ks : List α} {ms : List β} (h : ms.length = ks.length) : (ks.zip ms).map (·.1) = ks := by
  rw [List.map_fst_zip]
  omega
theorem zip_snd {α β : Type} {ks : List α} {ms : List β} (h : ms.length = ks.length) : (ks.zip ms).map (·.2) = ms := by
  rw [List.map_snd_zip]
  omega
theorem make_run {c : Nat} {f : FI} {F : Fr} {σ : L2.St} {ρ : List R} {H H1 : Hp} {vs : List V} {rs : List R} {Q : R → Prop} {x : X0} {QQ : VK} (hc : Ω.has c) (s : Stp Ω F σ ρ H H1) (r0 : Rel Ω F σ H ρ) (rp : RpRs Ω F σ ρ H H1 vs rs) (xl : XL Ω F Wx σ ρ H x) (k : ∀ v H' r, Stp Ω F σ ρ H H' → RpR Ω F σ ρ H H' v r → Q r → QQ v H') (h : f (rs.map co) (fun fs => ∃ ms, fs = (an c).zip ms ∧ ms.length = (an c).length ∧ Q (.v (.obj c ms))) x)
    {y dy : Addr} (h1 : H1 y = none) (h2 : H1 dy = none) (h3 : dy ≠ y) : spI Ω c f (.ref y :: vs) (upd (upd H1 dy (.own y)) y (.ins (Ω.cs c) dy [])) (fun v H2 => v = .non ∧ QQ (.ref y) H2) (WE Wx σ) := by
  refine ⟨y, dy, vs, H1, _, _, rs.map co, _, x, rfl, rfl, h1, h2, h3, args_rel s.rel rp fun p hp => r0.notZ hp, call_xl s.rel rp (xl.step s), fun H2 fs s2 oa q => ⟨rfl, ?_⟩, h⟩
  obtain ⟨ms, rfl, hl, q⟩ := q
  have sb := call_back s.rel rp s2
  refine k _ H2 (.v (.obj c ms)) (s.trans sb) (rv ?_) q
  obtain ⟨g, dx', vs', e, hn, a⟩ := oa
  rw [zip_fst hl] at e
  rw [zip_snd hl] at a
  have ny : ¬ Own σ ρ y := s.rel.notOwn h1
  have nz : ¬ F.Z y := s.rel.notZ h1
  refine .obj (hidP_some.mpr ⟨fun z => z.elim ny nz, e⟩) (by rw [hn, List.length_zip, hl]; simp) (a.mono (hidP_same fun b o n e => ⟨fun z => n (.inl ((hid2_iff s.rel rp b).mpr z)), e⟩)) hc
theorem pm_make {k j : Nat} {x : Str} {c : Nat} {f : FI} {p pos : Pos} {e : Expr} {es : List Expr} {u : TMA} (m : MakM X.prog X.w Ω X.mg X.base k x c f) (hK : X.K = Ω.K) (tk : L2N.Takes X Wx) (hr : Room j X.A) (hk : k + 1 ≤ j) (hg : Gl X x) (ha : PA X (e :: es) (lfA Ω Wx u))
    (hdb : (x == ("__debug__" : Str)) = false := by decide) (he : starEach (e :: es) X.env = (false, eval e X.env) :: starEach es X.env := by rfl) (hpl : (backTo pos (starEach es X.env)).any (·.1) = false := by rfl) :
    PE X (.Call (.Name x p) (e :: es) [] pos) (lf Ω Wx (tmMake c f u)) := by
  obtain ⟨fa, fd, ps, Mk, Fn, hm, b⟩ := m.ex
  rw [← hK] at Mk Fn b
  refine PE.imp (pe_makeS Mk Fn (hr.mono hk) hg hm b (fun σ => L2N.passAt tk σ) ha hdb he hpl) fun σ H QQ hh => ?_
  obtain ⟨F, ρ, Q, x, r, xl, k, t⟩ := hh
  refine ⟨F, ρ, _, x, r, xl, fun vs H1 rs s rp q => ?_, t⟩
  intro y dy h1 h2 h3
  rw [List.append_nil]
  exact make_run m.has s r rp xl k q h1 h2 h3
def ownI (ρ : List R) (i : Nat) : Option (Nat × List (Str × M)) := match ρ[i]? with
  | some (.o true (.ins c fs)) => some (c, fs)
  | _ => none
theorem ownI_at {ρ : List R} {i c : Nat} {fs : List (Str × M)} (h : ownI ρ i = some (c, fs)) : ρ[i]? = some (.o true (.ins c fs)) := by
  unfold ownI at h
  split at h
  · cases h
    assumption
  · cases h
def tmFldS (i : Nat) (f : Str) (t : TM) : TMS := fun ρ C => ∃ c fs, ownI ρ i = some (c, fs) ∧ f ∈ an c ∧ f ∉ fs.map (·.1) ∧ fs.length < 100 ∧ t ρ (fun r => ∃ m, r.m? = some m ∧ C.nx (ρ.set i (.o true (.ins c (fs ++ [(f, m)]))))) (fun er m => C.ex er m ρ)
theorem kk_sfld (K : PySem.W.Frag) (hK : X.K = K) {o value : Expr} {f : Str} {ta tv : TE} {pos pos' : Pos} (ha : PE X o ta) (hv : PE X value tv) (hs : swapsWith value (some (.Attribute o f pos')) pos.line X.env = pure false := by rfl) : PS X (.Assign [.Attribute o f pos'] value pos) (sFld K ta tv f) := by subst hK; exact ps_fld ha hv hs
theorem pms_fld {o value : Expr} {f : Str} {i : Nat} {t : TM} {pos pos' : Pos} (EO : EvOk Ω) (hK : X.K = Ω.K) (ho : PE X o (tVar i)) (hv : PE X value (lf Ω Wx t)) (hs : swapsWith value (some (.Attribute o f pos')) pos.line X.env = pure false := by rfl) : PS X (.Assign [.Attribute o f pos'] value pos) (lfS Ω Wx (tmFldS i f t)) :=
  PS.imp (kk_sfld Ω.K hK ho hv hs) fun D σ H hh => by
  obtain ⟨F, ρ, C, r, k, c, fs, ei, hf, hn, hl, t⟩ := hh
  have e1 := ownI_at ei
  refine ⟨F, ρ, _, _, r, k.xl, fun v H1 a s rp q => ?_, t⟩
  obtain ⟨m, em, q⟩ := q
  obtain ⟨p, g1, ⟨g, dx, vs, e, n, al⟩, _⟩ := s.rel.own i _ _ e1
  refine ⟨_, g1, p, _, dx, _, rfl, e, EO.cl c g, EO.na c g f hf, ?_, ?_⟩
  · rw [List.length_zip, List.length_map]
    omega
  · have ez : putF f v ((fs.map (·.1)).zip vs) = ((fs ++ [(f, m)]).map (·.1)).zip (vs ++ [v]) := by
      rw [putF_new (by rw [zip_fst (by rw [n, List.length_map])]; exact hn), List.map_append, List.zip_append (by rw [List.length_map, n])]
      rfl
    refine k.nx σ _ _ (s.rel.updO (c' := .ins c (fs ++ [(f, m)])) e1 g1 ⟨g, dx, vs ++ [v], by rw [upd_same, ez], by rw [List.length_append, List.length_append, n]; rfl, ?_⟩ fun _ => ⟨_, _, rfl⟩) q
    rw [List.map_append]
    exact al.append (.cons (rp.m em fun p hp => r.notZ hp) .nil)
def tmRaise (er : Nat) (t : TM) : TMS := fun ρ C => t ρ (fun r => ∃ m, r.m? = some m ∧ C.ex er m ρ) (fun er m => C.ex er m ρ)
theorem pms_raise {x : Str} {er : Nat} {f : Str} {p pos pos' : Pos} {e : Expr} {t : TM} {k : Nat} (T : ErC Ω.K X.mg x f (Ω.ecs er) ∧ f = ef er) (I : ErI X.prog X.w Ω.K X.mg X.base f (Ω.ecs er)) (hK : X.K = Ω.K) (hr : Room (k + 2) X.A) (hc : X.calm = true) (tk : L2N.Takes X Wx) (hg : Gl X x) (he : PE X e (lf Ω Wx t))
    (hdb : (x == ("__debug__" : Str)) = false := by decide) (hs : starEach [e] X.env = (false, eval e X.env) :: starEach [] X.env := by rfl) (hpl : (backTo pos (starEach [] X.env)).any (·.1) = false := by rfl) :
    PS X (.Raise (some (.Call (.Name x p) [e] [] pos)) none pos') (lfS Ω Wx (tmRaise er t)) := by
  obtain ⟨T, rfl⟩ := T
  rw [← hK] at T I
  refine PS.imp (kr_raise (k := k) T I hr hc tk hg he hdb hs hpl) fun D σ H hh => ?_
  obtain ⟨F, ρ, C, r, kl, t⟩ := hh
  refine ⟨F, ρ, _, _, r, kl.xl, fun v H1 a s rp q => ?_, t⟩
  obtain ⟨m, em, q⟩ := q
  refine raiseOk fun d hd => ?_
  have s2 := s.rel.new (o := .xd [(ef er, v)]) hd
  exact kl.ex σ _ ρ er m d v s2.rel (hidP_some.mpr ⟨fun z => z.elim (s.rel.notOwn hd) (s.rel.notZ hd), upd_same⟩) ((rp.m em fun p hp => r.notZ hp).mono s2.same) q
end
end PL
namespace PL
open PySem PySem.Spec PyProof.Rows L2 KW
section
variable {X : Cx} {Ω : Ev} {Wx : WX}
/-- the operand's type: a built-in one by its name, an own one by its number -/
def R.ty? : R → Option (String ⊕ Nat)
  | .v .non => some (.inl "NoneType")
  | .v (.bl _) => some (.inl "bool")
  | .v (.int _) => some (.inl "int")
  | .v (.str _) => some (.inl "str")
  | .v (.lst _) => some (.inl "list")
  | .v (.tup _) => some (.inl "tuple")
  | .v (.obj c _) => some (.inr c)
  | .v (.dct _ _) => some (.inl "dict")
  | .v (.err _ _) => some (.inl "error")
  | .o _ (.lst _) => some (.inl "list")
  | .f (.lst _) => some (.inl "list")
  | _ => none
def tyVal (Ω : Ev) : String ⊕ Nat → Value
  | .inl t => .type t
  | .inr c => .ref (Ω.cs c)
/-- an error stands there -/
def ErrV (Ω : Ev) (H : Hp) (v : V) : Prop := ∃ p e dx, v = .ref p ∧ e < 13 ∧ H p = some (exo p (Ω.ecs e) dx) ∧ ∀ dd, dx = some dd → ∃ fs, H dd = some (.xd fs)
theorem ErrV.of {F : Fr} {σ : L2.St} {ρ : List R} {H H' : Hp} {v : V} {e : Nat} {fs : List M} (h : RpR Ω F σ ρ H H' v (.v (.err e fs))) : ErrV Ω H' v := by
  cases (show Rp Ω _ v (.err e fs) from h) with
  | err g h1 h2 a => exact ⟨_, e, _, rfl, g, hid_sub _ _ h1, fun dd z => by cases z; exact ⟨_, hid_sub _ _ h2⟩⟩
  | err0 g h1 => exact ⟨_, e, _, rfl, g, hid_sub _ _ h1, fun dd z => by cases z⟩
theorem ErrV.step {H H' : Hp} {v : V} (h : ErrV Ω H v) (k : Same H H') : ErrV Ω H' v := by
  obtain ⟨p, e, dx, rfl, g, h1, h2⟩ := h
  exact ⟨p, e, dx, rfl, g, k _ _ h1, fun dd z => by
    obtain ⟨fs, h⟩ := h2 dd z
    exact ⟨fs, k _ _ h⟩⟩
theorem kit_err {pins : List (Addr × Obj)} {σ : L2.St} {H : Hp} {s : Shared} {a D : Addr} {dx : Option Addr} (I : Inv X pins σ H s) (C : ExcC X.K D) (h : H a = some (exo a D dx)) (hd : ∀ dd, dx = some dd → ∃ fs, H dd = some (.xd fs)) : ∃ P : Heap → Prop, PySem.W.KitX X.K (.ref a) (.ref D) P ∧ P s.heap := by
  obtain ⟨t1, ho⟩ := exo_at I.hok h
  cases dx with
  | none => exact ⟨_, PySem.W.handS_kitx_exc C.hg C.hk C.hs C.hd C.ha C.hn C.ht C.hm, ⟨ho, rfl, rfl, trivial⟩⟩
  | some dd =>
    obtain ⟨fs, hdd⟩ := hd dd rfl
    have ox : ObjOk X.prog X.w H s.heap dd (.xd fs) := I.hok dd _ hdd
    obtain ⟨mA, hns, _⟩ := ox
    obtain ⟨od, hod, _⟩ := lookIn_ns hns
    have hcl : (PySem.W.clsIn X.K D).isSome = true := by
      obtain ⟨cd, hc, _⟩ := PySem.W.any_some C.hd
      rw [hc]
      rfl
    have J : PySem.W.InstAt s.heap a _ D (some od) := ⟨ho, rfl, rfl, hod⟩
    exact ⟨_, PySem.W.kitx_exc hcl C.hg C.hk C.hs C.ha C.hn C.ht C.hm, J⟩
/-- isinstance of an error that is a value -/
def rIsEr (Ω : Ev) : List V → Hp → VK → Prop := fun xs H Q => ∃ (p : Addr) (e : Nat) (dx : Option Addr) (c : V) (cv : Value) (b : Bool), xs = [.ref p, c] ∧ ClsV c cv ∧ e < 13 ∧ H p = some (exo p (Ω.ecs e) dx) ∧ (∀ dd, dx = some dd → ∃ fs, H dd = some (.xd fs)) ∧ PySem.W.kitOne Ω.K (.ref (Ω.ecs e)) cv = some b ∧ Q (.bl b) H
theorem is_err (EO : EvOk Ω) (hK : X.K = Ω.K) : CallR X (.builtin "isinstance") (rIsEr Ω) := by
  intro pins s σ H xs us Q I r h
  obtain ⟨p, e, dx, c, cv, b, rfl, hcv, g, h1, h2, hk, q⟩ := h
  obtain ⟨y1, y2, rfl, w1, w2⟩ := vals2 r
  cases (show y1 = Value.ref p from w1)
  have ec := hcv.eq w2
  subst ec
  obtain ⟨P, kx, hP⟩ := kit_err I (by rw [hK]; exact EO.exc e g) h1 h2
  exact PySem.W.kia_one kx I.kIn hP (by rw [hK]; exact hk) (fun z => nomatch z) fun tk => ⟨.bl b, H, I.kept (t' := tk) fun _ _ z => z, rfl, q⟩
def rIsErT (Ω : Ev) : List V → Hp → VK → Prop := fun xs H Q => ∃ (p : Addr) (e : Nat) (dx : Option Addr) (tp : Addr) (cs : List V) (ws : List Value) (b : Bool), xs = [.ref p, .ref tp] ∧ H tp = some (.tup cs) ∧ Paired ClsV cs ws ∧ e < 13 ∧ H p = some (exo p (Ω.ecs e) dx) ∧ (∀ dd, dx = some dd → ∃ fs, H dd = some (.xd fs)) ∧ PySem.W.kitAny Ω.K (.ref (Ω.ecs e)) ws = some b ∧ Q (.bl b) H
theorem is_errT (EO : EvOk Ω) (hK : X.K = Ω.K) : CallR X (.builtin "isinstance") (rIsErT Ω) := by
  intro pins s σ H xs us Q I r h
  obtain ⟨p, e, dx, tp, cs, ws, b, rfl, hT, hcv, g, h1, h2, hk, q⟩ := h
  obtain ⟨y1, y2, rfl, w1, w2⟩ := vals2 r
  cases (show y1 = Value.ref p from w1)
  cases (show y2 = Value.ref tp from w2)
  obtain ⟨P, kx, hP⟩ := kit_err I (by rw [hK]; exact EO.exc e g) h1 h2
  obtain ⟨_, its, rv, o, z1, z2, n, z3⟩ := (show ObjOk X.prog X.w H s.heap tp (.tup cs) from I.hok tp _ hT)
  have e3 := ClsV.all hcv rv
  subst e3
  obtain ⟨oc, od', dt, sl⟩ := o
  simp only at z2 z3
  subst z2 z3
  exact PySem.W.kia_tup kx I.kIn hP z1 (by rw [hK]; exact hk) (fun z => nomatch z) fun tk => ⟨.bl b, H, I.kept (t' := tk) fun _ _ z => z, rfl, q⟩
theorem ty_of {F : Fr} {σ : L2.St} {ρ : List R} {H H' : Hp} {v : V} {r : R} {t : String ⊕ Nat} (EO : EvOk Ω) (s : Rel Ω F σ H' ρ) (h : RpR Ω F σ ρ H H' v r) (e : r.ty? = some t) : (TyX Ω.K H' v (tyVal Ω t) ∧ (∀ c, t = .inr c → Ω.has c) ∧ ∀ T, t = .inl T → T ∈ tyNames) ∨ (t = .inl "error" ∧ ErrV Ω H' v) := by
  have nl : ∀ {T : String}, T ∈ tyNames → (∀ c, (Sum.inl T : String ⊕ Nat) = .inr c → Ω.has c) ∧ ∀ T', (Sum.inl T : String ⊕ Nat) = .inl T' → T' ∈ tyNames := fun {T} h => ⟨(fun c z => by cases z), fun T' z => by cases z; exact h⟩
  unfold R.ty? at e
  split at e
  · cases e
    cases h.non
    exact .inl ⟨.base .non, nl (by decide)⟩
  · cases e
    cases h.bl
    exact .inl ⟨.base (.bl _), nl (by decide)⟩
  · cases e
    cases h.int
    exact .inl ⟨.base (.int _), nl (by decide)⟩
  · cases e
    obtain ⟨rfl, _⟩ := h.str
    exact .inl ⟨.base (.str _), nl (by decide)⟩
  · cases e
    obtain ⟨p, vs, rfl, h1, _⟩ := RpR.lst s h rfl
    exact .inl ⟨.base (.lst h1), nl (by decide)⟩
  · cases e
    obtain ⟨p, vs, rfl, h1, _⟩ := h.tup
    exact .inl ⟨tyT h1, nl (by decide)⟩
  · cases e
    obtain ⟨p, dx, vs, rfl, h1, _, _, g⟩ := h.obj
    exact .inl ⟨(EO.isc _ g).ty h1, (fun c z => by cases z; exact g), fun T z => by cases z⟩
  · cases e
    cases (show Rp Ω _ v (.dct _ _) from h) with
    | dct h1 _ _ => exact .inl ⟨.base (.dK (hid_sub _ _ h1)), nl (by decide)⟩
  · cases e
    exact .inr ⟨rfl, .of h⟩
  · cases e
    obtain ⟨p, vs, rfl, h1, _⟩ := RpR.lst s h rfl
    exact .inl ⟨.base (.lst h1), nl (by decide)⟩
  · cases e
    obtain ⟨p, vs, rfl, h1, _⟩ := RpR.lst s h rfl
    exact .inl ⟨.base (.lst h1), nl (by decide)⟩
  · cases e
/-- an instance of the class c? -/
def isC (c : Nat) : String ⊕ Nat → Bool
  | .inl _ => false
  | .inr d => decide (d = c)
def tmIsiC (c : Nat) (t : TM) : TM := fun ρ Q x => t ρ (fun r => ∃ y, r.ty? = some y ∧ Q (.v (.bl (isC c y)))) x
theorem pm_isiC {c : Nat} {C : Str} {e : Expr} {p p2 pos : Pos} {t : TM} (EO : EvOk Ω) (hK : X.K = Ω.K) (hg : Gl X "isinstance") (hm : X.mg "isinstance" = none) (hC : X.mg C = some (.ref (Ω.cs c)) ∧ Ω.has c) (h : PE X e (lf Ω Wx t)) (hgC : Gl X C := by rfl) (hdb : (C == ("__debug__" : Str)) = false := by decide)
    (he : starEach [e, .Name C p2] X.env = (false, eval e X.env) :: starEach [.Name C p2] X.env := by rfl) (he2 : starEach [.Name C p2] X.env = (false, eval (.Name C p2) X.env) :: starEach [] X.env := by rfl) (hpl : (backTo pos (starEach [.Name C p2] X.env)).any (·.1) = false := by rfl) :
    PE X (.Call (.Name "isinstance" p) [e, .Name C p2] [] pos) (lf Ω Wx (tmIsiC c t)) :=
  PE.imp (pe_callB ((kk_isi Ω.K hK).or (is_err EO hK)) hg hm (by decide +kernel) (pa_cons h (pa_cons (pe_gref hgC hC.1 hdb) pa_nil he2) he) (by decide) (by decide) he hpl) fun σ H QQ hh => by
  obtain ⟨F, ρ, Q, x, r, xl, k, t⟩ := hh
  refine ⟨F, ρ, _, x, r, xl, fun v H1 a s rp q => ?_, t⟩
  obtain ⟨y, ey, q⟩ := q
  rcases ty_of EO s.rel rp ey with ⟨ty, h1, h2⟩ | ⟨rfl, p, e, dx, rfl, g, z1, z2⟩
  case inr => exact .inr ⟨p, e, dx, _, _, false, rfl, .own _, g, z1, z2, EO.kitE e g c hC.2, k _ H1 _ s (rv (.bl _)) q⟩
  refine .inl ⟨v, _, _, _, isC c y, rfl, .own _, ty, ?_, k _ H1 _ s (rv (.bl _)) q⟩
  cases y with
  | inl T => exact EO.kitT T (h2 T rfl) c hC.2
  | inr d => exact EO.kit d c (h1 d rfl) hC.2
def isB (T : String) : String ⊕ Nat → Bool
  | .inl t => (kitB t T).getD false
  | .inr _ => false
def tmIsiB (T : String) (t : TM) : TM := fun ρ Q x => t ρ (fun r => ∃ y, r.ty? = some y ∧ Q (.v (.bl (isB T y)))) x
theorem kit_all : ∀ t ∈ tyNames, ∀ T ∈ ["bool", "int", "str", "list", "tuple"], (kitB t T).isSome = true := by decide +kernel
theorem pm_isiB {T : String} {e e2 : Expr} {p pos : Pos} {t : TM} (EO : EvOk Ω) (hK : X.K = Ω.K) (hg : Gl X "isinstance") (hm : X.mg "isinstance" = none) (hT : PE X e2 (tC (.ty T))) (h : PE X e (lf Ω Wx t)) (hmem : T ∈ ["bool", "int", "str", "list", "tuple"] := by decide)
    (he : starEach [e, e2] X.env = (false, eval e X.env) :: starEach [e2] X.env := by rfl) (he2 : starEach [e2] X.env = (false, eval e2 X.env) :: starEach [] X.env := by rfl) (hpl : (backTo pos (starEach [e2] X.env)).any (·.1) = false := by rfl) :
    PE X (.Call (.Name "isinstance" p) [e, e2] [] pos) (lf Ω Wx (tmIsiB T t)) :=
  PE.imp (pe_callB ((kk_isi Ω.K hK).or (is_err EO hK)) hg hm (by decide +kernel) (pa_cons h (pa_cons hT pa_nil he2) he) (by decide) (by decide) he hpl) fun σ H QQ hh => by
  obtain ⟨F, ρ, Q, x, r, xl, k, t⟩ := hh
  refine ⟨F, ρ, _, x, r, xl, fun v H1 a s rp q => ?_, t⟩
  obtain ⟨y, ey, q⟩ := q
  rcases ty_of EO s.rel rp ey with ⟨ty, h1, h2⟩ | ⟨rfl, p, e, dx, rfl, g, z1, z2⟩
  case inr =>
    have e0 : isB T (.inl "error") = false := by
      simp only [List.mem_cons, List.not_mem_nil, or_false] at hmem
      rcases hmem with rfl | rfl | rfl | rfl | rfl <;> decide +kernel
    rw [e0] at q
    exact .inr ⟨p, e, dx, _, _, false, rfl, .ty _, g, z1, z2, EO.kitEN e g T hmem, k _ H1 _ s (rv (.bl _)) q⟩
  refine .inl ⟨v, _, _, _, isB T y, rfl, .ty _, ty, ?_, k _ H1 _ s (rv (.bl _)) q⟩
  cases y with
  | inl t' =>
    have := kit_all t' (h2 t' rfl) T hmem
    obtain ⟨b, hb⟩ := Option.isSome_iff_exists.mp this
    refine (kit_ty hb).trans ?_
    simp [isB, hb]
  | inr d =>
    refine EO.kitN T ?_ d (h1 d rfl)
    simp only [List.mem_cons, List.not_mem_nil, or_false] at hmem
    rcases hmem with rfl | rfl | rfl | rfl | rfl <;> decide
/-- isinstance(x, (tuple, list)) -/
def isTL : String ⊕ Nat → Bool
  | .inl t => decide (t = "tuple") || decide (t = "list")
  | .inr _ => false
def tmIsiTL (t : TM) : TM := fun ρ Q x => t ρ (fun r => ∃ y, r.ty? = some y ∧ Q (.v (.bl (isTL y)))) x
theorem pm_isiTL {e : Expr} {p p2 p3 pos ptt : Pos} {x1} {t : TM} (EO : EvOk Ω) (hK : X.K = Ω.K) (hg : Gl X "isinstance") (hm : X.mg "isinstance" = none) (hmt : X.mg "tuple" = none) (hml : X.mg "list" = none) (h : PE X e (lf Ω Wx t)) (hgt : Gl X "tuple" := by rfl) (hgl : Gl X "list" := by rfl)
    (he : starEach [e, .Tuple [.Name "tuple" p2, .Name "list" p3] x1 ptt] X.env = (false, eval e X.env) :: starEach [.Tuple [.Name "tuple" p2, .Name "list" p3] x1 ptt] X.env := by rfl) (he2 : starEach [.Tuple [.Name "tuple" p2, .Name "list" p3] x1 ptt] X.env = (false, eval (.Tuple [.Name "tuple" p2, .Name "list" p3] x1 ptt) X.env) :: starEach [] X.env := by rfl)
    (he3 : starEach [.Name "tuple" p2, .Name "list" p3] X.env = (false, eval (.Name "tuple" p2) X.env) :: starEach [.Name "list" p3] X.env := by rfl) (he4 : starEach [.Name "list" p3] X.env = (false, eval (.Name "list" p3) X.env) :: starEach [] X.env := by rfl) (hpl : (backTo pos (starEach [.Tuple [.Name "tuple" p2, .Name "list" p3] x1 ptt] X.env)).any (·.1) = false := by rfl) :
    PE X (.Call (.Name "isinstance" p) [e, .Tuple [.Name "tuple" p2, .Name "list" p3] x1 ptt] [] pos) (lf Ω Wx (tmIsiTL t)) :=
  PE.imp (pe_callB ((kk_isiT Ω.K hK).or (is_errT EO hK)) hg hm (by decide +kernel) (pa_cons h (pa_cons (pe_tup (pa_cons (kt_tuple hgt hmt) (pa_cons (kt_list hgl hml) pa_nil he4) he3)) pa_nil he2) he) (by decide) (by decide) he hpl) fun σ H QQ hh => by
  obtain ⟨F, ρ, Q, x, r, xl, k, t⟩ := hh
  refine ⟨F, ρ, _, x, r, xl, fun v H1 a s rp q => ?_, t⟩
  obtain ⟨y, ey, q⟩ := q
  refine ⟨by show 2 ≤ sizeLine; decide, fun tp htp => ?_⟩
  have s2 := s.rel.new (o := .tup [V.ty "tuple", V.ty "list"]) htp
  rcases ty_of EO s2.rel (rp.step s2) ey with ⟨ty, h1, h2⟩ | ⟨rfl, p, e, dx, rfl, g, z1, z2⟩
  case inr => exact .inr ⟨p, e, dx, tp, _, _, false, rfl, upd_same, .cons (.ty _) (.cons (.ty _) .nil), g, z1, z2, (by
      refine kitAny_cons (EO.kitEN e g "tuple" (by decide)) (fun _ => ?_) (fun h => by cases h)
      exact kitAny_cons (EO.kitEN e g "list" (by decide)) (fun _ => rfl) (fun h => by cases h)), k _ _ _ (s.trans s2) (rv (.bl _)) q⟩
  refine .inl ⟨v, tp, _, _, _, isTL y, rfl, upd_same, .cons (.ty _) (.cons (.ty _) .nil), ty, ?_, k _ _ _ (s.trans s2) (rv (.bl _)) q⟩
  cases y with
  | inl t' =>
    refine kitAny_cons (kit_ty (KW.kitT _ (h2 t' rfl))) (fun h0 => ?_) (fun h1 => by simp only [isTL, h1, Bool.true_or])
    simp only [isTL, h0, Bool.false_or]
    refine kitAny_cons (kit_ty (KW.kitL _ (h2 t' rfl))) (fun h0 => ?_) (fun h1 => h1)
    rw [h0]
    rfl
  | inr d =>
    refine kitAny_cons (EO.kitN "tuple" (by decide) d (h1 d rfl)) (fun _ => ?_) (fun h => by cases h)
    refine kitAny_cons (EO.kitN "list" (by decide) d (h1 d rfl)) (fun _ => rfl) (fun h => by cases h)
end
end PL
namespace PL
open PySem PySem.Spec PyProof.Rows L2 KW
section
variable {X : Cx} {Ω : Ev} {Wx : WX}
theorem ownL_nf {F : Fr} {σ : L2.St} {ρ : List R} {H : Hp} {i : Nat} {p : Addr} {xs : List M} (r : Rel Ω F σ H ρ) (e1 : ρ[i]? = some (.o true (.lst xs))) (h1 : σ[i]? = some (some (.ref p))) : ¬ OwF σ ρ p := fun ⟨j, l, z1, z2⟩ => by
  have := (r.inj _ _ _ _ _ _ _ e1 z1 h1 z2).1
  cases this
def tmApop (i j : Nat) (t : TM) : TMS := fun ρ C => ∃ xs ys, ownL ρ i = some xs ∧ ownL ρ j = some ys ∧ i ≠ j ∧ t ρ (fun r => ∃ (k : Nat) (y : M), r = .v (.int k) ∧ ys[k]? = some y ∧ ys.length ≤ 100000 ∧ xs.length < 100000 ∧ C.nx ((ρ.set j (.o true (.lst (ys.eraseIdx k)))).set i (.o true (.lst (xs ++ [y]))))) (fun er m => C.ex er m ρ)
theorem RpL.set {H : Hp} {v : V} {m : M} (h : Rp Ω H v m) : ∀ (k : Nat) {vs : List V} {ms : List M}, RpL Ω H vs ms → RpL Ω H (vs.set k v) (ms.set k m)
  | _, _, _, .nil => .nil
  | 0, _, _, .cons _ t => .cons h t
  | k + 1, _, _, .cons h' t => .cons h' (RpL.set h k t)
def tmSetIx (j : Nat) (ti te : TM) : TMS := fun ρ C => ∃ xs, ownL ρ j = some xs ∧ te ρ (fun a => ∃ m, a.m? = some m ∧ ti ρ (fun b => ∃ (z : Int) (k : Nat), b = .v (.int z) ∧ ixN xs.length z = some k ∧ C.nx (ρ.set j (.o true (.lst (xs.set k m))))) (fun er m => C.ex er m ρ)) (fun er m => C.ex er m ρ)
def tmExtend (i : Nat) (t : TM) : TMS := fun ρ C => ∃ xs, ownL ρ i = some xs ∧ t ρ (fun r => ∃ ys, r.m? = some (.lst ys) ∧ xs.length + ys.length ≤ 100000 ∧ C.nx (ρ.set i (.o true (.lst (xs ++ ys))))) (fun er m => C.ex er m ρ)
theorem pms_extend {o e : Expr} {i : Nat} {apos cpos pos : Pos} {t : TM} (hK : X.K = Ω.K) (ho : PE X o (tVar i)) (he : PE X e (lf Ω Wx t))
    (hbase : attributeBase o "extend" X.env (eval o X.env) = eval o X.env := by rfl)
    (hfew : ((backTo cpos (starEach [e] X.env)).all (fun x => !x.1) && (backToKw cpos (keywordEach [] X.env)).all (fun x => x.1.isSome) && decide ([e].length + ([] : List Keyword).length + (if ([] : List Keyword).isEmpty then 0 else 1) < 30)) = true := by rfl)
    (hline : (apos.endLine == cpos.line) = true := by rfl) (hs : starEach [e] X.env = (false, eval e X.env) :: starEach [] X.env := by rfl) (hplain : (backTo cpos (starEach [] X.env)).any (·.1) = false := by rfl)
    (hsw : swapsWith (.Call (.Attribute o "extend" apos) [e] [] cpos) none pos.line X.env = pure false := by rfl) :
    PS X (.Expr (.Call (.Attribute o "extend" apos) [e] [] cpos) pos) (lfS Ω Wx (tmExtend i t)) :=
  PS.imp (ps_expr (kk_bm Ω.K hK PySem.F.plainAttrs_list PySem.F.slot_list_extend PySem.F.type_list_extend mt_extend ho (pa_cons he pa_nil hs) hbase hfew hline hs hplain) hsw) fun D σ H hh => by
  obtain ⟨F, ρ, C, r, k, xs, e, t⟩ := hh
  have e1 := ownL_at e
  obtain ⟨p, h1, ⟨vs, h2, h3⟩, _⟩ := r.own i _ _ e1
  refine ⟨_, h1, .inl ⟨rfl, vs, SqL.of h2⟩, F, ρ, _, _, r, k.xl, fun v H1 a s rp q => ?_, t⟩
  obtain ⟨ys, em, hl, q⟩ := q
  have h2' := s.keep p _ (ownL_nf r e1 h1) h2
  cases (show Rp Ω _ v _ from RpR.m rp em fun p hp => r.notZ hp) with
  | lst hq ha =>
    refine ⟨p, _, vs, _, rfl, rfl, h2', hid_sub _ _ hq, by rw [h3.length, ha.length]; exact line_le hl, ?_⟩
    exact k.nx σ _ _ (s.rel.updO (c' := .lst (xs ++ ys)) e1 h1 ⟨_, upd_same, (h3.mono s.same).append ha⟩ (fun ⟨_, _, z⟩ => by cases z)) q
def tmTurned (t : TM) : TM := fun ρ Q x => t ρ (fun r => ∃ xs, r.lst? = some xs ∧ Q (.f (.lst xs.reverse))) x
theorem RpL.rev {H : Hp} : ∀ {vs : List V} {ms : List M}, RpL Ω H vs ms → RpL Ω H vs.reverse ms.reverse
  | _, _, .nil => .nil
  | _, _, .cons h t => by
    rw [List.reverse_cons, List.reverse_cons]
    exact (RpL.rev t).append (.cons h .nil)
theorem Rel.frz {F : Fr} {σ : L2.St} {ρ : List R} {H : Hp} {i : Nat} {xs : List M} (r : Rel Ω F σ H ρ) (e1 : ρ[i]? = some (.o true (.lst xs))) : Rel Ω F σ H (ρ.set i (.v (.lst xs))) := by
  obtain ⟨p, h1, ⟨vs, h2, h3⟩, _⟩ := r.own i _ _ e1
  have hi : i < ρ.length := (List.getElem?_eq_some_iff.mp e1).1
  have sub : ∀ {b}, Own σ (ρ.set i (.v (.lst xs))) b → Own σ ρ b := fun {b} ⟨j, l, c, z1, z2⟩ => by
    rcases set_get z1 with ⟨_, z⟩ | ⟨_, z1⟩
    · cases z
    · exact ⟨j, l, c, z1, z2⟩
  have same : Same (Hd F σ ρ H) (Hd F σ (ρ.set i (.v (.lst xs))) H) := hidP_same fun b o n e => ⟨fun z => n (z.imp sub id), e⟩
  have np : ¬ Own σ (ρ.set i (.v (.lst xs))) p := fun ⟨j, l, c, z1, z2⟩ => by
    rcases set_get z1 with ⟨_, z⟩ | ⟨n, z1⟩
    · cases z
    · exact n ((r.inj _ _ _ _ _ _ _ e1 z1 h1 z2).2 rfl)
  refine ⟨by rw [List.length_set, r.len], r.grow, r.zin, fun b z o => r.zno b z (sub o), fun j m e => ?_, fun j l c e => ?_, fun j k l c l' d q z1 z2 g1 g2 => ?_, fun q c hc => ?_, pinM same r.pin, fun x hx => ?_, fun j a d er m e => ?_⟩
  · rcases set_get e with ⟨z0, z⟩ | ⟨n, e'⟩
    · cases z
      subst z0
      exact ⟨_, h1, .lst (hidP_some.mpr ⟨fun z => z.elim np fun z => r.zno p z ⟨i, _, _, e1, h1⟩, h2⟩) (h3.mono same)⟩
    · obtain ⟨v, g1, g2⟩ := r.val j m e'
      exact ⟨v, g1, g2.mono same⟩
  · rcases set_get e with ⟨_, z⟩ | ⟨n, e'⟩
    · cases z
    · obtain ⟨q, g1, g2, g3⟩ := r.own j l c e'
      exact ⟨q, g1, g2.mono same fun _ z => z, g3⟩
  · rcases set_get z1 with ⟨_, z⟩ | ⟨_, z1⟩
    · cases z
    rcases set_get z2 with ⟨_, z⟩ | ⟨_, z2⟩
    · cases z
    exact r.inj j k l c l' d q z1 z2 g1 g2
  · obtain ⟨j, z1, z2⟩ := r.par q c hc
    have n : i ≠ j := fun z => by
      subst z
      rw [e1] at z1
      cases z1
    exact ⟨j, by rw [set_ne n]; exact z1, z2⟩
  · obtain ⟨c, fs, z1, z2⟩ := r.sf x hx
    have n : i ≠ 0 := fun z => by
      subst z
      rw [e1] at z1
      cases z1
    exact ⟨c, fs, by rw [set_ne n]; exact z1, z2⟩
  · rcases set_get e with ⟨_, z⟩ | ⟨n, e'⟩
    · cases z
    · obtain ⟨g1, g2⟩ := r.exc j a d er m e'
      exact ⟨g1, g2.mono same⟩
def tmFrz (i : Nat) (t : TMS) : TMS := fun ρ C => t (frz i ρ) C
theorem pms_frz (i : Nat) {st : List Stmt} {t : TMS} (h : PSs X st (lfS Ω Wx t)) : PSs X st (lfS Ω Wx (tmFrz i t)) := PSs.imp h fun D σ H hh => by
  obtain ⟨F, ρ, C, r, k, t⟩ := hh
  refine ⟨F, frz i ρ, C, ?_, k, t⟩
  unfold frz
  split
  · rename_i e
    exact r.frz e
  · exact r
def tmRetN : TMS := fun ρ C => C.rt ρ (.v .non)
def tmNevE : TM := fun _ _ _ => False
theorem pm_never {e : Expr} : PE X e (lf Ω Wx tmNevE) := PE.imp pe_never fun σ H QQ hh => by
  obtain ⟨F, ρ, Q, x, r, xl, k, t⟩ := hh
  exact t.elim
end
end PL
namespace PL
open PySem PySem.Spec PyProof.Rows L2 KW
theorem cut_to (l : List Nat) (r : Nat) : cutT l none (some (r : Int)) = l.take r := by
  unfold cutT
  rw [SX.slice_to (by omega), Int.toNat_natCast]
theorem cut_from (l : List Nat) (r : Nat) : cutT l (some (r : Int)) none = l.drop r := by
  unfold cutT
  rw [SX.slice_from (by omega), Int.toNat_natCast]
theorem cut_to1 (l : List Nat) (r : Nat) : cutT l none (some ((r : Int) + 1)) = l.take (r + 1) := by
  rw [show ((r : Int) + 1) = ((r + 1 : Nat) : Int) by omega, cut_to]
theorem cut_from1 (l : List Nat) (r : Nat) : cutT l (some ((r : Int) + 1)) none = l.drop (r + 1) := by
  rw [show ((r : Int) + 1) = ((r + 1 : Nat) : Int) by omega, cut_from]
theorem cOk_ii {cl : M → Bool} {d : Nat} (hd : 1 ≤ d) (a b : Int) : cOk cl d (.int a) (.int b) = true := by
  obtain ⟨d, rfl⟩ : ∃ e, d = e + 1 := ⟨d - 1, by omega⟩
  rfl
theorem cOk_ss {cl : M → Bool} {d : Nat} (hd : 1 ≤ d) (a b : List Nat) : cOk cl d (.str a) (.str b) = true := by
  obtain ⟨d, rfl⟩ : ∃ e, d = e + 1 := ⟨d - 1, by omega⟩
  rfl
theorem cOk_bb {cl : M → Bool} {d : Nat} (hd : 1 ≤ d) (a b : Bool) : cOk cl d (.bl a) (.bl b) = true := by
  obtain ⟨d, rfl⟩ : ∃ e, d = e + 1 := ⟨d - 1, by omega⟩
  rfl
theorem eqM_ii (a b : Int) : eqM (.int a) (.int b) = decide (a = b) := by simp [eqM]; rfl
theorem eqM_ss (a b : List Nat) : eqM (.str a) (.str b) = decide (a = b) := by simp [eqM]
theorem eqM_bb (a b : Bool) : eqM (.bl a) (.bl b) = (a == b) := by simp [eqM]
theorem nOk_ii (a b : Int) : nOk (.int a) (.int b) = true := rfl
theorem nOk_ss (a b : List Nat) : nOk (.str a) (.str b) = true := rfl
theorem nOk_bb (a b : Bool) : nOk (.bl a) (.bl b) = true := rfl
/-- a reading for all cases of a fact -/
theorem ite3 {c : Prop} [Decidable c] {p q : Prop} (h1 : c → p) (h2 : ¬ c → q) : if c then p else q := by
  split
  · exact h1 ‹_›
  · exact h2 ‹_›
/-- an attribute that is stored first -/
def fldOk (f : Str) (c : Nat) (ns : List Str) : Bool := decide (f ∈ an c) && !decide (f ∈ ns) && decide (ns.length < 100)
theorem fldS_0 {f : Str} {c : Nat} {fs : List (Str × M)} {t : TM} {ρ : List R} {C : CM} : tmFldS 0 f t (.o true (.ins c fs) :: ρ) C ↔ (fldOk f c (fs.map (·.1)) = true ∧ t (.o true (.ins c fs) :: ρ) (fun r => ∃ m, r.m? = some m ∧ C.nx (.o true (.ins c (fs ++ [(f, m)])) :: ρ)) (fun er m => C.ex er m (.o true (.ins c fs) :: ρ))) := by
  unfold tmFldS
  constructor
  · rintro ⟨c', fs', e, h1, h2, h3, h4⟩
    cases e
    refine ⟨?_, h4⟩
    unfold fldOk
    rw [decide_eq_true h1, decide_eq_false h2, List.length_map, decide_eq_true h3]
    rfl
  · rintro ⟨h, h4⟩
    unfold fldOk at h
    simp only [Bool.and_eq_true, decide_eq_true_eq, Bool.not_eq_true', decide_eq_false_iff_not, List.length_map] at h
    exact ⟨c, fs, rfl, h.1.1, h.1.2, h.2, h4⟩
theorem at0_name (x0 x1 : M) : atf "name" 0 [x0, x1] = some x0 := rfl
theorem at0_ways (x0 x1 : M) : atf "ways" 0 [x0, x1] = some x1 := rfl
theorem at1_kind (x0 x1 x2 x3 x4 x5 x6 x7 : M) : atf "kind" 1 [x0, x1, x2, x3, x4, x5, x6, x7] = some x0 := rfl
theorem at1_word (x0 x1 x2 x3 x4 x5 x6 x7 : M) : atf "word" 1 [x0, x1, x2, x3, x4, x5, x6, x7] = some x1 := rfl
theorem at1_step (x0 x1 x2 x3 x4 x5 x6 x7 : M) : atf "step" 1 [x0, x1, x2, x3, x4, x5, x6, x7] = some x2 := rfl
theorem at1_parts (x0 x1 x2 x3 x4 x5 x6 x7 : M) : atf "parts" 1 [x0, x1, x2, x3, x4, x5, x6, x7] = some x3 := rfl
theorem at1_names (x0 x1 x2 x3 x4 x5 x6 x7 : M) : atf "names" 1 [x0, x1, x2, x3, x4, x5, x6, x7] = some x4 := rfl
theorem at1_steps (x0 x1 x2 x3 x4 x5 x6 x7 : M) : atf "steps" 1 [x0, x1, x2, x3, x4, x5, x6, x7] = some x5 := rfl
theorem at1_marks (x0 x1 x2 x3 x4 x5 x6 x7 : M) : atf "marks" 1 [x0, x1, x2, x3, x4, x5, x6, x7] = some x6 := rfl
theorem at1_text (x0 x1 x2 x3 x4 x5 x6 x7 : M) : atf "text" 1 [x0, x1, x2, x3, x4, x5, x6, x7] = some x7 := rfl
theorem at2_word (x0 x1 : M) : atf "word" 2 [x0, x1] = some x0 := rfl
theorem at2_steps (x0 x1 : M) : atf "steps" 2 [x0, x1] = some x1 := rfl
theorem at3_steps (x0 : M) : atf "steps" 3 [x0] = some x0 := rfl
theorem at4_entries (x0 x1 : M) : atf "entries" 4 [x0, x1] = some x0 := rfl
theorem at4_steps (x0 x1 : M) : atf "steps" 4 [x0, x1] = some x1 := rfl
theorem at5_name (x0 x1 x2 x3 x4 x5 : M) : atf "name" 5 [x0, x1, x2, x3, x4, x5] = some x0 := rfl
theorem at5_expr (x0 x1 x2 x3 x4 x5 : M) : atf "expr" 5 [x0, x1, x2, x3, x4, x5] = some x1 := rfl
theorem at5_key (x0 x1 x2 x3 x4 x5 : M) : atf "key" 5 [x0, x1, x2, x3, x4, x5] = some x2 := rfl
theorem at5_names (x0 x1 x2 x3 x4 x5 : M) : atf "names" 5 [x0, x1, x2, x3, x4, x5] = some x3 := rfl
theorem at5_steps (x0 x1 x2 x3 x4 x5 : M) : atf "steps" 5 [x0, x1, x2, x3, x4, x5] = some x4 := rfl
theorem at5_told (x0 x1 x2 x3 x4 x5 : M) : atf "told" 5 [x0, x1, x2, x3, x4, x5] = some x5 := rfl
theorem at6_name (x0 x1 x2 x3 x4 x5 : M) : atf "name" 6 [x0, x1, x2, x3, x4, x5] = some x0 := rfl
theorem at6_expr (x0 x1 x2 x3 x4 x5 : M) : atf "expr" 6 [x0, x1, x2, x3, x4, x5] = some x1 := rfl
theorem at6_key (x0 x1 x2 x3 x4 x5 : M) : atf "key" 6 [x0, x1, x2, x3, x4, x5] = some x2 := rfl
theorem at6_names (x0 x1 x2 x3 x4 x5 : M) : atf "names" 6 [x0, x1, x2, x3, x4, x5] = some x3 := rfl
theorem at6_steps (x0 x1 x2 x3 x4 x5 : M) : atf "steps" 6 [x0, x1, x2, x3, x4, x5] = some x4 := rfl
theorem at6_told (x0 x1 x2 x3 x4 x5 : M) : atf "told" 6 [x0, x1, x2, x3, x4, x5] = some x5 := rfl
theorem at7_name (x0 x1 x2 x3 x4 x5 : M) : atf "name" 7 [x0, x1, x2, x3, x4, x5] = some x0 := rfl
theorem at7_expr (x0 x1 x2 x3 x4 x5 : M) : atf "expr" 7 [x0, x1, x2, x3, x4, x5] = some x1 := rfl
theorem at7_key (x0 x1 x2 x3 x4 x5 : M) : atf "key" 7 [x0, x1, x2, x3, x4, x5] = some x2 := rfl
theorem at7_names (x0 x1 x2 x3 x4 x5 : M) : atf "names" 7 [x0, x1, x2, x3, x4, x5] = some x3 := rfl
theorem at7_steps (x0 x1 x2 x3 x4 x5 : M) : atf "steps" 7 [x0, x1, x2, x3, x4, x5] = some x4 := rfl
theorem at7_told (x0 x1 x2 x3 x4 x5 : M) : atf "told" 7 [x0, x1, x2, x3, x4, x5] = some x5 := rfl
theorem at8_word (x0 x1 x2 x3 x4 : M) : atf "word" 8 [x0, x1, x2, x3, x4] = some x0 := rfl
theorem at8_key (x0 x1 x2 x3 x4 : M) : atf "key" 8 [x0, x1, x2, x3, x4] = some x1 := rfl
theorem at8_names (x0 x1 x2 x3 x4 : M) : atf "names" 8 [x0, x1, x2, x3, x4] = some x2 := rfl
theorem at8_steps (x0 x1 x2 x3 x4 : M) : atf "steps" 8 [x0, x1, x2, x3, x4] = some x3 := rfl
theorem at8_told (x0 x1 x2 x3 x4 : M) : atf "told" 8 [x0, x1, x2, x3, x4] = some x4 := rfl
theorem at9_left (x0 x1 x2 x3 x4 x5 x6 x7 : M) : atf "left" 9 [x0, x1, x2, x3, x4, x5, x6, x7] = some x0 := rfl
theorem at9_right (x0 x1 x2 x3 x4 x5 x6 x7 : M) : atf "right" 9 [x0, x1, x2, x3, x4, x5, x6, x7] = some x1 := rfl
theorem at9_rows (x0 x1 x2 x3 x4 x5 x6 x7 : M) : atf "rows" 9 [x0, x1, x2, x3, x4, x5, x6, x7] = some x2 := rfl
theorem at9_others (x0 x1 x2 x3 x4 x5 x6 x7 : M) : atf "others" 9 [x0, x1, x2, x3, x4, x5, x6, x7] = some x3 := rfl
theorem at9_key (x0 x1 x2 x3 x4 x5 x6 x7 : M) : atf "key" 9 [x0, x1, x2, x3, x4, x5, x6, x7] = some x4 := rfl
theorem at9_names (x0 x1 x2 x3 x4 x5 x6 x7 : M) : atf "names" 9 [x0, x1, x2, x3, x4, x5, x6, x7] = some x5 := rfl
theorem at9_steps (x0 x1 x2 x3 x4 x5 x6 x7 : M) : atf "steps" 9 [x0, x1, x2, x3, x4, x5, x6, x7] = some x6 := rfl
theorem at9_told (x0 x1 x2 x3 x4 x5 x6 x7 : M) : atf "told" 9 [x0, x1, x2, x3, x4, x5, x6, x7] = some x7 := rfl
theorem at10_rows (x0 x1 x2 x3 x4 : M) : atf "rows" 10 [x0, x1, x2, x3, x4] = some x0 := rfl
theorem at10_key (x0 x1 x2 x3 x4 : M) : atf "key" 10 [x0, x1, x2, x3, x4] = some x1 := rfl
theorem at10_names (x0 x1 x2 x3 x4 : M) : atf "names" 10 [x0, x1, x2, x3, x4] = some x2 := rfl
theorem at10_steps (x0 x1 x2 x3 x4 : M) : atf "steps" 10 [x0, x1, x2, x3, x4] = some x3 := rfl
theorem at10_told (x0 x1 x2 x3 x4 : M) : atf "told" 10 [x0, x1, x2, x3, x4] = some x4 := rfl
theorem at11_rows (x0 x1 x2 x3 x4 : M) : atf "rows" 11 [x0, x1, x2, x3, x4] = some x0 := rfl
theorem at11_names (x0 x1 x2 x3 x4 : M) : atf "names" 11 [x0, x1, x2, x3, x4] = some x1 := rfl
theorem at11_steps (x0 x1 x2 x3 x4 : M) : atf "steps" 11 [x0, x1, x2, x3, x4] = some x2 := rfl
theorem at11_words (x0 x1 x2 x3 x4 : M) : atf "words" 11 [x0, x1, x2, x3, x4] = some x3 := rfl
theorem at11_weight (x0 x1 x2 x3 x4 : M) : atf "weight" 11 [x0, x1, x2, x3, x4] = some x4 := rfl
theorem inM_cons (x y : M) (ys : List M) : inM x (y :: ys) = (eqM y x || inM x ys) := rfl
theorem inM_nil (x : M) : inM x [] = false := rfl
theorem at_0 {α : Type} (x : α) (xs : List α) : L2.atI (x :: xs) 0 = some x := at_ofN rfl rfl
theorem at_1 {α : Type} (x y : α) (xs : List α) : L2.atI (x :: y :: xs) 1 = some y := at_ofN rfl rfl
theorem at_2 {α : Type} (x y z : α) (xs : List α) : L2.atI (x :: y :: z :: xs) 2 = some z := at_ofN rfl rfl
/-- a meaning's type -/
def tyOf : M → String ⊕ Nat
  | .non => .inl "NoneType"
  | .bl _ => .inl "bool"
  | .int _ => .inl "int"
  | .str _ => .inl "str"
  | .lst _ => .inl "list"
  | .tup _ => .inl "tuple"
  | .obj c _ => .inr c
  | .dct _ _ => .inl "dict"
  | .err _ _ => .inl "error"
theorem ty_v (m : M) (p : String ⊕ Nat → Prop) : (∃ y, (R.v m).ty? = some y ∧ p y) ↔ p (tyOf m) := by
  have e : (R.v m).ty? = some (tyOf m) := by cases m <;> rfl
  rw [e]
  exact ⟨fun ⟨y, h, q⟩ => by cases h; exact q, fun q => ⟨_, rfl, q⟩⟩
theorem ty_o (l : Bool) (xs : List M) (p : String ⊕ Nat → Prop) : (∃ y, (R.o l (.lst xs)).ty? = some y ∧ p y) ↔ p (tyOf (.lst xs)) := ⟨fun ⟨y, h, q⟩ => by cases h; exact q, fun q => ⟨_, rfl, q⟩⟩
theorem ty_f (xs : List M) (p : String ⊕ Nat → Prop) : (∃ y, (R.f (.lst xs)).ty? = some y ∧ p y) ↔ p (tyOf (.lst xs)) := ⟨fun ⟨y, h, q⟩ => by cases h; exact q, fun q => ⟨_, rfl, q⟩⟩
def isCM (c : Nat) : M → Bool
  | .obj e _ => decide (e = c)
  | _ => false
def isStrM : M → Bool
  | .str _ => true
  | _ => false
def isBoolM : M → Bool
  | .bl _ => true
  | _ => false
def isIntM : M → Bool
  | .bl _ => true
  | .int _ => true
  | _ => false
def isLstM : M → Bool
  | .lst _ => true
  | _ => false
def isTupM : M → Bool
  | .tup _ => true
  | _ => false
theorem isC_ty (c : Nat) (m : M) : isC c (tyOf m) = isCM c m := by cases m <;> rfl
theorem isB_t_str : (isB "str" (.inl "NoneType") = false ∧ isB "str" (.inl "bool") = false ∧ isB "str" (.inl "int") = false ∧ isB "str" (.inl "str") = true ∧ isB "str" (.inl "list") = false ∧ isB "str" (.inl "tuple") = false) := by decide +kernel
theorem isB_t_bool : (isB "bool" (.inl "NoneType") = false ∧ isB "bool" (.inl "bool") = true ∧ isB "bool" (.inl "int") = false ∧ isB "bool" (.inl "str") = false ∧ isB "bool" (.inl "list") = false ∧ isB "bool" (.inl "tuple") = false) := by decide +kernel
theorem isB_t_int : (isB "int" (.inl "NoneType") = false ∧ isB "int" (.inl "bool") = true ∧ isB "int" (.inl "int") = true ∧ isB "int" (.inl "str") = false ∧ isB "int" (.inl "list") = false ∧ isB "int" (.inl "tuple") = false) := by decide +kernel
theorem isB_t_list : (isB "list" (.inl "NoneType") = false ∧ isB "list" (.inl "bool") = false ∧ isB "list" (.inl "int") = false ∧ isB "list" (.inl "str") = false ∧ isB "list" (.inl "list") = true ∧ isB "list" (.inl "tuple") = false) := by decide +kernel
theorem isB_t_tuple : (isB "tuple" (.inl "NoneType") = false ∧ isB "tuple" (.inl "bool") = false ∧ isB "tuple" (.inl "int") = false ∧ isB "tuple" (.inl "str") = false ∧ isB "tuple" (.inl "list") = false ∧ isB "tuple" (.inl "tuple") = true) := by decide +kernel
theorem isTL_t : (isTL (.inl "NoneType") = false ∧ isTL (.inl "bool") = false ∧ isTL (.inl "int") = false ∧ isTL (.inl "str") = false ∧ isTL (.inl "list") = true ∧ isTL (.inl "tuple") = true) := by decide +kernel
theorem isB_str (m : M) : isB "str" (tyOf m) = isStrM m := by
  obtain ⟨h1, h2, h3, h4, h5, h6⟩ := isB_t_str
  cases m <;> first | exact h1 | exact h2 | exact h3 | exact h4 | exact h5 | exact h6 | rfl
theorem isB_bool (m : M) : isB "bool" (tyOf m) = isBoolM m := by
  obtain ⟨h1, h2, h3, h4, h5, h6⟩ := isB_t_bool
  cases m <;> first | exact h1 | exact h2 | exact h3 | exact h4 | exact h5 | exact h6 | rfl
theorem isB_int (m : M) : isB "int" (tyOf m) = isIntM m := by
  obtain ⟨h1, h2, h3, h4, h5, h6⟩ := isB_t_int
  cases m <;> first | exact h1 | exact h2 | exact h3 | exact h4 | exact h5 | exact h6 | rfl
theorem isB_list (m : M) : isB "list" (tyOf m) = isLstM m := by
  obtain ⟨h1, h2, h3, h4, h5, h6⟩ := isB_t_list
  cases m <;> first | exact h1 | exact h2 | exact h3 | exact h4 | exact h5 | exact h6 | rfl
theorem isB_tuple (m : M) : isB "tuple" (tyOf m) = isTupM m := by
  obtain ⟨h1, h2, h3, h4, h5, h6⟩ := isB_t_tuple
  cases m <;> first | exact h1 | exact h2 | exact h3 | exact h4 | exact h5 | exact h6 | rfl
theorem isTL_ty (m : M) : isTL (tyOf m) = (isTupM m || isLstM m) := by
  obtain ⟨h1, h2, h3, h4, h5, h6⟩ := isTL_t
  cases m <;> first | exact h1 | exact h2 | exact h3 | exact h4 | exact h5 | exact h6 | rfl
theorem isM_tab : (isStrM .non = false) ∧ (∀ (b : Bool), isStrM (.bl b) = false) ∧ (∀ (i : Int), isStrM (.int i) = false) ∧ (∀ (l : List Nat), isStrM (.str l) = true) ∧ (∀ (xs : List M), isStrM (.lst xs) = false) ∧ (∀ (xs : List M), isStrM (.tup xs) = false) ∧ (∀ (c : Nat) (fs : List M), isStrM (.obj c fs) = false) ∧ (isBoolM .non = false) ∧ (∀ (b : Bool), isBoolM (.bl b) = true) ∧ (∀ (i : Int), isBoolM (.int i) = false) ∧ (∀ (l : List Nat), isBoolM (.str l) = false) ∧ (∀ (xs : List M), isBoolM (.lst xs) = false) ∧ (∀ (xs : List M), isBoolM (.tup xs) = false) ∧ (∀ (c : Nat) (fs : List M), isBoolM (.obj c fs) = false) ∧ (isIntM .non = false) ∧ (∀ (b : Bool), isIntM (.bl b) = true) ∧ (∀ (i : Int), isIntM (.int i) = true) ∧ (∀ (l : List Nat), isIntM (.str l) = false) ∧ (∀ (xs : List M), isIntM (.lst xs) = false) ∧ (∀ (xs : List M), isIntM (.tup xs) = false) ∧ (∀ (c : Nat) (fs : List M), isIntM (.obj c fs) = false) ∧ (isLstM .non = false) ∧ (∀ (b : Bool), isLstM (.bl b) = false) ∧ (∀ (i : Int), isLstM (.int i) = false) ∧ (∀ (l : List Nat), isLstM (.str l) = false) ∧ (∀ (xs : List M), isLstM (.lst xs) = true) ∧ (∀ (xs : List M), isLstM (.tup xs) = false) ∧ (∀ (c : Nat) (fs : List M), isLstM (.obj c fs) = false) ∧ (isTupM .non = false) ∧ (∀ (b : Bool), isTupM (.bl b) = false) ∧ (∀ (i : Int), isTupM (.int i) = false) ∧ (∀ (l : List Nat), isTupM (.str l) = false) ∧ (∀ (xs : List M), isTupM (.lst xs) = false) ∧ (∀ (xs : List M), isTupM (.tup xs) = true) ∧ (∀ (c : Nat) (fs : List M), isTupM (.obj c fs) = false) ∧ (∀ (e : Nat), isCM e .non = false) ∧ (∀ (e : Nat) (b : Bool), isCM e (.bl b) = false) ∧ (∀ (e : Nat) (i : Int), isCM e (.int i) = false) ∧ (∀ (e : Nat) (l : List Nat), isCM e (.str l) = false) ∧ (∀ (e : Nat) (xs : List M), isCM e (.lst xs) = false) ∧ (∀ (e : Nat) (xs : List M), isCM e (.tup xs) = false) ∧ (∀ (e : Nat) (c : Nat) (fs : List M), isCM e (.obj c fs) = decide (c = e)) := by
  refine ⟨?_, ?_, ?_, ?_, ?_, ?_, ?_, ?_, ?_, ?_, ?_, ?_, ?_, ?_, ?_, ?_, ?_, ?_, ?_, ?_, ?_, ?_, ?_, ?_, ?_, ?_, ?_, ?_, ?_, ?_, ?_, ?_, ?_, ?_, ?_, ?_, ?_, ?_, ?_, ?_, ?_, ?_⟩ <;> intros <;> rfl
end PL
namespace PL
open PySem PySem.Spec PyProof.Rows L2 KW
/-- a class of the module whose __init__ has a star parameter -/
structure Ds (K : PySem.W.Frag) (mg : Str → Option Value) (C : Addr) (x qual : Str) (st : Stmt) (ps : List Str) (pv : Str) : Prop where
  ex : ∃ f fd, Mk K C f ∧ mg x = some (.ref C) ∧ Fun K "__init__" qual st f fd ∧ ∀ us rest : List Value, us.length = ps.length → bindArgs fd ⟨us ++ rest, []⟩ = (newTuple rest >>= fun t => pure (ps.zip us ++ [(pv, t)]))
structure MakS (P : Program) (w : World) (Ω : Ev) (mg : Str → Option Value) (base : Heap) (k : Nat) (x : Str) (c : Nat) (f : FI) : Prop where
  ex : ∃ fa, Mk Ω.K (Ω.cs c) fa ∧ FnR P w Ω.K mg base (L2N.CX P w) k fa (spI Ω c f) ∧ mg x = some (.ref (Ω.cs c))
  has : Ω.has c
theorem MakS.mono {P : Program} {w : World} {Ω : Ev} {mg : Str → Option Value} {base : Heap} {j k : Nat} {x : Str} {c : Nat} {f : FI} (m : MakS P w Ω mg base j x c f) (h : j ≤ k) : MakS P w Ω mg base k x c f := by
  obtain ⟨fa, M, F, r⟩ := m.ex
  exact ⟨⟨fa, M, F.mono h, r⟩, m.has⟩
theorem cxUpN {P : Program} {w : World} : StX.CXUp (L2N.CX P w) := by
  rintro outer s H s2 H2 E e s' un kp ho ⟨a, B, H', cls, d, ea, fl, hok, ub, na, os, ag, he⟩
  refine ⟨a, B, H', cls, d, ea, fl, hok, ⟨fun b o q n hb => ub.keep b o (kp b o q) (un.free b o q n (by simp)) hb, fun b o q hb => ub.slot b o (kp b o q) hb, fun b o q n => ub.free b o (kp b o q) (un.free b o q n (by simp)),
    fun b o q hb => ub.there b o (kp b o q) hb, fun b xs q => ub.tups b xs (un.tups b xs q), fun b o xs q => ub.frzs b o xs (un.frzs b o xs q), fun b ps q => ?_⟩, na, os.trans ho, ag, he⟩
  obtain ⟨m1, e1⟩ := un.tbls b ps q
  obtain ⟨m2, e2⟩ := ub.tbls b _ e1
  exact ⟨m1 ++ m2, by rw [e2, Array.append_assoc]⟩
/-- no slot of these holds a thing alone -/
def NoO (ρ : List R) : Prop := ∀ (i : Nat) (l : Bool) (c : OC), ρ[i]? ≠ some (.o l c)
section
variable {Ω : Ev} {F : Fr} {σ0 σ1 σ2 : L2.St} {ρ0 ρ1 ρ2 : List R} {H : Hp}
theorem app_lt {α : Type} {a b : List α} {i : Nat} (h : i < a.length) : (a ++ b)[i]? = a[i]? := List.getElem?_append_left h
theorem own_app (h0 : ρ0.length = σ0.length) (n1 : NoO ρ1) (n2 : NoO ρ2) {i : Nat} {l : Bool} {c : OC} {v : Option V} (e1 : (ρ0 ++ ρ1)[i]? = some (.o l c)) (e2 : (σ0 ++ σ1)[i]? = some v) : (ρ0 ++ ρ2)[i]? = some (.o l c) ∧ (σ0 ++ σ2)[i]? = some v := by
  by_cases h : i < ρ0.length
  · rw [app_lt h] at e1 ⊢
    rw [app_lt (by omega)] at e2 ⊢
    exact ⟨e1, e2⟩
  · rw [List.getElem?_append_right (by omega)] at e1
    exact absurd e1 (n1 _ l c)
/-- other values in the last slots -/
theorem Rel.tail (r : Rel Ω F (σ0 ++ σ1) H (ρ0 ++ ρ1)) (h0 : ρ0.length = σ0.length) (hp : 0 < ρ0.length) (n1 : NoO ρ1) (n2 : NoO ρ2) (nx2 : ∀ (i : Nat) (a d : Addr) (er : Nat) (m : M), ρ2[i]? ≠ some (.x a d er m)) (l2 : ρ2.length = σ2.length)
    (hv : ∀ (i : Nat) (m : M), ρ2[i]? = some (.v m) → ∃ v, σ2[i]? = some (some v) ∧ Rp Ω (Hd F (σ0 ++ σ1) (ρ0 ++ ρ1) H) v m) : Rel Ω F (σ0 ++ σ2) H (ρ0 ++ ρ2) := by
  have o1 : ∀ {b}, Own (σ0 ++ σ1) (ρ0 ++ ρ1) b → Own (σ0 ++ σ2) (ρ0 ++ ρ2) b := fun ⟨i, l, c, e1, e2⟩ => ⟨i, l, c, own_app h0 n1 n2 e1 e2⟩
  have o2 : ∀ {b}, Own (σ0 ++ σ2) (ρ0 ++ ρ2) b → Own (σ0 ++ σ1) (ρ0 ++ ρ1) b := fun ⟨i, l, c, e1, e2⟩ => ⟨i, l, c, own_app h0 n2 n1 e1 e2⟩
  have eH : Hd F (σ0 ++ σ2) (ρ0 ++ ρ2) H = Hd F (σ0 ++ σ1) (ρ0 ++ ρ1) H := by
    unfold Hd
    congr 1
    funext b
    exact propext ⟨fun z => z.imp o2 id, fun z => z.imp o1 id⟩
  have sl : ∀ {i : Nat} {l : Bool} {c : OC}, (ρ0 ++ ρ2)[i]? = some (.o l c) → i < ρ0.length := fun {i l c} e => by
    by_cases h : i < ρ0.length
    · exact h
    · rw [List.getElem?_append_right (by omega)] at e
      exact absurd e (n2 _ l c)
  have bk : ∀ {i : Nat} {l : Bool} {c : OC}, (ρ0 ++ ρ2)[i]? = some (.o l c) → (ρ0 ++ ρ1)[i]? = some (.o l c) ∧ (σ0 ++ σ1)[i]? = (σ0 ++ σ2)[i]? := fun {i l c} e => by
    have h := sl e
    rw [app_lt h] at e ⊢
    rw [app_lt (by omega), app_lt (by omega)]
    exact ⟨e, rfl⟩
  refine ⟨by simp [l2, h0], r.grow, r.zin, fun b z o => r.zno b z (o2 o), fun i m e => ?_, fun i l c e => ?_, fun i j l c l' d p e1 e2 g1 g2 => ?_, fun p c h => ?_, by rw [eH]; exact r.pin, fun x hx => ?_, fun i a d er m e => ?_⟩
  · rw [eH]
    by_cases h : i < ρ0.length
    · rw [app_lt h] at e
      obtain ⟨v, g1, g2⟩ := r.val i m (by rw [app_lt h]; exact e)
      rw [app_lt (by omega)] at g1
      exact ⟨v, by rw [app_lt (by omega)]; exact g1, g2⟩
    · rw [List.getElem?_append_right (by omega)] at e
      obtain ⟨v, g1, g2⟩ := hv _ m e
      exact ⟨v, by rw [List.getElem?_append_right (by omega), ← h0]; exact g1, g2⟩
  · rw [eH]
    obtain ⟨e', es⟩ := bk e
    obtain ⟨p, g1, g2⟩ := r.own i l c e'
    exact ⟨p, by rw [← es]; exact g1, g2⟩
  · obtain ⟨e1', s1⟩ := bk e1
    obtain ⟨e2', s2⟩ := bk e2
    exact r.inj i j l c l' d p e1' e2' (by rw [s1]; exact g1) (by rw [s2]; exact g2)
  · obtain ⟨i, e1, e2⟩ := r.par p c h
    exact ⟨i, own_app h0 n1 n2 e1 e2⟩
  · obtain ⟨c, fs, e1, e2⟩ := r.sf x hx
    exact ⟨c, fs, own_app h0 n1 n2 e1 e2⟩
  · rw [eH]
    by_cases h : i < ρ0.length
    · rw [app_lt h] at e
      obtain ⟨g1, g2⟩ := r.exc i a d er m (by rw [app_lt h]; exact e)
      rw [app_lt (by omega)] at g1
      exact ⟨by rw [app_lt (by omega)]; exact g1, g2⟩
    · rw [List.getElem?_append_right (by omega)] at e
      exact absurd e (nx2 _ _ _ _ _)
theorem RpL.ofSlots {Hr : Hp} : ∀ {vs : List V} {ms : List M}, vs.length = ms.length → (∀ (i : Nat) (m : M), ms[i]? = some m → ∃ v, vs[i]? = some v ∧ Rp Ω Hr v m) → RpL Ω Hr vs ms
  | [], [], _, _ => .nil
  | _ :: _, [], h, _ => by simp at h
  | [], _ :: _, h, _ => by simp at h
  | v :: vs, m :: ms, h, a => by
    obtain ⟨v', e, hv⟩ := a 0 m rfl
    cases e
    exact .cons hv (RpL.ofSlots (by simpa using h) fun i m' e => a (i + 1) m' (by simpa using e))
end
section
variable {P : Program} {w : World} {Ω : Ev} {mg : Str → Option Value} {base : Heap}
theorem makS {x qual pv : Str} {st : Stmt} {N ps : List Str} {k : Nat} {c : Nat} {f : FI} {t : TMS} (D : Ds Ω.K mg (Ω.cs c) x qual st ps pv) (S : FnScope N (ps ++ [pv]) (defScope st)) (hc : Ω.has c)
    (body : ∀ (fa : Addr) (cdv : Value) (A : Around) (outer : List Env) (s : Shared) (H : Hp) (E : XK), Room k (A.deeper (envOfC qual (defScope st) s.heap.objs.size fa cdv)) → PSs (cxOf (L2N.CX P w) P w Ω.K mg base N qual (defScope st) fa cdv A outer s H E) (defBody st) (lfS Ω (fun cls d _ H => E cls d H) t))
    (h : ∀ rs Q x, f rs Q x → ∃ rs0 ms, rs = rs0 ++ ms.map R.v ∧ rs0.length + 1 = ps.length ∧ ms.length ≤ 100000 ∧ t (.o true (.ins c []) :: rs0 ++ R.v (.tup ms) :: List.replicate (N.length - ps.length - 1) .no) (initC c Q x)) : MakS P w Ω mg base (k + 1) x c f := by
  obtain ⟨fa, fd, M, hm, F, b⟩ := D.ex
  obtain ⟨oc, od, kV, doc, pm, an', cdv, ct, osl, rfl, lk, hcd⟩ := F.ex
  let sp : Sp := fun vs H Q E => ∃ F0 rs0 ms Cm, vs.length = rs0.length + 2 ∧ Rel Ω F0 (vs.map some) H (.o true (.ins c []) :: rs0 ++ [R.v (.tup ms)]) ∧ Lk Ω F0 (fun cls d _ H => E cls d H) Cm { nx := fun _ H' => Q .non H', rt := Q } ∧ rs0.length + 1 = ps.length ∧ t (.o true (.ins c []) :: rs0 ++ R.v (.tup ms) :: List.replicate (N.length - ps.length - 1) .no) Cm
  have FR := StX.fn_star (sp := sp) (k := k) (P := P) (w := w) (mg := mg) (base := base) lk hcd S (cxUpN (P := P) (w := w)) b (fun A outer s H vs Q E hr hh => by
    obtain ⟨F0, rs0, ms, Cm, hl, r, lkk, hps, ht⟩ := hh
    refine ⟨_, body fa cdv A outer s _ E hr, F0, _, Cm, ?_, lkk, ht⟩
    have e := Rel.entry (vs := vs) (N.length - vs.length) r
    show Rel Ω _ (vs.map some ++ List.replicate (N.length - vs.length) none) _ _
    have en : N.length - vs.length = N.length - ps.length - 1 := by omega
    rw [en] at e ⊢
    have ea : (.o true (.ins c []) :: rs0 ++ [R.v (.tup ms)]) ++ List.replicate (N.length - ps.length - 1) R.no = .o true (.ins c []) :: rs0 ++ R.v (.tup ms) :: List.replicate (N.length - ps.length - 1) .no := by simp
    rw [ea] at e
    exact e)
  refine ⟨⟨fa, M, fun A outer s H us vs Q E hr he hv hs => FR A outer s H us vs Q E hr he hv ?_, hm⟩, hc⟩
  obtain ⟨x, dx, ws, H1, A0, Z, rs, Qm, xm, rfl, rfl, h1, h2, h3, r, xl, kk, hf⟩ := hs
  obtain ⟨rs0, ms, rfl, hl0, hms, ht⟩ := h rs Qm xm hf
  have hl : ws.length = rs0.length + ms.length := by
    have := r.len
    rw [List.length_map, List.length_append, List.length_map] at this
    omega
  refine ⟨.ref x :: ws.take rs0.length, ws.drop rs0.length, by rw [List.cons_append, List.take_append_drop], by rw [List.length_cons, List.length_take]; omega, by rw [List.length_drop]; exact Nat.le_trans (show _ ≤ 100000 by omega) (by decide), fun p hp => ?_⟩
  have sm : L2.Same H1 (upd (upd H1 dx (.own x)) x (.ins (Ω.cs c) dx [])) := fun b o e => by
    rw [upd_ne (ne_of_none e h1), upd_ne (ne_of_none e h2)]
    exact e
  have r1 : Rel Ω (FrI A0 H1 Z x) (some (.ref x) :: ws.map some) (upd (upd H1 dx (.own x)) x (.ins (Ω.cs c) dx [])) (.o true (.ins c []) :: (rs0 ++ ms.map R.v)) := r.self sm h1 ⟨hc, dx, [], upd_same, rfl, .nil⟩ ⟨_, _, rfl⟩
  have r2 := (r1.new (o := .tup (ws.drop rs0.length)) hp).rel
  have ew : some (V.ref x) :: ws.map some = (some (.ref x) :: (ws.take rs0.length).map some) ++ (ws.drop rs0.length).map some := by
    rw [List.cons_append, ← List.map_append, List.take_append_drop]
  rw [ew, ← List.cons_append] at r2
  have lt : (ws.take rs0.length).length = rs0.length := by rw [List.length_take]; omega
  have nz : NoO (ms.map R.v) := fun i l c' e => by
    rw [List.getElem?_map] at e
    cases h' : ms[i]? with
    | none => rw [h'] at e; cases e
    | some m => rw [h'] at e; cases e
  have al : RpL Ω (Hd (FrI A0 H1 Z x) ((some (.ref x) :: (ws.take rs0.length).map some) ++ (ws.drop rs0.length).map some) ((.o true (.ins c []) :: rs0) ++ ms.map R.v) (upd (upd (upd H1 dx (.own x)) x (.ins (Ω.cs c) dx [])) p (.tup (ws.drop rs0.length)))) (ws.drop rs0.length) ms := by
    refine RpL.ofSlots (by rw [List.length_drop]; omega) fun i m e => ?_
    obtain ⟨v, g1, g2⟩ := r2.val (rs0.length + 1 + i) m (by rw [List.getElem?_append_right (by simp), List.length_cons, Nat.add_sub_cancel_left, List.getElem?_map, e]; rfl)
    rw [List.getElem?_append_right (by rw [List.length_cons, List.length_map, lt]; omega), List.length_cons, List.length_map, lt, Nat.add_sub_cancel_left, List.getElem?_map] at g1
    cases h' : (ws.drop rs0.length)[i]? with
    | none => rw [h'] at g1; cases g1
    | some v' =>
      rw [h'] at g1
      cases g1
      exact ⟨_, rfl, g2⟩
  have r3 : Rel Ω (FrI A0 H1 Z x) ((some (.ref x) :: (ws.take rs0.length).map some) ++ [some (V.ref p)]) _ ((.o true (.ins c []) :: rs0) ++ [R.v (.tup ms)]) := r2.tail (by rw [List.length_cons, List.length_cons, List.length_map, lt]) (by simp) nz (fun i l c' e => by
      cases i with
      | zero => cases e
      | succ i => simp at e) (fun i a d er m e => by
      cases i with
      | zero => cases e
      | succ i => simp at e) rfl fun i m e => by
    cases i with
    | zero =>
      cases e
      refine ⟨_, rfl, .tup (SqT.of (hidP_some.mpr ⟨fun z => ?_, upd_same⟩)) al⟩
      have np := r1.notOwn hp
      have npz := r1.notZ hp
      rw [ew] at np
      exact z.elim np npz
    | succ i => simp at e
  refine ⟨FrI A0 H1 Z x, rs0, ms, initC c Qm xm, by rw [List.length_append, List.length_cons, lt]; rfl, ?_, ⟨fun σ H' ρ r' q => ?_, fun _ _ _ _ _ _ _ z => z.elim, fun _ _ _ _ z => z.elim, fun _ _ _ _ z => z.elim, fun σ H' ρ er m d v r' hd hv hx => ?_⟩, hl0, ht⟩
  · rw [List.map_append, List.map_cons]
    exact r3
  · obtain ⟨fs, e, q⟩ := q
    obtain ⟨c', fs', e1, e2⟩ := r'.sf x rfl
    rw [e] at e1
    cases e1
    obtain ⟨p, g1, g2, _⟩ := r'.own 0 _ _ e
    rw [e2] at g1
    cases g1
    refine kk H' fs (r.exit r'.noSf) (g2.mono (hidP_same fun b o n e' => ⟨(fun z => ?_), e'⟩) fun _ z => z) q
    rcases z with (z | z) | rfl
    · exact n (.inl (InA_sub r' ((InA_iff r b).mpr z)))
    · exact n (.inr z)
    · exact n (.inl ⟨0, _, _, e, e2⟩)
  · exact xl er m d H' v (r.exit r'.noSf) ((hidP_same fun b o n e => ⟨fun z => n (z.imp (fun z => InA_sub r' ((InA_iff r b).mpr z)) id), e⟩) _ _ hd) (hv.mono (hidP_same fun b o n e => ⟨fun z => n (z.imp (fun z => InA_sub r' ((InA_iff r b).mpr z)) id), e⟩)) hx
end
section
variable {X : Cx} {Ω : Ev} {Wx : WX}
theorem run_makeRS {k : Nat} {f C : Addr} {sp : Sp} {E : XK} {pins : List (Addr × Obj)} {σ : L2.St} {H : Hp} {s : Shared} {Q : VK} {us : List Value} {vs : List V} (M : Mk X.K C f) (F : FnR X.prog X.w X.K X.mg X.base (L2N.CX X.prog X.w) k f sp) (hr : Room (k + 1) X.A) (hx : PassesAt (L2N.CX X.prog X.w) X σ E) (I : Inv X pins σ H s) (r : Vals vs us)
    (h : ∀ x dx, H x = none → H dx = none → dx ≠ x → sp (V.ref x :: vs) (upd (upd H dx (.own x)) x (.ins C dx [])) (fun v H2 => v = .non ∧ Q (.ref x) H2) E) :
    wpAny (model X.prog X.w) X.A (call (.ref C) us) (EP X pins σ Q) X.xe s := by
  have hq := h (s.heap.objs.size + 1) s.heap.objs.size (I.hok.fresh (Nat.le_succ _)) (I.hok.fresh (Nat.le_refl _)) (Nat.ne_of_lt (Nat.lt_succ_self _))
  have I2 := Inv.made (C := C) I
  have r2 : Vals (V.ref (s.heap.objs.size + 1) :: vs) (Value.ref (s.heap.objs.size + 1) :: us) := .cons rfl r
  refine wpAny_call (make_map (f := f) I.kIn M.makes M.init (beq_iff_eq.mp M.fn) (codeAny_mono (F _ X.stack _ _ (Value.ref (s.heap.objs.size + 1) :: us) _ _ E (hr.make C us []) (I2.env0.make C us []) r2 hq) fun r s' hq' => ?_))
  cases r with
  | error e => exact hx pins _ _ e s' I2 hq'
  | ok fl =>
    cases fl with
    | ret u =>
      obtain ⟨v, H', I3, rv, ev, q3⟩ := I2.after hq'
      subst ev
      exact ⟨rv, ⟨V.ref (s.heap.objs.size + 1), H', I3, rfl, q3⟩⟩
    | next => exact False.elim hq'
    | brk => exact False.elim hq'
    | cont => exact False.elim hq'
theorem pm_makeS {k j : Nat} {x : Str} {c : Nat} {f : FI} {p pos : Pos} {e : Expr} {es : List Expr} {u : TMA} (m : MakS X.prog X.w Ω X.mg X.base k x c f) (hK : X.K = Ω.K) (tk : L2N.Takes X Wx) (hr : Room j X.A) (hk : k + 1 ≤ j) (hg : Gl X x) (ha : PA X (e :: es) (lfA Ω Wx u))
    (hdb : (x == ("__debug__" : Str)) = false := by decide) (he : starEach (e :: es) X.env = (false, eval e X.env) :: starEach es X.env := by rfl) (hpl : (backTo pos (starEach es X.env)).any (·.1) = false := by rfl) :
    PE X (.Call (.Name x p) (e :: es) [] pos) (lf Ω Wx (tmMake c f u)) := by
  obtain ⟨fa, Mk, Fn, hm⟩ := m.ex
  rw [← hK] at Mk Fn
  refine ⟨fun pins s σ H QQ I hh => ?_⟩
  obtain ⟨F, ρ, Q, x, r, xl, k, t⟩ := hh
  refine wpAny_Call_Name_kw (ld_glob I hg hm ?_ hdb)
  refine PySem.W.callWith_K (h₀ := X.base) I.ok.mod.kin Mk.kp (thn (ha.run pos pins s σ H (fun vs H1 => ∀ y dy, H1 y = none → H1 dy = none → dy ≠ y → spI Ω c f (V.ref y :: vs) (upd (upd H1 dy (.own y)) y (.ins (Ω.cs c) dy [])) (fun v H2 => v = .non ∧ QQ (.ref y) H2) (WE Wx σ)) I ⟨F, ρ, _, x, r, xl, fun vs H1 rs s rp q y dy h1 h2 h3 => make_run m.has s r rp xl k q h1 h2 h3, t⟩) fun us s1 ⟨vs, H1, I1, rr, q⟩ => ⟨I1.kIn, ?_⟩) he hpl
  exact run_makeRS Mk Fn (hr.mono hk) (L2N.passAt tk σ) I1 rr q
end
end PL
namespace PL
open PySem PySem.Spec PyProof.Rows L2 KW
section
variable {P : Program} {w : World} {Ω : Ev} {mg : Str → Option Value} {base : Heap}
/-- a method of the class c -/
structure MetM (P : Program) (w : World) (Ω : Ev) (mg : Str → Option Value) (base : Heap) (k : Nat) (c : Nat) (m : Str) (f : FM) : Prop where
  ex : RMet P w Ω.K mg base k (Ω.cs c) m (spM Ω f)
theorem metM {c : Nat} {m qual : Str} {st : Stmt} {N ps : List Str} {k : Nat} {f : FM} {t : TMS} (D : Dm Ω.K (Ω.cs c) m qual st ps) (S : FnScope N ps (defScope st)) (len : ∀ rs Q x, f rs Q x → rs.length = ps.length)
    (body : ∀ (fa : Addr) (cdv : Value) (A : Around) (outer : List Env) (s : Shared) (H : Hp) (E : XK), Room k (A.deeper (envOfC qual (defScope st) s.heap.objs.size fa cdv)) → PSs (cxOf (L2N.CX P w) P w Ω.K mg base N qual (defScope st) fa cdv A outer s H E) (defBody st) (lfS Ω (fun cls d _ H => E cls d H) t))
    (h : ∀ rs Q x, f rs Q x → t (rs ++ List.replicate (N.length - ps.length) .no) (endC Q x)) : MetM P w Ω mg base (k + 1) c m f := by
  refine ⟨D.rmet S (fun vs H Q E hh => ?_) (fun fa cdv A outer s H vs Q E hr hh => ?_)⟩
  · obtain ⟨A0, Z, rs, Qm, xm, r, xl, kk, hf⟩ := hh
    rw [← len rs Qm xm hf, r.len, List.length_map]
  · obtain ⟨A0, Z, rs, Qm, xm, r, xl, kk, hf⟩ := hh
    refine ⟨_, body fa cdv A outer s H E hr, ?_⟩
    have hl : vs.length = ps.length := by rw [← len rs Qm xm hf, r.len, List.length_map]
    refine ⟨_, _, endC Qm xm, ?_, def_end r xl kk, h rs Qm xm hf⟩
    show Rel Ω (Fr0 A0 H Z) (vs.map some ++ List.replicate (N.length - vs.length) none) H _
    rw [hl]
    exact r.entry _
theorem MetM.mono {j k c : Nat} {m : Str} {f : FM} (h : MetM P w Ω mg base j c m f) (hk : j ≤ k) : MetM P w Ω mg base k c m f := ⟨rmetMono h.ex hk⟩
/-- what a class with an own == has more -/
structure EqN (Ω : Ev) (c : Nat) : Prop where
  ne : PySem.W.findIn Ω.K (.ref (Ω.cs c)) "__ne__" = some (some (.builtin "object.__ne__"))
  ob : PySem.W.mroIn Ω.K (Ω.cs c) (.type "object") = some true
theorem MetM.eqx {k c : Nat} {cl : M → Bool} (h : MetM P w Ω mg base k c "__eq__" (eqF cl c)) (N : EqN Ω c) : ∃ f fd ps, EqC Ω.K (Ω.cs c) f ∧ FnOk P w Ω.K mg base (L2N.CX P w) k f fd ps (spM Ω (eqF cl c)) ∧ Binds Ω.K fd ps [] := by
  obtain ⟨f, fd, ps, _, m, F, b⟩ := h.ex
  exact ⟨f, fd, ps, ⟨m.at_, m.fn, N.ne, N.ob⟩, F, b⟩
/-- no instance at all -/
theorem owE0 {n : Nat} : OwE P w Ω mg base n (fun _ => false) := ⟨(fun _ h => by cases h), fun _ _ h => by cases h⟩
/-- a method asked of an instance alone -/
def oneF (cl : M → Bool) (c : Nat) (g : M → M) : FM := fun rs Q _ => match rs with
  | [.v m] => (∃ fs, m = .obj c fs) ∧ cl m = true ∧ Q (.v (g m))
  | _ => False
end
section
variable {X : Cx} {Ω : Ev} {Wx : WX}
/-- str(o) of the class c's instances -/
structure StrP (P : Program) (w : World) (Ω : Ev) (mg : Str → Option Value) (base : Heap) (n : Nat) (cl : M → Bool) (g : M → List Nat) : Prop where
  ob : ∀ m, cl m = true → ∃ c fs, m = .obj c fs
  ex : ∀ c fs, cl (.obj c fs) = true → MetM P w Ω mg base n c "__str__" (oneF cl c fun m => .str (g m))
def semStr (cl : M → Bool) (g : M → List Nat) : List R → (R → Prop) → Prop := fun rs Q => match rs with
  | [.v m] => cl m = true ∧ Q (.v (.str (g m)))
  | _ => False
end
end PL
namespace PL
open PySem PySem.Spec PyProof.Rows L2 KW
/-- the entries of a dict as written -/
structure KD (Ω : Ev) (w : World) (mg : Str → Option Value) (x : Str) (kvs : List (List Nat × Int)) : Prop where
  ex : ∃ d es n, mg x = some (.ref d) ∧ KDict Ω.K w d es n ∧ ∀ z : List Nat, ∃ r, PySem.W.nsIn Ω.K d (S z) = some r ∧ (∀ i, kvs.lookup z = some i → ∃ t, r = some (.int i t)) ∧ (kvs.lookup z = none → r = none)
theorem S_inj {a b : List Nat} (h : S a = S b) : a = b := by
  have := congrArg (fun s : Str => s.cps.toList) h
  simpa using this
theorem es_find {z : List Nat} : ∀ {es : List DictEntry} {kvs : List (String × Int)}, EsAre es kvs → (∀ kv ∈ kvs, Str.ofString kv.1 = S (tx kv.1)) → ∃ r, (match es.find? (·.key.isStr (S z)) with
      | some e => some (some e.val)
      | none => if es.any (·.refKey) then none else some none) = some r ∧ (∀ i, (kvs.map fun kv => (tx kv.1, kv.2)).lookup z = some i → ∃ t, r = some (.int i t)) ∧ ((kvs.map fun kv => (tx kv.1, kv.2)).lookup z = none → r = none)
  | [], [], _, _ => ⟨none, rfl, (fun _ h => by cases h), fun _ => rfl⟩
  | [], _ :: _, h, _ => h.elim
  | _ :: _, [], h, _ => h.elim
  | e :: es, (k, i) :: kvs, h, hs => by
    obtain ⟨⟨t, h1⟩, ⟨t', h2⟩, h3⟩ := h
    obtain ⟨r, ih, i1, i2⟩ := es_find (z := z) h3 fun kv hk => hs kv (List.mem_cons_of_mem _ hk)
    have hk := hs (k, i) List.mem_cons_self
    by_cases e0 : z = tx k
    · refine ⟨some e.val, ?_, fun j hj => ?_, fun hn => ?_⟩
      · rw [List.find?_cons_of_pos (by rw [h1, e0, hk]; simp [Value.isStr])]
      · rw [List.map_cons, List.lookup_cons, show (z == tx k) = true by simpa using e0] at hj
        cases hj
        exact ⟨t', by rw [h2]⟩
      · rw [List.map_cons, List.lookup_cons, show (z == tx k) = true by simpa using e0] at hn
        cases hn
    · have nk : ¬ (e.key.isStr (S z) = true) := by
        rw [h1, hk]
        simp [Value.isStr]
        exact fun c => e0 c.symm
      have rk : e.refKey = false := by
        unfold DictEntry.refKey
        rw [h1]
      refine ⟨r, ?_, fun j hj => i1 j ?_, fun hn => i2 ?_⟩
      · rw [List.find?_cons_of_neg (p := fun x : DictEntry => x.key.isStr (S z)) nk, List.any_cons, rk, Bool.false_or]
        exact ih
      · rw [List.map_cons, List.lookup_cons, show (z == tx k) = false by simpa using e0] at hj
        exact hj
      · rw [List.map_cons, List.lookup_cons, show (z == tx k) = false by simpa using e0] at hn
        exact hn
theorem KD.of {Ω : Ev} {w : World} {mg : Str → Option Value} {x : Str} {d : Addr} {es : Array DictEntry} {n : Nat} {kvs : List (String × Int)} (hm : mg x = some (.ref d)) (hd : KDict Ω.K w d es n) (h : EsAre es.toList kvs) (hs : ∀ kv ∈ kvs, Str.ofString kv.1 = S (tx kv.1)) : KD Ω w mg x (kvs.map fun kv => (tx kv.1, kv.2)) := by
  refine ⟨d, es, n, hm, hd, fun z => ?_⟩
  obtain ⟨r, e, h1, h2⟩ := es_find (z := z) h hs
  refine ⟨r, ?_, h1, h2⟩
  unfold PySem.W.nsIn
  rw [hd.at_]
  exact e
section
variable {X : Cx} {Ω : Ev} {Wx : WX}
def tmNotD (kvs : List (List Nat × Int)) (t : TM) : TM := fun ρ Q x => t ρ (fun r => ∃ l, r = .v (.str l) ∧ Q (.v (.bl (!(kvs.lookup l).isSome)))) x
def tmIxD (kvs : List (List Nat × Int)) (t : TM) : TM := fun ρ Q x => t ρ (fun r => ∃ l i, r = .v (.str l) ∧ kvs.lookup l = some i ∧ Q (.v (.int i))) x
theorem pmt_notinD {x : Str} {kvs : List (List Nat × Int)} {e : Expr} {t : TM} {p pos : Pos} (K : KD Ω X.w X.mg x kvs) (hK : X.K = Ω.K) (hg : Gl X x) (he : PE X e (lf Ω Wx t)) (hdb : (x == ("__debug__" : Str)) = false := by decide) (hm : behindInMarks .NotIn (.Name x p) = false := by rfl) : PT X (.Compare e [.NotIn] [.Name x p] pos) (lfB Ω Wx (tmB (tmNotD kvs t))) := by
  obtain ⟨d, es, n, hmg, hd, hz⟩ := K.ex
  rw [← hK] at hd
  refine PT.imp (pt_cmpR (op_notIn_kd hd) he (pe_gref hg hmg hdb) hm) fun σ H QQ hh => ?_
  obtain ⟨F, ρ, Q, xx, rl, xl, k0, t⟩ := hh
  refine ⟨F, ρ, _, xx, rl, xl, fun v H1 r s rp q => ?_, t⟩
  obtain ⟨l, rfl, b, eb, q⟩ := q
  cases eb
  obtain ⟨rfl, _⟩ := rp.str
  obtain ⟨rr, e1, e2, e3⟩ := hz l
  rw [← hK] at e1
  refine ⟨_, rr, rfl, rfl, e1, _, rfl, ?_⟩
  have eb : rr.isSome = (kvs.lookup l).isSome := by
    cases h : kvs.lookup l with
    | none => rw [e3 h]; rfl
    | some i =>
      obtain ⟨t, ht⟩ := e2 i h
      rw [ht]; rfl
  rw [eb]
  exact k0 _ H1 s q
theorem pm_ixD {x : Str} {kvs : List (List Nat × Int)} {e : Expr} {t : TM} {p pos : Pos} (K : KD Ω X.w X.mg x kvs) (hK : X.K = Ω.K) (hg : Gl X x) (he : PE X e (lf Ω Wx t)) (hs : PlainIx e) (hdb : (x == ("__debug__" : Str)) = false := by decide) : PE X (.Subscript (.Name x p) e pos) (lf Ω Wx (tmIxD kvs t)) := by
  obtain ⟨d, es, n, hmg, hd, hz⟩ := K.ex
  refine PE.imp (pe_ix ix_kdict (pe_gref hg hmg hdb) he hs) fun σ H QQ hh => ?_
  obtain ⟨F, ρ, Q, xx, rl, xl, k0, t⟩ := hh
  refine ⟨F, ρ, _, xx, rl, xl, fun v H1 r s rp q => ?_, t⟩
  obtain ⟨l, i, rfl, hi, q⟩ := q
  obtain ⟨rfl, _⟩ := rp.str
  obtain ⟨rr, e1, e2, e3⟩ := hz l
  obtain ⟨tt, ht⟩ := e2 i hi
  rw [ht] at e1
  exact ⟨d, _, .int i, rfl, rfl, ⟨es, n, _, by rw [hK]; exact hd.at_, hd.lit, by rw [hK]; exact e1, ⟨tt, rfl⟩⟩, k0 _ H1 _ s (rv (.int i)) q⟩
end
end PL
namespace PL
open PySem PySem.Spec PyProof.Rows L2 KW
section
variable {X : Cx} {Ω : Ev} {Wx : WX}
def tmDnew : TM := fun _ Q _ => Q (.f (.dk []))
theorem pm_dnew {pos : Pos} : PE X (.Dict [] [] pos) (lf Ω Wx tmDnew) := PE.imp pe_dnewK fun σ H QQ hh => by
  obtain ⟨F, ρ, Q, x, r, xl, k, t⟩ := hh
  intro d hd
  exact k _ _ (.f (.dk [])) (r.new hd) ⟨d, rfl, hd, r.notOwn hd, [], upd_same, rfl, .nil⟩ t
/-- a row of whole numbers -/
def nums : List M → Option (List Int)
  | [] => some []
  | .int b :: r => (nums r).map (b :: ·)
  | _ :: _ => none
theorem RpL.nums {H : Hp} : ∀ {vs : List V} {ms : List M} {bs : List Int}, RpL Ω H vs ms → PL.nums ms = some bs → vs = bs.map V.int
  | _, _, _, .nil, e => by
    cases e
    rfl
  | _, _, bs, .cons (m := m) h t, e => by
    cases m with
    | int b =>
      unfold PL.nums at e
      cases h
      cases e' : PL.nums _ with
      | none => rw [e'] at e; cases e
      | some bs' =>
        rw [e'] at e
        cases e
        rw [RpL.nums t e']
        rfl
    | non => cases e
    | bl i => cases e
    | str l => cases e
    | lst xs => cases e
    | tup xs => cases e
    | obj c fs => cases e
    | _ => cases e
def semSum : List R → (R → Prop) → Prop := fun rs Q => match rs with
  | [r] => match r.lst? with
    | some xs => ∃ bs, nums xs = some bs ∧ Q (.v (.int bs.sum))
    | none => False
  | _ => False
theorem cm_sum (hK : X.K = Ω.K) (hc : X.calm = true) : CallM Ω X (.builtin "sum") semSum := by
  refine ⟨_, kk_sum Ω.K hK hc, fun F σ ρ H H' vs rs Q QQ st ha q K nz => ?_⟩
  unfold semSum at q
  split at q
  · obtain ⟨v, rfl, h⟩ := ha.one
    split at q
    · rename_i xs e
      obtain ⟨bs, eb, q⟩ := q
      obtain ⟨p, vs, rfl, hs, a⟩ := RpR.lst st.rel h e
      have := a.nums eb
      subst this
      exact ⟨p, bs, rfl, SqL.of hs, K _ H' _ (.refl st.rel) (rv (.int _)) q⟩
    · exact q.elim
  · exact q.elim
def semSort0 : List R → (R → Prop) → Prop := fun rs Q => match rs with
  | [.o _ (.dk [])] => Q (.f (.lst []))
  | _ => False
theorem cm_sorted0 (hc : X.calm = true) : CallM Ω X (.builtin "sorted") semSort0 := by
  refine ⟨_, call_sortedD hc, fun F σ ρ H H' vs rs Q QQ st ha q K nz => ?_⟩
  unfold semSort0 at q
  split at q
  · obtain ⟨v, rfl, h⟩ := ha.one
    obtain ⟨i, e1, e2⟩ := h
    obtain ⟨p, g1, ⟨us, g2, g3, g4⟩, _⟩ := st.rel.own i _ _ e1
    rw [e2] at g1
    cases g1
    refine ⟨p, [], [], rfl, .inl g2, rfl, by decide, fun ys l hys _ hl => ?_⟩
    have ey : ys = [] := List.perm_nil.mp hys
    subst ey
    exact K _ _ _ (st.rel.new hl) (RpR.newL st.rel hl .nil) q
  · exact q.elim
end
end PL
namespace PL
open PySem PySem.Spec PyProof.Rows L2 KW
section
variable {X : Cx} {Ω : Ev} {Wx : WX}
theorem Rel.forget {F : Fr} {σ : L2.St} {ρ : List R} {H : Hp} {i : Nat} (r : Rel Ω F σ H ρ) (n0 : ∀ c, ρ[i]? ≠ some (.o false c)) (n1 : ∀ c fs, ρ[i]? ≠ some (.o true (.ins c fs))) : Rel Ω F σ H (ρ.set i .no) := by
  have sub : ∀ {b}, Own σ (ρ.set i .no) b → Own σ ρ b := fun {b} ⟨j, l, c, z1, z2⟩ => by
    rcases set_get z1 with ⟨_, z⟩ | ⟨_, z1⟩
    · cases z
    · exact ⟨j, l, c, z1, z2⟩
  have same : Same (Hd F σ ρ H) (Hd F σ (ρ.set i .no) H) := hidP_same fun b o n e => ⟨fun z => n (z.imp sub id), e⟩
  refine ⟨by rw [List.length_set, r.len], r.grow, r.zin, fun b z o => r.zno b z (sub o), fun j m e => ?_, fun j l c e => ?_, fun j k l c l' d q z1 z2 g1 g2 => ?_, fun q c hc => ?_, pinM same r.pin, fun x hx => ?_, fun j a d er m e => ?_⟩
  · rcases set_get e with ⟨z0, z⟩ | ⟨n, e'⟩
    · cases z
    · obtain ⟨v, g1, g2⟩ := r.val j m e'
      exact ⟨v, g1, g2.mono same⟩
  · rcases set_get e with ⟨_, z⟩ | ⟨n, e'⟩
    · cases z
    · obtain ⟨q, g1, g2, g3⟩ := r.own j l c e'
      exact ⟨q, g1, g2.mono same fun _ z => z, g3⟩
  · rcases set_get z1 with ⟨_, z⟩ | ⟨_, z1⟩
    · cases z
    rcases set_get z2 with ⟨_, z⟩ | ⟨_, z2⟩
    · cases z
    exact r.inj j k l c l' d q z1 z2 g1 g2
  · obtain ⟨j, z1, z2⟩ := r.par q c hc
    have n : i ≠ j := fun z => by
      subst z
      exact n0 _ z1
    exact ⟨j, by rw [set_ne n]; exact z1, z2⟩
  · obtain ⟨c, fs, z1, z2⟩ := r.sf x hx
    have n : i ≠ 0 := fun z => by
      subst z
      exact n1 _ _ z1
    exact ⟨c, fs, by rw [set_ne n]; exact z1, z2⟩
  · rcases set_get e with ⟨_, z⟩ | ⟨n, e'⟩
    · cases z
    · obtain ⟨g1, g2⟩ := r.exc j a d er m e'
      exact ⟨g1, g2.mono same⟩
/-- nothing more is known of these slots -/
def fgt (ρ : List R) : List Nat → List R
  | [] => ρ
  | i :: is => if free ρ i = true then fgt (ρ.set i .no) is else fgt ρ is
theorem Rel.fgt {F : Fr} {σ : L2.St} {H : Hp} : ∀ (is : List Nat) {ρ : List R}, Rel Ω F σ H ρ → Rel Ω F σ H (fgt ρ is)
  | [], _, r => r
  | i :: is, ρ, r => by
    unfold PL.fgt
    split
    · rename_i h
      exact Rel.fgt is (r.forget (fun c => free_no h) fun c fs => free_ni h)
    · exact Rel.fgt is r
def tmFgt (is : List Nat) (t : TMS) : TMS := fun ρ C => t (fgt ρ is) C
theorem pms_fgt (is : List Nat) {st : List Stmt} {t : TMS} (h : PSs X st (lfS Ω Wx t)) : PSs X st (lfS Ω Wx (tmFgt is t)) := PSs.imp h fun D σ H hh => by
  obtain ⟨F, ρ, C, r, k, t⟩ := hh
  exact ⟨F, PL.fgt ρ is, C, r.fgt is, k, t⟩
theorem pms_oneF (is : List Nat) {st : Stmt} {t : TMS} (h : PS X st (lfS Ω Wx t)) : PSs X [st] (lfS Ω Wx (tmSeq t (tmFgt is tmNext))) := pms_cons h (pms_fgt is pms_nil)
/-- a reading that simp leaves alone -/
class Hid where
  t : TMS
def hid [h : Hid] : TMS := h.t
theorem pms_hid {st : List Stmt} {t : TMS} (h : PSs X st (lfS Ω Wx t)) : PSs X st (lfS Ω Wx (@hid ⟨t⟩)) := h
end
section
variable {P : Program} {w : World} {Ω : Ev} {mg : Str → Option Value} {base : Heap}
/-- a def of the module, walked: as it is called by the row -/
theorem fnM {x : Str} {st : Stmt} {N ps : List Str} {k : Nat} {f : FM} {t : TMS} {fa : Addr} {fd : FuncData} (F : Fun Ω.K x x st fa fd) (S : FnScope N ps (defScope st)) (len : ∀ rs Q x, f rs Q x → rs.length = ps.length)
    (body : ∀ (fa : Addr) (cdv : Value) (A : Around) (outer : List Env) (s : Shared) (H : Hp) (E : XK), Room k (A.deeper (envOfC x (defScope st) s.heap.objs.size fa cdv)) → PSs (cxOf (L2N.CX P w) P w Ω.K mg base N x (defScope st) fa cdv A outer s H E) (defBody st) (lfS Ω (fun cls d _ H => E cls d H) t))
    (h : ∀ rs Q x, f rs Q x → t (rs ++ List.replicate (N.length - ps.length) .no) (endC Q x)) : FnOk P w Ω.K mg base (L2N.CX P w) (k + 1) fa fd ps (spM Ω f) := by
  obtain ⟨oc, od, kV, doc, pm, an, cdv, ct, osl, rfl, lk, hcd⟩ := F.ex
  refine fn_of lk hcd S (fun vs H Q E hh => ?_) fun A outer s H vs Q E hr hh => ?_
  · obtain ⟨A0, Z, rs, Qm, xm, r, xl, kk, hf⟩ := hh
    rw [← len rs Qm xm hf, r.len, List.length_map]
  · obtain ⟨A0, Z, rs, Qm, xm, r, xl, kk, hf⟩ := hh
    refine ⟨_, body fa cdv A outer s H E hr, ?_⟩
    have hl : vs.length = ps.length := by rw [← len rs Qm xm hf, r.len, List.length_map]
    refine ⟨_, _, endC Qm xm, ?_, def_end r xl kk, h rs Qm xm hf⟩
    show Rel Ω (Fr0 A0 H Z) (vs.map some ++ List.replicate (N.length - vs.length) none) H _
    rw [hl]
    exact r.entry _
theorem StrP.mono {j k : Nat} {cl : M → Bool} {g : M → List Nat} (h : StrP P w Ω mg base j cl g) (hk : j ≤ k) : StrP P w Ω mg base k cl g := ⟨h.ob, fun c fs z => (h.ex c fs z).mono hk⟩
end
end PL
namespace KC
open PySem PySem.Spec PyProof.Rows L2
section
variable {X : Cx} {pins : List (Addr × Obj)} {σ : L2.St} {H : Hp} {s : Shared} {Q : VK} {e tg iter : Expr} {ifs : List Expr} {rest : List Comprehension} {scope : Scope} {own : List (Str × Nat)} {pos' : Pos} {wi : TI} {g : TG} {tt : TT} {vm : List Nat} {newAcc : Sem Value} {ho : HO} {Qf : Value → Shared → Prop}
/-- the new thing that is filled -/
def NewAcc (X : Cx) (newAcc : Sem Value) (ho : HO) : Prop := ∀ (pins : List (Addr × Obj)) (s : Shared) (σ : L2.St) (H : Hp) (Q : Value → Shared → Prop), Inv X pins σ H s →
  (∀ D s', D = s.heap.objs.size → (∀ b o, s.heap.get? b = some o → s'.heap.get? b = some o) → s.heap.objs.size < s'.heap.objs.size → Inv X pins σ (upd H D ho) s' → Q (.ref D) s') → wpAny (model X.prog X.w) X.A newAcc Q X.xe s
end
end KC
namespace PL
open PySem PySem.Spec PyProof.Rows L2 KW
/-- a clause walked: act is what is done with the thing that is filled -/
def clM (tg : TMG) (tt : TMB) (act : List R → OC → (OC → Prop) → Prop) (ρ : List R) : List M → OC → (OC → Prop) → Prop
  | [], c, Q => Q c
  | m :: ms, c, Q => tg m ρ fun ρ' => tt ρ' (fun b => if b = true then act ρ' c (fun c' => clM tg tt act ρ ms c' Q) else clM tg tt act ρ ms c Q) X1
section
variable {Ω : Ev} {F : Fr} {σ : L2.St} {ρ : List R} {H H' H'' : Hp} {D : Addr}
/-- from H to H', while D is filled -/
structure StD (Ω : Ev) (F : Fr) (σ : L2.St) (ρ : List R) (D : Addr) (H H' : Hp) : Prop where
  rel : Rel Ω F σ H' ρ
  keep : ∀ b o, ¬ OwF σ ρ b → b ≠ D → H b = some o → ∀ [Nb o], H' b = some o
  tbs : Tbs H H'
theorem StD.same (hz : F.Z D) (s : StD Ω F σ ρ D H H') : Same (Hd F σ ρ H) (Hd F σ ρ H') := hidP_same fun b o n e => ⟨n, s.keep b o (fun z => n (.inl z.own)) (fun z => n (.inr (by rw [z]; exact hz))) e⟩
theorem StD.trans (a : StD Ω F σ ρ D H H') (b : StD Ω F σ ρ D H' H'') : StD Ω F σ ρ D H H'' := ⟨b.rel, fun c o n h e => b.keep c o n h (a.keep c o n h e), a.tbs.trans b.tbs⟩
theorem StD.of (a : Stp Ω F σ ρ H H') : StD Ω F σ ρ D H H' := ⟨a.rel, fun c o n _ e => a.keep c o n e, a.tbs⟩
theorem StD.refl (r : Rel Ω F σ H ρ) : StD Ω F σ ρ D H H := ⟨r, fun _ _ _ _ e => e, .refl _⟩
/-- the second clause -/
def act2 (vs1 : List Nat) (ti : TMI) (tg : TMG) (tt : TMB) (act : List R → OC → (OC → Prop) → Prop) : List R → OC → (OC → Prop) → Prop := fun ρ c K => noOwn ρ vs1 = true ∧ ti ρ (fun ms => clM tg tt act (wipeR ρ vs1) ms c K) X1
/-- as a value: c0 the new thing -/
def tmFill (vs : List Nat) (ti : TMI) (tg : TMG) (tt : TMB) (act : List R → OC → (OC → Prop) → Prop) (c0 : OC) : TM := fun ρ Q x => noOwn ρ vs = true ∧ ti ρ (fun ms => clM tg tt act (wipeR ρ vs) ms c0 fun c => Q (.f c)) x
end
end PL
namespace PL
open PySem PySem.Spec PyProof.Rows L2 KW
def srt (ls : List (List Nat)) : List (List Nat) := ls.mergeSort fun a b => decide (a ≤ b)
abbrev KVs := List (List Nat × M)
def putKV (kvs : KVs) (l : List Nat) (m : M) : KVs := if (kvs.any fun kv => decide (kv.1 = l)) = true then kvs.map (fun kv => if kv.1 = l then (kv.1, m) else kv) else kvs ++ [(l, m)]
def getKV (kvs : KVs) (l : List Nat) : Option M := (kvs.find? fun kv => decide (kv.1 = l)).map (·.2)
abbrev keyS (kv : List Nat × M) : Key := Sum.inr (S kv.1)
end PL
namespace PL
open PySem PySem.Spec PyProof.Rows L2 KW
def R.dk? : R → Option KVs
  | .o _ (.dk kvs) => some kvs
  | .f (.dk kvs) => some kvs
  | .v (.dct ks ms) => some (ks.zip ms)
  | _ => none
section
variable {Ω : Ev} {F : Fr} {σ : L2.St} {ρ : List R} {H H' : Hp} {D : Addr}
theorem RpR.dk {v : V} {r : R} {kvs : KVs} (s : Rel Ω F σ H' ρ) (h : RpR Ω F σ ρ H H' v r) (e : r.dk? = some kvs) : ∃ p vs, v = .ref p ∧ H' p = some (.dK ((kvs.map keyS).zip vs)) ∧ vs.length = kvs.length ∧ RpL Ω (Hd F σ ρ H') vs (kvs.map (·.2)) := by
  unfold R.dk? at e
  split at e
  · cases e
    obtain ⟨i, e1, e2⟩ := h
    obtain ⟨p, h1, ⟨vs, h2, h3, h4⟩, _⟩ := s.own i _ _ e1
    rw [e2] at h1
    cases h1
    exact ⟨p, vs, rfl, h2, h3, h4⟩
  · cases e
    obtain ⟨p, e1, hn, no, vs, h2, h3, h4⟩ := h
    exact ⟨p, vs, e1, h2, h3, h4.mono (hidP_same fun b o hb eb => ⟨fun z => hb (.inl z), eb⟩)⟩
  · rename_i ks ms
    cases e
    cases (show Rp Ω _ v (.dct ks ms) from h) with
    | dct h1 n a =>
      have hl : ms.length = ks.length := by rw [← a.length]; exact n
      refine ⟨_, _, rfl, ?_, by rw [List.length_zip, n]; omega, ?_⟩
      · have e : (ks.zip ms).map keyS = ks.map fun k => (Sum.inr (S k) : Key) := by
          rw [show keyS = (fun k => (Sum.inr (S k) : Key)) ∘ (fun kv : List Nat × M => kv.1) from rfl, ← List.map_map, List.map_fst_zip (by omega)]
        rw [e]
        exact hid_sub _ _ h1
      · rw [List.map_snd_zip (by omega)]
        exact a
  · cases e
/-- what a dict comprehension puts -/
def emD (tk tv : TM) : List R → OC → (OC → Prop) → Prop := fun ρ c K => match c with
  | .dk kvs => tk ρ (fun a => ∃ l, a = .v (.str l) ∧ tv ρ (fun b => ∃ m, b.m? = some m ∧ kvs.length < 100000 ∧ K (.dk (putKV kvs l m))) X1) X1
  | _ => False
end
section
variable {X : Cx} {Ω : Ev} {Wx : WX}
def tmIxK (td ty : TM) : TM := fun ρ Q x => td ρ (fun a => ∃ kvs, a.dk? = some kvs ∧ ty ρ (fun b => ∃ l m, b = .v (.str l) ∧ getKV kvs l = some m ∧ Q (.v m)) x) x
def ownD (ρ : List R) (i : Nat) : Option KVs := match ρ[i]? with
  | some (.o true (.dk kvs)) => some kvs
  | _ => none
def tmDput (i : Nat) (ty tv : TM) : TMS := fun ρ C => ∃ kvs, ownD ρ i = some kvs ∧ tv ρ (fun a => ∃ m, a.m? = some m ∧ ty ρ (fun b => ∃ l, b = .v (.str l) ∧ kvs.length < 100000 ∧ C.nx (ρ.set i (.o true (.dk (putKV kvs l m))))) (fun er m => C.ex er m ρ)) (fun er m => C.ex er m ρ)
def semSort : List R → (R → Prop) → Prop := fun rs Q => match rs with
  | [r] => match r.dk? with
    | some kvs => (kvs.length < 64 ∧ ∀ kv ∈ kvs, kv.1.length ≤ 100000) ∧ Q (.f (.lst ((srt (kvs.map (·.1))).map M.str)))
    | none => match r.lst? with
      | some xs => ∃ ls, txs xs = some ls ∧ (ls.length < 64 ∧ ∀ l ∈ ls, l.length ≤ 100000) ∧ Q (.f (.lst ((srt ls).map M.str)))
      | none => False
  | _ => False
end
end PL
namespace PL
open PySem PySem.Spec PyProof.Rows L2 KW
section
variable {X : Cx} {Ω : Ev} {Wx : WX}
structure SpP (P : Program) (w : World) (Ω : Ev) (mg : Str → Option Value) (base : Heap) (n : Nat) (m : Str) (cl : M → Bool) (g : M → M) : Prop where
  ob : ∀ m, cl m = true → ∃ c fs, m = .obj c fs
  ex : ∀ c fs, cl (.obj c fs) = true → MetM P w Ω mg base n c m (oneF cl c g)
theorem SpP.mono {P : Program} {w : World} {mg : Str → Option Value} {base : Heap} {j k : Nat} {m : Str} {cl : M → Bool} {g : M → M} (h : SpP P w Ω mg base j m cl g) (hk : j ≤ k) : SpP P w Ω mg base k m cl g := ⟨h.ob, fun c fs z => (h.ex c fs z).mono hk⟩
def semOne (cl : M → Bool) (g : M → M) : List R → (R → Prop) → Prop := fun rs Q => match rs with
  | [.v m] => cl m = true ∧ Q (.v (g m))
  | _ => False
def twoF (cl : M → Bool) (c : Nat) (pre : M → Bool) (g : M → M → M) : FM := fun rs Q _ => match rs with
  | [.v m, .v y] => (∃ fs, m = .obj c fs) ∧ cl m = true ∧ pre y = true ∧ Q (.v (g m y))
  | _ => False
structure InP (P : Program) (w : World) (Ω : Ev) (mg : Str → Option Value) (base : Heap) (n : Nat) (cl pre : M → Bool) (g : M → M → Bool) : Prop where
  ob : ∀ m, cl m = true → ∃ c fs, m = .obj c fs
  ex : ∀ c fs, cl (.obj c fs) = true → MetM P w Ω mg base n c "__contains__" (twoF cl c pre fun m y => .bl (g m y))
theorem InP.mono {P : Program} {w : World} {mg : Str → Option Value} {base : Heap} {j k : Nat} {cl pre : M → Bool} {g : M → M → Bool} (h : InP P w Ω mg base j cl pre g) (hk : j ≤ k) : InP P w Ω mg base k cl pre g := ⟨h.ob, fun c fs z => (h.ex c fs z).mono hk⟩
def semInO (cl pre : M → Bool) (g : M → M → Bool) : R → R → (R → Prop) → Prop := fun a b Q => ∃ y m, a = .v y ∧ b = .v m ∧ cl m = true ∧ pre y = true ∧ Q (.v (.bl (g m y)))
end
end PL
namespace PL
open PySem PySem.Spec PyProof.Rows L2 KW
section
variable {X : Cx} {Ω : Ev} {Wx : WX}
def tmInsert (j : Nat) (ti te : TM) : TMS := fun ρ C => ∃ xs, ownL ρ j = some xs ∧ ti ρ (fun a => ∃ z : Int, a = .v (.int z) ∧ te ρ (fun b => ∃ m, b.m? = some m ∧ xs.length < 100000 ∧ 0 ≤ z ∧ z < 2 ^ 62 ∧ C.nx (ρ.set j (.o true (.lst (xs.take z.toNat ++ [m] ++ xs.drop z.toNat))))) (fun er m => C.ex er m ρ)) (fun er m => C.ex er m ρ)
def prs : List M → Option KVs
  | [] => some []
  | .tup [.str l, m] :: r => (prs r).map fun q => (l, m) :: q
  | _ => none
def mrgKV (kvs more : KVs) : KVs := more.foldl (fun a kv => putKV a kv.1 kv.2) kvs
def semDict : List R → (R → Prop) → Prop := fun rs Q => match rs with
  | [r] => match r.lst? with
    | some xs => ∃ kvs, prs xs = some kvs ∧ Q (.f (.dk (mrgKV [] kvs)))
    | none => False
  | _ => False
def setKV (kvs : KVs) (l : List Nat) (m : M) : KVs := if (getKV kvs l).isSome = true then kvs else putKV kvs l m
def tmSetdNe (i : Nat) (tk tv tw : TM) (sem : R → R → (R → Prop) → Prop) (t u : TMS) : TMS := fun ρ C => ∃ kvs, ownD ρ i = some kvs ∧ tk ρ (fun a => ∃ l, a = .v (.str l) ∧ tv ρ (fun b => ∃ m, b = .v m ∧ kvs.length < 100000 ∧
  tw (ρ.set i (.o true (.dk (setKV kvs l m)))) (fun c => sem (.v ((getKV kvs l).getD m)) c fun r => ∃ b, r = .v (.bl b) ∧ if b = true then t (ρ.set i (.o true (.dk (setKV kvs l m)))) C else u (ρ.set i (.o true (.dk (setKV kvs l m)))) C) (fun er m' => C.ex er m' (ρ.set i (.o true (.dk (setKV kvs l m)))))) (fun er m => C.ex er m ρ)) (fun er m => C.ex er m ρ)
end
end PL
namespace PL
open PySem PySem.Spec PyProof.Rows L2 KW
section
variable {X : Cx} {Ω : Ev} {Wx : WX}
def tmKeys (ks : List (List Nat)) : TM := fun _ Q _ => Q (.f (.lst (ks.map M.str)))
end
end PL
namespace PL
open PySem PySem.Spec PyProof.Rows L2 KW
end PL
namespace PL
open PySem PySem.Spec PyProof.Rows L2 KW
end PL
namespace PL
open PySem PySem.Spec PyProof.Rows L2 KW
section
variable {X : Cx} {Ω : Ev} {Wx : WX}
def tmMakeSt (c : Nat) (f : FI) (t : TM) : TM := fun ρ Q x => t ρ (fun a => ∃ ms, a.seq? = some ms ∧ f (ms.map R.v) (fun fs => ∃ ms, fs = (an c).zip ms ∧ ms.length = (an c).length ∧ Q (.v (.obj c ms))) x) x
end
end PL
namespace PL
open PySem PySem.Spec PyProof.Rows L2 KW
section
variable {X : Cx} {Ω : Ev} {Wx : WX}
def tmBinO (c : Nat) (f : FM) (ta tb : TM) : TM := fun ρ Q x => ta ρ (fun a => tb ρ (fun b => (∃ fs, a = .v (.obj c fs)) ∧ (∃ gs, b = .v (.obj c gs)) ∧ f [a, b] Q x) x) x
end
end PL
namespace PL
open PySem PySem.Spec PyProof.Rows L2 KW
section
variable {X : Cx} {Ω : Ev} {Wx : WX}
def tmMethO (c : Nat) (f : FM) (ta : TM) (u : TMA) : TM := fun ρ Q x => ta ρ (fun a => (∃ fs, a = .v (.obj c fs)) ∧ u ρ (fun rs => f (a :: rs.map co) Q x) x) x
end
end PL
namespace PL
open PySem PySem.Spec PyProof.Rows L2 KW
section
variable {Ω : Ev} {F : Fr} {σ : L2.St} {ρ : List R} {H H' H'' : Hp} {D : Addr} {P : Program} {w : World}
def addL (ls : List (List Nat)) (l : List Nat) : List (List Nat) := if l ∈ ls then ls else l :: ls
def emS (P : Program) (w : World) (t : TM) : List R → OC → (OC → Prop) → Prop := fun ρ c K => match c with
  | .st P' w' ls => P' = P ∧ w' = w ∧ t ρ (fun a => ∃ l, a = .v (.str l) ∧ ls.length < 1000 ∧ K (.st P w (addL ls l))) X1
  | _ => False
end
section
variable {X : Cx} {Ω : Ev} {Wx : WX}
def semSortT (P : Program) (w : World) : List R → (R → Prop) → Prop := fun rs Q => match rs with
  | [.f (.st P' w' ls)] => P' = P ∧ w' = w ∧ ls.length < 64 ∧ Q (.f (.lst ((srt ls).map M.str)))
  | _ => False
end
end PL
namespace PL
open PySem PySem.Spec PyProof.Rows L2 KW
abbrev KTs := List (List (List Nat) × M)
def putKT (kvs : KTs) (l : List (List Nat)) (m : M) : KTs := if (kvs.any fun kv => decide (kv.1 = l)) = true then kvs.map (fun kv => if kv.1 = l then (kv.1, m) else kv) else kvs ++ [(l, m)]
def getKT (kvs : KTs) (l : List (List Nat)) : Option M := (kvs.find? fun kv => decide (kv.1 = l)).map (·.2)
abbrev keyT (kv : List (List Nat) × M) : List Key := kv.1.map fun l => (Sum.inr (S l) : Key)
def R.dt? : R → Option KTs
  | .o _ (.dt kvs) => some kvs
  | .f (.dt kvs) => some kvs
  | _ => none
section
variable {Ω : Ev} {F : Fr} {σ : L2.St} {ρ : List R} {H H' : Hp}
theorem RpR.dt {v : V} {r : R} {kvs : KTs} (s : Rel Ω F σ H' ρ) (h : RpR Ω F σ ρ H H' v r) (e : r.dt? = some kvs) : ∃ p vs, v = .ref p ∧ H' p = some (.dT ((kvs.map keyT).zip vs)) ∧ vs.length = kvs.length ∧ RpL Ω (Hd F σ ρ H') vs (kvs.map (·.2)) := by
  unfold R.dt? at e
  split at e
  · cases e
    obtain ⟨i, e1, e2⟩ := h
    obtain ⟨p, h1, ⟨vs, h2, h3, h4⟩, _⟩ := s.own i _ _ e1
    rw [e2] at h1
    cases h1
    exact ⟨p, vs, rfl, h2, h3, h4⟩
  · cases e
    obtain ⟨p, e1, hn, no, vs, h2, h3, h4⟩ := h
    exact ⟨p, vs, e1, h2, h3, h4.mono (hidP_same fun b o hb eb => ⟨fun z => hb (.inl z), eb⟩)⟩
  · cases e
end
section
variable {X : Cx} {Ω : Ev} {Wx : WX}
def tmDnewT : TM := fun _ Q _ => Q (.f (.dt []))
def tmIxT (td ty : TM) : TM := fun ρ Q x => td ρ (fun a => ∃ kvs, a.dt? = some kvs ∧ ty ρ (fun b => ∃ ls m, b = .v (.tup (ls.map M.str)) ∧ getKT kvs ls = some m ∧ Q (.v m)) x) x
def ownT (ρ : List R) (i : Nat) : Option KTs := match ρ[i]? with
  | some (.o true (.dt kvs)) => some kvs
  | _ => none
def tmDputT (i : Nat) (ty : TMA) (tv : TM) : TMS := fun ρ C => ∃ kvs, ownT ρ i = some kvs ∧ tv ρ (fun a => ∃ m, a.m? = some m ∧ ty ρ (fun rs => ∃ ls : List (List Nat), rs = ls.map (fun l => R.v (.str l)) ∧ ls.length ≤ 1000 ∧ kvs.length < 100000 ∧ C.nx (ρ.set i (.o true (.dt (putKT kvs ls m))))) (fun er m => C.ex er m ρ)) (fun er m => C.ex er m ρ)
abbrev PP := List Nat × List Nat
def srtP (ls : List PP) : List PP := ls.mergeSort fun a b => !KC.lexL b a
abbrev pairM (p : PP) : M := .tup [.str p.1, .str p.2]
abbrev pairL (p : PP) : List (List Nat) := [p.1, p.2]
def semSortP : List R → (R → Prop) → Prop := fun rs Q => match rs with
  | [r] => ∃ kvs ps, r.dt? = some kvs ∧ kvs.map (·.1) = ps.map pairL ∧ (∀ p ∈ ps, p.1.length ≤ 100000 ∧ p.2.length ≤ 100000) ∧ Q (.f (.lst ((srtP ps).map pairM)))
  | _ => False
end
end PL
namespace PL
open PySem PySem.Spec PyProof.Rows L2 KW
section
variable {X : Cx} {Ω : Ev} {Wx : WX}
def tmFmt (t : TM) : TM := fun ρ Q x => t ρ (fun r => ∃ l, r = .v (.str l) ∧ Q (.v (.str l))) x
def tmJs : List TM → List Nat → List R → (List Nat → Prop) → X0 → Prop
  | [], acc, _, Q, _ => Q acc
  | t :: ts, acc, ρ, Q, x => t ρ (fun r => ∃ l, r = .v (.str l) ∧ acc.length + l.length ≤ 100000 ∧ tmJs ts (acc ++ l) ρ Q x) x
def tmF (ts : List TM) : TM := fun ρ Q x => tmJs ts [] ρ (fun l => Q (.v (.str l))) x
end
end PL
namespace PL
open PySem PySem.Spec PyProof.Rows L2 KW
/-- one item of a comprehension -/
def elMX (tg : TMG) (tt : TMB) (te : TM) (ρ : List R) (x : X0) (m : M) (K : M → Prop) (Sk : Prop) : Prop := tg m ρ fun ρ' => tt ρ' (fun b => if b = true then te ρ' (fun r => ∃ y, r.m? = some y ∧ K y) x else Sk) X1
def lcMX (tg : TMG) (tt : TMB) (te : TM) (ρ : List R) (x : X0) : List M → List M → (List M → Prop) → Prop
  | [], acc, Q => Q acc
  | m :: ms, acc, Q => elMX tg tt te ρ x m (fun y => acc.length < 100000 ∧ lcMX tg tt te ρ x ms (acc ++ [y]) Q) (lcMX tg tt te ρ x ms acc Q)
def tmLcX (vs : List Nat) (ti : TMI) (tg : TMG) (tt : TMB) (te : TM) : TM := fun ρ Q x => noOwn ρ vs = true ∧ ti ρ (fun ms => lcMX tg tt te (wipeR ρ vs) x ms [] fun acc => Q (.f (.lst acc))) x
end PL
namespace PL
open PySem PySem.Spec PyProof.Rows L2 KW
section
variable {P : Program} {w : World} {Ω : Ev} {mg : Str → Option Value} {base : Heap}
structure CalO (P : Program) (w : World) (Ω : Ev) (mg : Str → Option Value) (base : Heap) (k : Nat) (c : Nat) (f : FM) (nd : Nat) : Prop where
  ex : ∃ g fd ps, StX.CallO Ω.K (Ω.cs c) g ∧ FnOk P w Ω.K mg base (L2N.CX P w) k g fd ps (spM Ω f) ∧ ∀ j, j ≤ nd → ∃ ds, Vals (List.replicate j V.non) ds ∧ Binds Ω.K fd ps ds
theorem CalO.mono {j k c nd : Nat} {f : FM} (h : CalO P w Ω mg base j c f nd) (hk : j ≤ k) : CalO P w Ω mg base k c f nd := by
  obtain ⟨g, fd, ps, c, F, b⟩ := h.ex
  exact ⟨g, fd, ps, c, F.mono hk, b⟩
end
section
variable {X : Cx} {Ω : Ev} {Wx : WX}
def tmCallO (c : Nat) (f : FM) (j : Nat) (ta : TM) (u : TMA) : TM := fun ρ Q x => ta ρ (fun a => (∃ fs, a = .v (.obj c fs)) ∧ u ρ (fun rs => f (a :: rs.map co ++ List.replicate j (.v .non)) Q x) x) x
end
end PL
namespace PL
open PySem PySem.Spec PyProof.Rows L2 KW
section
variable {X : Cx} {Ω : Ev} {Wx : WX}
def R.isS : R → Bool
  | .v (.str _) => true
  | _ => false
def R.isO (c : Nat) : R → Bool
  | .v (.obj d _) => d == c
  | _ => false
def tmBinE (c : Nat) (f g : FM) (ta tb : TM) : TM := fun ρ Q x => ta ρ (fun a => tb ρ (fun b => if a.isO c = true then (b.isO c || b.isS) = true ∧ f [a, b] Q x else a.isS = true ∧ b.isO c = true ∧ g [b, a] Q x) x) x
end
end PL
namespace PL
open PySem PySem.Spec PyProof.Rows L2 KW
section
variable {X : Cx} {Ω : Ev} {Wx : WX}
def tmUnp (t : TM) (g : TMG) : TMS := fun ρ C => t ρ (fun r => ∃ m, r.m? = some m ∧ g m ρ C.nx) (fun er m => C.ex er m ρ)
end
end PL
namespace KW
open PySem PySem.Spec PyProof.Rows L2
open PySem.AutoSeq1 (wpAny_loadPart')
end KW
namespace PL
open PySem PySem.Spec PyProof.Rows L2 KW
section
variable {X : Cx} {Ω : Ev} {Wx : WX}
def semMulT : R → R → (R → Prop) → Prop := fun a b Q => match a, b with
  | .v (.tup s), .v (.int k) => s.length ≤ 1000 ∧ -1000 ≤ k ∧ k ≤ 1000 ∧ Q (.v (.tup (List.replicate k.toNat s).flatten))
  | _, _ => False
end
end PL
namespace PL
open PySem PySem.Spec PyProof.Rows L2 KW
section
variable {X : Cx} {Ω : Ev} {Wx : WX}
def tmBin2 (c e : Nat) (f g : FM) (ta tb : TM) : TM := fun ρ Q x => ta ρ (fun a => tb ρ (fun b => (b.isO c || b.isO e) = true ∧ if a.isO c = true then f [a, b] Q x else a.isO e = true ∧ g [a, b] Q x) x) x
def tmPw (c e : Nat) (f g : FM) (ta tb : TM) : TM := fun ρ Q x => ta ρ (fun a => tb ρ (fun b => (∃ i, b = .v (.int i)) ∧ if a.isO c = true then f [a, b] Q x else a.isO e = true ∧ g [a, b] Q x) x) x
end
end PL
namespace PL
open PySem PySem.Spec PyProof.Rows L2 KW
section
variable {X : Cx} {Ω : Ev} {Wx : WX}
def tgT4 (i j k l : Nat) : TMG := fun m ρ K => match m with
  | .tup [a, b, c, d] => put i (.v a) ρ fun ρ1 => put j (.v b) ρ1 fun ρ2 => put k (.v c) ρ2 fun ρ3 => put l (.v d) ρ3 K
  | _ => False
end
end PL
namespace PL
open PySem PySem.Spec PyProof.Rows L2 KW
section
variable {X : Cx} {Ω : Ev} {Wx : WX}
def semListD : List R → (R → Prop) → Prop := fun rs Q => match rs with
  | [r] => ∃ kvs, r.dk? = some kvs ∧ (∀ kv ∈ kvs, kv.1.length ≤ 100000) ∧ Q (.f (.lst (kvs.map fun kv => .str kv.1)))
  | _ => False
end
end PL
namespace PL
open PySem PySem.Spec PyProof.Rows L2 KW
/-- any value but an instance of a class that is not among L -/
def okBin (L : List Nat) : R → Bool
  | .v (.obj d _) => L.contains d
  | .v m => m.nd
  | _ => false
def tmBinV (c : Nat) (L : List Nat) (f g : FM) (ta tb : TM) : TM := fun ρ Q x => ta ρ (fun a => tb ρ (fun b => if a.isO c = true then okBin (c :: L) b = true ∧ f [a, b] Q x else okBin L a = true ∧ b.isO c = true ∧ g [b, a] Q x) x) x
end PL
namespace PL
open PySem PySem.Spec PyProof.Rows L2 KW
abbrev stM (p : PP) : M := .obj 0 [.str p.1, .str p.2]
def tmSortK (t : TM) : TM := fun ρ Q x => t ρ (fun r => ∃ ps : List PP, r.lst? = some (ps.map stM) ∧ ps.length ≤ 1000 ∧ Q (.f (.lst ((srtP ps).map stM)))) x
end PL
namespace KC
open PySem PySem.Spec PyProof.Rows L2
theorem newL {X : Cx} : NewAcc X (newList []) (.lst []) := by
  intro pins s σ H Q I h
  refine wpAny_newList ?_ (by decide)
  exact h _ _ rfl (fun b o eo => Heap.get?_push_of_some _ eo) (by rw [Heap.size_push]; exact Nat.lt_succ_self _) (I.laid (t' := s.toks) (fun b u e => Heap.get?_push_of_some _ e) (Nat.le_refl _) ⟨Nat.zero_le _, [], 0, .nil, Heap.get?_push_size _ rfl⟩)
end KC
namespace PL
open PySem PySem.Spec PyProof.Rows L2 KW
section
variable {Ω : Ev} {F : Fr} {σ : L2.St} {ρ : List R} {H H' H'' : Hp} {D : Addr} {P : Program} {w : World}
def emL (t : TM) : List R → OC → (OC → Prop) → Prop := fun ρ c K => match c with
  | .lst xs => t ρ (fun a => ∃ m, a.m? = some m ∧ xs.length < 100000 ∧ K (.lst (xs ++ [m]))) X1
  | _ => False
end
end PL
namespace PL
open PySem PySem.Spec PyProof.Rows L2 KW
section
variable {X : Cx} {Ω : Ev} {Wx : WX}
def tmCon (f : Str) (sg : Nat → Option (List Nat)) (t : TM) : TM := fun ρ Q x => t ρ (fun r => ∃ b c fs l, r = .o b (.ins c fs) ∧ f ∉ fs.map (·.1) ∧ sg c = some l ∧ Q (.v (.str l))) x
def tmFmtO (cl : M → Bool) (g : M → List Nat) (t : TM) : TM := fun ρ Q x => t ρ (fun r => semStr cl g [r] Q) x
def semSetT (P : Program) (w : World) : List R → (R → Prop) → Prop := fun rs Q => match rs with
  | [r] => match r.seq? with
    | some xs => ∃ ls, txs xs = some ls ∧ ls.length < 1000 ∧ (∀ l ∈ ls, l.length ≤ 100000) ∧ Q (.f (.st P w (ls.foldl addL [])))
    | none => False
  | _ => False
end
end PL
namespace PL
open PySem PySem.Spec PyProof.Rows L2 KW
section
variable {X : Cx} {Ω : Ev} {Wx : WX}
def isA (sub : Nat → Bool) : String ⊕ Nat → Bool
  | .inl _ => false
  | .inr d => sub d
def tmIsiA (sub : Nat → Bool) (t : TM) : TM := fun ρ Q x => t ρ (fun r => ∃ y, r.ty? = some y ∧ Q (.v (.bl (isA sub y)))) x
def isAM (sub : Nat → Bool) : M → Bool
  | .obj c _ => sub c
  | _ => false
theorem isA_ty (sub : Nat → Bool) (m : M) : isA sub (tyOf m) = isAM sub m := by cases m <;> rfl
def tmStar (t : TM) (u : TMA) : TMA := fun ρ Q x => t ρ (fun r => ∃ xs, r.seq? = some xs ∧ u ρ (fun rs => Q (xs.map R.v ++ rs)) x) x
end
abbrev FU := Nat → List (Str × M) → List R → (List (Str × M) → Prop) → Prop
def spU (Ω : Ev) (f : FU) : Sp := fun vs H Q _ => ∃ x ws H1 o c fs Z rs Qm, vs = .ref x :: ws ∧ H = upd H1 x o ∧ H1 x = none ∧ OAt Ω (hidP (fun b => (Own (ws.map some) rs b ∨ Z b) ∨ b = x) H) H x (.ins c fs) ∧ Rel Ω (Fr0 [] H1 Z) (ws.map some) H1 rs ∧
  (∀ H' fs', Stp Ω (Fr0 [] H1 Z) (ws.map some) rs H1 H' → OAt Ω (hidP (fun b => (Own (ws.map some) rs b ∨ Z b) ∨ b = x) H') H' x (.ins c fs') → Qm fs' → Q .non H') ∧ f c fs rs Qm
structure BaseM (P : Program) (w : World) (Ω : Ev) (mg : Str → Option Value) (base : Heap) (k : Nat) (C m : Str) (f : FU) : Prop where
  ex : ∃ A mc fa fd ps, mg C = some (.ref A) ∧ ClX.CRead Ω.K A mc ∧ PySem.W.findCls Ω.K (.ref A) mc m = some (.val (.ref fa)) ∧ PySem.W.keepIn Ω.K (.ref fa) = true ∧ FnOk P w Ω.K mg base (L2N.CX P w) k fa fd ps (spU Ω f) ∧ Binds Ω.K fd ps []
section
variable {P : Program} {w : World} {Ω : Ev} {mg : Str → Option Value} {base : Heap}
theorem BaseM.mono {j k : Nat} {C m : Str} {f : FU} (b : BaseM P w Ω mg base j C m f) (h : j ≤ k) : BaseM P w Ω mg base k C m f := by
  obtain ⟨A, mc, fa, fd, ps, h1, h2, h3, h4, F, h5⟩ := b.ex
  exact ⟨A, mc, fa, fd, ps, h1, h2, h3, h4, F.mono h, h5⟩
end
section
variable {Ω : Ev}
open Classical in
noncomputable def del (H : Hp) (x : Addr) : Hp := fun b => if b = x then none else H b
theorem del_ne {H : Hp} {x b : Addr} (h : b ≠ x) : del H x b = H b := if_neg h
theorem del_same {H : Hp} {x : Addr} : del H x x = none := if_pos rfl
theorem PN.del {H : Hp} {x : Addr} (h : PN Ω H) (hp : ∀ u, H x = some u → NTb x u) : PN Ω (del H x) := fun q hq => by
  obtain ⟨ps, h1, h2, h3⟩ := h q hq
  have n1 : q.1 ≠ x := fun z => by
    rw [z] at h1
    exact (hp _ h1).1 ps rfl
  refine ⟨ps, by rw [del_ne n1]; exact h1, h2, fun pos cv hc => ?_⟩
  obtain ⟨c, e1, e2⟩ := h3 pos cv hc
  have n2 : c ≠ x := fun z => by
    subst z
    exact (hp _ e2).2 q.2 rfl
  exact ⟨c, e1, by rw [del_ne n2]; exact e2⟩
variable {F : Fr} {σ : L2.St} {ρ : List R} {H : Hp}
theorem RpL.at {Hr : Hp} {vs : List V} {ms : List M} (a : RpL Ω Hr vs ms) {i : Nat} {m : M} (e : (ms.map R.v)[i]? = some (.v m)) : ∃ v, (vs.map some)[i]? = some (some v) ∧ Rp Ω Hr v m := by
  rw [List.getElem?_map] at e
  obtain ⟨m', e1, e2⟩ := Option.map_eq_some_iff.mp e
  cases e2
  obtain ⟨v, h1, h2⟩ := a.get e1
  exact ⟨v, by rw [List.getElem?_map, h1]; rfl, h2⟩
end
section
variable {X : Cx} {Ω : Ev} {Wx : WX}
def tmBase (f : FU) (u : TMA) : TMS := fun ρ C => ∃ c fs, ownI ρ 0 = some (c, fs) ∧ u ρ (fun rs => ∃ ms, ms? rs = some ms ∧ f c fs (ms.map R.v) (fun fs' => C.nx (ρ.set 0 (.o true (.ins c fs'))))) (fun er m => C.ex er m ρ)
end
end PL
namespace PL
open PySem PySem.Spec PyProof.Rows L2 KW
end PL
namespace PL
open PySem PySem.Spec PyProof.Rows L2 KW
end PL
namespace PL
open PySem PySem.Spec PyProof.Rows L2 KW
section
variable {X : Cx} {Ω : Ev} {Wx : WX}
def semMulS : R → R → (R → Prop) → Prop := fun a b Q => match a, b with
  | .v (.str s), .v (.int k) => s.length ≤ 100 ∧ 0 ≤ k ∧ k ≤ 1000 ∧ Q (.v (.str (List.replicate k.toNat s).flatten))
  | _, _ => False
def tmExtendT (i : Nat) (t : TM) : TMS := fun ρ C => ∃ xs, ownL ρ i = some xs ∧ t ρ (fun r => ∃ ys, r.m? = some (.tup ys) ∧ xs.length + ys.length ≤ 100000 ∧ C.nx (ρ.set i (.o true (.lst (xs ++ ys))))) (fun er m => C.ex er m ρ)
end
end PL
namespace KG
open PySem PySem.Spec PySem.Froz PyProof.Rows L2
/-- a kind of keys by which the table of a set may look -/
structure HX {P : Program} {w : World} {K : Type} [DecidableEq K] (kd : HeapKind P w K) : Prop where
  room : ∀ A : Around, A.units < cLine → kd.room A
  stay : ∀ {h h' : Heap} {k : K} {b : Addr}, kd.is h k b → (∀ o, h.get? b = some o → h'.get? b = some o) → kd.is h' k b
  there : ∀ {h : Heap} {k : K} {b : Addr}, kd.is h k b → ∃ o, h.get? b = some o ∧ ∀ es ep t, o.data ≠ .set es ep t
  cls : ∀ {A : Around} {E : Value → Shared → Prop} {s : Shared} {k : K} {b : Addr} {Q : Bool → Shared → Prop}, kd.is s.heap k b → Q false s → wpAny (model P w) A (ofAClassStatement 8 (.ref b)) Q E s
  val : ∀ {A : Around} {E : Value → Shared → Prop} {s : Shared} {k : K} {b : Addr} {Q : Bool → Shared → Prop}, kd.is s.heap k b → (∀ v, Q v s) → wpAny (model P w) A (hashByValue 8 (.ref b)) Q E s
abbrev stp (m : Nat) (h : Int) (c : Nat) : SetTable.Probe := nth m (runAt m (SetTable.bits h % (m + 1)) (SetTable.bits h)) c
section
variable {P : Program} {w : World} {K : Type} [DecidableEq K] {kd : HeapKind P w K} {A : Around} {E : Value → Shared → Prop} {s : Shared}
def rws (kd : HeapKind P w K) (L : List (Addr × K)) : List (Int × Value) := L.map fun p => (kd.hash p.2, Value.ref p.1)
abbrev hsh (kd : HeapKind P w K) (L : List (Addr × K)) : List Int := L.map fun p => kd.hash p.2
structure SG (kd : HeapKind P w K) (h : Heap) (a : Addr) (L : List (Addr × K)) (es : Array (Int × Value)) (ep : Nat) (t : SetTable) : Prop where
  ob : ∃ o, h.get? a = some o ∧ o.ExactSet ∧ o.data = .set es ep t
  rows : es.toList = rws kd L
  tab : TabOk t (hsh kd L)
  nd : (L.map (·.2)).Nodup
  has : ∀ p ∈ L, kd.is h p.2 p.1
  led : w.params.followText "set-order" = true ∨ t.led = true
  room : L.length * 5 < t.mask * 3
  few : L.length < 64
variable {a : Addr} {L : List (Addr × K)} {es : Array (Int × Value)} {ep : Nat} {t : SetTable}
theorem HX.same (X : HX kd) {h h' : Heap} {k : K} {a b : Addr} {o : Obj} {es : Array (Int × Value)} {ep : Nat} {t : SetTable} (hb : kd.is h k b) (ho : h.get? a = some o) (hd : o.data = .set es ep t) (sb : Heap.SameBut a h h') : kd.is h' k b :=
  X.stay hb fun o' e => (sb.2 b (fun z => by
    obtain ⟨o2, e2, n⟩ := X.there hb
    subst z
    rw [ho] at e2
    cases e2
    exact n _ _ _ hd)).trans e
end
end KG
namespace KG
open PySem PySem.Spec PySem.Froz PyProof.Rows L2
section
variable {P : Program} {w : World} {K : Type} [DecidableEq K] {kd : HeapKind P w K} {A : Around} {E : Value → Shared → Prop} {s : Shared}
/-- what the set has after some of the items: each key once -/
structure Had (ks : List (Addr × K)) (i : Nat) (L : List (Addr × K)) : Prop where
  sub : ∀ p ∈ L, p ∈ ks.take i
  all : ∀ p ∈ ks.take i, p.2 ∈ L.map (·.2)
theorem Had.next {ks L L' : List (Addr × K)} {i : Nat} {x : Addr × K} (g : Had ks i L) (h : ks[i]? = some x) (c1 : x.2 ∈ L.map (·.2) → L' = L) (c2 : x.2 ∉ L.map (·.2) → L'.Perm (x :: L)) : Had ks (i + 1) L' := by
  have e : ks.take (i + 1) = ks.take i ++ [x] := by rw [List.take_succ, h] <;> rfl
  by_cases c : x.2 ∈ L.map (·.2)
  · rw [c1 c]
    refine ⟨fun p hp => by rw [e]; exact List.mem_append_left _ (g.sub p hp), fun p hp => ?_⟩
    rw [e] at hp
    rcases List.mem_append.mp hp with z | z
    · exact g.all p z
    · rw [List.mem_singleton.mp z]; exact c
  · have pm := c2 c
    refine ⟨fun p hp => ?_, fun p hp => ?_⟩
    · rw [e]
      rcases List.mem_cons.mp (pm.mem_iff.mp hp) with rfl | z
      · exact List.mem_append_right _ (List.mem_singleton.mpr rfl)
      · exact List.mem_append_left _ (g.sub p z)
    · rw [(pm.map (·.2)).mem_iff, List.map_cons]
      rw [e] at hp
      rcases List.mem_append.mp hp with z | z
      · exact List.mem_cons_of_mem _ (g.all p z)
      · rw [List.mem_singleton.mp z]; exact List.mem_cons_self
theorem SG.keep (X : HX kd) {h h' : Heap} {a : Addr} {L : List (Addr × K)} {es : Array (Int × Value)} {ep : Nat} {t : SetTable} (R : SG kd h a L es ep t) (k : ∀ o, h.get? a = some o → h'.get? a = some o) (has : ∀ p ∈ L, kd.is h' p.2 p.1) : SG kd h' a L es ep t := by
  obtain ⟨o, ho, r⟩ := R.ob
  exact ⟨⟨o, k o ho, r⟩, R.rows, R.tab, R.nd, has, R.led, R.room, R.few⟩
theorem SG.fresh {h : Heap} {a : Addr} (ho : h.get? a = some { cls := .type "set", dict := none, data := .set #[] 0 (.fresh 0 0 (!w.params.followText "set-order")) }) : SG kd h a [] #[] 0 (.fresh 0 0 (!w.params.followText "set-order")) where
  ob := ⟨_, ho, ⟨rfl, rfl, rfl⟩, rfl⟩
  rows := rfl
  tab := ⟨List.Pairwise.nil, rfl, rfl, .inl rfl, fun x hx => (by cases hx), fun i h j hi => (by simp at hi)⟩
  nd := List.nodup_nil
  has := fun p hp => (by cases hp)
  led := by
    show _ ∨ (!w.params.followText "set-order") = true
    cases w.params.followText "set-order"
    · exact .inr rfl
    · exact .inl rfl
  room := show 0 * 5 < 7 * 3 by decide
  few := show 0 < 64 by decide
end
end KG
namespace PL
open PySem PySem.Spec PyProof.Rows L2 KW
end PL
namespace PL
open PySem PySem.Spec PyProof.Rows L2 KW
end PL
namespace PL
open PySem PySem.Spec PyProof.Rows L2 KW
structure MakG (P : Program) (w : World) (Ω : Ev) (mg : Str → Option Value) (base : Heap) (k : Nat) (x : Str) (c : Nat) (f : FI) (ps : List Str) (B : FuncData → Prop) : Prop where
  ex : ∃ fa fd, Mk Ω.K (Ω.cs c) fa ∧ FnOk P w Ω.K mg base (L2N.CX P w) k fa fd ps (spI Ω c f) ∧ mg x = some (.ref (Ω.cs c)) ∧ B fd
  has : Ω.has c
/-- .. the last ones left out, ms stand for them -/
structure MakD (P : Program) (w : World) (Ω : Ev) (mg : Str → Option Value) (base : Heap) (k : Nat) (x : Str) (c : Nat) (f : FI) (ms : List M) : Prop where
  ex : ∃ fa fd ps dv ds, Mk Ω.K (Ω.cs c) fa ∧ FnOk P w Ω.K mg base (L2N.CX P w) k fa fd ps (spI Ω c f) ∧ mg x = some (.ref (Ω.cs c)) ∧ Vals dv ds ∧ Binds Ω.K fd ps ds ∧ ∀ H, RpL Ω H dv ms
  has : Ω.has c
section
variable {P : Program} {w : World} {Ω : Ev} {mg : Str → Option Value} {base : Heap}
theorem MakD.mono {j k : Nat} {x : Str} {c : Nat} {f : FI} {ms : List M} (m : MakD P w Ω mg base j x c f ms) (h : j ≤ k) : MakD P w Ω mg base k x c f ms := by
  obtain ⟨fa, fd, ps, dv, ds, M, F, r⟩ := m.ex
  exact ⟨⟨fa, fd, ps, dv, ds, M, F.mono h, r⟩, m.has⟩
theorem MakG.m {k : Nat} {x : Str} {c : Nat} {f : FI} {ps : List Str} {B : FuncData → Prop} (m : MakG P w Ω mg base k x c f ps B) (h : ∀ fd, B fd → Binds Ω.K fd ps []) : MakM P w Ω mg base k x c f := by
  obtain ⟨fa, fd, M, F, hm, b⟩ := m.ex
  exact ⟨⟨fa, fd, ps, M, F, hm, h _ b⟩, m.has⟩
end
end PL
namespace PL
open PySem PySem.Spec PyProof.Rows L2 KW
end PL
namespace PL
open PySem PySem.Spec PyProof.Rows L2 KW
end PL
local macro_rules
  | `(tactic| simp? [$ls,*]) => `(tactic| simp [PL.tmV, PL.tmC, PL.tmOp, PL.tmB, PL.tmAnd, PL.tmOr, PL.tmNot, PL.tmAndV, PL.tmOrV, PL.tmNotV, PL.tmIf, PL.tmNil, PL.tmCons, PL.tmTup, PL.tmLst, PL.tmON, PL.tmOS, PL.tmSl, PL.tmFld, PL.tmCall, PL.tmMakeSt, PL.tmBinO, PL.tmMethO, PL.semSortT, PL.tmFill, PL.act2, PL.emS, PL.tmNext, PL.tmSeq, PL.tmSet, PL.tmPar, PL.tmPar3, PL.tmIfS, PL.tmRet, PL.tmDrop, PL.tmIter, PL.tmRange1, PL.tmRange2, PL.tmEnum, PL.tmZip, PL.tmZipS, PL.tmRev, PL.tmFor, PL.tmLc, PL.tmYes, PL.tmCallB, PL.tmChain, PL.tmJoin, PL.tmAppend, PL.semAdd, PL.semInt, PL.semMul, PL.semOrd, PL.semIs, PL.semIx, PL.semSl, PL.semFld, PL.semLen, PL.semInt1, PL.semList, PL.semTuple, PL.semAll, PL.semJoin, PL.put, PL.free, PL.nofeed, PL.noOwn, PL.retM, PL.co, PL.R.lst?, PL.R.seq?, PL.R.m?, PL.R.its?, PL.R.isN, PL.ms?, PL.wipeR, PL.tgN, PL.tgT, PL.tgT4, PL.ownL, PL.endC, PL.tmIsiC, PL.tmIsiB, PL.tmIsiTL, PL.ty_v, PL.ty_o, PL.ty_f, PL.isC_ty, PL.isB_str, PL.isB_bool, PL.isB_int, PL.isB_list, PL.isB_tuple, PL.isTL_ty, PL.isM_tab, PL.semEq, PL.semNe, PL.semIn, PL.R.mv?, PL.M.seq?, PL.tmMake, PL.tmDnew, PL.semSum, PL.semSort0, PL.nums, PL.tmExtend, PL.tmApop, PL.tmSetIx, PL.tmTurned, PL.tmFrz, PL.frz, PL.tmRetN, PL.tmNevE, PL.tmNever, PL.semStr, PL.tmNotD, PL.tmIxD, PL.inM_cons, PL.inM_nil, PL.at_0, PL.at_1, PL.at_2, PL.eqM_ss, PL.eqM_ii, PL.eqM_bb, PL.nOk_ii, PL.nOk_ss, PL.nOk_bb, PL.fldS_0, PL.at0_name, PL.at0_ways, PL.at1_kind, PL.at1_word, PL.at1_step, PL.at1_parts, PL.at1_names, PL.at1_steps, PL.at1_marks, PL.at1_text, PL.at2_word, PL.at2_steps, PL.at3_steps, PL.at4_entries, PL.at4_steps, PL.at5_name, PL.at5_expr, PL.at5_key, PL.at5_names, PL.at5_steps, PL.at5_told, PL.at6_name, PL.at6_expr, PL.at6_key, PL.at6_names, PL.at6_steps, PL.at6_told, PL.at7_name, PL.at7_expr, PL.at7_key, PL.at7_names, PL.at7_steps, PL.at7_told, PL.at8_word, PL.at8_key, PL.at8_names, PL.at8_steps, PL.at8_told, PL.at9_left, PL.at9_right, PL.at9_rows, PL.at9_others, PL.at9_key, PL.at9_names, PL.at9_steps, PL.at9_told, PL.at10_rows, PL.at10_key, PL.at10_names, PL.at10_steps, PL.at10_told, PL.at11_rows, PL.at11_names, PL.at11_steps, PL.at11_words, PL.at11_weight, PL.tmRaise, PL.initC, PL.tmFgt, PL.fgt, PL.tmCut, PL.tmFill, PL.emD, PL.act2, PL.tmIxK, PL.tmDput, PL.tmInsert, PL.tmSetdNe, PL.semSort, PL.semListD, PL.tmUnp, PL.tmLcX, PL.tmCallO, PL.tmBinE, PL.tmBin2, PL.tmPw, PL.semMulT, PL.tmFmt, PL.tmJs, PL.tmF, PL.tmDnewT, PL.tmIxT, PL.tmDputT, PL.ownT, PL.semSortP, PL.R.dt?, PL.semDict, PL.semOne, PL.semInO, PL.R.dk?, PL.ownD, PL.tmKeys, PL.tmBinV, PL.tmSortK, PL.tmCon, PL.tmFmtO, PL.semSetT, PL.tmIsiA, PL.isA_ty, PL.isAM, PL.tmStar, PL.tmBase, PL.emL, PL.tmExtendT, PL.semMulS, $ls,*])
namespace PL
open PySem PySem.Spec PyProof.Rows L2 KW
/-- what a def is handed as a row -/
def R.arg? : R → Option (List M)
  | .v (.lst xs) => some xs
  | .v (.tup xs) => some xs
  | .o _ (.lst xs) => some xs
  | _ => none
section
variable {P : Program} {w : World} {Ω : Ev} {mg : Str → Option Value} {base : Heap} {n d : Nat} {cl : M → Bool}
def pickF : FM := fun rs Q _ => match rs with
  | [.o _ .feed, .v (.str l)] => l ≠ [] ∧ l.length ≤ 100000 ∧ ∀ c ∈ l, Q (.v (.str [c]))
  | [.o _ .feed, r] => match r.arg? with
    | some xs => xs ≠ [] ∧ xs.length ≤ 100000 ∧ ∀ m ∈ xs, Q (.v m)
    | none => False
  | _ => False
theorem atI_in {α : Type} {xs : List α} {r : Int} (h0 : 0 ≤ r) (h1 : r < (xs.length : Nat)) : ∃ m, L2.atI xs r = some m ∧ m ∈ xs := by
  have hr : r.toNat < xs.length := by omega
  exact ⟨xs[r.toNat], at_ofN (by omega) (List.getElem?_eq_getElem hr), List.getElem_mem hr⟩
theorem p_pick {k : Nat} (B : Bi mg) (D : Df Ω.K mg "_law_pick" s__law_pick ["_law_feed_here", "_law_items"]) (G_law_draw : CalM P w Ω mg base k "_law_draw" drawF) : CalM P w Ω mg base (k + 1) "_law_pick" pickF := by
  refine calM D sc__law_pick (fun rs Q x h => ?_) (fun fa cdv A outer s H E hr => (pms_one (pms_ret (pm_ix (ixm rfl) (pm_var (pv 1)) (pm_call G_law_draw rfl (L2N.takes_of rfl rfl rfl rfl) hr (by omega) rfl (pm_cons (pm_var (pv 0)) (pm_cons (pm_callB (cm_len rfl) rfl B.len PySem.boot_len (pm_cons (pm_var (pv 1)) pm_nil)) pm_nil))) (fun _ _ => rfl))))) (fun rs Q x h => ?_)
  · unfold pickF at h
    split at h
    · rfl
    · rfl
    · exact h.elim
  · unfold pickF at h
    split at h
    · obtain ⟨h0, hl, h⟩ := h
      rename_i l
      have h1 : 0 < l.length := List.length_pos_iff.mpr h0
      simp? [drawF]
      refine ⟨by omega, by omega, fun r r0 r1 => ?_⟩
      obtain ⟨c, e, hc⟩ := atI_in (xs := l) r0 (by omega)
      exact ⟨c, e, h c hc⟩
    · split at h
      · rename_i xs e
        obtain ⟨h0, hl, h⟩ := h
        have h1 : 0 < xs.length := List.length_pos_iff.mpr h0
        have key : ∀ r : Int, 0 ≤ r → r < xs.length → ∃ m, L2.atI xs r = some m ∧ Q (.v m) := fun r r0 r1 => by
          obtain ⟨c, e, hc⟩ := atI_in (xs := xs) r0 (by omega)
          exact ⟨c, e, h c hc⟩
        unfold R.arg? at e
        split at e <;> cases e <;> simp? [drawF] <;> exact ⟨by omega, by omega, key⟩
      · exact h.elim
    · exact h.elim
def abcL : List Nat := abc
def pmqL : List Nat := pmq
/-- a name's test, of any value -/
def nameM : M → Bool
  | .str l => nmB l
  | _ => false
def waysM : M → Bool
  | .str l => wyB l
  | _ => false
def boolF (f : M → Bool) : FM := fun rs Q _ => match rs with
  | [.v m] => Q (.v (.bl (f m)))
  | _ => False
theorem lcM_signs {tg : TMG} {te : TM} {ρ : List R} (p : Nat → Bool) {Q : List M → Prop} {l : List Nat} (h : ∀ c ∈ l, ∀ K : M → Prop, K (.bl (p c)) → tg (.str [c]) ρ fun ρ' => te ρ' (fun r => ∃ y, r.m? = some y ∧ K y) X1) (hl : l.length ≤ 100000) (q : Q ((l.map p).map M.bl)) : lcM tg tmYes te ρ (l.map fun c => .str [c]) [] Q := by
  refine lcM_map (fun m => match m with
    | .str [c] => .bl (p c)
    | _ => .non) (fun m hm K hK => ?_) (by rw [List.length_map]; exact hl) ?_
  · obtain ⟨c, hc, rfl⟩ := List.mem_map.mp hm
    exact h c hc K hK
  · rw [List.map_map]
    rw [List.map_map] at q
    exact q
theorem cOk_flat {m m' : M} (h1 : (match m with
    | .str _ => true
    | .int _ => true
    | .bl _ => true
    | .non => true
    | _ => false) = true) (h2 : (match m' with
    | .obj _ _ => false
    | .dct _ _ => false
    | .err _ _ => false
    | _ => true) = true) (hd : 1 ≤ d) : cOk cl d m m' = true := by
  obtain ⟨d, rfl⟩ : ∃ e, d = e + 1 := ⟨d - 1, by omega⟩
  cases m <;> cases m' <;> first
    | rfl
    | (cases h1; done)
    | (cases h2; done)
theorem inM_strs (x : List Nat) (ls : List (List Nat)) : inM (.str x) (ls.map M.str) = ls.contains x := by
  induction ls with
  | nil => rfl
  | cons y r ih =>
    unfold inM at ih ⊢
    rw [List.map_cons, List.any_cons, ih, List.contains_cons]
    congr 1
    simp only [eqM]
    rw [Bool.eq_iff_iff, decide_eq_true_iff, beq_iff_eq]
    exact ⟨Eq.symm, Eq.symm⟩
theorem isStr_no {m : M} (h : ∀ l, m ≠ .str l) : ∃ y, (R.v m).ty? = some y ∧ isB "str" y = false := by
  cases m with
  | str l => exact absurd rfl (h l)
  | non => exact ⟨_, rfl, by decide +kernel⟩
  | bl b => exact ⟨_, rfl, by decide +kernel⟩
  | int i => exact ⟨_, rfl, by decide +kernel⟩
  | lst xs => exact ⟨_, rfl, by decide +kernel⟩
  | tup xs => exact ⟨_, rfl, by decide +kernel⟩
  | obj c fs => exact ⟨_, rfl, rfl⟩
  | dct ks vs => exact ⟨_, rfl, by decide +kernel⟩
  | err e fs => exact ⟨_, rfl, by decide +kernel⟩
abbrev s_is_name : Stmt := topS 17
theorem sc_is_name : FnScope ["word", "letter"] ["word"] (defScope s_is_name) := ⟨rfl, rfl, rfl, by decide +kernel, rfl, by decide +kernel, by decide +kernel⟩
theorem p_is_name {k : Nat} (B : Bi mg) (C : NwC Ω.K mg) (EO : EvOk Ω) (EQ : EqP P w Ω mg base n d cl) (hk : n + d + 1 ≤ k) (hd : 1 ≤ d) (D : Df Ω.K mg "is_name" s_is_name ["word"]) : CalM P w Ω mg base (k + 1) "is_name" (boolF nameM) := by
  obtain ⟨tL, hLETTERS⟩ := C.letters
  obtain ⟨aK, hKEPT, hkept⟩ := C.kept
  rw [abc_eq, show S abc = S abcL from rfl] at hLETTERS
  have hKEPT_WORDS : mg "KEPT_WORDS" = some (.ref aK) ∧ ∀ H, Rp Ω H (.ref aK) (.tup [.str wIf, .str wElse, .str wEnd]) := ⟨hKEPT, fun H => .tup (hkept H) (.cons (.str (by decide)) (.cons (.str (by decide)) (.cons (.str (by decide)) .nil)))⟩
  refine calM D sc_is_name (fun rs Q x h => ?_) (fun fa cdv A outer s H E hr => (pms_cons (pms_if (PW.pt (pm_or (pm_not (pm_t (pm_isiB EO rfl rfl B.isinstance (kt_str rfl B.ty_str) (pm_var (pv 0))))) (pm_or1 (pm_not (pm_tchain om_le om_le pm_int (pm_callB (cm_len rfl) rfl B.len PySem.boot_len (pm_cons (pm_var (pv 0)) pm_nil)) pm_int))))) (pms_one (pms_ret pm_bl)) pms_nil)
      (pms_one (pms_ret (pm_andV (pm_callB (cm_all rfl rfl) rfl B.all (by decide +kernel) (pm_cons (pm_lc (own := [("letter", 1)]) rfl sc_is_name.nd (pm_iter false rfl (pm_var (pv 0))) (blkOk_by (own := [("letter", 1)]) (N := ["word", "letter"]) (sc := defScope s_is_name) (by decide +kernel)) (fun _ _ _ _ _ => (pmg_name [1] (by decide) (pg_name (i := 1) sc_is_name.nd rfl (Or.inl rfl)))) (fun _ _ _ _ _ => pmt_nil) (fun _ _ _ _ _ => (pm_cmp (om_in EQ rfl (hr.mono (by omega))) (pm_var (pv 1)) (pm_gstr rfl hLETTERS) rfl))) pm_nil)) (pm_one (pm_cmp (om_notin EQ rfl (hr.mono (by omega))) (pm_var (pv 0)) (pm_gref rfl hKEPT_WORDS) rfl))))))) (fun rs Q x h => ?_)
  · unfold boolF at h
    split at h
    · rfl
    · exact h.elim
  · unfold boolF at h
    split at h
    · rename_i m
      by_cases hm : ∃ l, m = .str l
      · obtain ⟨l, rfl⟩ := hm
        have hb : ∀ b, nmB l = b → Q (.v (.bl b)) := fun b e => by rw [← e]; exact h
        simp? [show kitB "str" "str" = some true by decide +kernel]
        split
        · split
          · refine lcM_signs (fun c => decide (c ∈ abcL)) (fun c _ K hK => ?_) (by omega) ?_
            · simp? []
              exact hK
            · refine ⟨_, bls_map _, ?_⟩
              have e : nmB l = ((l.all fun c => decide (c ∈ abcL)) && !([wIf, wElse, wEnd].contains l)) := by
                unfold nmB
                rw [decide_eq_true (by omega), decide_eq_true (by omega)]
                rfl
              split
              · rename_i hf
                refine hb false ?_
                rw [e, show (l.all fun c => decide (c ∈ abcL)) = false by rw [List.all_eq_false]; simpa using hf]
                rfl
              · rename_i hf
                refine ⟨⟨cOk_flat rfl rfl hd, cOk_flat rfl rfl hd, cOk_flat rfl rfl hd⟩, hb _ ?_⟩
                rw [e, show (l.all fun c => decide (c ∈ abcL)) = true by rw [List.all_eq_true]; simpa using hf, Bool.true_and]
                rw [← inM_strs]
                simp [inM_cons, inM_nil, eqM_ss]
          · exact hb false (by unfold nmB; rw [decide_eq_false (p := l.length ≤ 4) (by omega)]; simp)
        · exact hb false (by unfold nmB; rw [decide_eq_false (p := 1 ≤ l.length) (by omega)]; simp)
      · have hm' : ∀ l, m ≠ .str l := fun l e => hm ⟨l, e⟩
        obtain ⟨y, ey, eb⟩ := isStr_no hm'
        have h' : Q (.v (.bl false)) := by
          have : nameM m = false := by cases m <;> first | rfl | exact absurd rfl (hm' _)
          rw [← this]
          exact h
        simp only [tmSeq, tmIfS, tmOr, tmNot, tmB, tmIsiB, tmV, tmRet, retM, endC, tmC, List.cons_append, List.nil_append, List.getElem?_cons_zero]
        refine ⟨y, ey, false, by rw [eb], ?_⟩
        simpa [tmV, tmC, tmOp, tmB, tmAnd, tmOr, tmNot, tmAndV, tmOrV, tmNotV, tmIf, tmNil, tmCons, tmTup, tmLst, tmON, tmOS, tmSl, tmFld, tmCall, tmMakeSt, tmBinO, tmMethO, semSortT, tmFill, act2, emS, tmNext, tmSeq, tmSet, tmPar, tmPar3, tmIfS, tmRet, tmDrop, tmIter, tmRange1, tmRange2, tmEnum, tmZip, tmZipS, tmRev, tmFor, tmLc, tmYes, tmCallB, tmChain, tmJoin, tmAppend, semAdd, semInt, semMul, semOrd, semIs, semIx, semSl, semFld, semLen, semInt1, semList, semTuple, semAll, semJoin, put, free, nofeed, noOwn, retM, co, R.lst?, R.seq?, R.m?, R.its?, R.isN, ms?, wipeR, tgN, tgT, tgT4, ownL, endC, tmIsiC, tmIsiB, tmIsiTL, ty_v, ty_o, ty_f, isC_ty, isB_str, isB_bool, isB_int, isB_list, isB_tuple, isTL_ty, isM_tab, semEq, semNe, semIn, R.mv?, M.seq?, tmMake, tmDnew, semSum, semSort0, nums, tmExtend, tmApop, tmSetIx, tmTurned, tmFrz, frz, tmRetN, tmNevE, tmNever, semStr, tmNotD, tmIxD, inM_cons, inM_nil, at_0, at_1, at_2, eqM_ss, eqM_ii, eqM_bb, nOk_ii, nOk_ss, nOk_bb, fldS_0, at0_name, at0_ways, at1_kind, at1_word, at1_step, at1_parts, at1_names, at1_steps, at1_marks, at1_text, at2_word, at2_steps, at3_steps, at4_entries, at4_steps, at5_name, at5_expr, at5_key, at5_names, at5_steps, at5_told, at6_name, at6_expr, at6_key, at6_names, at6_steps, at6_told, at7_name, at7_expr, at7_key, at7_names, at7_steps, at7_told, at8_word, at8_key, at8_names, at8_steps, at8_told, at9_left, at9_right, at9_rows, at9_others, at9_key, at9_names, at9_steps, at9_told, at10_rows, at10_key, at10_names, at10_steps, at10_told, at11_rows, at11_names, at11_steps, at11_words, at11_weight, tmRaise, initC, tmFgt, fgt, tmCut, tmFill, emD, act2, tmIxK, tmDput, tmInsert, tmSetdNe, semSort, semListD, tmUnp, tmLcX, tmCallO, tmBinE, tmBin2, tmPw, semMulT, tmFmt, tmJs, tmF, tmDnewT, tmIxT, tmDputT, ownT, semSortP, R.dt?, semDict, semOne, semInO, R.dk?, ownD, tmKeys, tmBinV, tmSortK, tmCon, tmFmtO, semSetT, tmIsiA, isA_ty, isAM, tmStar, tmBase, emL, tmExtendT, semMulS] using h'
    · exact h.elim
abbrev s_are_ways : Stmt := topS 28
theorem sc_are_ways : FnScope ["ways", "way"] ["ways"] (defScope s_are_ways) := ⟨rfl, rfl, rfl, by decide +kernel, rfl, by decide +kernel, by decide +kernel⟩
theorem p_are_ways {k : Nat} (B : Bi mg) (C : NwC Ω.K mg) (EO : EvOk Ω) (EQ : EqP P w Ω mg base n d cl) (hk : n + d + 1 ≤ k) (hd : 1 ≤ d) (D : Df Ω.K mg "are_ways" s_are_ways ["ways"]) : CalM P w Ω mg base (k + 1) "are_ways" (boolF waysM) := by
  obtain ⟨tL, hWAYS⟩ := C.ways
  rw [pmq_eq, show S pmq = S pmqL from rfl] at hWAYS
  refine calM D sc_are_ways (fun rs Q x h => ?_) (fun fa cdv A outer s H E hr => (pms_one (pms_ret (pm_andV (pm_isiB EO rfl rfl B.isinstance (kt_str rfl B.ty_str) (pm_var (pv 0))) (pm_andV (pm_chain om_le om_le pm_int (pm_callB (cm_len rfl) rfl B.len PySem.boot_len (pm_cons (pm_var (pv 0)) pm_nil)) pm_int) (pm_one (pm_callB (cm_all rfl rfl) rfl B.all (by decide +kernel) (pm_cons (pm_lc (own := [("way", 1)]) rfl sc_are_ways.nd (pm_iter false rfl (pm_var (pv 0))) (blkOk_by (own := [("way", 1)]) (N := ["ways", "way"]) (sc := defScope s_are_ways) (by decide +kernel)) (fun _ _ _ _ _ => (pmg_name [1] (by decide) (pg_name (i := 1) sc_are_ways.nd rfl (Or.inl rfl)))) (fun _ _ _ _ _ => pmt_nil) (fun _ _ _ _ _ => (pm_cmp (om_in EQ rfl (hr.mono (by omega))) (pm_var (pv 1)) (pm_gstr rfl hWAYS) rfl))) pm_nil)))))))) (fun rs Q x h => ?_)
  · unfold boolF at h
    split at h
    · rfl
    · exact h.elim
  · unfold boolF at h
    split at h
    · rename_i m
      by_cases hm : ∃ l, m = .str l
      · obtain ⟨l, rfl⟩ := hm
        have hb : ∀ b, wyB l = b → Q (.v (.bl b)) := fun b e => by rw [← e]; exact h
        simp? [show kitB "str" "str" = some true by decide +kernel]
        split
        · split
          · refine lcM_signs (fun c => decide (c ∈ pmqL)) (fun c _ K hK => ?_) (by omega) ?_
            · simp? []
              exact hK
            · refine ⟨_, bls_map _, hb _ ?_⟩
              unfold wyB
              rw [decide_eq_true (by omega), decide_eq_true (by omega), all_map]
              rfl
          · exact hb false (by unfold wyB; rw [decide_eq_false (p := l.length ≤ 3) (by omega)]; simp)
        · exact hb false (by unfold wyB; rw [decide_eq_false (p := 1 ≤ l.length) (by omega)]; simp)
      · have hm' : ∀ l, m ≠ .str l := fun l e => hm ⟨l, e⟩
        obtain ⟨y, ey, eb⟩ := isStr_no hm'
        have h' : Q (.v (.bl false)) := by
          have : waysM m = false := by cases m <;> first | rfl | exact absurd rfl (hm' _)
          rw [← this]
          exact h
        simp only [tmAndV, tmIsiB, tmV, tmRet, retM, endC, tmC, List.cons_append, List.nil_append, List.getElem?_cons_zero]
        refine ⟨y, ey, false, by rw [eb], ?_⟩
        simpa [tmV, tmC, tmOp, tmB, tmAnd, tmOr, tmNot, tmAndV, tmOrV, tmNotV, tmIf, tmNil, tmCons, tmTup, tmLst, tmON, tmOS, tmSl, tmFld, tmCall, tmMakeSt, tmBinO, tmMethO, semSortT, tmFill, act2, emS, tmNext, tmSeq, tmSet, tmPar, tmPar3, tmIfS, tmRet, tmDrop, tmIter, tmRange1, tmRange2, tmEnum, tmZip, tmZipS, tmRev, tmFor, tmLc, tmYes, tmCallB, tmChain, tmJoin, tmAppend, semAdd, semInt, semMul, semOrd, semIs, semIx, semSl, semFld, semLen, semInt1, semList, semTuple, semAll, semJoin, put, free, nofeed, noOwn, retM, co, R.lst?, R.seq?, R.m?, R.its?, R.isN, ms?, wipeR, tgN, tgT, tgT4, ownL, endC, tmIsiC, tmIsiB, tmIsiTL, ty_v, ty_o, ty_f, isC_ty, isB_str, isB_bool, isB_int, isB_list, isB_tuple, isTL_ty, isM_tab, semEq, semNe, semIn, R.mv?, M.seq?, tmMake, tmDnew, semSum, semSort0, nums, tmExtend, tmApop, tmSetIx, tmTurned, tmFrz, frz, tmRetN, tmNevE, tmNever, semStr, tmNotD, tmIxD, inM_cons, inM_nil, at_0, at_1, at_2, eqM_ss, eqM_ii, eqM_bb, nOk_ii, nOk_ss, nOk_bb, fldS_0, at0_name, at0_ways, at1_kind, at1_word, at1_step, at1_parts, at1_names, at1_steps, at1_marks, at1_text, at2_word, at2_steps, at3_steps, at4_entries, at4_steps, at5_name, at5_expr, at5_key, at5_names, at5_steps, at5_told, at6_name, at6_expr, at6_key, at6_names, at6_steps, at6_told, at7_name, at7_expr, at7_key, at7_names, at7_steps, at7_told, at8_word, at8_key, at8_names, at8_steps, at8_told, at9_left, at9_right, at9_rows, at9_others, at9_key, at9_names, at9_steps, at9_told, at10_rows, at10_key, at10_names, at10_steps, at10_told, at11_rows, at11_names, at11_steps, at11_words, at11_weight, tmRaise, initC, tmFgt, fgt, tmCut, tmFill, emD, act2, tmIxK, tmDput, tmInsert, tmSetdNe, semSort, semListD, tmUnp, tmLcX, tmCallO, tmBinE, tmBin2, tmPw, semMulT, tmFmt, tmJs, tmF, tmDnewT, tmIxT, tmDputT, ownT, semSortP, R.dt?, semDict, semOne, semInO, R.dk?, ownD, tmKeys, tmBinV, tmSortK, tmCon, tmFmtO, semSetT, tmIsiA, isA_ty, isAM, tmStar, tmBase, emL, tmExtendT, semMulS] using h'
    · exact h.elim
end
end PL
namespace PL
open PySem PySem.Spec PyProof.Rows L2 KW
section
variable {P : Program} {w : World} {Ω : Ev} {mg : Str → Option Value} {base : Heap}
theorem nmB_len {l : List Nat} (h : nmB l = true) : 1 ≤ l.length ∧ l.length ≤ 4 := by
  unfold nmB at h
  simp only [Bool.and_eq_true, decide_eq_true_eq] at h
  omega
def wordF : FM := fun rs Q _ => match rs with
  | [.o _ .feed] => ∀ l : List Nat, nmB l = true → Q (.v (.str l))
  | _ => False
theorem rel_one {F : Fr} {vs : List V} {a : R} {H : Hp} (r : Rel Ω F (vs.map some) H [a]) : ∃ v, vs = [v] := by
  have h := r.len
  rw [List.length_map] at h
  match vs, h with
  | [v], _ => exact ⟨v, rfl⟩
theorem calM_word {k : Nat} (c : C8.Cal P w Ω.K mg base k "_law_word" spWord []) : CalM P w Ω mg base k "_law_word" wordF := by
  refine ⟨calUp c fun vs H Q E hh => ?_⟩
  obtain ⟨A0, Z, rs, Qm, xm, r, xl, kk, hf⟩ := hh
  unfold wordF at hf
  split at hf
  · obtain ⟨v, rfl⟩ := rel_one r
    obtain ⟨p, e1, e2, _⟩ := r.own 0 _ _ rfl
    cases e1
    exact ⟨p, rfl, e2, fun l H' hl f' kb => kk _ H' _ (r.feedStep (i := 0) rfl rfl f' kb) (rv (.str (Nat.le_trans hl.2.2.1 (by decide)))) trivial (hf l hl.b)⟩
  · exact hf.elim
def signF : FM := fun rs Q _ => match rs with
  | [.o _ .feed] => ∀ c : Nat, Q (.v (.str [c]))
  | _ => False
abbrev s__law_sign : Stmt := topS 42
theorem sc__law_sign : FnScope ["_law_feed_here", "_law_signs"] ["_law_feed_here"] (defScope s__law_sign) := ⟨rfl, rfl, rfl, by decide +kernel, rfl, by decide +kernel, by decide +kernel⟩
theorem p_sign {k : Nat} (D : Df Ω.K mg "_law_sign" s__law_sign ["_law_feed_here"]) (G_law_pick : CalM P w Ω mg base k "_law_pick" pickF) : CalM P w Ω mg base (k + 1) "_law_sign" signF := by
  refine calM D sc__law_sign (fun rs Q x h => ?_) (fun fa cdv A outer s H E hr => (pms_cons (pms_set (i := 1) sc__law_sign.nd rfl (Or.inl rfl) (pm_str " !\"#$&'()*+,-./0123456789:;<=>?@ABCDEFGHIJKLMNOPQRSTUVWXYZ"))
      (pms_cons (pms_set (i := 1) sc__law_sign.nd rfl (Or.inl rfl) (pm_op (om_add rfl) (pm_var (pv 1)) (pm_str "[\\]^_`abcdefghijklmnopqrstuvwxyz{|}~\n")))
      (pms_one (pms_ret (pm_call G_law_pick rfl (L2N.takes_of rfl rfl rfl rfl) hr (by omega) rfl (pm_cons (pm_var (pv 0)) (pm_cons (pm_var (pv 1)) pm_nil)))))))) (fun rs Q x h => ?_)
  · unfold signF at h
    split at h
    · rfl
    · exact h.elim
  · unfold signF at h
    split at h
    · simp? [pickF]
      exact ⟨by decide +kernel, by decide +kernel, by decide +kernel, fun c _ => h c⟩
    · exact h.elim
abbrev s__law_ways : Stmt := topS 46
theorem sc__law_ways : FnScope ["_law_feed_here", "_law_k"] ["_law_feed_here"] (defScope s__law_ways) := ⟨rfl, rfl, rfl, by decide +kernel, rfl, by decide +kernel, by decide +kernel⟩
def waysF : FM := fun rs Q _ => match rs with
  | [.o _ .feed] => ∀ l : List Nat, wyB l = true → Q (.v (.str l))
  | _ => False
/-- signs drawn one by one -/
theorem lcM_drawn {tg : TMG} {te : TM} {ρ : List R} (cs : List Nat) {n : Nat} {Q : List M → Prop} {ms : List M} (h : ∀ m ∈ ms, ∀ K : M → Prop, (∀ c ∈ cs, K (.str [c])) → tg m ρ fun ρ' => te ρ' (fun r => ∃ y, r.m? = some y ∧ K y) X1) (hn : ms.length = n) (hl : n ≤ 100000) (q : ∀ l : List Nat, l.length = n → (∀ c ∈ l, c ∈ cs) → Q (l.map fun c => .str [c])) : lcM tg tmYes te ρ ms [] Q := by
  refine lcM_inv (fun i acc => ∃ l : List Nat, l.length = i ∧ (∀ c ∈ l, c ∈ cs) ∧ acc = l.map fun c => .str [c]) ⟨[], rfl, by simp, rfl⟩ (fun i m acc e I N hN => ?_) (fun acc I => ?_)
  · obtain ⟨l, hl1, hc, rfl⟩ := I
    have hi : i < ms.length := (List.getElem?_eq_some_iff.mp e).1
    refine h m (List.mem_of_getElem? e) _ fun c hcm => ⟨by rw [List.length_map]; omega, hN _ ⟨l ++ [c], by simp [hl1], fun d hd => ?_, by simp⟩⟩
    rw [List.mem_append, List.mem_singleton] at hd
    rcases hd with hd | rfl
    · exact hc d hd
    · exact hcm
  · obtain ⟨l, hl1, hc, rfl⟩ := I
    exact q l (by omega) hc
theorem txs_signs (l : List Nat) : txs (l.map fun c => .str [c]) = some (l.map fun c => [c]) := by
  induction l with
  | nil => rfl
  | cons c r ih => rw [List.map_cons, txs, ih]; rfl
theorem jn_signs (l : List Nat) : jn [] (l.map fun c => [c]) = l := joinL_single l
theorem sum_signs (l : List Nat) : ((l.map fun c => [c]).map fun x => x.length).sum = l.length := by
  induction l with
  | nil => rfl
  | cons c r ih => rw [List.map_cons, List.map_cons, List.sum_cons, ih, List.length_cons]; simp; omega
theorem p_ways {k : Nat} (B : Bi mg) (D : Df Ω.K mg "_law_ways" s__law_ways ["_law_feed_here"]) (G_law_draw : CalM P w Ω mg base k "_law_draw" drawF) (G_law_pick : CalM P w Ω mg base k "_law_pick" pickF) : CalM P w Ω mg base (k + 1) "_law_ways" waysF := by
  refine calM D sc__law_ways (fun rs Q x h => ?_) (fun fa cdv A outer s H E hr => (pms_one (pms_ret (pm_join rfl (pm_str "") (pm_lc (own := [("_law_k", 1)]) rfl sc__law_ways.nd (pm_range1 false rfl B.range (pm_op (om_add rfl) pm_int (pm_call G_law_draw rfl (L2N.takes_of rfl rfl rfl rfl) hr (by omega) rfl (pm_cons (pm_var (pv 0)) (pm_cons pm_int pm_nil))))) (blkOk_by (own := [("_law_k", 1)]) (N := ["_law_feed_here", "_law_k"]) (sc := defScope s__law_ways) (by decide +kernel)) (fun _ _ _ _ _ => (pmg_name [1] (by decide) (pg_name (i := 1) sc__law_ways.nd rfl (Or.inl rfl)))) (fun _ _ _ _ _ => pmt_nil) (fun _ _ _ _ _ => (pm_call G_law_pick rfl takes0N hr (by omega) rfl (pm_cons (pm_var (pv 0)) (pm_cons (pm_str "+-?") pm_nil))))))))) (fun rs Q x h => ?_)
  · unfold waysF at h
    split at h
    · rfl
    · exact h.elim
  · unfold waysF at h
    split at h
    · simp? [pickF, drawF]
      intro r r0 r1
      refine ⟨by omega, by omega, lcM_drawn pmqL (n := (1 + r).toNat) (fun m _ K hK => ?_) (by simp) (by omega) fun l hl hc => ⟨_, txs_signs l, ?_⟩⟩
      · simp? [pickF]
        exact ⟨by decide +kernel, by decide +kernel, hK⟩
      · rw [show tx "" = [] from rfl, jn_signs]
        refine ⟨by rw [sum_signs]; simp; omega, by omega, h l ?_⟩
        exact Wy.b ⟨hc, by omega, by omega⟩
    · exact h.elim
abbrev s__law_bent : Stmt := topS 43
theorem sc__law_bent : FnScope ["_law_feed_here", "_law_text", "_law_at", "_law_way", "_law_sign_here"] ["_law_feed_here", "_law_text"] (defScope s__law_bent) := ⟨rfl, rfl, rfl, by decide +kernel, rfl, by decide +kernel, by decide +kernel⟩
def bentF : FM := fun rs Q _ => match rs with
  | [.o _ .feed, .v (.str l)] => l.length ≤ 30000 ∧ ∀ l' : List Nat, l'.length ≤ l.length + 1 → Q (.v (.str l'))
  | _ => False
theorem p_bent {k : Nat} (B : Bi mg) (EO : EvOk Ω) {n d : Nat} {cl : M → Bool} (EQ : EqP P w Ω mg base n d cl) (hk : n + d + 1 ≤ k) (hd : 1 ≤ d) (D : Df Ω.K mg "_law_bent" s__law_bent ["_law_feed_here", "_law_text"]) (G_law_draw : CalM P w Ω mg base k "_law_draw" drawF) (G_law_sign : CalM P w Ω mg base k "_law_sign" signF) : CalM P w Ω mg base (k + 1) "_law_bent" bentF := by
  refine calM D sc__law_bent (fun rs Q x h => ?_) (fun fa cdv A outer s H E hr => (pms_cons (pms_par3 rfl sc__law_bent.nd (i := 2) (j := 3) (l := 4) rfl rfl rfl  (by decide) (by decide) (by decide) rfl rfl rfl  (pm_call G_law_draw rfl (L2N.takes_of rfl rfl rfl rfl) hr (by omega) rfl (pm_cons (pm_var (pv 0)) (pm_cons (pm_op (om_add rfl) (pm_callB (cm_len rfl) rfl B.len PySem.boot_len (pm_cons (pm_var (pv 1)) pm_nil)) pm_int) pm_nil))) (pm_call G_law_draw rfl (L2N.takes_of rfl rfl rfl rfl) hr (by omega) rfl (pm_cons (pm_var (pv 0)) (pm_cons pm_int pm_nil))) (pm_call G_law_sign rfl (L2N.takes_of rfl rfl rfl rfl) hr (by omega) rfl (pm_cons (pm_var (pv 0)) pm_nil)) (by rfl))
      (pms_cons (pms_if (pm_tcmp (om_eq EQ rfl (hr.mono (by omega))) (pm_var (pv 3)) pm_int (nomark _)) (pms_one (pms_ret (pm_op (om_add rfl) (pm_op (om_add rfl) (pm_slice rfl (pm_var (pv 1)) pm_on (pm_os (pm_var (pv 2)))) (pm_var (pv 4))) (pm_slice rfl (pm_var (pv 1)) (pm_os (pm_var (pv 2))) pm_on)))) pms_nil)
      (pms_cons (pms_if (pm_tcmp (om_eq EQ rfl (hr.mono (by omega))) (pm_var (pv 3)) pm_int (nomark _)) (pms_one (pms_ret (pm_op (om_add rfl) (pm_op (om_add rfl) (pm_slice rfl (pm_var (pv 1)) pm_on (pm_os (pm_var (pv 2)))) (pm_var (pv 4))) (pm_slice rfl (pm_var (pv 1)) (pm_os (pm_op (om_add rfl) (pm_var (pv 2)) pm_int)) pm_on)))) pms_nil)
      (pms_cons (pms_if (pm_tcmp (om_eq EQ rfl (hr.mono (by omega))) (pm_var (pv 3)) pm_int (nomark _)) (pms_one (pms_ret (pm_op (om_add rfl) (pm_slice rfl (pm_var (pv 1)) pm_on (pm_os (pm_var (pv 2)))) (pm_slice rfl (pm_var (pv 1)) (pm_os (pm_op (om_add rfl) (pm_var (pv 2)) pm_int)) pm_on)))) pms_nil)
      (pms_one (pms_ret (pm_op (om_add rfl) (pm_slice rfl (pm_var (pv 1)) pm_on (pm_os (pm_op (om_add rfl) (pm_var (pv 2)) pm_int))) (pm_slice rfl (pm_var (pv 1)) (pm_os (pm_var (pv 2))) pm_on))))))))) (fun rs Q x h => ?_)
  · unfold bentF at h
    split at h
    · rfl
    · exact h.elim
  · unfold bentF at h
    split at h
    · rename_i l
      obtain ⟨hl, h⟩ := h
      simp? [drawF, signF, cOk_ii hd, eqM_ii]
      refine ⟨by omega, fun r r0 r1 wy _ _ c => ?_⟩
      obtain ⟨r, rfl⟩ : ∃ e : Nat, r = (e : Int) := ⟨r.toNat, by omega⟩
      simp only [cut_to, cut_from, cut_to1, cut_from1, List.length_take, List.length_drop]
      refine ite3 (fun _ => ?_) fun _ => ite3 (fun _ => ?_) fun _ => ite3 (fun _ => ?_) fun _ => ?_
      · exact ⟨by omega, by omega, by omega, by omega, h _ (by simp; omega)⟩
      · exact ⟨by omega, by omega, by omega, by omega, h _ (by simp; omega)⟩
      · exact ⟨by omega, by omega, by omega, h _ (by simp; omega)⟩
      · exact ⟨by omega, by omega, by omega, h _ (by simp; omega)⟩
    · exact h.elim
abbrev s__law_near_name : Stmt := topS 44
theorem sc__law_near_name : FnScope ["_law_feed_here", "_law_letters", "_law_way", "_law_k"] ["_law_feed_here"] (defScope s__law_near_name) := ⟨rfl, rfl, rfl, by decide +kernel, rfl, by decide +kernel, by decide +kernel⟩
def nearF : FM := fun rs Q _ => match rs with
  | [.o _ .feed] => ∀ l : List Nat, l.length ≤ 10 → Q (.v (.str l))
  | _ => False
theorem p_near {k : Nat} (B : Bi mg) (EO : EvOk Ω) {n d : Nat} {cl : M → Bool} (EQ : EqP P w Ω mg base n d cl) (hk : n + d + 1 ≤ k) (hd : 1 ≤ d) (D : Df Ω.K mg "_law_near_name" s__law_near_name ["_law_feed_here"]) (G_law_draw : CalM P w Ω mg base k "_law_draw" drawF) (G_law_pick : CalM P w Ω mg base k "_law_pick" pickF) (G_law_word : CalM P w Ω mg base k "_law_word" wordF) (G_law_bent : CalM P w Ω mg base k "_law_bent" bentF) : CalM P w Ω mg base (k + 1) "_law_near_name" nearF := by
  refine calM D sc__law_near_name (fun rs Q x h => ?_) (fun fa cdv A outer s H E hr => (pms_cons (pms_set (i := 1) sc__law_near_name.nd rfl (Or.inr rfl) (pm_str "abcdefghijklmnopqrstuvwxyz"))
      (pms_cons (pms_set (i := 2) sc__law_near_name.nd rfl (Or.inl rfl) (pm_call G_law_draw rfl (L2N.takes_of rfl rfl rfl rfl) hr (by omega) rfl (pm_cons (pm_var (pv 0)) (pm_cons pm_int pm_nil))))
      (pms_cons (pms_if (pm_tcmp (om_eq EQ rfl (hr.mono (by omega))) (pm_var (pv 2)) pm_int (nomark _)) (pms_one (pms_ret (pm_call G_law_pick rfl (L2N.takes_of rfl rfl rfl rfl) hr (by omega) rfl (pm_cons (pm_var (pv 0)) (pm_cons (pm_lst (pm_cons (pm_str "if") (pm_cons (pm_str "else") (pm_cons (pm_str "end") (pm_cons (pm_str "ends") (pm_cons (pm_str "els") (pm_cons (pm_str "still") (pm_cons (pm_str "lesser") (pm_cons (pm_str "") (pm_cons (pm_str "Abc") (pm_cons (pm_str "a1") pm_nil))))))))))) pm_nil))))) pms_nil)
      (pms_cons (pms_if (pm_tcmp (om_eq EQ rfl (hr.mono (by omega))) (pm_var (pv 2)) pm_int (nomark _)) (pms_one (pms_ret (pm_join rfl (pm_str "") (pm_lc (own := [("_law_k", 3)]) rfl sc__law_near_name.nd (pm_range1 false rfl B.range (pm_call G_law_draw rfl (L2N.takes_of rfl rfl rfl rfl) hr (by omega) rfl (pm_cons (pm_var (pv 0)) (pm_cons pm_int pm_nil)))) (blkOk_by (own := [("_law_k", 3)]) (N := ["_law_feed_here", "_law_letters", "_law_way", "_law_k"]) (sc := defScope s__law_near_name) (by decide +kernel)) (fun _ _ _ _ _ => (pmg_name [3] (by decide) (pg_name (i := 3) sc__law_near_name.nd rfl (Or.inl rfl)))) (fun _ _ _ _ _ => pmt_nil) (fun _ _ _ _ _ => (pm_call G_law_pick rfl takes0N hr (by omega) rfl (pm_cons (pm_var (pv 0)) (pm_cons (pm_var (pv 1)) pm_nil)))))))) pms_nil)
      (pms_cons (pms_if (pm_tcmp (om_eq EQ rfl (hr.mono (by omega))) (pm_var (pv 2)) pm_int (nomark _)) (pms_one (pms_ret (pm_call G_law_bent rfl (L2N.takes_of rfl rfl rfl rfl) hr (by omega) rfl (pm_cons (pm_var (pv 0)) (pm_cons (pm_call G_law_word rfl (L2N.takes_of rfl rfl rfl rfl) hr (by omega) rfl (pm_cons (pm_var (pv 0)) pm_nil)) pm_nil))))) pms_nil)
      (pms_one (pms_ret (pm_call G_law_word rfl (L2N.takes_of rfl rfl rfl rfl) hr (by omega) rfl (pm_cons (pm_var (pv 0)) pm_nil)))))))))) (fun rs Q x h => ?_)
  · unfold nearF at h
    split at h
    · rfl
    · exact h.elim
  · unfold nearF at h
    split at h
    · simp? [drawF, pickF, wordF, bentF, cOk_ii hd, eqM_ii]
      refine fun r r0 r1 => ite3 (fun _ => ?_) fun _ => ite3 (fun _ => ?_) fun _ => ite3 (fun _ => ?_) fun _ => ?_
      · simp [R.arg?]
        refine ⟨?_, ?_, ?_, ?_, ?_, ?_, ?_, ?_, ?_, ?_⟩ <;> exact h _ (by decide +kernel)
      · refine fun r r0 r1 => ⟨by omega, by omega, lcM_drawn abcL (n := r.toNat) (fun m _ K hK => ?_) (by simp) (by omega) fun l hl hc => ⟨_, txs_signs l, ?_⟩⟩
        · simp? [pickF]
          exact ⟨by decide +kernel, by decide +kernel, hK⟩
        · rw [show tx "" = [] from rfl, jn_signs]
          exact ⟨by rw [sum_signs]; simp; omega, by omega, h l (by omega)⟩
      · exact fun l hl => ⟨by have := nmB_len hl; omega, fun l' hl' => h _ (by have := nmB_len hl; omega)⟩
      · exact fun l hl => h _ (by have := nmB_len hl; omega)
    · exact h.elim
end
end PL
namespace PL
open PySem PySem.Spec PyProof.Rows L2 KW
section
variable {P : Program} {w : World} {Ω : Ev} {mg : Str → Option Value} {base : Heap} {n d : Nat} {cl : M → Bool}
/-- a class of the module -/
abbrev HC (Ω : Ev) (mg : Str → Option Value) (x : Str) (c : Nat) : Prop := mg x = some (.ref (Ω.cs c)) ∧ Ω.has c
/-- an error's class -/
abbrev ET (Ω : Ev) (mg : Str → Option Value) (x : Str) (er : Nat) : Prop := ErC Ω.K mg x (ef er) (Ω.ecs er) ∧ ef er = ef er
def stepI : FI := fun rs Q x => match rs with
  | [.v a, .v b] => if nameM a = false then x 0 (.str (tx "name")) else if waysM b = false then x 0 (.str (tx "ways")) else Q [("name", a), ("ways", b)]
  | _ => False
abbrev s_Step___init__ : Stmt := inClass (topS 29) 0
theorem sc_Step___init__ : FnScope ["self", "name", "ways"] ["self", "name", "ways"] (defScope s_Step___init__) := ⟨rfl, rfl, rfl, by decide +kernel, rfl, by decide +kernel, by decide +kernel⟩
theorem p_Step {k : Nat} (EO : EvOk Ω) (hc : Ω.has 0) (T_InvalidStep : ET Ω mg "InvalidStep" 0) (I_InvalidStep : ErI P w Ω.K mg base (ef 0) (Ω.ecs 0)) (D : Dc Ω.K mg (Ω.cs 0) "Step" "Step.__init__" s_Step___init__ ["self", "name", "ways"])
    (G_is_name : CalM P w Ω mg base k "is_name" (boolF nameM)) (G_are_ways : CalM P w Ω mg base k "are_ways" (boolF waysM)) (hk : 2 ≤ k) : MakM P w Ω mg base (k + 1) "Step" 0 stepI := by
  refine makM D sc_Step___init__ hc (fun rs Q x h => ?_) (fun fa cdv A outer s H E hr => (pms_cons (pms_if (pm_not (pm_t (pm_call G_is_name rfl (L2N.takes_of rfl rfl rfl rfl) hr (by omega) rfl (pm_cons (pm_var (pv 1)) pm_nil)))) (pms_one (pms_raise (k := 0) T_InvalidStep I_InvalidStep rfl (hr.mono (by omega)) rfl (L2N.takes_of rfl rfl rfl rfl) rfl (pm_str "name"))) pms_nil)
      (pms_cons (pms_if (pm_not (pm_t (pm_call G_are_ways rfl (L2N.takes_of rfl rfl rfl rfl) hr (by omega) rfl (pm_cons (pm_var (pv 2)) pm_nil)))) (pms_one (pms_raise (k := 0) T_InvalidStep I_InvalidStep rfl (hr.mono (by omega)) rfl (L2N.takes_of rfl rfl rfl rfl) rfl (pm_str "ways"))) pms_nil)
      (pms_cons (pms_fld EO rfl (pv 0) (pm_var (pv 1)))
      (pms_one (pms_fld EO rfl (pv 0) (pm_var (pv 2)))))))) (fun rs Q x h => ?_)
  · unfold stepI at h
    split at h
    · rfl
    · exact h.elim
  · unfold stepI at h
    split at h
    · simp? [boolF]
      refine ite3 (fun h1 => ?_) fun h1 => by rw [if_pos (by simpa using h1)] at h; exact h
      rw [if_neg (by simp [h1])] at h
      refine ite3 (fun h2 => ?_) fun h2 => by rw [if_pos (by simpa using h2)] at h; exact h
      rw [if_neg (by simp [h2])] at h
      exact ⟨by decide +kernel, by decide +kernel, h⟩
    · exact h.elim
/-- a step as it is made -/
def stepW : M → Bool
  | .obj 0 [.str n, .str u] => nmB n && wyB u
  | _ => false
abbrev s_Step___eq__ : Stmt := inClass (topS 29) 5
theorem sc_Step___eq__ : FnScope ["self", "other"] ["self", "other"] (defScope s_Step___eq__) := ⟨rfl, rfl, rfl, by decide +kernel, rfl, by decide +kernel, by decide +kernel⟩
theorem ty_obj {m : M} : (∃ c fs, m = .obj c fs ∧ (R.v m).ty? = some (.inr c)) ∨ ((∀ c fs, m ≠ .obj c fs) ∧ ∃ T, (R.v m).ty? = some (.inl T)) := by
  cases m with
  | obj c fs => exact .inl ⟨c, fs, rfl, rfl⟩
  | _ => exact .inr ⟨(fun _ _ z => nomatch z), _, rfl⟩
theorem eqM_nob {c : Nat} {fs : List M} {m : M} (h : ∀ c fs, m ≠ .obj c fs) : eqM (.obj c fs) m = false := by
  cases m with
  | obj d gs => exact absurd rfl (h d gs)
  | _ => simp [eqM]
theorem eqM_oo {c e : Nat} {fs gs : List M} (h : c ≠ e) : eqM (.obj c fs) (.obj e gs) = false := by
  simp [eqM, h]
theorem stepW_is {fs : List M} (h : stepW (.obj 0 fs) = true) : ∃ n u, fs = [.str n, .str u] ∧ nmB n = true ∧ wyB u = true := by
  unfold stepW at h
  split at h
  · rename_i e
    cases e
    rw [Bool.and_eq_true] at h
    exact ⟨_, _, rfl, h⟩
  · cases h
theorem p_StepEq {k : Nat} {cl' : M → Bool} (B : Bi mg) (EO : EvOk Ω) (H_Step : HC Ω mg "Step" 0) (EQ : EqP P w Ω mg base n d cl) (hk : n + d ≤ k) (hd : 1 ≤ d) (D : Dm Ω.K (Ω.cs 0) "__eq__" "Step.__eq__" s_Step___eq__ ["self", "other"]) (hcl : ∀ fs, cl' (.obj 0 fs) = true → stepW (.obj 0 fs) = true) : MetM P w Ω mg base (k + 1) 0 "__eq__" (eqF cl' 0) := by
  refine metM D sc_Step___eq__ (fun rs Q x h => ?_) (fun fa cdv A outer s H E hr => (pms_one (pms_ret (pm_andV (pm_isiC EO rfl rfl B.isinstance (c := 0) H_Step (pm_var (pv 1))) (pm_andV (pm_cmp (om_eq EQ rfl (hr.mono (by omega))) (pm_fld EO rfl (pm_var (pv 0)) rfl) (pm_fld EO rfl (pm_var (pv 1)) rfl) (nomark _)) (pm_one (pm_cmp (om_eq EQ rfl (hr.mono (by omega))) (pm_fld EO rfl (pm_var (pv 0)) rfl) (pm_fld EO rfl (pm_var (pv 1)) rfl) (nomark _)))))))) (fun rs Q x h => ?_)
  · unfold eqF at h
    split at h
    · rfl
    · exact h.elim
  · unfold eqF at h
    split at h
    · obtain ⟨⟨fs, rfl⟩, h1, h2, q⟩ := h
      rename_i m'
      obtain ⟨n1, u1, rfl, _, _⟩ := stepW_is (hcl fs h1)
      rcases ty_obj (m := m') with ⟨c, gs, rfl, ht⟩ | ⟨ho, T, ht⟩
      · by_cases c0 : c = 0
        · subst c0
          obtain ⟨n2, u2, rfl, _, _⟩ := stepW_is (hcl gs (by simpa [cOb, M.ob] using h2))
          simp? [cOk_ss hd, eqM_ss]
          by_cases e : n1 = n2
          · rw [if_pos e]
            subst e
            simpa [eqM, eqMk, dec] using q
          · rw [if_neg e]
            simpa [eqM, eqMk, dec, e] using q
        · simp? [c0]
          rw [eqM_oo (Ne.symm c0)] at q
          exact q
      · simp only [tmAndV, tmIsiC, tmV, tmRet, retM, endC, List.cons_append, List.nil_append, List.getElem?_cons_zero, List.getElem?_cons_succ]
        rw [eqM_nob ho] at q
        exact ⟨_, ht, false, rfl, q⟩
    · exact h.elim
end
end PL
namespace PL
open PySem PySem.Spec PyProof.Rows L2 KW
theorem stepW_ob {m : M} (h : stepW m = true) : ∃ n u, m = .obj 0 [.str n, .str u] ∧ nmB n = true ∧ wyB u = true := by
  unfold stepW at h
  split at h
  · rw [Bool.and_eq_true] at h
    exact ⟨_, _, rfl, h⟩
  · cases h
def waysOf : M → List Nat
  | .obj 0 [_, .str u] => u
  | _ => []
def nameOf : M → List Nat
  | .obj 0 [.str l, _] => l
  | _ => []
theorem jn_len (sep : List Nat) : ∀ ls : List (List Nat), (jn sep ls).length ≤ (ls.map (·.length)).sum + ls.length * sep.length
  | [] => by simp [jn, TL.joinL]
  | [a] => by simp [jn, TL.joinL]
  | a :: b :: r => by
    have ih := jn_len sep (b :: r)
    have e : jn sep (a :: b :: r) = a ++ (sep ++ jn sep (b :: r)) := rfl
    rw [e, List.length_append, List.length_append, List.map_cons, List.sum_cons, List.length_cons, Nat.succ_mul]
    omega
theorem names_sum {ms : List M} (h : ms.all stepW = true) : ((ms.map nameOf).map (·.length)).sum ≤ 4 * ms.length := by
  induction ms with
  | nil => simp
  | cons m r ih =>
    rw [List.all_cons, Bool.and_eq_true] at h
    obtain ⟨n, u, rfl, h1, h2⟩ := stepW_ob h.1
    have := ih h.2
    have := nmB_len h1
    rw [List.map_cons, List.map_cons, List.sum_cons, List.length_cons]
    simp only [nameOf]
    omega
end PL
namespace PL
open PySem PySem.Spec PyProof.Rows L2 KW
section
variable {P : Program} {w : World} {Ω : Ev} {mg : Str → Option Value} {base : Heap} {n d : Nat} {cl : M → Bool}
def counts : List (List Nat × Int) := [("up", (1 : Int)), ("down", 1), ("settled", 1), ("mean", 1), ("alike", 1), ("below", 2), ("back", 2)].map fun kv => (tx kv.1, kv.2)
/-- whether steps of such ways can have a trait -/
def fitM (l : List Nat) (us : List (List Nat)) : Bool :=
  if l = tx "up" ∨ l = tx "down" ∨ l = tx "settled" then decide (us = [tx "+"])
  else if l = tx "mean" then decide (us = [tx "++"])
  else if l = tx "alike" then decide (us = [tx "++"] ∨ us = [tx "--"] ∨ us = [tx "??"])
  else if l = tx "below" then decide (us.length = 2 ∧ us[0]? = us[1]?)
  else decide (us = [tx "+", tx "+"])
theorem counts_is {l : List Nat} {n : Nat} (h : counts.lookup l = some (n : Int)) : (n = 1 ∧ (l = tx "up" ∨ l = tx "down" ∨ l = tx "settled" ∨ l = tx "mean" ∨ l = tx "alike")) ∨ (n = 2 ∧ (l = tx "below" ∨ l = tx "back")) := by
  unfold counts at h
  simp only [List.map_cons, List.map_nil, List.lookup_cons, List.lookup_nil] at h
  repeat' split at h
  all_goals simp_all
  all_goals omega
theorem len_one {α : Type} {us : List α} (h : us.length = 1) : ∃ u, us = [u] := by
  match us, h with
  | [u], _ => exact ⟨u, rfl⟩
theorem len_two {α : Type} {us : List α} (h : us.length = 2) : ∃ u v, us = [u, v] := by
  match us, h with
  | [u, v], _ => exact ⟨u, v, rfl⟩
abbrev s_ways_fit : Stmt := topS 34
theorem sc_ways_fit : FnScope ["word", "ways"] ["word", "ways"] (defScope s_ways_fit) := ⟨rfl, rfl, rfl, by decide +kernel, rfl, by decide +kernel, by decide +kernel⟩
def fitF : FM := fun rs Q _ => ∃ l us, rs = [.v (.str l), .v (.lst (us.map M.str))] ∧ (∀ u ∈ us, wyB u = true) ∧ (counts.lookup l = some (us.length : Int)) ∧ Q (.v (.bl (fitM l us)))
theorem p_ways_fit {k : Nat} (B : Bi mg) (EO : EvOk Ω) (EQ : EqP P w Ω mg base n d cl) (hk : n + d + 1 ≤ k) (hd : 1 ≤ d) (D : Df Ω.K mg "ways_fit" s_ways_fit ["word", "ways"]) : CalM P w Ω mg base (k + 1) "ways_fit" fitF := by
  refine calM D sc_ways_fit (fun rs Q x h => ?_) (fun fa cdv A outer s H E hr => (pms_cons (pms_if (pm_tcmp (om_in EQ rfl (hr.mono (by omega))) (pm_var (pv 0)) (pm_tup (pm_cons (pm_str "up") (pm_cons (pm_str "down") (pm_cons (pm_str "settled") pm_nil)))) rfl) (pms_one (pms_ret (pm_cmp (om_eq EQ rfl (hr.mono (by omega))) (pm_ix (ixm rfl) (pm_var (pv 1)) pm_int (fun _ _ => rfl)) (pm_str "+") (nomark _)))) pms_nil)
      (pms_cons (pms_if (pm_tcmp (om_eq EQ rfl (hr.mono (by omega))) (pm_var (pv 0)) (pm_str "mean") (nomark _)) (pms_one (pms_ret (pm_cmp (om_eq EQ rfl (hr.mono (by omega))) (pm_ix (ixm rfl) (pm_var (pv 1)) pm_int (fun _ _ => rfl)) (pm_str "++") (nomark _)))) pms_nil)
      (pms_cons (pms_if (pm_tcmp (om_eq EQ rfl (hr.mono (by omega))) (pm_var (pv 0)) (pm_str "alike") (nomark _)) (pms_one (pms_ret (pm_andV (pm_cmp (om_eq EQ rfl (hr.mono (by omega))) (pm_callB (cm_len rfl) rfl B.len PySem.boot_len (pm_cons (pm_ix (ixm rfl) (pm_var (pv 1)) pm_int (fun _ _ => rfl)) pm_nil)) pm_int (nomark _)) (pm_one (pm_cmp (om_eq EQ rfl (hr.mono (by omega))) (pm_ix (ixm rfl) (pm_ix (ixm rfl) (pm_var (pv 1)) pm_int (fun _ _ => rfl)) pm_int (fun _ _ => rfl)) (pm_ix (ixm rfl) (pm_ix (ixm rfl) (pm_var (pv 1)) pm_int (fun _ _ => rfl)) pm_int (fun _ _ => rfl)) (nomark _)))))) pms_nil)
      (pms_cons (pms_if (pm_tcmp (om_eq EQ rfl (hr.mono (by omega))) (pm_var (pv 0)) (pm_str "below") (nomark _)) (pms_one (pms_ret (pm_cmp (om_eq EQ rfl (hr.mono (by omega))) (pm_ix (ixm rfl) (pm_var (pv 1)) pm_int (fun _ _ => rfl)) (pm_ix (ixm rfl) (pm_var (pv 1)) pm_int (fun _ _ => rfl)) (nomark _)))) pms_nil)
      (pms_one (pms_ret (pm_andV (pm_cmp (om_eq EQ rfl (hr.mono (by omega))) (pm_ix (ixm rfl) (pm_var (pv 1)) pm_int (fun _ _ => rfl)) (pm_str "+") (nomark _)) (pm_one (pm_cmp (om_eq EQ rfl (hr.mono (by omega))) (pm_ix (ixm rfl) (pm_var (pv 1)) pm_int (fun _ _ => rfl)) (pm_str "+") (nomark _))))))))))) (fun rs Q x h => ?_)
  · obtain ⟨l, us, rfl, _⟩ := h
    rfl
  · obtain ⟨l, us, rfl, hw, hc, q⟩ := h
    have hq : ∀ b, fitM l us = b → Q (.v (.bl b)) := fun b e => by rw [← e]; exact q
    clear q
    rcases counts_is hc with ⟨hl, h⟩ | ⟨hl, h⟩
    · obtain ⟨u, rfl⟩ := len_one hl
      rcases h with rfl | rfl | rfl | rfl | rfl
      · simp? [cOk_ss hd, cOk_ii hd, show tx "up" = [117, 112] by decide +kernel, show tx "down" = [100, 111, 119, 110] by decide +kernel, show tx "settled" = [115, 101, 116, 116, 108, 101, 100] by decide +kernel, show tx "mean" = [109, 101, 97, 110] by decide +kernel, show tx "alike" = [97, 108, 105, 107, 101] by decide +kernel, show tx "below" = [98, 101, 108, 111, 119] by decide +kernel, show tx "back" = [98, 97, 99, 107] by decide +kernel, show tx "+" = [43] by decide +kernel, show tx "++" = [43, 43] by decide +kernel, show tx "--" = [45, 45] by decide +kernel, show tx "??" = [63, 63] by decide +kernel]
        exact hq _ (by simp [fitM, show tx "up" = [117, 112] by decide +kernel, show tx "down" = [100, 111, 119, 110] by decide +kernel, show tx "settled" = [115, 101, 116, 116, 108, 101, 100] by decide +kernel, show tx "mean" = [109, 101, 97, 110] by decide +kernel, show tx "alike" = [97, 108, 105, 107, 101] by decide +kernel, show tx "below" = [98, 101, 108, 111, 119] by decide +kernel, show tx "back" = [98, 97, 99, 107] by decide +kernel, show tx "+" = [43] by decide +kernel, show tx "++" = [43, 43] by decide +kernel, show tx "--" = [45, 45] by decide +kernel, show tx "??" = [63, 63] by decide +kernel])
      · simp? [cOk_ss hd, cOk_ii hd, show tx "up" = [117, 112] by decide +kernel, show tx "down" = [100, 111, 119, 110] by decide +kernel, show tx "settled" = [115, 101, 116, 116, 108, 101, 100] by decide +kernel, show tx "mean" = [109, 101, 97, 110] by decide +kernel, show tx "alike" = [97, 108, 105, 107, 101] by decide +kernel, show tx "below" = [98, 101, 108, 111, 119] by decide +kernel, show tx "back" = [98, 97, 99, 107] by decide +kernel, show tx "+" = [43] by decide +kernel, show tx "++" = [43, 43] by decide +kernel, show tx "--" = [45, 45] by decide +kernel, show tx "??" = [63, 63] by decide +kernel]
        exact hq _ (by simp [fitM, show tx "up" = [117, 112] by decide +kernel, show tx "down" = [100, 111, 119, 110] by decide +kernel, show tx "settled" = [115, 101, 116, 116, 108, 101, 100] by decide +kernel, show tx "mean" = [109, 101, 97, 110] by decide +kernel, show tx "alike" = [97, 108, 105, 107, 101] by decide +kernel, show tx "below" = [98, 101, 108, 111, 119] by decide +kernel, show tx "back" = [98, 97, 99, 107] by decide +kernel, show tx "+" = [43] by decide +kernel, show tx "++" = [43, 43] by decide +kernel, show tx "--" = [45, 45] by decide +kernel, show tx "??" = [63, 63] by decide +kernel])
      · simp? [cOk_ss hd, cOk_ii hd, show tx "up" = [117, 112] by decide +kernel, show tx "down" = [100, 111, 119, 110] by decide +kernel, show tx "settled" = [115, 101, 116, 116, 108, 101, 100] by decide +kernel, show tx "mean" = [109, 101, 97, 110] by decide +kernel, show tx "alike" = [97, 108, 105, 107, 101] by decide +kernel, show tx "below" = [98, 101, 108, 111, 119] by decide +kernel, show tx "back" = [98, 97, 99, 107] by decide +kernel, show tx "+" = [43] by decide +kernel, show tx "++" = [43, 43] by decide +kernel, show tx "--" = [45, 45] by decide +kernel, show tx "??" = [63, 63] by decide +kernel]
        exact hq _ (by simp [fitM, show tx "up" = [117, 112] by decide +kernel, show tx "down" = [100, 111, 119, 110] by decide +kernel, show tx "settled" = [115, 101, 116, 116, 108, 101, 100] by decide +kernel, show tx "mean" = [109, 101, 97, 110] by decide +kernel, show tx "alike" = [97, 108, 105, 107, 101] by decide +kernel, show tx "below" = [98, 101, 108, 111, 119] by decide +kernel, show tx "back" = [98, 97, 99, 107] by decide +kernel, show tx "+" = [43] by decide +kernel, show tx "++" = [43, 43] by decide +kernel, show tx "--" = [45, 45] by decide +kernel, show tx "??" = [63, 63] by decide +kernel])
      · simp? [cOk_ss hd, cOk_ii hd, show tx "up" = [117, 112] by decide +kernel, show tx "down" = [100, 111, 119, 110] by decide +kernel, show tx "settled" = [115, 101, 116, 116, 108, 101, 100] by decide +kernel, show tx "mean" = [109, 101, 97, 110] by decide +kernel, show tx "alike" = [97, 108, 105, 107, 101] by decide +kernel, show tx "below" = [98, 101, 108, 111, 119] by decide +kernel, show tx "back" = [98, 97, 99, 107] by decide +kernel, show tx "+" = [43] by decide +kernel, show tx "++" = [43, 43] by decide +kernel, show tx "--" = [45, 45] by decide +kernel, show tx "??" = [63, 63] by decide +kernel]
        exact hq _ (by simp [fitM, show tx "up" = [117, 112] by decide +kernel, show tx "down" = [100, 111, 119, 110] by decide +kernel, show tx "settled" = [115, 101, 116, 116, 108, 101, 100] by decide +kernel, show tx "mean" = [109, 101, 97, 110] by decide +kernel, show tx "alike" = [97, 108, 105, 107, 101] by decide +kernel, show tx "below" = [98, 101, 108, 111, 119] by decide +kernel, show tx "back" = [98, 97, 99, 107] by decide +kernel, show tx "+" = [43] by decide +kernel, show tx "++" = [43, 43] by decide +kernel, show tx "--" = [45, 45] by decide +kernel, show tx "??" = [63, 63] by decide +kernel])
      · simp? [cOk_ss hd, cOk_ii hd, show tx "up" = [117, 112] by decide +kernel, show tx "down" = [100, 111, 119, 110] by decide +kernel, show tx "settled" = [115, 101, 116, 116, 108, 101, 100] by decide +kernel, show tx "mean" = [109, 101, 97, 110] by decide +kernel, show tx "alike" = [97, 108, 105, 107, 101] by decide +kernel, show tx "below" = [98, 101, 108, 111, 119] by decide +kernel, show tx "back" = [98, 97, 99, 107] by decide +kernel, show tx "+" = [43] by decide +kernel, show tx "++" = [43, 43] by decide +kernel, show tx "--" = [45, 45] by decide +kernel, show tx "??" = [63, 63] by decide +kernel]
        have hu := hw u (by simp)
        refine ite3 (fun h2 => ?_) fun h2 => hq _ ?_
        · obtain ⟨a, b, rfl⟩ := len_two (show u.length = 2 by omega)
          simp only [at_0, at_1]
          refine ⟨a, rfl, b, rfl, hq _ ?_⟩
          simp only [wyB, List.all_cons, List.all_nil, Bool.and_true, Bool.and_eq_true, decide_eq_true_eq, pmq, List.mem_cons, List.not_mem_nil, or_false] at hu
          obtain ⟨_, ha, hb⟩ := hu
          rcases ha with rfl | rfl | rfl <;> rcases hb with rfl | rfl | rfl <;> simp [fitM, show tx "up" = [117, 112] by decide +kernel, show tx "down" = [100, 111, 119, 110] by decide +kernel, show tx "settled" = [115, 101, 116, 116, 108, 101, 100] by decide +kernel, show tx "mean" = [109, 101, 97, 110] by decide +kernel, show tx "alike" = [97, 108, 105, 107, 101] by decide +kernel, show tx "below" = [98, 101, 108, 111, 119] by decide +kernel, show tx "back" = [98, 97, 99, 107] by decide +kernel, show tx "+" = [43] by decide +kernel, show tx "++" = [43, 43] by decide +kernel, show tx "--" = [45, 45] by decide +kernel, show tx "??" = [63, 63] by decide +kernel]
        · simp [fitM, show tx "up" = [117, 112] by decide +kernel, show tx "down" = [100, 111, 119, 110] by decide +kernel, show tx "settled" = [115, 101, 116, 116, 108, 101, 100] by decide +kernel, show tx "mean" = [109, 101, 97, 110] by decide +kernel, show tx "alike" = [97, 108, 105, 107, 101] by decide +kernel, show tx "below" = [98, 101, 108, 111, 119] by decide +kernel, show tx "back" = [98, 97, 99, 107] by decide +kernel, show tx "+" = [43] by decide +kernel, show tx "++" = [43, 43] by decide +kernel, show tx "--" = [45, 45] by decide +kernel, show tx "??" = [63, 63] by decide +kernel]
          refine ⟨fun e => h2 ?_, fun e => h2 ?_, fun e => h2 ?_⟩ <;> rw [e] <;> rfl
    · obtain ⟨u, v, rfl⟩ := len_two hl
      rcases h with rfl | rfl
      · simp? [cOk_ss hd, cOk_ii hd, show tx "up" = [117, 112] by decide +kernel, show tx "down" = [100, 111, 119, 110] by decide +kernel, show tx "settled" = [115, 101, 116, 116, 108, 101, 100] by decide +kernel, show tx "mean" = [109, 101, 97, 110] by decide +kernel, show tx "alike" = [97, 108, 105, 107, 101] by decide +kernel, show tx "below" = [98, 101, 108, 111, 119] by decide +kernel, show tx "back" = [98, 97, 99, 107] by decide +kernel, show tx "+" = [43] by decide +kernel, show tx "++" = [43, 43] by decide +kernel, show tx "--" = [45, 45] by decide +kernel, show tx "??" = [63, 63] by decide +kernel]
        exact hq _ (by simp [fitM, show tx "up" = [117, 112] by decide +kernel, show tx "down" = [100, 111, 119, 110] by decide +kernel, show tx "settled" = [115, 101, 116, 116, 108, 101, 100] by decide +kernel, show tx "mean" = [109, 101, 97, 110] by decide +kernel, show tx "alike" = [97, 108, 105, 107, 101] by decide +kernel, show tx "below" = [98, 101, 108, 111, 119] by decide +kernel, show tx "back" = [98, 97, 99, 107] by decide +kernel, show tx "+" = [43] by decide +kernel, show tx "++" = [43, 43] by decide +kernel, show tx "--" = [45, 45] by decide +kernel, show tx "??" = [63, 63] by decide +kernel])
      · simp? [cOk_ss hd, cOk_ii hd, show tx "up" = [117, 112] by decide +kernel, show tx "down" = [100, 111, 119, 110] by decide +kernel, show tx "settled" = [115, 101, 116, 116, 108, 101, 100] by decide +kernel, show tx "mean" = [109, 101, 97, 110] by decide +kernel, show tx "alike" = [97, 108, 105, 107, 101] by decide +kernel, show tx "below" = [98, 101, 108, 111, 119] by decide +kernel, show tx "back" = [98, 97, 99, 107] by decide +kernel, show tx "+" = [43] by decide +kernel, show tx "++" = [43, 43] by decide +kernel, show tx "--" = [45, 45] by decide +kernel, show tx "??" = [63, 63] by decide +kernel]
        refine ite3 (fun h2 => hq _ ?_) fun h2 => hq _ ?_
        · simp [fitM, show tx "up" = [117, 112] by decide +kernel, show tx "down" = [100, 111, 119, 110] by decide +kernel, show tx "settled" = [115, 101, 116, 116, 108, 101, 100] by decide +kernel, show tx "mean" = [109, 101, 97, 110] by decide +kernel, show tx "alike" = [97, 108, 105, 107, 101] by decide +kernel, show tx "below" = [98, 101, 108, 111, 119] by decide +kernel, show tx "back" = [98, 97, 99, 107] by decide +kernel, show tx "+" = [43] by decide +kernel, show tx "++" = [43, 43] by decide +kernel, show tx "--" = [45, 45] by decide +kernel, show tx "??" = [63, 63] by decide +kernel, h2]
        · simp [fitM, show tx "up" = [117, 112] by decide +kernel, show tx "down" = [100, 111, 119, 110] by decide +kernel, show tx "settled" = [115, 101, 116, 116, 108, 101, 100] by decide +kernel, show tx "mean" = [109, 101, 97, 110] by decide +kernel, show tx "alike" = [97, 108, 105, 107, 101] by decide +kernel, show tx "below" = [98, 101, 108, 111, 119] by decide +kernel, show tx "back" = [98, 97, 99, 107] by decide +kernel, show tx "+" = [43] by decide +kernel, show tx "++" = [43, 43] by decide +kernel, show tx "--" = [45, 45] by decide +kernel, show tx "??" = [63, 63] by decide +kernel, h2]
def okStep : M → Bool
  | .obj 0 fs => stepW (.obj 0 fs)
  | _ => true
/-- what is refused in a trait -/
def dueT (a : M) (ms : List M) : Option (List Nat) := match a with
  | .str l => match counts.lookup l with
    | none => some (tx "word")
    | some k => if (ms.length : Int) ≠ k ∨ ms.all (isCM 0) = false then some (tx "steps")
      else if k = 2 ∧ eqMs (ms.take 1) (ms.drop 1) = true then some (tx "steps")
      else if fitM l (ms.map waysOf) = false then some (tx "ways") else none
  | _ => some (tx "word")
theorem step_is {m : M} (h1 : okStep m = true) (h2 : isCM 0 m = true) : ∃ n u, m = .obj 0 [.str n, .str u] ∧ nmB n = true ∧ wyB u = true := by
  cases m with
  | obj c fs =>
    have c0 : c = 0 := by simpa [isCM] using h2
    subst c0
    obtain ⟨n, u, rfl, h⟩ := stepW_is (show stepW (.obj 0 fs) = true from h1)
    exact ⟨n, u, rfl, h⟩
  | _ => cases h2
def traitI : FI := fun rs Q x => ∃ a ms, rs = .v a :: ms.map R.v ∧ ms.length ≤ 1000 ∧ (∀ m ∈ ms, okStep m = true) ∧ (∀ e, dueT a ms = some e → x 1 (.str e)) ∧ (dueT a ms = none → Q [("word", a), ("steps", .tup ms)])
abbrev s_Trait___init__ : Stmt := inClass (topS 35) 0
theorem sc_Trait___init__ : FnScope ["self", "word", "steps", "step"] ["self", "word", "steps"] (defScope s_Trait___init__) := ⟨rfl, rfl, rfl, by decide +kernel, rfl, by decide +kernel, by decide +kernel⟩
theorem p_Trait {k : Nat} (B : Bi mg) (EO : EvOk Ω) (EQ : EqP P w Ω mg base n d stepW) (hk : n + d + 1 ≤ k) (hk2 : 2 ≤ k) (hd : 1 ≤ d) (hc : Ω.has 2) (H_Step : HC Ω mg "Step" 0) (T_InvalidTrait : ET Ω mg "InvalidTrait" 1) (I_InvalidTrait : ErI P w Ω.K mg base (ef 1) (Ω.ecs 1)) (KC : KD Ω w mg "COUNTS" counts)
    (D : Ds Ω.K mg (Ω.cs 2) "Trait" "Trait.__init__" s_Trait___init__ ["self", "word"] "steps") (G_ways_fit : CalM P w Ω mg base k "ways_fit" fitF) : MakS P w Ω mg base (k + 1) "Trait" 2 traitI := by
  refine makS D sc_Trait___init__ hc (fun fa cdv A outer s H E hr => (pms_cons (pms_if (PW.pt (pm_or (pm_not (pm_t (pm_isiB EO rfl rfl B.isinstance (kt_str rfl B.ty_str) (pm_var (pv 1))))) (pm_or1 (pmt_notinD KC rfl rfl (pm_var (pv 1)))))) (pms_one (pms_raise (k := 0) T_InvalidTrait I_InvalidTrait rfl (hr.mono (by omega)) rfl (L2N.takes_of rfl rfl rfl rfl) rfl (pm_str "word"))) pms_nil)
      (pms_cons (pms_if (PW.pt (pm_or (pm_tcmp (om_ne EQ rfl (hr.mono (by omega))) (pm_callB (cm_len rfl) rfl B.len PySem.boot_len (pm_cons (pm_var (pv 2)) pm_nil)) (pm_ixD KC rfl rfl (pm_var (pv 1)) (fun _ _ => rfl)) (nomark _)) (pm_or1 (pm_not (pm_t (pm_callB (cm_all rfl rfl) rfl B.all (by decide +kernel) (pm_cons (pm_lc (own := [("step", 3)]) rfl sc_Trait___init__.nd (pm_iter false rfl (pm_var (pv 2))) (blkOk_by (own := [("step", 3)]) (N := ["self", "word", "steps", "step"]) (sc := defScope s_Trait___init__) (by decide +kernel)) (fun _ _ _ _ _ => (pmg_name [3] (by decide) (pg_name (i := 3) sc_Trait___init__.nd rfl (Or.inl rfl)))) (fun _ _ _ _ _ => pmt_nil) (fun _ _ _ _ _ => (pm_isiC EO rfl rfl B.isinstance (c := 0) H_Step (pm_var (pv 3))))) pm_nil))))))) (pms_one (pms_raise (k := 0) T_InvalidTrait I_InvalidTrait rfl (hr.mono (by omega)) rfl (L2N.takes_of rfl rfl rfl rfl) rfl (pm_str "steps"))) pms_nil)
      (pms_cons (pms_if (PW.pt (pm_and (pm_tcmp (om_eq EQ rfl (hr.mono (by omega))) (pm_callB (cm_len rfl) rfl B.len PySem.boot_len (pm_cons (pm_var (pv 2)) pm_nil)) pm_int (nomark _)) (pm_and1 (pm_tcmp (om_eq EQ rfl (hr.mono (by omega))) (pm_ix (ixm rfl) (pm_var (pv 2)) pm_int (fun _ _ => rfl)) (pm_ix (ixm rfl) (pm_var (pv 2)) pm_int (fun _ _ => rfl)) (nomark _))))) (pms_one (pms_raise (k := 0) T_InvalidTrait I_InvalidTrait rfl (hr.mono (by omega)) rfl (L2N.takes_of rfl rfl rfl rfl) rfl (pm_str "steps"))) pms_nil)
      (pms_cons (pms_if (pm_not (pm_t (pm_call G_ways_fit rfl (L2N.takes_of rfl rfl rfl rfl) hr (by omega) rfl (pm_cons (pm_var (pv 1)) (pm_cons (pm_lc (own := [("step", 3)]) rfl sc_Trait___init__.nd (pm_iter false rfl (pm_var (pv 2))) (blkOk_by (own := [("step", 3)]) (N := ["self", "word", "steps", "step"]) (sc := defScope s_Trait___init__) (by decide +kernel)) (fun _ _ _ _ _ => (pmg_name [3] (by decide) (pg_name (i := 3) sc_Trait___init__.nd rfl (Or.inl rfl)))) (fun _ _ _ _ _ => pmt_nil) (fun _ _ _ _ _ => (pm_fld EO rfl (pm_var (pv 3)) rfl))) pm_nil))))) (pms_one (pms_raise (k := 0) T_InvalidTrait I_InvalidTrait rfl (hr.mono (by omega)) rfl (L2N.takes_of rfl rfl rfl rfl) rfl (pm_str "ways"))) pms_nil)
      (pms_cons (pms_fld EO rfl (pv 0) (pm_var (pv 1)))
      (pms_one (pms_fld EO rfl (pv 0) (pm_var (pv 2)))))))))) (fun rs Q x h => ?_)
  obtain ⟨a, ms, rfl, hl, hs, hx, hq⟩ := h
  refine ⟨[.v a], ms, rfl, rfl, by omega, ?_⟩
  by_cases ha : ∃ l, a = .str l
  · obtain ⟨l, rfl⟩ := ha
    cases hcl : counts.lookup l with
    | none =>
      simp? []
      rw [if_pos (by rw [hcl]; rfl)]
      exact hx (tx "word") (by simp [dueT, hcl])
    | some kk =>
      have k12 : kk = 1 ∨ kk = 2 := by
        unfold counts at hcl
        simp only [List.map_cons, List.map_nil, List.lookup_cons, List.lookup_nil] at hcl
        repeat' split at hcl
        all_goals simp_all
      simp? [hcl, cOk_ii hd]
      have fin : ms.all (isCM 0) = true → (ms.length : Int) = kk → ¬ (kk = 2 ∧ eqMs (ms.take 1) (ms.drop 1) = true) → lcM (tgN 3) tmYes (tmFld "ways" (tmV 3)) [R.o true (OC.ins 2 []), R.v (M.str l), R.v (M.tup ms), R.no] ms [] fun acc =>
          fitF [R.v (M.str l), R.v (M.lst acc)] (fun r => r = R.v (M.bl false) ∧ x 1 (M.str (tx "ways")) ∨ r = R.v (M.bl true) ∧ fldOk "word" 2 [] = true ∧ fldOk "steps" 2 ["word"] = true ∧ Q [("word", M.str l), ("steps", M.tup ms)]) fun er m => x er m := fun hall hlen hne => by
        have hst : ∀ m ∈ ms, ∃ n u, m = .obj 0 [.str n, .str u] ∧ nmB n = true ∧ wyB u = true := fun m hm => step_is (hs m hm) (List.all_eq_true.mp hall m hm)
        refine lcM_map (fun m => .str (waysOf m)) (fun m hm K hK => ?_) (by omega) ?_
        · obtain ⟨n1, u1, rfl, _, _⟩ := hst m hm
          simp? []
          exact hK
        · refine ⟨l, ms.map waysOf, by simp, fun u hu => ?_, by rw [hcl, List.length_map, hlen], ?_⟩
          · obtain ⟨m, hm, rfl⟩ := List.mem_map.mp hu
            obtain ⟨n1, u1, rfl, _, hu1⟩ := hst m hm
            exact hu1
          · have hd0 : dueT (.str l) ms = if fitM l (ms.map waysOf) = false then some (tx "ways") else none := by
              unfold dueT
              simp only [hcl]
              rw [if_neg (by simp [hlen, hall]), if_neg hne]
            cases hf : fitM l (ms.map waysOf) with
            | false => exact .inl ⟨rfl, hx _ (by rw [hd0, hf]; rfl)⟩
            | true => exact .inr ⟨rfl, by decide +kernel, by decide +kernel, hq (by rw [hd0, hf]; rfl)⟩
      have hds : ((ms.length : Int) ≠ kk ∨ ms.all (isCM 0) = false) → x 1 (.str (tx "steps")) := fun h => hx _ (by
        unfold dueT
        simp only [hcl]
        rw [if_pos h])
      by_cases hlen : (ms.length : Int) = kk
      · refine .inl ⟨hlen, lcM_map (fun m => .bl (isCM 0 m)) (fun m hm K hK => ?_) (by omega) ⟨ms.map (isCM 0), by rw [← bls_map, List.map_map]; rfl, ?_⟩⟩
        · simp? []
          exact hK
        refine ite3 (fun h => hds (.inr ?_)) fun h => ?_
        · obtain ⟨m, hm, e⟩ := List.mem_map.mp h
          exact List.all_eq_false.mpr ⟨m, hm, by simp [e]⟩
        · have hall : ms.all (isCM 0) = true := by
            cases e : ms.all (isCM 0) with
            | true => rfl
            | false =>
              obtain ⟨m, hm, e'⟩ := List.all_eq_false.mp e
              exact absurd (List.mem_map.mpr ⟨m, hm, by simpa using e'⟩) h
          refine ite3 (fun h2 => ?_) fun h2 => fin hall hlen fun z => h2 (hlen.trans z.1)
          obtain ⟨m1, m2, rfl⟩ := len_two (show ms.length = 2 by omega)
          refine ⟨m1, at_0 _ _, m2, at_1 _ _ _, ?_, ite3 (fun h3 => hx _ ?_) fun h3 => fin hall hlen fun z => h3 (by simpa [eqMs] using z.2)⟩
          · obtain ⟨n1, u1, rfl, h4, h5⟩ := step_is (hs m1 (by simp)) (List.all_eq_true.mp hall m1 (by simp))
            obtain ⟨n2, u2, rfl, h6, h7⟩ := step_is (hs m2 (by simp)) (List.all_eq_true.mp hall m2 (by simp))
            obtain ⟨d, rfl⟩ : ∃ e, d = e + 1 := ⟨d - 1, by omega⟩
            simp [cOk, M.ob, cOb, stepW, h4, h5, h6, h7, M.nd]
          · unfold dueT
            simp only [hcl]
            rw [if_neg (not_or.mpr ⟨fun h => h hlen, by rw [hall]; decide⟩), if_pos ⟨hlen.symm.trans h2, by simpa [eqMs] using h3⟩]
      · exact .inr ⟨hlen, hds (.inl hlen)⟩
  · have hs' : isStrM a = false := by
      cases a with
      | str l => exact absurd ⟨l, rfl⟩ ha
      | _ => rfl
    simp? [hs']
    refine hx _ ?_
    cases a with
    | str l => exact absurd ⟨l, rfl⟩ ha
    | _ => rfl
end
end PL
namespace PL
open PySem PySem.Spec PyProof.Rows L2 KW
section
variable {P : Program} {w : World} {Ω : Ev} {mg : Str → Option Value} {base : Heap} {n d : Nat} {cl : M → Bool}
/-- a word without a blank -/
def okWord (l : List Nat) : Bool := decide (l.length ≤ 100) && !(l.contains 32)
theorem okWord_len {l : List Nat} (h : okWord l = true) : l.length ≤ 100 := by
  simp only [okWord, Bool.and_eq_true, decide_eq_true_eq] at h
  exact h.1
/-- a trait as it is made -/
def traitW : M → Bool
  | .obj 2 [.str l, .tup ms] => ms.all stepW && okWord l && decide (ms.length ≤ 3)
  | _ => false
theorem traitW_is {fs : List M} (h : traitW (.obj 2 fs) = true) : ∃ l ms, fs = [.str l, .tup ms] ∧ ms.all stepW = true ∧ l.length ≤ 100 ∧ ms.length ≤ 3 := by
  unfold traitW at h
  split at h
  · rename_i e
    cases e
    simp only [Bool.and_eq_true, decide_eq_true_eq] at h
    exact ⟨_, _, rfl, h.1.1, okWord_len h.1.2, h.2⟩
  · cases h
theorem cOk_stepT {a b : List M} (ha : a.all stepW = true) (hb : b.all stepW = true) (hd : 2 ≤ d) : cOk stepW d (.tup a) (.tup b) = true := by
  obtain ⟨d, rfl⟩ : ∃ e, d = e + 2 := ⟨d - 2, by omega⟩
  show ((a.zip b).all fun z => cOk stepW (d + 1) z.1 z.2) = true
  rw [List.all_eq_true]
  intro z hz
  obtain ⟨n1, u1, e1, h1, h2⟩ := stepW_ob (List.all_eq_true.mp ha z.1 (List.of_mem_zip hz).1)
  obtain ⟨n2, u2, e2, h3, h4⟩ := stepW_ob (List.all_eq_true.mp hb z.2 (List.of_mem_zip hz).2)
  rw [e1, e2]
  simp [cOk, M.ob, cOb, stepW, h1, h2, h3, h4, M.nd]
abbrev s_Trait___eq__ : Stmt := inClass (topS 35) 1
theorem sc_Trait___eq__ : FnScope ["self", "other"] ["self", "other"] (defScope s_Trait___eq__) := ⟨rfl, rfl, rfl, by decide +kernel, rfl, by decide +kernel, by decide +kernel⟩
theorem p_TraitEq {k : Nat} {cl' : M → Bool} (B : Bi mg) (EO : EvOk Ω) (H_Trait : HC Ω mg "Trait" 2) (EQ : EqP P w Ω mg base n d stepW) (hk : n + d ≤ k) (hd : 2 ≤ d) (D : Dm Ω.K (Ω.cs 2) "__eq__" "Trait.__eq__" s_Trait___eq__ ["self", "other"]) (hcl : ∀ fs, cl' (.obj 2 fs) = true → traitW (.obj 2 fs) = true) : MetM P w Ω mg base (k + 1) 2 "__eq__" (eqF cl' 2) := by
  refine metM D sc_Trait___eq__ (fun rs Q x h => ?_) (fun fa cdv A outer s H E hr => (pms_one (pms_ret (pm_andV (pm_isiC EO rfl rfl B.isinstance (c := 2) H_Trait (pm_var (pv 1))) (pm_andV (pm_cmp (om_eq EQ rfl (hr.mono (by omega))) (pm_fld EO rfl (pm_var (pv 0)) rfl) (pm_fld EO rfl (pm_var (pv 1)) rfl) (nomark _)) (pm_one (pm_cmp (om_eq EQ rfl (hr.mono (by omega))) (pm_fld EO rfl (pm_var (pv 0)) rfl) (pm_fld EO rfl (pm_var (pv 1)) rfl) (nomark _)))))))) (fun rs Q x h => ?_)
  · unfold eqF at h
    split at h
    · rfl
    · exact h.elim
  · unfold eqF at h
    split at h
    · obtain ⟨⟨fs, rfl⟩, h1, h2, q⟩ := h
      rename_i m'
      obtain ⟨l1, ms1, rfl, a1, _⟩ := traitW_is (hcl fs h1)
      cases hm : isCM 2 m' with
      | true =>
        cases m' with
        | obj c gs =>
          have c0 : c = 2 := by simpa [isCM] using hm
          subst c0
          obtain ⟨l2, ms2, rfl, a2, _⟩ := traitW_is (hcl gs (by simpa [cOb, M.ob] using h2))
          simp? [cOk_ss (Nat.le_of_succ_le hd), cOk_stepT a1 a2 hd]
          by_cases e : l1 = l2
          · rw [if_pos e]
            subst e
            simpa [eqM, eqMk, dec] using q
          · rw [if_neg e]
            simpa [eqM, eqMk, dec, e] using q
        | _ => cases hm
      | false =>
        simp? [hm]
        have e : eqM (.obj 2 [.str l1, .tup ms1]) m' = false := by
          cases m' with
          | obj c gs => exact eqM_oo (fun z => by subst z; simp [isCM] at hm)
          | _ => simp [eqM]
        rw [e] at q
        exact q
    · exact h.elim
def traitT : M → List Nat
  | .obj 2 [.str l, .tup ms] => jn (tx " ") (l :: ms.map nameOf)
  | _ => []
abbrev s_Trait___str__ : Stmt := inClass (topS 35) 2
theorem sc_Trait___str__ : FnScope ["self", "words", "step"] ["self"] (defScope s_Trait___str__) := ⟨rfl, rfl, rfl, by decide +kernel, rfl, by decide +kernel, by decide +kernel⟩
theorem p_TraitStr {k : Nat} (B : Bi mg) (EO : EvOk Ω) (D : Dm Ω.K (Ω.cs 2) "__str__" "Trait.__str__" s_Trait___str__ ["self"]) : MetM P w Ω mg base (k + 1) 2 "__str__" (oneF traitW 2 fun m => .str (traitT m)) := by
  refine metM D sc_Trait___str__ (fun rs Q x h => ?_) (fun fa cdv A outer s H E hr => (pms_cons (pms_set (i := 1) sc_Trait___str__.nd rfl (Or.inl rfl) (pm_lst (pm_cons (pm_fld EO rfl (pm_var (pv 0)) rfl) pm_nil)))
      (pms_cons (pms_extend rfl (pv 1) (pm_lc (own := [("step", 2)]) rfl sc_Trait___str__.nd (pm_iter false rfl (pm_fld EO rfl (pm_var (pv 0)) rfl)) (blkOk_by (own := [("step", 2)]) (N := ["self", "words", "step"]) (sc := defScope s_Trait___str__) (by decide +kernel)) (fun _ _ _ _ _ => (pmg_name [2] (by decide) (pg_name (i := 2) sc_Trait___str__.nd rfl (Or.inl rfl)))) (fun _ _ _ _ _ => pmt_nil) (fun _ _ _ _ _ => (pm_fld EO rfl (pm_var (pv 2)) rfl))))
      (pms_one (pms_ret (pm_join rfl (pm_str " ") (pm_var (pv 1)))))))) (fun rs Q x h => ?_)
  · unfold oneF at h
    split at h
    · rfl
    · exact h.elim
  · unfold oneF at h
    split at h
    · obtain ⟨⟨fs, rfl⟩, h1, q⟩ := h
      obtain ⟨l1, ms1, rfl, a1, l2, l3⟩ := traitW_is h1
      simp? []
      refine lcM_map (fun m => .str (nameOf m)) (fun m hm K hK => ?_) (by omega) ?_
      · obtain ⟨n1, u1, rfl, _, _⟩ := stepW_ob (List.all_eq_true.mp a1 m hm)
        simp? []
        exact hK
      have e1 : (tx " ").length = 1 := by decide +kernel
      have hs := names_sum a1
      have hj := jn_len (tx " ") (l1 :: ms1.map nameOf)
      have hsum : ((l1 :: ms1.map nameOf).map fun x => x.length).sum + (l1 :: ms1.map nameOf).length * (tx " ").length ≤ 700 := by
        rw [List.map_cons, List.sum_cons, List.length_cons, List.length_map, e1]
        omega
      refine ⟨by rw [List.length_map]; omega, l1 :: ms1.map nameOf, ?_, by omega, Nat.le_trans hj (by omega), q⟩
      have := txs_map (l1 :: ms1.map nameOf)
      rw [List.map_cons, List.map_map] at this
      exact this
    · exact h.elim
end
end PL
namespace PL
open PySem PySem.Spec PyProof.Rows L2 KW
section
variable {P : Program} {w : World} {Ω : Ev} {mg : Str → Option Value} {base : Heap} {n d : Nat} {cl : M → Bool}
theorem or3 {c p q : Prop} (h1 : c → p) (h2 : ¬ c → q) : (c ∧ p) ∨ (¬ c ∧ q) := by
  by_cases h : c
  · exact .inl ⟨h, h1 h⟩
  · exact .inr ⟨h, h2 h⟩
def oneW (m : M) : Bool := isCM 0 m && decide ((waysOf m).length = 1)
def chainI : FI := fun rs Q x => ∃ ms, rs = ms.map R.v ∧ ms.length ≤ 1000 ∧ (∀ m ∈ ms, okStep m = true) ∧ (ms.all oneW = true → Q [("steps", .tup ms)]) ∧ (ms.all oneW = false → x 0 (.str (tx "chain")))
abbrev s_Chain___init__ : Stmt := inClass (topS 30) 0
theorem sc_Chain___init__ : FnScope ["self", "steps", "step"] ["self", "steps"] (defScope s_Chain___init__) := ⟨rfl, rfl, rfl, by decide +kernel, rfl, by decide +kernel, by decide +kernel⟩
theorem p_Chain {k : Nat} (B : Bi mg) (EO : EvOk Ω) (EQ : EqP P w Ω mg base n d cl) (hk : n + d + 1 ≤ k) (hk2 : 2 ≤ k) (hd : 1 ≤ d) (hc : Ω.has 3) (H_Step : HC Ω mg "Step" 0) (T_InvalidStep : ET Ω mg "InvalidStep" 0) (I_InvalidStep : ErI P w Ω.K mg base (ef 0) (Ω.ecs 0))
    (D : Ds Ω.K mg (Ω.cs 3) "Chain" "Chain.__init__" s_Chain___init__ ["self"] "steps") : MakS P w Ω mg base (k + 1) "Chain" 3 chainI := by
  refine makS D sc_Chain___init__ hc (fun fa cdv A outer s H E hr => (pms_cons (pms_for (passes_of rfl) rfl (pm_iter true rfl (pm_var (pv 1))) (pmg_name [2] (by decide) (pg_name (i := 2) sc_Chain___init__.nd rfl (Or.inl rfl))) (pms_one (pms_if (PW.pt (pm_or (pm_not (pm_t (pm_isiC EO rfl rfl B.isinstance (c := 0) H_Step (pm_var (pv 2))))) (pm_or1 (pm_tcmp (om_ne EQ rfl (hr.mono (by omega))) (pm_callB (cm_len rfl) rfl B.len PySem.boot_len (pm_cons (pm_fld EO rfl (pm_var (pv 2)) rfl) pm_nil)) pm_int (nomark _))))) (pms_one (pms_raise (k := 0) T_InvalidStep I_InvalidStep rfl (hr.mono (by omega)) rfl (L2N.takes_of rfl rfl rfl rfl) rfl (pm_str "chain"))) pms_nil)))
      (pms_one (pms_fld EO rfl (pv 0) (pm_var (pv 1)))))) (fun rs Q x h => ?_)
  obtain ⟨ms, rfl, hl, hs, hq, hx⟩ := h
  refine ⟨[], ms, rfl, rfl, by omega, ?_⟩
  simp? []
  suffices key : ∀ (ms' : List M) (r : R), (r = .no ∨ ∃ m, r = .v m) → (∀ m ∈ ms', okStep m = true) → (ms'.all oneW = true → Q [("steps", .tup ms)]) → (ms'.all oneW = false → x 0 (.str (tx "chain"))) → forM (tgN 2) _ ms' [R.o true (OC.ins 3 []), R.v (M.tup ms), r] _ from key ms .no (.inl rfl) hs hq hx
  intro ms'
  induction ms' with
  | nil =>
    intro r hr hs hq hx
    simp? [forM]
    exact ⟨by decide +kernel, hq rfl⟩
  | cons m ms' ih =>
    intro r hr hs hq hx
    have hm := hs m (by simp)
    have go : oneW m = true → forM (tgN 2) _ ms' [R.o true (OC.ins 3 []), R.v (M.tup ms), R.v m] _ := fun h => ih (.v m) (.inr ⟨m, rfl⟩) (fun m' h' => hs m' (List.mem_cons_of_mem _ h')) (fun h' => hq (by rw [List.all_cons, h, h']; rfl)) (fun h' => hx (by rw [List.all_cons, h, h']; rfl))
    have no : oneW m = false → x 0 (.str (tx "chain")) := fun h => hx (by rw [List.all_cons, h]; rfl)
    unfold forM
    cases h0 : isCM 0 m with
    | false =>
      rcases hr with rfl | ⟨y, rfl⟩ <;> simp? [h0] <;> exact no (by simp [oneW, h0])
    | true =>
      obtain ⟨n1, u1, rfl, h1, h2⟩ := step_is hm h0
      rcases hr with rfl | ⟨y, rfl⟩ <;> simp? [cOk_ii hd] <;> refine or3 (fun h3 => go ?_) fun h3 => no ?_
      all_goals
        simp [oneW, isCM, waysOf]
        omega
/-- a chain as it is made -/
def chainW : M → Bool
  | .obj 3 [.tup ms] => ms.all stepW
  | _ => false
theorem chainW_is {fs : List M} (h : chainW (.obj 3 fs) = true) : ∃ ms, fs = [.tup ms] ∧ ms.all stepW = true := by
  unfold chainW at h
  split at h
  · rename_i e
    cases e
    exact ⟨_, rfl, h⟩
  · cases h
abbrev s_Chain___eq__ : Stmt := inClass (topS 30) 5
theorem sc_Chain___eq__ : FnScope ["self", "other"] ["self", "other"] (defScope s_Chain___eq__) := ⟨rfl, rfl, rfl, by decide +kernel, rfl, by decide +kernel, by decide +kernel⟩
theorem p_ChainEq {k : Nat} {cl' : M → Bool} (B : Bi mg) (EO : EvOk Ω) (H_Chain : HC Ω mg "Chain" 3) (EQ : EqP P w Ω mg base n d stepW) (hk : n + d ≤ k) (hd : 2 ≤ d) (D : Dm Ω.K (Ω.cs 3) "__eq__" "Chain.__eq__" s_Chain___eq__ ["self", "other"]) (hcl : ∀ fs, cl' (.obj 3 fs) = true → chainW (.obj 3 fs) = true) : MetM P w Ω mg base (k + 1) 3 "__eq__" (eqF cl' 3) := by
  refine metM D sc_Chain___eq__ (fun rs Q x h => ?_) (fun fa cdv A outer s H E hr => (pms_one (pms_ret (pm_andV (pm_isiC EO rfl rfl B.isinstance (c := 3) H_Chain (pm_var (pv 1))) (pm_one (pm_cmp (om_eq EQ rfl (hr.mono (by omega))) (pm_fld EO rfl (pm_var (pv 0)) rfl) (pm_fld EO rfl (pm_var (pv 1)) rfl) (nomark _))))))) (fun rs Q x h => ?_)
  · unfold eqF at h
    split at h
    · rfl
    · exact h.elim
  · unfold eqF at h
    split at h
    · obtain ⟨⟨fs, rfl⟩, h1, h2, q⟩ := h
      rename_i m'
      obtain ⟨ms1, rfl, a1⟩ := chainW_is (hcl fs h1)
      cases hm : isCM 3 m' with
      | true =>
        cases m' with
        | obj c gs =>
          have c0 : c = 3 := by simpa [isCM] using hm
          subst c0
          obtain ⟨ms2, rfl, a2⟩ := chainW_is (hcl gs (by simpa [cOb, M.ob] using h2))
          simp? [cOk_stepT a1 a2 hd]
          simpa [eqM, eqMk, dec] using q
        | _ => cases hm
      | false =>
        simp? [hm]
        have e : eqM (.obj 3 [.tup ms1]) m' = false := by
          cases m' with
          | obj c gs => exact eqM_oo (fun z => by subst z; simp [isCM] at hm)
          | _ => simp [eqM]
        rw [e] at q
        exact q
    · exact h.elim
end
end PL
namespace PL
open PySem PySem.Spec PyProof.Rows L2 KW
section
variable {P : Program} {w : World} {Ω : Ev} {mg : Str → Option Value} {base : Heap} {n d : Nat} {cl : M → Bool}
/-- the expression of a name -/
def nameE (l : List Nat) : M := .obj 1 [.str (tx "name"), .str l, .non, .tup [], .tup [.str l], .tup [], .tup [.str (tx "name")], .str l]
abbrev s_all_steps : Stmt := topS 22
theorem sc_all_steps : FnScope ["step", "parts", "known", "part", "one", "key"] ["step", "parts"] (defScope s_all_steps) := ⟨rfl, rfl, rfl, by decide +kernel, rfl, by decide +kernel, by decide +kernel⟩
def asF0 : FM := fun rs Q _ => rs = [.v .non, .v (.tup [])] ∧ Q (.v (.tup []))
theorem p_all_steps0 {k : Nat} (B : Bi mg) (B2 : Bi2 mg) (EO : EvOk Ω) (D : Df Ω.K mg "all_steps" s_all_steps ["step", "parts"]) : CalM P w Ω mg base (k + 1) "all_steps" asF0 := by
  refine calM D sc_all_steps (fun rs Q x h => ?_) (fun fa cdv A outer s H E hr => (pms_cons (pms_set (i := 2) sc_all_steps.nd rfl (Or.inr rfl) pm_dnew)
      (pms_cons (pms_if (pm_tcmp om_isnot (pm_var (pv 0)) pm_non (nomark _)) (pms_one pms_never) pms_nil)
      (pms_cons (pms_for (passes_of rfl) rfl (pm_iter true rfl (pm_var (pv 1))) (pmg_name [3] (by decide) (pg_name (i := 3) sc_all_steps.nd rfl (Or.inl rfl))) (pms_one pms_never))
      (pms_one (pms_ret (pm_callTy (cm_tuple rfl) rfl B.ty_tuple (by decide +kernel) (pm_cons (pm_lc (own := [("key", 5)]) rfl sc_all_steps.nd (pm_iter false rfl (pm_callB (cm_sorted0 rfl) rfl B2.sorted (by decide +kernel) (pm_cons (pm_var (pv 2)) pm_nil))) (blkOk_by (own := [("key", 5)]) (N := ["step", "parts", "known", "part", "one", "key"]) (sc := defScope s_all_steps) (by decide +kernel)) (fun _ _ _ _ _ => (pmg_name [5] (by decide) (pg_name (i := 5) sc_all_steps.nd rfl (Or.inl rfl)))) (fun _ _ _ _ _ => pmt_nil) (fun _ _ _ _ _ => pm_never)) pm_nil)))))))) (fun rs Q x h => ?_)
  · rw [h.1]
    rfl
  · obtain ⟨rfl, q⟩ := h
    simp? [forM, lcM]
    exact q
abbrev s_text_of : Stmt := topS 20
theorem sc_text_of : FnScope ["kind", "word", "step", "parts", "first", "part"] ["kind", "word", "step", "parts"] (defScope s_text_of) := ⟨rfl, rfl, rfl, by decide +kernel, rfl, by decide +kernel, by decide +kernel⟩
def txF0 : FM := fun rs Q _ => ∃ l m, rs = [.v (.str (tx "name")), .v (.str l), .v .non, .v m] ∧ Q (.v (.str l))
theorem p_text_of0 {k : Nat} (EQ : EqP P w Ω mg base n d cl) (hk : n + d ≤ k) (hd : 1 ≤ d) (D : Df Ω.K mg "text_of" s_text_of ["kind", "word", "step", "parts"]) : CalM P w Ω mg base (k + 1) "text_of" txF0 := by
  refine calM D sc_text_of (fun rs Q x h => ?_) (fun fa cdv A outer s H E hr => (pms_cons (pms_if (pm_tcmp (om_eq EQ rfl (hr.mono (by omega))) (pm_var (pv 0)) (pm_str "name") (nomark _)) (pms_one (pms_ret (pm_var (pv 1)))) pms_nil)
      (pms_cons pms_never
      (pms_one pms_never)))) (fun rs Q x h => ?_)
  · obtain ⟨l, m, rfl, _⟩ := h
    rfl
  · obtain ⟨l, m, rfl, q⟩ := h
    simp? [cOk_ss hd]
    exact q
abbrev s_Expr___init__ : Stmt := inClass (topS 19) 0
theorem sc_Expr___init__ : FnScope ["self", "kind", "word", "step", "parts", "part"] ["self", "kind", "word", "step", "parts"] (defScope s_Expr___init__) := ⟨rfl, rfl, rfl, by decide +kernel, rfl, by decide +kernel, by decide +kernel⟩
def exprI0 : FI := fun rs Q _ => ∃ l, rs = [.v (.str (tx "name")), .v (.str l), .v .non, .v (.tup [])] ∧ ∀ fs, fs = (an 1).zip [.str (tx "name"), .str l, .non, .tup [], .tup [.str l], .tup [], .tup [.str (tx "name")], .str l] → Q fs
theorem p_Expr0 {k : Nat} (B : Bi mg) (B2 : Bi2 mg) (EO : EvOk Ω) (EQ : EqP P w Ω mg base n d cl) (hk : n + d + 1 ≤ k) (hd : 1 ≤ d) (hc : Ω.has 1) (D : Dc Ω.K mg (Ω.cs 1) "Expr" "Expr.__init__" s_Expr___init__ ["self", "kind", "word", "step", "parts"])
    (G_all_names : CalM P w Ω mg base k "all_names" (fun _ _ _ => False)) (G_all_steps : CalM P w Ω mg base k "all_steps" asF0) (G_text_of : CalM P w Ω mg base k "text_of" txF0) : MakM P w Ω mg base (k + 1) "Expr" 1 exprI0 := by
  refine makM D sc_Expr___init__ hc (fun rs Q x h => ?_) (fun fa cdv A outer s H E hr => (pms_cons (pms_fld EO rfl (pv 0) (pm_var (pv 1)))
      (pms_cons (pms_fld EO rfl (pv 0) (pm_var (pv 2)))
      (pms_cons (pms_fld EO rfl (pv 0) (pm_var (pv 3)))
      (pms_cons (pms_fld EO rfl (pv 0) (pm_var (pv 4)))
      (pms_cons (pms_fld EO rfl (pv 0) (pm_ifExp (pm_tcmp (om_eq EQ rfl (hr.mono (by omega))) (pm_var (pv 1)) (pm_str "name") (nomark _)) (pm_tup (pm_cons (pm_var (pv 2)) pm_nil)) (pm_call G_all_names rfl (L2N.takes_of rfl rfl rfl rfl) hr (by omega) rfl (pm_cons (pm_var (pv 4)) pm_nil))))
      (pms_cons (pms_fld EO rfl (pv 0) (pm_call G_all_steps rfl (L2N.takes_of rfl rfl rfl rfl) hr (by omega) rfl (pm_cons (pm_var (pv 3)) (pm_cons (pm_var (pv 4)) pm_nil))))
      (pms_cons (pms_fld EO rfl (pv 0) (pm_op (om_mul rfl) (pm_tup (pm_cons (pm_var (pv 1)) pm_nil)) (pm_op (om_add rfl) pm_int (pm_callB (cm_sum rfl rfl) rfl B2.sum (by decide +kernel) (pm_cons (pm_lc (own := [("part", 5)]) rfl sc_Expr___init__.nd (pm_iter false rfl (pm_var (pv 4))) (blkOk_by (own := [("part", 5)]) (N := ["self", "kind", "word", "step", "parts", "part"]) (sc := defScope s_Expr___init__) (by decide +kernel)) (fun _ _ _ _ _ => (pmg_name [5] (by decide) (pg_name (i := 5) sc_Expr___init__.nd rfl (Or.inl rfl)))) (fun _ _ _ _ _ => pmt_nil) (fun _ _ _ _ _ => (pm_callB (cm_len rfl) rfl B.len PySem.boot_len (pm_cons (pm_fld EO rfl (pm_var (pv 5)) rfl) pm_nil)))) pm_nil)))))
      (pms_one (pms_fld EO rfl (pv 0) (pm_call G_text_of rfl (L2N.takes_of rfl rfl rfl rfl) hr (by omega) rfl (pm_cons (pm_var (pv 1)) (pm_cons (pm_var (pv 2)) (pm_cons (pm_var (pv 3)) (pm_cons (pm_var (pv 4)) pm_nil))))))))))))))) (fun rs Q x h => ?_)
  · obtain ⟨l, rfl, _⟩ := h
    rfl
  · obtain ⟨l, rfl, q⟩ := h
    simp? [cOk_ss hd, lcM, asF0, txF0]
    exact ⟨by decide +kernel, by decide +kernel, by decide +kernel, by decide +kernel, by decide +kernel, by decide +kernel, by decide +kernel, by decide +kernel, q _ rfl⟩
abbrev s_named : Stmt := topS 23
theorem sc_named : FnScope ["word"] ["word"] (defScope s_named) := ⟨rfl, rfl, rfl, by decide +kernel, rfl, by decide +kernel, by decide +kernel⟩
def namedF : FM := fun rs Q x => match rs with
  | [.v m] => (∀ l, m = .str l → nmB l = true → Q (.v (nameE l))) ∧ (nameM m = false → x 2 (.str (tx "name")))
  | _ => False
theorem p_named {k : Nat} (D : Df Ω.K mg "named" s_named ["word"]) (T_InvalidExpr : ET Ω mg "InvalidExpr" 2) (I_InvalidExpr : ErI P w Ω.K mg base (ef 2) (Ω.ecs 2)) (hk2 : 2 ≤ k) (G_is_name : CalM P w Ω mg base k "is_name" (boolF nameM)) (G_Expr : MakM P w Ω mg base (k - 1) "Expr" 1 exprI0) : CalM P w Ω mg base (k + 1) "named" namedF := by
  refine calM D sc_named (fun rs Q x h => ?_) (fun fa cdv A outer s H E hr => (pms_cons (pms_if (pm_not (pm_t (pm_call G_is_name rfl (L2N.takes_of rfl rfl rfl rfl) hr (by omega) rfl (pm_cons (pm_var (pv 0)) pm_nil)))) (pms_one (pms_raise (k := 0) T_InvalidExpr I_InvalidExpr rfl (hr.mono (by omega)) rfl (L2N.takes_of rfl rfl rfl rfl) rfl (pm_str "name"))) pms_nil)
      (pms_one (pms_ret (pm_make G_Expr rfl (L2N.takes_of rfl rfl rfl rfl) hr (by omega) rfl (pm_cons (pm_str "name") (pm_cons (pm_var (pv 0)) (pm_cons pm_non (pm_cons (pm_tup pm_nil) pm_nil))))))))) (fun rs Q x h => ?_)
  · unfold namedF at h
    split at h
    · rfl
    · exact h.elim
  · unfold namedF at h
    split at h
    · obtain ⟨h1, h2⟩ := h
      rename_i m
      simp? [boolF]
      cases hm : nameM m with
      | false => simpa using h2 hm
      | true =>
        cases m with
        | str l =>
          simp [exprI0]
          exact ⟨[.str (tx "name"), .str l, .non, .tup [], .tup [.str l], .tup [], .tup [.str (tx "name")], .str l], rfl, rfl, h1 l rfl hm⟩
        | _ => cases hm
    · exact h.elim
/-- an expression that is a name, as == sees it -/
def exprW0 : M → Bool
  | .obj 1 [.str _, .str _, .non, .tup [], _, _, _, _] => true
  | _ => false
theorem exprW0_is {fs : List M} (h : exprW0 (.obj 1 fs) = true) : ∃ k l a b c e, fs = [.str k, .str l, .non, .tup [], a, b, c, e] := by
  unfold exprW0 at h
  split at h
  · rename_i e
    cases e
    exact ⟨_, _, _, _, _, _, rfl⟩
  · cases h
abbrev s_Expr___eq__ : Stmt := inClass (topS 19) 6
theorem sc_Expr___eq__ : FnScope ["self", "other"] ["self", "other"] (defScope s_Expr___eq__) := ⟨rfl, rfl, rfl, by decide +kernel, rfl, by decide +kernel, by decide +kernel⟩
theorem p_ExprEq0 {k : Nat} {cl' : M → Bool} (B : Bi mg) (EO : EvOk Ω) (H_Expr : HC Ω mg "Expr" 1) (EQ : EqP P w Ω mg base n d stepW) (hk : n + d ≤ k) (hd : 1 ≤ d) (D : Dm Ω.K (Ω.cs 1) "__eq__" "Expr.__eq__" s_Expr___eq__ ["self", "other"]) (hcl : ∀ fs, cl' (.obj 1 fs) = true → exprW0 (.obj 1 fs) = true) : MetM P w Ω mg base (k + 1) 1 "__eq__" (eqF cl' 1) := by
  refine metM D sc_Expr___eq__ (fun rs Q x h => ?_) (fun fa cdv A outer s H E hr => (pms_cons (pms_if (PW.pt (pm_or (pm_not (pm_t (pm_isiC EO rfl rfl B.isinstance (c := 1) H_Expr (pm_var (pv 1))))) (pm_or (pm_tcmp (om_ne EQ rfl (hr.mono (by omega))) (pm_fld EO rfl (pm_var (pv 0)) rfl) (pm_fld EO rfl (pm_var (pv 1)) rfl) (nomark _)) (pm_or1 (pm_tcmp (om_ne EQ rfl (hr.mono (by omega))) (pm_fld EO rfl (pm_var (pv 0)) rfl) (pm_fld EO rfl (pm_var (pv 1)) rfl) (nomark _)))))) (pms_one (pms_ret pm_bl)) pms_nil)
      (pms_one (pms_ret (pm_andV (pm_cmp (om_eq EQ rfl (hr.mono (by omega))) (pm_fld EO rfl (pm_var (pv 0)) rfl) (pm_fld EO rfl (pm_var (pv 1)) rfl) (nomark _)) (pm_one (pm_cmp (om_eq EQ rfl (hr.mono (by omega))) (pm_fld EO rfl (pm_var (pv 0)) rfl) (pm_fld EO rfl (pm_var (pv 1)) rfl) (nomark _)))))))) (fun rs Q x h => ?_)
  · unfold eqF at h
    split at h
    · rfl
    · exact h.elim
  · unfold eqF at h
    split at h
    · obtain ⟨⟨fs, rfl⟩, h1, h2, q⟩ := h
      rename_i m'
      obtain ⟨k1, l1, a1, b1, c1, e1, rfl⟩ := exprW0_is (hcl fs h1)
      cases hm : isCM 1 m' with
      | true =>
        cases m' with
        | obj c gs =>
          have c0 : c = 1 := by simpa [isCM] using hm
          subst c0
          obtain ⟨k2, l2, a2, b2, c2, e2, rfl⟩ := exprW0_is (hcl gs (by simpa [cOb, M.ob] using h2))
          obtain ⟨d, rfl⟩ : ∃ e, d = e + 1 := ⟨d - 1, by omega⟩
          have q' : Q (.v (.bl (decide (k1 = k2) && decide (l1 = l2)))) := by simpa [eqM, eqMk, eqMs, dec] using q
          simp? [cOk_ss hd, cOk, M.ob, eqM, eqMs, M.nd]
          refine or3 (fun z1 => or3 (fun z2 => ?_) fun z2 => ?_) fun z1 => ?_
          · simpa [z1, z2] using q'
          · simpa [z1, z2] using q'
          · simpa [z1] using q'
        | _ => cases hm
      | false =>
        simp? [hm]
        have e : eqM (.obj 1 [.str k1, .str l1, .non, .tup [], a1, b1, c1, e1]) m' = false := by
          cases m' with
          | obj c gs => exact eqM_oo (fun z => by subst z; simp [isCM] at hm)
          | _ => simp [eqM]
        rw [e] at q
        exact q
    · exact h.elim
end
end PL
namespace PL
open PySem PySem.Spec PyProof.Rows L2 KW
section
variable {P : Program} {w : World} {Ω : Ev} {mg : Str → Option Value} {base : Heap} {n d : Nat} {cl : M → Bool}
/-- any value: its instances as made, its texts and rows short, so deep -/
def valW (cl : M → Bool) : Nat → M → Bool
  | 0, _ => false
  | k + 1, m => match m with
    | .lst xs => decide (xs.length ≤ 1000) && xs.all (valW cl k)
    | .tup xs => decide (xs.length ≤ 1000) && xs.all (valW cl k)
    | .obj c fs => cl (.obj c fs)
    | .dct _ _ => false
    | .err _ _ => false
    | _ => true
theorem zip_same {α : Type} (xs : List α) : xs.zip xs = xs.map fun x => (x, x) := by
  induction xs with
  | nil => rfl
  | cons x r ih => rw [List.zip_cons_cons, ih]; rfl
theorem map_const {α β : Type} (xs : List α) (b : β) : xs.map (fun _ => b) = List.replicate xs.length b := by
  induction xs with
  | nil => rfl
  | cons x r ih => rw [List.map_cons, ih]; rfl
def sameF (cl : M → Bool) (N : Nat) : FM := fun rs Q _ => ∃ m, rs = [.v m, .v m] ∧ valW cl N m = true ∧ Q (.v (.bl true))
abbrev s__law_same : Stmt := topS 40
theorem sc__law_same : FnScope ["_law_found", "_law_due", "_law_one", "_law_other"] ["_law_found", "_law_due"] (defScope s__law_same) := ⟨rfl, rfl, rfl, by decide +kernel, rfl, by decide +kernel, by decide +kernel⟩
theorem p_same (B : Bi mg) (EO : EvOk Ω) (EQ : EqP P w Ω mg base n d cl) (hd : 1 ≤ d) (D : Df Ω.K mg "_law_same" s__law_same ["_law_found", "_law_due"]) : ∀ N : Nat, CalM P w Ω mg base (n + d + 1 + N) "_law_same" (sameF cl N)
  | 0 => CalM.mono (calM_never D fun rs Q x ⟨m, _, h, _⟩ => by cases h) (Nat.zero_le _)
  | N + 1 => by
    have G_law_same := p_same B EO EQ hd D N
    refine calM (k := n + d + 1 + N) D sc__law_same (fun rs Q x h => ?_) (fun fa cdv A outer s H E hr => (pms_cons (pms_if (pm_t (pm_isiTL EO rfl rfl B.isinstance B.ty_tuple B.ty_list (pm_var (pv 1)))) (pms_cons (pms_if (PW.pt (pm_or (pm_tcmp (om_ne EQ rfl (hr.mono (by omega))) (pm_isiB EO rfl rfl B.isinstance (kt_tuple rfl B.ty_tuple) (pm_var (pv 0))) (pm_isiB EO rfl rfl B.isinstance (kt_tuple rfl B.ty_tuple) (pm_var (pv 1))) (nomark _)) (pm_or1 (pm_tcmp (om_ne EQ rfl (hr.mono (by omega))) (pm_isiB EO rfl rfl B.isinstance (kt_list rfl B.ty_list) (pm_var (pv 0))) (pm_isiB EO rfl rfl B.isinstance (kt_list rfl B.ty_list) (pm_var (pv 1))) (nomark _))))) (pms_one (pms_ret pm_bl)) pms_nil)
      (pms_one (pms_ret (pm_andV (pm_cmp (om_eq EQ rfl (hr.mono (by omega))) (pm_callB (cm_len rfl) rfl B.len PySem.boot_len (pm_cons (pm_var (pv 0)) pm_nil)) (pm_callB (cm_len rfl) rfl B.len PySem.boot_len (pm_cons (pm_var (pv 1)) pm_nil)) (nomark _)) (pm_one (pm_callB (cm_all rfl rfl) rfl B.all (by decide +kernel) (pm_cons (pm_lc (own := [("_law_one", 2), ("_law_other", 3)]) rfl sc__law_same.nd (pm_zip false rfl rfl B.zip (pm_var (pv 0)) (pm_var (pv 1))) (blkOk_by (own := [("_law_one", 2), ("_law_other", 3)]) (N := ["_law_found", "_law_due", "_law_one", "_law_other"]) (sc := defScope s__law_same) (by decide +kernel)) (fun _ _ _ _ _ => (pmg_tup [2, 3] (by decide) (by decide) (kk_gtup Ω.K rfl (n := 2) rfl (pgs_cons (pg_name (i := 2) sc__law_same.nd rfl (Or.inl rfl)) (pgs_cons (pg_name (i := 3) sc__law_same.nd rfl (Or.inl rfl)) pgs_nil))))) (fun _ _ _ _ _ => pmt_nil) (fun _ _ _ _ _ => (pm_call G_law_same rfl takes0N hr (by omega) rfl (pm_cons (pm_var (pv 2)) (pm_cons (pm_var (pv 3)) pm_nil))))) pm_nil))))))) pms_nil)
      (pms_one (pms_ret (pm_andV (pm_cmp (om_eq EQ rfl (hr.mono (by omega))) (pm_isiB EO rfl rfl B.isinstance (kt_bool rfl B.ty_bool) (pm_var (pv 0))) (pm_isiB EO rfl rfl B.isinstance (kt_bool rfl B.ty_bool) (pm_var (pv 1))) (nomark _)) (pm_one (pm_cmp (om_eq EQ rfl (hr.mono (by omega))) (pm_var (pv 0)) (pm_var (pv 1)) (nomark _)))))))) (fun rs Q x h => ?_)
    · obtain ⟨m, rfl, _⟩ := h
      rfl
    · obtain ⟨m, rfl, hm, q⟩ := h
      cases m with
      | dct ks vs => cases hm
      | err _ _ => cases hm
      | lst xs =>
        simp [valW] at hm
        simp? [cOk_bb hd, cOk_ii hd]
        refine lcM_map (fun _ => .bl true) (fun m hm' K hK => ?_) (by simp; omega) ?_
        · obtain ⟨z, hz, rfl⟩ := List.mem_map.mp hm'
          rw [zip_same] at hz
          obtain ⟨y, hy, rfl⟩ := List.mem_map.mp hz
          simp? [sameF]
          exact ⟨hm.2 y hy, hK⟩
        · refine ⟨List.replicate xs.length true, ?_, by simpa using q⟩
          rw [← bls_map]
          congr 1
          rw [List.map_map, zip_same, List.map_map, List.map_replicate]
          exact map_const xs (M.bl true)
      | tup xs =>
        simp [valW] at hm
        simp? [cOk_bb hd, cOk_ii hd]
        refine lcM_map (fun _ => .bl true) (fun m hm' K hK => ?_) (by simp; omega) ?_
        · obtain ⟨z, hz, rfl⟩ := List.mem_map.mp hm'
          rw [zip_same] at hz
          obtain ⟨y, hy, rfl⟩ := List.mem_map.mp hz
          simp? [sameF]
          exact ⟨hm.2 y hy, hK⟩
        · refine ⟨List.replicate xs.length true, ?_, by simpa using q⟩
          rw [← bls_map]
          congr 1
          rw [List.map_map, zip_same, List.map_map, List.map_replicate]
          exact map_const xs (M.bl true)
      | obj c fs =>
        simp [valW] at hm
        have hc : cOk cl d (.obj c fs) (.obj c fs) = true := by
          obtain ⟨d, rfl⟩ : ∃ e, d = e + 1 := ⟨d - 1, by omega⟩
          simp [cOk, M.ob, cOb, hm, M.nd]
        simp? [cOk_bb hd, hc, eqM_refl]
        exact q
      | non =>
        have hc : cOk cl d .non .non = true := by
          obtain ⟨d, rfl⟩ : ∃ e, d = e + 1 := ⟨d - 1, by omega⟩
          rfl
        simp? [cOk_bb hd, eqM_refl, hc]
        exact q
      | bl b =>
        simp? [cOk_bb hd, eqM_refl]
        exact q
      | int i =>
        simp? [cOk_bb hd, cOk_ii hd, eqM_refl]
        exact q
      | str l =>
        simp? [cOk_bb hd, cOk_ss hd, eqM_refl]
        exact q
theorem mk_step {a b : List Nat} {Q : R → Prop} {x : X0} (h1 : nmB a = true) (h2 : wyB b = true) (q : Q (.v (.obj 0 [.str a, .str b]))) : stepI [.v (.str a), .v (.str b)] (fun fs => ∃ ms, fs = (an 0).zip ms ∧ ms.length = (an 0).length ∧ Q (.v (.obj 0 ms))) x := by
  show if nameM (.str a) = false then _ else if waysM (.str b) = false then _ else _
  rw [if_neg (by rw [show nameM (.str a) = nmB a from rfl, h1]; decide), if_neg (by rw [show waysM (.str b) = wyB b from rfl, h2]; decide)]
  exact ⟨_, rfl, rfl, q⟩
theorem mk_trait {a : M} {ms : List M} {Q : R → Prop} {x : X0} (hl : ms.length ≤ 1000) (hs : ∀ m ∈ ms, okStep m = true) (hx : ∀ e, dueT a ms = some e → x 1 (.str e)) (q : dueT a ms = none → Q (.v (.obj 2 [a, .tup ms]))) : traitI (.v a :: ms.map R.v) (fun fs => ∃ ms, fs = (an 2).zip ms ∧ ms.length = (an 2).length ∧ Q (.v (.obj 2 ms))) x := ⟨a, ms, rfl, hl, hs, hx, fun h => ⟨_, rfl, rfl, q h⟩⟩
theorem mk_chain {ms : List M} {Q : R → Prop} {x : X0} (hl : ms.length ≤ 1000) (hs : ∀ m ∈ ms, okStep m = true) (hx : ms.all oneW = false → x 0 (.str (tx "chain"))) (q : ms.all oneW = true → Q (.v (.obj 3 [.tup ms]))) : chainI (ms.map R.v) (fun fs => ∃ ms, fs = (an 3).zip ms ∧ ms.length = (an 3).length ∧ Q (.v (.obj 3 ms))) x := ⟨ms, rfl, hl, hs, fun h => ⟨_, rfl, rfl, q h⟩, hx⟩
theorem wy_plus : wyB (tx "+") = true := by decide +kernel
theorem due_up {l : List Nat} : dueT (.str (tx "up")) [.obj 0 [.str l, .str (tx "+")]] = none := by
  have e : counts.lookup (tx "up") = some 1 := by decide +kernel
  unfold dueT
  simp only [e]
  rw [if_neg (by simp [isCM]), if_neg (by simp), if_neg (by simp [fitM, waysOf])]
end
end PL
namespace PL
open PySem PySem.Spec PyProof.Rows L2 KW
section
variable {P : Program} {w : World} {Ω : Ev} {mg : Str → Option Value} {base : Heap} {n d : Nat} {cl : M → Bool}
/-- the instances that laws draw -/
def cl5 (m : M) : Bool := stepW m || traitW m || chainW m || exprW0 m
theorem cl5_0 {fs : List M} (h : cl5 (.obj 0 fs) = true) : stepW (.obj 0 fs) = true := by
  simpa [cl5, traitW, chainW, exprW0] using h
theorem cl5_1 {fs : List M} (h : cl5 (.obj 1 fs) = true) : exprW0 (.obj 1 fs) = true := by
  simpa [cl5, traitW, chainW, stepW] using h
theorem cl5_2 {fs : List M} (h : cl5 (.obj 2 fs) = true) : traitW (.obj 2 fs) = true := by
  simpa [cl5, stepW, chainW, exprW0] using h
theorem cl5_3 {fs : List M} (h : cl5 (.obj 3 fs) = true) : chainW (.obj 3 fs) = true := by
  simpa [cl5, stepW, traitW, exprW0] using h
def anyF (N : Nat) : FM := fun rs Q _ => ∃ (l : Bool) (i : Int), rs = [.o l .feed, .v (.int i)] ∧ 0 ≤ i ∧ i < (N : Int) ∧ ∀ m, valW cl5 N m = true → Q (.v m)
abbrev s__law_any : Stmt := topS 45
theorem sc__law_any : FnScope ["_law_feed_here", "_law_deep", "_law_way", "_law_some", "_law_k"] ["_law_feed_here", "_law_deep"] (defScope s__law_any) := ⟨rfl, rfl, rfl, by decide +kernel, rfl, by decide +kernel, by decide +kernel⟩
theorem p_any {k : Nat} (B : Bi mg) (EO : EvOk Ω) (EQ : EqP P w Ω mg base n d cl) (hk : n + d + 1 ≤ k) (hd : 1 ≤ d) (D : Df Ω.K mg "_law_any" s__law_any ["_law_feed_here", "_law_deep"]) (G_law_draw : CalM P w Ω mg base k "_law_draw" drawF) (G_law_pick : CalM P w Ω mg base k "_law_pick" pickF) (G_law_near_name : CalM P w Ω mg base k "_law_near_name" nearF) (G_law_word : CalM P w Ω mg base k "_law_word" wordF) (G_law_ways : CalM P w Ω mg base k "_law_ways" waysF)
    (G_Step : MakM P w Ω mg base (k - 1) "Step" 0 stepI) (G_named : CalM P w Ω mg base k "named" namedF) (G_Trait : MakS P w Ω mg base (k - 1) "Trait" 2 traitI) (G_Chain : MakS P w Ω mg base (k - 1) "Chain" 3 chainI) : ∀ N : Nat, CalM P w Ω mg base (k + N) "_law_any" (anyF N)
  | 0 => CalM.mono (calM_never D fun rs Q x ⟨l, i, _, h0, h1, _⟩ => by omega) (Nat.zero_le _)
  | N + 1 => by
    have G_law_any := p_any B EO EQ hk hd D G_law_draw G_law_pick G_law_near_name G_law_word G_law_ways G_Step G_named G_Trait G_Chain N
    refine calM (k := k + N) D sc__law_any (fun rs Q x h => ?_) (fun fa cdv A outer s H E hr => (pms_cons (pms_set (i := 2) sc__law_any.nd rfl (Or.inl rfl) (pm_call G_law_draw rfl (L2N.takes_of rfl rfl rfl rfl) hr (by omega) rfl (pm_cons (pm_var (pv 0)) (pm_cons (pm_ifExp (pm_tcmp om_gt (pm_var (pv 1)) pm_int (nomark _)) pm_int pm_int) pm_nil))))
      (pms_cons (pms_if (pm_tcmp (om_eq EQ rfl (hr.mono (by omega))) (pm_var (pv 2)) pm_int (nomark _)) (pms_one (pms_ret (pm_op om_sub (pm_call G_law_draw rfl (L2N.takes_of rfl rfl rfl rfl) hr (by omega) rfl (pm_cons (pm_var (pv 0)) (pm_cons pm_int pm_nil))) pm_int))) pms_nil)
      (pms_cons (pms_if (pm_tcmp (om_eq EQ rfl (hr.mono (by omega))) (pm_var (pv 2)) pm_int (nomark _)) (pms_one (pms_ret (pm_call G_law_pick rfl (L2N.takes_of rfl rfl rfl rfl) hr (by omega) rfl (pm_cons (pm_var (pv 0)) (pm_cons (pm_lst (pm_cons pm_bl (pm_cons pm_bl (pm_cons pm_non (pm_cons pm_non pm_nil))))) pm_nil))))) pms_nil)
      (pms_cons (pms_if (pm_tcmp (om_eq EQ rfl (hr.mono (by omega))) (pm_var (pv 2)) pm_int (nomark _)) (pms_one (pms_ret (pm_call G_law_near_name rfl (L2N.takes_of rfl rfl rfl rfl) hr (by omega) rfl (pm_cons (pm_var (pv 0)) pm_nil)))) pms_nil)
      (pms_cons (pms_if (pm_tcmp (om_eq EQ rfl (hr.mono (by omega))) (pm_var (pv 2)) pm_int (nomark _)) (pms_one (pms_ret (pm_make G_Step rfl (L2N.takes_of rfl rfl rfl rfl) hr (by omega) rfl (pm_cons (pm_call G_law_word rfl (L2N.takes_of rfl rfl rfl rfl) hr (by omega) rfl (pm_cons (pm_var (pv 0)) pm_nil)) (pm_cons (pm_call G_law_ways rfl (L2N.takes_of rfl rfl rfl rfl) hr (by omega) rfl (pm_cons (pm_var (pv 0)) pm_nil)) pm_nil))))) pms_nil)
      (pms_cons (pms_if (pm_tcmp (om_eq EQ rfl (hr.mono (by omega))) (pm_var (pv 2)) pm_int (nomark _)) (pms_one (pms_ret (pm_call G_named rfl (L2N.takes_of rfl rfl rfl rfl) hr (by omega) rfl (pm_cons (pm_call G_law_word rfl (L2N.takes_of rfl rfl rfl rfl) hr (by omega) rfl (pm_cons (pm_var (pv 0)) pm_nil)) pm_nil)))) pms_nil)
      (pms_cons (pms_if (pm_tcmp (om_eq EQ rfl (hr.mono (by omega))) (pm_var (pv 2)) pm_int (nomark _)) (pms_one (pms_ret (pm_makeS G_Trait rfl (L2N.takes_of rfl rfl rfl rfl) hr (by omega) rfl (pm_cons (pm_str "up") (pm_cons (pm_make G_Step rfl (L2N.takes_of rfl rfl rfl rfl) hr (by omega) rfl (pm_cons (pm_call G_law_word rfl (L2N.takes_of rfl rfl rfl rfl) hr (by omega) rfl (pm_cons (pm_var (pv 0)) pm_nil)) (pm_cons (pm_str "+") pm_nil))) pm_nil))))) pms_nil)
      (pms_cons (pms_if (pm_tcmp (om_eq EQ rfl (hr.mono (by omega))) (pm_var (pv 2)) pm_int (nomark _)) (pms_one (pms_ret (pm_makeS G_Chain rfl (L2N.takes_of rfl rfl rfl rfl) hr (by omega) rfl (pm_cons (pm_make G_Step rfl (L2N.takes_of rfl rfl rfl rfl) hr (by omega) rfl (pm_cons (pm_call G_law_word rfl (L2N.takes_of rfl rfl rfl rfl) hr (by omega) rfl (pm_cons (pm_var (pv 0)) pm_nil)) (pm_cons (pm_str "+") pm_nil))) pm_nil)))) pms_nil)
      (pms_cons (pms_setLc (i := 3) (own := [("_law_k", 4)]) rfl sc__law_any.nd rfl rfl (sw_true rfl rfl rfl (by decide +kernel)) (pm_range1 false rfl B.range (pm_call G_law_draw rfl (L2N.takes_of rfl rfl rfl rfl) hr (by omega) rfl (pm_cons (pm_var (pv 0)) (pm_cons pm_int pm_nil)))) (blkOk_by (own := [("_law_k", 4)]) (N := ["_law_feed_here", "_law_deep", "_law_way", "_law_some", "_law_k"]) (sc := defScope s__law_any) (by decide +kernel)) (fun _ _ _ _ _ => (pmg_name [4] (by decide) (pg_name (i := 4) sc__law_any.nd rfl (Or.inl rfl)))) (fun _ _ _ _ _ => pmt_nil) (fun _ _ _ _ _ => (pm_call G_law_any rfl takes0N hr (by omega) rfl (pm_cons (pm_var (pv 0)) (pm_cons (pm_op om_sub (pm_var (pv 1)) pm_int) pm_nil)))))
      (pms_frz 3 (pms_one (pms_ret (pm_ifExp (pm_tcmp (om_eq EQ rfl (hr.mono (by omega))) (pm_var (pv 2)) pm_int (nomark _)) (pm_var (pv 3)) (pm_callTy (cm_tuple rfl) rfl B.ty_tuple (by decide +kernel) (pm_cons (pm_var (pv 3)) pm_nil)))))))))))))))) (fun rs Q x h => ?_)
    · obtain ⟨l, i, rfl, _⟩ := h
      rfl
    · obtain ⟨l, i, rfl, h0, h1, q⟩ := h
      simp? [cOk_ii hd, drawF, pickF, nearF, wordF, waysF, namedF, R.arg?]
      refine ite3 (fun hi r r0 r1 => ?_) fun hi r r0 r1 => ?_
      · refine ite3 (fun _ => ?_) fun _ => ite3 (fun _ => ?_) fun _ => ite3 (fun _ => ?_) fun _ => ite3 (fun _ => ?_) fun _ => ite3 (fun _ => ?_) fun _ => ite3 (fun _ => ?_) fun _ => ite3 (fun _ => ?_) fun _ => ?_
        · exact fun r _ _ => q _ rfl
        · exact ⟨q _ rfl, q _ rfl, q _ rfl⟩
        · exact fun l _ => q _ rfl
        · exact fun l hl u hu => mk_step hl hu (q _ (by simp [valW, cl5, stepW, hl, hu]))
        · exact fun l hl => ⟨fun _ => q _ (by simp [valW, cl5, nameE, exprW0]), fun h => by rw [show nameM (.str l) = nmB l from rfl, hl] at h; cases h⟩
        · intro l hl
          refine mk_step (Q := fun r => traitI [R.v (M.str (tx "up")), co r] _ _) hl wy_plus ?_
          refine mk_trait (ms := [.obj 0 [.str l, .str (tx "+")]]) (by simp) (fun m hm => ?_) (fun e h => by rw [due_up] at h; cases h) fun _ => q _ (by simp [valW, cl5, traitW, stepW, hl, wy_plus]; exact .inl (.inl (by decide +kernel)))
          rw [List.mem_singleton] at hm
          subst hm
          simp [okStep, stepW, hl, wy_plus]
        · intro l hl
          refine mk_step (Q := fun r => chainI [co r] _ _) hl wy_plus ?_
          have h1 : [M.obj 0 [.str l, .str (tx "+")]].all oneW = true := by
            have e : (tx "+").length = 1 := by decide +kernel
            simp [oneW, isCM, waysOf, e]
          refine mk_chain (ms := [.obj 0 [.str l, .str (tx "+")]]) (by simp) (fun m hm => ?_) (fun h => by rw [h1] at h; cases h) fun _ => q _ (by simp [valW, cl5, chainW, stepW, hl, wy_plus])
          rw [List.mem_singleton] at hm
          subst hm
          simp [okStep, stepW, hl, wy_plus]
        · intro r2 r3 r4
          refine ⟨by omega, by omega, lcM_inv (fun i acc => acc.length = i ∧ acc.all (valW cl5 N) = true) ⟨rfl, rfl⟩ (fun j m acc e I NX hN => ?_) (fun acc I => ?_)⟩
          · have hj : j < r2.toNat := by
              have := (List.getElem?_eq_some_iff.mp e).1
              simpa using this
            unfold elM
            simp? [anyF]
            refine ⟨by omega, by omega, fun m' hm' => ⟨by omega, hN _ ⟨by simp [I.1], ?_⟩⟩⟩
            rw [List.all_append, I.2, List.all_cons, hm']
            rfl
          · have hl : acc.length ≤ 1000 := by
              have := I.1
              simp at this
              omega
            refine ite3 (fun _ => q _ ?_) fun _ => q _ ?_
            · simp [valW, hl]
              simpa using I.2
            · simp [valW, hl]
              simpa using I.2
      · refine ite3 (fun _ => ?_) fun _ => ite3 (fun _ => ?_) fun _ => ite3 (fun _ => ?_) fun _ => ite3 (fun _ => ?_) fun _ => ite3 (fun _ => ?_) fun _ => ite3 (fun _ => ?_) fun _ => ite3 (fun _ => ?_) fun _ => ?_
        · exact fun r _ _ => q _ rfl
        · exact ⟨q _ rfl, q _ rfl, q _ rfl⟩
        · exact fun l _ => q _ rfl
        · exact fun l hl u hu => mk_step hl hu (q _ (by simp [valW, cl5, stepW, hl, hu]))
        · exact fun l hl => ⟨fun _ => q _ (by simp [valW, cl5, nameE, exprW0]), fun h => by rw [show nameM (.str l) = nmB l from rfl, hl] at h; cases h⟩
        · intro l hl
          refine mk_step (Q := fun r => traitI [R.v (M.str (tx "up")), co r] _ _) hl wy_plus ?_
          refine mk_trait (ms := [.obj 0 [.str l, .str (tx "+")]]) (by simp) (fun m hm => ?_) (fun e h => by rw [due_up] at h; cases h) fun _ => q _ (by simp [valW, cl5, traitW, stepW, hl, wy_plus]; exact .inl (.inl (by decide +kernel)))
          rw [List.mem_singleton] at hm
          subst hm
          simp [okStep, stepW, hl, wy_plus]
        · intro l hl
          refine mk_step (Q := fun r => chainI [co r] _ _) hl wy_plus ?_
          have h1 : [M.obj 0 [.str l, .str (tx "+")]].all oneW = true := by
            have e : (tx "+").length = 1 := by decide +kernel
            simp [oneW, isCM, waysOf, e]
          refine mk_chain (ms := [.obj 0 [.str l, .str (tx "+")]]) (by simp) (fun m hm => ?_) (fun h => by rw [h1] at h; cases h) fun _ => q _ (by simp [valW, cl5, chainW, stepW, hl, wy_plus])
          rw [List.mem_singleton] at hm
          subst hm
          simp [okStep, stepW, hl, wy_plus]
        · omega
end
end PL
namespace PL
open PySem PySem.Spec PyProof.Rows L2 KW L2H
/-- an expression gives this thing -/
def Gv (t : TM) (ρ : List R) (r : R) : Prop := ∀ (Q : R → Prop) (x : X0), Q r → t ρ Q x
def Ga (u : TMA) (ρ : List R) (rs : List R) : Prop := ∀ (Q : List R → Prop) (x : X0), Q rs → u ρ Q x
theorem gv_v {i : Nat} {ρ : List R} {m : M} (e : ρ[i]? = some (.v m)) : Gv (tmV i) ρ (.v m) := fun Q x q => by
  unfold tmV
  rw [e]
  exact q
theorem gv_o {i : Nat} {ρ : List R} {l : Bool} {c : OC} (e : ρ[i]? = some (.o l c)) : Gv (tmV i) ρ (.o l c) := fun Q x q => by
  unfold tmV
  rw [e]
  exact q
theorem gv_c {m : M} {ρ : List R} : Gv (tmC m) ρ (.v m) := fun _ _ q => q
theorem ga_nil {ρ : List R} : Ga tmNil ρ [] := fun _ _ q => q
theorem ga_cons {t : TM} {u : TMA} {ρ : List R} {r : R} {rs : List R} (h : Gv t ρ r) (h' : Ga u ρ rs) : Ga (tmCons t u) ρ (r :: rs) := fun Q x q => h _ _ (h' _ _ q)
theorem gv_lst {u : TMA} {ρ rs : List R} {ms : List M} (h : Ga u ρ rs) (e : ms? rs = some ms) (hl : ms.length ≤ 100000) : Gv (tmLst u) ρ (.f (.lst ms)) := fun Q x q => h _ _ ⟨ms, e, hl, q⟩
theorem gv_tup {u : TMA} {ρ rs : List R} {ms : List M} (h : Ga u ρ rs) (e : ms? rs = some ms) (hl : ms.length ≤ 100000) : Gv (tmTup u) ρ (.v (.tup ms)) := fun Q x q => h _ _ ⟨ms, e, hl, q⟩
theorem gv_op {sem : R → R → (R → Prop) → Prop} {ta tb : TM} {ρ : List R} {a b r : R} (h : Gv ta ρ a) (h' : Gv tb ρ b) (s : ∀ Q : R → Prop, Q r → sem a b Q) : Gv (tmOp sem ta tb) ρ r := fun Q x q => h _ _ (h' _ _ (s _ q))
theorem gs_seq {t u : TMS} {ρ : List R} {C : CM} (h : t ρ { C with nx := fun ρ' => u ρ' C }) : tmSeq t u ρ C := h
theorem gs_ret {t : TM} {ρ : List R} {C : CM} {r : R} (h : Gv t ρ r) (q : retM r (C.rt ρ)) : tmRet t ρ C := h _ _ q
theorem gv_call {f : FM} {u : TMA} {ρ rs : List R} {r : R} (h : Ga u ρ rs) (s : ∀ (Q : R → Prop) (x : X0), Q r → f (rs.map co) Q x) : Gv (tmCall f u) ρ r := fun Q x q => h _ _ (s _ _ q)
def Gb (t : TMB) (ρ : List R) (b : Bool) : Prop := ∀ (Q : Bool → Prop) (x : X0), Q b → t ρ Q x
theorem gb_t {t : TM} {ρ : List R} {b : Bool} (h : Gv t ρ (.v (.bl b))) : Gb (tmB t) ρ b := fun Q x q => h _ _ ⟨b, rfl, q⟩
theorem gv_ne {cl : M → Bool} {d : Nat} {ta tb : TM} {ρ : List R} {a b : R} {m m' : M} (h : Gv ta ρ a) (h' : Gv tb ρ b) (e : a.mv? = some m) (e' : b.mv? = some m') (hc : cOk cl d m m' = true) (hn : nOk m m' = true) (he : m = m') : Gv (tmOp (semNe cl d) ta tb) ρ (.v (.bl false)) := fun Q x q => h _ _ (h' _ _ ⟨m, m', e, e', ⟨hc, hn⟩, by
  subst he
  rw [eqM_refl]
  exact q⟩)
/-- an expression gives one of these things -/
def Gd (t : TM) (ρ : List R) (P : R → Prop) : Prop := ∀ (Q : R → Prop) (x : X0), (∀ r, P r → Q r) → t ρ Q x
theorem gd_call {f : FM} {u : TMA} {ρ rs : List R} {P : R → Prop} (h : Ga u ρ rs) (s : ∀ (Q : R → Prop) (x : X0), (∀ r, P r → Q r) → f (rs.map co) Q x) : Gd (tmCall f u) ρ P := fun Q x q => h _ _ (s _ _ q)
theorem gs_hid {t : TMS} {ρ : List R} {C : CM} (q : t ρ C) : @hid ⟨t⟩ ρ C := q
theorem gs_frz {i : Nat} {t : TMS} {ρ : List R} {C : CM} (q : t (frz i ρ) C) : tmFrz i t ρ C := q
def Gi (t : TMI) (ρ : List R) (ms : List M) : Prop := ∀ (Q : List M → Prop) (x : X0), Q ms → t ρ Q x
end PL
namespace PL
open PySem PySem.Spec PyProof.Rows L2 KW L2H
theorem gv_eqs {cl : M → Bool} {d : Nat} {ta tb : TM} {ρ : List R} {a b : List Nat} (hd : 1 ≤ d) (h : Gv ta ρ (.v (.str a))) (h' : Gv tb ρ (.v (.str b))) : Gv (tmOp (semEq cl d) ta tb) ρ (.v (.bl (decide (a = b)))) := gv_op h h' fun Q q => ⟨.str a, .str b, rfl, rfl, cOk_ss hd _ _, by
  rw [show eqM (.str a) (.str b) = decide (a = b) by simp [eqM]]
  exact q⟩
/-- an item of a tuple -/
theorem gv_ixt {t : TM} {ρ : List R} {xs : List M} {i : Int} {m : M} (h : Gv t ρ (.v (.tup xs))) (e : L2.atI xs i = some m) : Gv (tmOp semIx t (tmC (.int i))) ρ (.v m) := gv_op h gv_c fun Q q => ⟨m, e, q⟩
theorem gv_cB {sem : List R → (R → Prop) → Prop} {u : TMA} {ρ rs : List R} {r : R} (h : Ga u ρ rs) (s : ∀ Q : R → Prop, Q r → sem rs Q) : Gv (tmCallB sem u) ρ r := fun Q x q => h _ _ (s _ q)
end PL
namespace PL
open PySem PySem.Spec PyProof.Rows L2 KW L2H
theorem Gd.mono {t : TM} {ρ : List R} {P S : R → Prop} (h : Gd t ρ P) (s : ∀ r, P r → S r) : Gd t ρ S := fun Q x q => h _ _ fun r hr => q r (s r hr)
theorem decide_yes {p : Prop} [Decidable p] (h : p) : decide p = true := decide_eq_true h
theorem decide_no {p : Prop} [Decidable p] (h : ¬ p) : decide p = false := decide_eq_false h
theorem gb_not {t : TMB} {ρ : List R} {b c : Bool} (h : Gb t ρ b) (e : (!b) = c) : Gb (tmNot t) ρ c := fun Q x q => h _ _ (by rw [e]; exact q)
theorem gb_orF {t u : TMB} {ρ : List R} {b : Bool} (h : Gb t ρ false) (h' : Gb u ρ b) : Gb (tmOr t u) ρ b := fun Q x q => h _ _ (h' _ _ q)
theorem gb_t' {t : TM} {ρ : List R} {b c : Bool} (h : Gv t ρ (.v (.bl b))) (e : b = c) : Gb (tmB t) ρ c := fun Q x q => h _ _ ⟨b, rfl, by rw [e]; exact q⟩
theorem gv_eqi {cl : M → Bool} {d : Nat} {ta tb : TM} {ρ : List R} {a b : Int} (hd : 1 ≤ d) (h : Gv ta ρ (.v (.int a))) (h' : Gv tb ρ (.v (.int b))) : Gv (tmOp (semEq cl d) ta tb) ρ (.v (.bl (decide (a = b)))) := gv_op h h' fun Q q => ⟨.int a, .int b, rfl, rfl, cOk_ii hd _ _, by
  rw [show eqM (.int a) (.int b) = decide (a = b) from (by simp only [eqM]; rfl)]
  exact q⟩
theorem gv_nes {cl : M → Bool} {d : Nat} {ta tb : TM} {ρ : List R} {a b : List Nat} (hd : 1 ≤ d) (h : Gv ta ρ (.v (.str a))) (h' : Gv tb ρ (.v (.str b))) : Gv (tmOp (semNe cl d) ta tb) ρ (.v (.bl (!decide (a = b)))) := gv_op h h' fun Q q => ⟨.str a, .str b, rfl, rfl, ⟨cOk_ss hd _ _, rfl⟩, by
  rw [show eqM (.str a) (.str b) = decide (a = b) by simp [eqM]]
  exact q⟩
theorem gv_fld {f : Str} {t : TM} {ρ : List R} {c : Nat} {ms : List M} {m : M} (h : Gv t ρ (.v (.obj c ms))) (e : atf f c ms = some m) : Gv (tmFld f t) ρ (.v m) := fun Q x q => h _ _ ⟨m, e, q⟩
theorem gv_ixo {t : TM} {ρ : List R} {l : Bool} {xs : List M} {i : Int} {m : M} (h : Gv t ρ (.o l (.lst xs))) (e : L2.atI xs i = some m) : Gv (tmOp semIx t (tmC (.int i))) ρ (.v m) := gv_op h gv_c fun Q q => ⟨m, e, q⟩
theorem gv_ixv {t : TM} {ρ : List R} {xs : List M} {i : Int} {m : M} (h : Gv t ρ (.v (.lst xs))) (e : L2.atI xs i = some m) : Gv (tmOp semIx t (tmC (.int i))) ρ (.v m) := gv_op h gv_c fun Q q => ⟨m, e, q⟩
theorem gv_addI {ta tb : TM} {ρ : List R} {a b : Int} (h : Gv ta ρ (.v (.int a))) (h' : Gv tb ρ (.v (.int b))) : Gv (tmOp semAdd ta tb) ρ (.v (.int (a + b))) := gv_op h h' fun Q q => q
theorem gv_addS {ta tb : TM} {ρ : List R} {a b : List Nat} (h : Gv ta ρ (.v (.str a))) (h' : Gv tb ρ (.v (.str b))) (hl : a.length + b.length ≤ 100000) : Gv (tmOp semAdd ta tb) ρ (.v (.str (a ++ b))) := gv_op h h' fun Q q => ⟨hl, q⟩
theorem gv_addT {ta tb : TM} {ρ : List R} {a b : List M} (h : Gv ta ρ (.v (.tup a))) (h' : Gv tb ρ (.v (.tup b))) (hl : a.length + b.length ≤ 100000) : Gv (tmOp semAdd ta tb) ρ (.v (.tup (a ++ b))) := gv_op h h' fun Q q => ⟨hl, q⟩
theorem semAdd_L {a b : R} {xs ys : List M} (ea : a.lst? = some xs) (eb : b.lst? = some ys) (hl : xs.length + ys.length ≤ 100000) {Q : R → Prop} (q : Q (.f (.lst (xs ++ ys)))) : semAdd a b Q := by
  unfold semAdd
  split
  · cases ea
  · cases ea
  · cases ea
  · rw [ea, eb]
    exact ⟨hl, q⟩
theorem gv_addL {ta tb : TM} {ρ : List R} {a b : R} {xs ys : List M} (h : Gv ta ρ a) (h' : Gv tb ρ b) (ea : a.lst? = some xs) (eb : b.lst? = some ys) (hl : xs.length + ys.length ≤ 100000) : Gv (tmOp semAdd ta tb) ρ (.f (.lst (xs ++ ys))) := gv_op h h' fun Q q => semAdd_L ea eb hl q
theorem gv_len {t : TM} {ρ : List R} {r : R} {xs : List M} (h : Gv t ρ r) (e : r.seq? = some xs) : Gv (tmCallB semLen (tmCons t tmNil)) ρ (.v (.int (xs.length : Nat))) := gv_cB (ga_cons h ga_nil) fun Q q => by
  unfold semLen
  split
  · rename_i heq; cases heq; cases e
  · rename_i heq; cases heq; cases e
  · rename_i heq; cases heq; rw [e]; exact q
  · rename_i h1 h2 h3; exact (h3 r rfl).elim
theorem gv_lens {t : TM} {ρ : List R} {l : List Nat} (h : Gv t ρ (.v (.str l))) : Gv (tmCallB semLen (tmCons t tmNil)) ρ (.v (.int (l.length : Nat))) := gv_cB (ga_cons h ga_nil) fun Q q => q
theorem gv_tuple {t : TM} {ρ : List R} {r : R} {xs : List M} (h : Gv t ρ r) (e : r.seq? = some xs) : Gv (tmCallB semTuple (tmCons t tmNil)) ρ (.v (.tup xs)) := gv_cB (ga_cons h ga_nil) fun Q q => by
  unfold semTuple
  dsimp only
  rw [e]
  exact q
theorem gv_list {t : TM} {ρ : List R} {r : R} {xs : List M} (h : Gv t ρ r) (e : r.seq? = some xs) : Gv (tmCallB semList (tmCons t tmNil)) ρ (.f (.lst xs)) := gv_cB (ga_cons h ga_nil) fun Q q => by
  unfold semList
  split
  · rename_i heq; cases heq; cases e
  · rename_i heq; cases heq; rw [e]; exact q
  · rename_i h1 h2; exact (h2 r rfl).elim
theorem gb_eqs' {cl : M → Bool} {d : Nat} {ta tb : TM} {ρ : List R} {a b : List Nat} {c : Bool} (hd : 1 ≤ d) (h : Gv ta ρ (.v (.str a))) (h' : Gv tb ρ (.v (.str b))) (e : decide (a = b) = c) : Gb (tmB (tmOp (semEq cl d) ta tb)) ρ c := gb_t' (gv_eqs hd h h') e
theorem gb_eqi' {cl : M → Bool} {d : Nat} {ta tb : TM} {ρ : List R} {a b : Int} {c : Bool} (hd : 1 ≤ d) (h : Gv ta ρ (.v (.int a))) (h' : Gv tb ρ (.v (.int b))) (e : decide (a = b) = c) : Gb (tmB (tmOp (semEq cl d) ta tb)) ρ c := gb_t' (gv_eqi hd h h') e
theorem gb_nes' {cl : M → Bool} {d : Nat} {ta tb : TM} {ρ : List R} {a b : List Nat} {c : Bool} (hd : 1 ≤ d) (h : Gv ta ρ (.v (.str a))) (h' : Gv tb ρ (.v (.str b))) (e : (!decide (a = b)) = c) : Gb (tmB (tmOp (semNe cl d) ta tb)) ρ c := gb_t' (gv_nes hd h h') e
theorem gi_it {hv : Bool} {t : TM} {ρ : List R} {r : R} {ms : List M} (h : Gv t ρ r) (e : r.its? hv = some ms) : Gi (tmIter hv t) ρ ms := fun Q x q => h _ _ ⟨ms, e, q⟩
theorem gi_rn {t : TM} {ρ : List R} {n : Nat} (h : Gv t ρ (.v (.int (n : Nat)))) (hn : n < 100000) : Gi (tmRange1 t) ρ ((List.range n).map fun i => .int ((0 : Int) + (i : Nat))) := fun Q x q => h _ _ ⟨n, rfl, by omega, by omega, by rw [Int.toNat_natCast]; exact q⟩
theorem lcM_of {α : Type} {te : TM} {tg : TMG} {ρ : List R} (f g : α → M) {Q : List M → Prop} : ∀ {xs : List α} {acc : List M}, (∀ x ∈ xs, ∀ K : M → Prop, K (g x) → tg (f x) ρ fun ρ' => te ρ' (fun r => ∃ y, r.m? = some y ∧ K y) X1) → acc.length + xs.length ≤ 100000 → Q (acc ++ xs.map g) → lcM tg (fun _ Q _ => Q true) te ρ (xs.map f) acc Q
  | [], acc, _, _, q => by simpa [lcM] using q
  | x :: xs, acc, h, hl, q => by
    simp only [List.length_cons] at hl
    show elM _ _ _ _ _ _ _
    unfold elM
    simp only [if_true]
    refine h x List.mem_cons_self _ ⟨by omega, lcM_of f g (fun y hy => h y (List.mem_cons_of_mem _ hy)) (by rw [List.length_append, List.length_singleton]; omega) ?_⟩
    rw [List.append_assoc]
    exact q
theorem gv_lcm {α : Type} {i : Nat} {ti : TMI} {te : TM} {ρ : List R} {xs : List α} {ms : List M} (f g : α → M) (em : ms = xs.map f) (hn : noOwn ρ [i] = true) (h : Gi ti ρ ms) (hf : free (wipeR ρ [i]) i = true) (hl : xs.length ≤ 100000) (he : ∀ a ∈ xs, ∃ r, r.m? = some (g a) ∧ Gv te ((wipeR ρ [i]).set i (.v (f a))) r) :
    Gv (tmLc [i] ti (tgN i) (fun _ Q _ => Q true) te) ρ (.f (.lst (xs.map g))) := fun Q x q => ⟨hn, h _ _ (by
  rw [em]
  refine lcM_of f g (fun a ha K hK => ?_) (by simpa using hl) (by simpa using q)
  obtain ⟨r, e, hr⟩ := he a ha
  exact ⟨hf, hr _ _ ⟨g a, e, hK⟩⟩)⟩
/-- a for, told by what has been gone through -/
theorem gs_forP {α : Type} {ti : TMI} {tg : TMG} {tb : TMS} {ρ : List R} {C : CM} {xs : List α} {ms : List M} (f : α → M) (I : List α → List R → Prop) (em : ms = xs.map f) (h : Gi ti ρ ms) (h0 : I [] ρ)
    (hs : ∀ pre a post, xs = pre ++ a :: post → ∀ ρ, I pre ρ → ∀ D : CM, D.rt = C.rt → D.ex = C.ex → (∀ ρ', I (pre ++ [a]) ρ' → D.nx ρ') → tg (f a) ρ fun ρ' => tb ρ' D) (hd : ∀ ρ, I xs ρ → C.nx ρ) : tmFor ti tg tb ρ C := h _ _ (by
  rw [em]
  refine forM_inv (fun i ρ => I (xs.take i) ρ) (by simpa using h0) (fun i m ρ e hI NX hN => ?_) (fun ρ hI => hd ρ (by simpa using hI))
  rw [List.getElem?_map] at e
  obtain ⟨a, e1, rfl⟩ := Option.map_eq_some_iff.mp e
  obtain ⟨hi, e2⟩ := List.getElem?_eq_some_iff.mp e1
  have ed : xs = xs.take i ++ a :: xs.drop (i + 1) := by
    rw [← e2]
    simp
  have et : xs.take (i + 1) = xs.take i ++ [a] := by rw [List.take_succ, e1]; rfl
  exact hs _ a _ ed ρ hI _ rfl rfl fun ρ' h' => hN ρ' (by rw [et]; exact h'))
theorem gq_setv {i : Nat} {t : TM} {u : TMS} {ρ : List R} {C : CM} {m : M} (h : Gv t ρ (.v m)) (hf : free ρ i = true) (q : u (ρ.set i (.v m)) C) : tmSeq (tmSet i t) u ρ C := h _ _ ⟨hf, q⟩
theorem gq_setf {i : Nat} {t : TM} {u : TMS} {ρ : List R} {C : CM} {c : OC} (h : Gv t ρ (.f c)) (hf : free ρ i = true) (q : u (ρ.set i (.o true c)) C) : tmSeq (tmSet i t) u ρ C := h _ _ ⟨hf, q⟩
theorem gq_forP {α : Type} {ti : TMI} {tg : TMG} {tb u : TMS} {ρ : List R} {C : CM} {xs : List α} {ms : List M} (f : α → M) (I : List α → List R → Prop) (em : ms = xs.map f) (h : Gi ti ρ ms) (h0 : I [] ρ)
    (hs : ∀ pre a post, xs = pre ++ a :: post → ∀ ρ, I pre ρ → ∀ D : CM, D.rt = C.rt → D.ex = C.ex → (∀ ρ', I (pre ++ [a]) ρ' → D.nx ρ') → tg (f a) ρ fun ρ' => tb ρ' D) (hd : ∀ ρ, I xs ρ → u ρ C) : tmSeq (tmFor ti tg tb) u ρ C := gs_seq (gs_forP f I em h h0 hs hd)
end PL
local macro_rules
  | `(tactic| ac_rfl) => `(tactic| first
    | ((with_reducible apply PL.gv_v); rfl)
    | ((with_reducible apply PL.gv_o); rfl)
    | with_reducible exact PL.gv_c
    | with_reducible exact PL.ga_nil
    | ((with_reducible apply PL.ga_cons) <;> ac_rfl)
    | ((with_reducible apply PL.gv_tup) <;> ac_rfl)
    | ((with_reducible apply PL.gv_lst) <;> ac_rfl)
    | ((with_reducible apply PL.gv_ixt) <;> ac_rfl)
    | ((with_reducible apply PL.gv_ixo) <;> ac_rfl)
    | ((with_reducible apply PL.gv_ixv) <;> ac_rfl)
    | ((with_reducible apply PL.gv_fld) <;> ac_rfl)
    | ((with_reducible apply PL.gb_eqs' (by assumption)) <;> ac_rfl)
    | ((with_reducible apply PL.gb_eqi' (by assumption)) <;> ac_rfl)
    | ((with_reducible apply PL.gb_nes' (by assumption)) <;> ac_rfl)
    | ((with_reducible apply PL.gb_not) <;> ac_rfl)
    | ((with_reducible apply PL.gv_eqs (by assumption)) <;> ac_rfl)
    | ((with_reducible apply PL.gv_eqi (by assumption)) <;> ac_rfl)
    | ((with_reducible apply PL.gv_addI) <;> ac_rfl)
    | ((with_reducible apply PL.gv_addS) <;> ac_rfl)
    | ((with_reducible apply PL.gv_addT) <;> ac_rfl)
    | ((with_reducible apply PL.gv_addL) <;> ac_rfl)
    | ((with_reducible apply PL.gv_lens) <;> ac_rfl)
    | ((with_reducible apply PL.gv_len) <;> ac_rfl)
    | ((with_reducible apply PL.gv_tuple) <;> ac_rfl)
    | ((with_reducible apply PL.gv_list) <;> ac_rfl)
    | ((with_reducible apply PL.gi_it) <;> ac_rfl)
    | (with_reducible exact rfl)
    | ((with_reducible show _ = some _); rfl)
    | (with_reducible exact PL.decide_yes rfl)
    | (with_reducible exact PL.decide_yes (by assumption))
    | (with_reducible exact PL.decide_no (by assumption))
    | (with_reducible exact PL.decide_yes (by first | decide +kernel | omega))
    | (with_reducible exact PL.decide_no (by first | decide +kernel | omega))
    | ((with_reducible show _ ≤ _); first | exact Nat.le_of_ble_eq_true rfl | assumption | omega | (simp only [List.length_map, List.length_append, List.length_cons, List.length_nil]; omega))
    | ((with_reducible show _ = _); first | assumption | omega))
namespace PL
open PySem PySem.Spec PyProof.Rows L2 KW L2H
theorem gv_ord {f : Int → Int → Bool} {g : List Nat → List Nat → Bool} {ta tb : TM} {ρ : List R} {a b : Int} (h : Gv ta ρ (.v (.int a))) (h' : Gv tb ρ (.v (.int b))) : Gv (tmOp (semOrd f g) ta tb) ρ (.v (.bl (f a b))) := gv_op h h' fun Q q => q
theorem gb_ord' {f : Int → Int → Bool} {g : List Nat → List Nat → Bool} {ta tb : TM} {ρ : List R} {a b : Int} {c : Bool} (h : Gv ta ρ (.v (.int a))) (h' : Gv tb ρ (.v (.int b))) (e : f a b = c) : Gb (tmB (tmOp (semOrd f g) ta tb)) ρ c := gb_t' (gv_ord h h') e
theorem gv_sub {ta tb : TM} {ρ : List R} {a b : Int} (h : Gv ta ρ (.v (.int a))) (h' : Gv tb ρ (.v (.int b))) : Gv (tmOp (semInt (· - ·) fun _ _ => True) ta tb) ρ (.v (.int (a - b))) := gv_op h h' fun Q q => ⟨trivial, q⟩
end PL
local macro_rules
  | `(tactic| ac_rfl) => `(tactic| first
    | ((with_reducible apply PL.gv_sub) <;> ac_rfl)
    | ((with_reducible apply PL.gb_ord') <;> ac_rfl)
    | ((with_reducible apply PL.gv_ord) <;> ac_rfl)
    | ((with_reducible apply PL.gc_inner) <;> ac_rfl))
namespace PL
open PySem PySem.Spec PyProof.Rows L2 KW KH
section
variable {X : Cx}
/-- the error stays, its dict stands as an exception's dict -/
theorem mk_keep {pins : List (Addr × Obj)} {σ : L2.St} {H1 H2 : Hp} {hp hp2 h2 : Heap} {g1 g2 : Array GenState} {d1 d2 : Drawn} {t1 t2 : Nat} {os1 os2 : OsState} {a C d : Addr} {fs : List (Str × V)} (I1 : Inv X pins σ H1 ⟨hp, g1, d1, t1, os1⟩)
    (ha : hp.objs.size ≤ a) (k : ∀ b o, hp.get? b = some o → hp2.get? b = some o) (un : Un (frs X.stack) [] (upd H1 a (exo a C none)) H2 hp2 h2) (hok : HOk X.prog X.w H2 h2) (ho : os2 = os1) (hb : AllBare g2)
    (ed : H2 d = some (exd d fs)) (hd1 : H1 d = none) : Inv X pins σ (upd H2 d (.xd fs)) ⟨h2, g2, d2, t2, os2⟩ := by
  obtain ⟨mA, hns, rel⟩ := exd_at hok ed
  have hn : H1 a = none := I1.hok.fresh ha
  have nha : ∀ {b : Addr} {o : Obj}, hp.get? b = some o → b ≠ a := fun {b o} z => Nat.ne_of_lt (Nat.lt_of_lt_of_le (Heap.lt_size z) ha)
  have up : ∀ {b : Addr}, b ≠ a → H1 b = none → upd H1 a (exo a C none) b = none := fun {b} hb n => by rw [upd_ne hb]; exact n
  have nd : ∀ {b : Addr} {o : Obj}, hp.get? b = some o → H1 b = none → b ≠ d := fun {b o} z n e => by
    have y := un.free b o (k b o z) (up (nha z) n) (by simp)
    rw [e, ed] at y
    cases y
  have U : Un (frs X.stack) [] H1 (upd H2 d (.xd fs)) hp h2 := {
    keep := fun b o z n hf hx => un.keep b o (k b o z) (up (nha z) n) hf hx
    slot := fun b o z n hf hx => un.slot b o (k b o z) (up (nha z) n) hf hx
    free := fun b o z n hx => by
      rw [upd_ne (nd z n)]
      exact un.free b o (k b o z) (up (nha z) n) hx
    there := fun b o z hx => un.there b o (k b o z) hx
    tups := fun b xs z => by
      rw [upd_ne (ne_of_none z hd1)]
      exact un.tups b xs (by rw [upd_ne (ne_of_none z hn)]; exact z)
    frzs := fun b o v z => by
      rw [upd_ne (ne_of_none z hd1)]
      exact un.frzs b o v (by rw [upd_ne (ne_of_none z hn)]; exact z)
    tbls := fun b ps z => by
      rw [upd_ne (ne_of_none z hd1)]
      exact un.tbls b ps (by rw [upd_ne (ne_of_none z hn)]; exact z) }
  have hok3 : HOk X.prog X.w (upd H2 d (.xd fs)) h2 := fun b o z => by
    by_cases hbd : b = d
    · subst hbd
      rw [upd_same] at z
      cases z
      exact ⟨mA, hns, rel⟩
    · rw [upd_ne hbd] at z
      exact (hok b o z).stay (fun c v hc y => y) (fun c hc => by rw [upd_ne (at_ne ed hc exd_own)]; exact hc) (fun c xs hc => by rw [upd_ne (at_ne ed hc exd_tup)]; exact hc)
  exact I1.call' (ch := []) ho U hok3 hb (fun b z => absurd z (by simp))
/-- C(e, ..) as a value -/
def tMkV (C : Addr) (sp : Sp) (ta : TA) : TE := fun σ H Q => ta σ H fun vs H1 => vs.length ≤ 1000 ∧ ∀ a, H1 a = none → sp (.ref a :: vs) (upd H1 a (exo a C none))
  (fun v H2 => v = .non ∧ ∃ (d : Addr) (fs : List (Str × V)), H2 d = some (exd d fs) ∧ H1 d = none ∧ Q (.ref a) (upd H2 d (.xd fs))) (fun _ _ _ => False)
theorem pe_mkV {CX : CXT} {x : Str} {e : Expr} {es : List Expr} {ta : TA} {p pos : Pos} {C fI : Addr} {k : Nat} {fd : FuncData} {ps : List Str} {sp : Sp} (T : OexC X.K C) (iC : PySem.W.findIn X.K (.ref C) "__init__" = some (some (.ref fI))) (tI : PySem.W.typeIn X.K (.ref fI) = some (.type "function"))
    (F1 : FnOk X.prog X.w X.K X.mg X.base CX k fI fd ps sp) (hr : Room (k + 1) X.A) (hb : Binds X.K fd ps []) (hx : Passes CX X (fun _ _ _ => False)) (hg : Gl X x) (hm : X.mg x = some (.ref C)) (ha : PA X (e :: es) ta)
    (hdb : (x == ("__debug__" : Str)) = false := by decide) (he : starEach (e :: es) X.env = (false, eval e X.env) :: starEach es X.env := by rfl) (hpl : (backTo pos (starEach es X.env)).any (·.1) = false := by rfl) :
    PE X (.Call (.Name x p) (e :: es) [] pos) (tMkV C sp ta) := by
  refine ⟨fun pins s σ H Q I h => ?_⟩
  obtain ⟨nm, qn, N, bs, bm, sn, sub, ab, col, dd, k0, k1, k2, k3, k5, hC, hbm⟩ := T.cls
  refine wpAny_Call_Name_kw (ld_glob I hg hm ?_ hdb)
  refine PySem.W.callWith_K (h₀ := X.base) I.ok.mod.kin T.kC (thn (ha.run pos pins s σ H _ I h) fun us s1 ⟨vs, H1, I1, r1, hz, q1⟩ => ⟨I1.kIn, ?_⟩) he hpl
  show wpAny _ _ (call (.ref C) us) _ _ _
  obtain ⟨hp, g, dr, tk, os⟩ := s1
  have hsz : hp.objs.size ≤ hp.objs.size + 1 := Nat.le_succ _
  have hq := q1 (hp.objs.size + 1) (I1.hok.fresh hsz)
  generalize hG : (hp.push (PySem.W.kdv_tup us)).push (PySem.HandSPX.excO C hp.objs.size) = G
  have kk : ∀ b o, hp.get? b = some o → G.get? b = some o := fun b o e => by rw [← hG]; exact Heap.get?_push_of_some _ (Heap.get?_push_of_some _ e)
  have hget : G.get? (hp.objs.size + 1) = some (PySem.HandSPX.excO C hp.objs.size) := by rw [← hG]; heap_get
  have I2 : Inv X pins σ (upd H1 (hp.objs.size + 1) (exo (hp.objs.size + 1) C none)) ⟨G, g, dr, tk, os⟩ :=
    I1.laid (t' := tk) (a := hp.objs.size + 1) (o := exo (hp.objs.size + 1) C none) (h' := G) kk hsz (exo_ok hget)
  have r2 : Vals (V.ref (hp.objs.size + 1) :: vs) (Value.ref (hp.objs.size + 1) :: us) := .cons rfl r1
  have hl : (Value.ref (hp.objs.size + 1) :: us).length = ps.length := r2.length.symm.trans (F1.len _ _ _ _ hq)
  have hus : us.length ≤ sizeLine := by
    rw [← Paired.length r1]
    exact Nat.le_trans hz (by decide)
  have bb := hb ⟨G, g, dr, tk, os⟩ (Value.ref (hp.objs.size + 1) :: us) I2.kIn (by rw [List.append_nil]; exact hl)
  rw [List.append_nil] at bb
  refine wpAny_call (PySem.HandSPX.call_own F.excBase_ValueError (fun Y => PySem.HandSPX.refsVE_contains Y bm hbm) (I1.kIn _ _ hC) (PySem.W.looks_findIn I1.kIn iC) (fun self => PySem.W.bind_fn I1.kIn self tI) hus ?_)
  rw [hG]
  refine codeAny_mono (F1.run _ X.stack _ _ ⟨Value.ref (hp.objs.size + 1) :: us, []⟩ (Value.ref (hp.objs.size + 1) :: us) _ _ (fun _ _ _ => False) (hr.make C us []) (I2.env0.make C us []) bb r2 hq) fun r s' hq' => ?_
  cases r with
  | error er => exact hx pins σ _ _ er s' I2 hq'
  | ok fl =>
    cases fl with
    | ret u =>
      obtain ⟨v, H2, os2, bare2, un2, hok2, rv, ev, d, fs, ed, hd1, q2⟩ := hq'
      subst ev
      obtain ⟨h2, g2, d2, t2, os'⟩ := s'
      exact ⟨rv, ⟨V.ref (hp.objs.size + 1), _, mk_keep (d2 := d2) (t2 := t2) I1 hsz kk un2 hok2 os2 bare2 ed hd1, rfl, q2⟩⟩
    | next => exact False.elim hq'
    | brk => exact False.elim hq'
    | cont => exact False.elim hq'
/-- C(): an error without own __init__ -/
def tMk0 (C : Addr) : TE := fun _ H Q => ∀ a, H a = none → Q (.ref a) (upd H a (exo a C none))
theorem pe_mk0 {C : Addr} {bmB : List Value} {B newId initId : String} {x : Str} {p pos : Pos} (F : ExcBaseFacts B newId initId bmB) (q : PySem.W.excIn X.K C bmB newId = true) (gC : X.mg x = some (.ref C)) (kC : PySem.W.keepIn X.K (.ref C) = true) (hg : Gl X x) (hdb : (x == ("__debug__" : Str)) = false := by decide) :
    PE X (.Call (.Name x p) [] [] pos) (tMk0 C) := by
  refine ⟨fun pins s σ H Q I h => ?_⟩
  refine wpAny_Call_Name_kw (ld_glob I hg gC ?_ hdb)
  refine PySem.W.callWith_K0 I.kIn kC ?_
  show wpAny _ _ (call (.ref C) []) _ _ _
  obtain ⟨bm, N, nm, qn, bs, hdct, sn, sub, ab, col, dd, k0, k1, k2, k3, k5, mN, hC, hN, hni, T⟩ := exc_obj I.kIn q
  refine wpAny_call_exc_subT F T hC hN hni (fun h' a hm => ?_) (by show 0 ≤ sizeLine; rw [sizeLine_eq]; omega)
  have hn : H a = none := I.hok.gone hm.new
  obtain ⟨t, ht, _, _⟩ := hm.there
  exact ⟨.ref a, upd H a (exo a C none), I.laidN hm.keeps hm.new hn (exo_ok ht), rfl, h a hn⟩
/-- e.f of an error -/
def tXv (K : PySem.W.Frag) (f : Str) (te : TE) : TE := fun σ H Q => te σ H fun x H1 => ∃ (a C dd : Addr) (fs : List (Str × V)) (v : V), x = .ref a ∧ H1 a = some (exo a C (some dd)) ∧ H1 dd = some (.xd fs) ∧ fs.lookup f = some v ∧ XfC K C ∧ PySem.W.findIn K (.ref C) f = some none ∧ Q v H1
theorem pe_xv {e : Expr} {te : TE} {pos : Pos} {n : Str} (he : PE X e te) (hb : attributeBase e n X.env (eval e X.env) = eval e X.env := by rfl) : PE X (.Attribute e n pos) (tXv X.K n te) := by
  refine ⟨fun pins s σ H Q I h => ?_⟩
  refine attr_of hb (thn (he.run pins s σ H _ I h) fun u s1 hh => ?_)
  obtain ⟨x, H1, I1, rx, a, C, dd, fs, v, ex, ea, ed, l, T, hno, q⟩ := hh
  subst ex
  obtain rfl : u = Value.ref a := rx
  obtain ⟨t1, ho⟩ := exo_at I1.hok ea
  have hx : ObjOk X.prog X.w H1 s1.heap dd (.xd fs) := I1.hok dd _ ed
  obtain ⟨mA, hns, hr⟩ := hx
  obtain ⟨od, hod, hl⟩ := lookIn_ns hns
  obtain ⟨u, hu, ru⟩ := RelO.some_of (v := v) (o := mA n) (by rw [← l]; exact hr n)
  have J : PySem.W.InstAt s1.heap a _ C (some od) := ⟨ho, rfl, rfl, hod⟩
  exact HandSPX.exc_get I1.kIn J T.ga T.gg T.exC (PySem.W.findObj_own T.hdC hno rfl (by rw [hl, hu])) (handed_of ru) ⟨v, H1, I1.tok _, ru, q⟩
end
section
variable {X : Cx} {Ω : Ev} {Wx : WX}
def tmMkE (er : Nat) (t : TM) : TM := fun ρ Q x => t ρ (fun r => ∃ m, r.m? = some m ∧ Q (.v (.err er [m]))) x
theorem pm_mkE {x : Str} {er : Nat} {f : Str} {p pos : Pos} {e : Expr} {t : TM} {k : Nat} (ge : er < 13) (T : ErC Ω.K X.mg x f (Ω.ecs er) ∧ f = ef er) (I : ErI X.prog X.w Ω.K X.mg X.base f (Ω.ecs er)) (hK : X.K = Ω.K) (hr : Room (k + 2) X.A) (hg : Gl X x) (he : PE X e (lf Ω Wx t))
    (hdb : (x == ("__debug__" : Str)) = false := by decide) (hs : starEach [e] X.env = (false, eval e X.env) :: starEach [] X.env := by rfl) (hpl : (backTo pos (starEach [] X.env)).any (·.1) = false := by rfl) :
    PE X (.Call (.Name x p) [e] [] pos) (lf Ω Wx (tmMkE er t)) := by
  obtain ⟨T, rfl⟩ := T
  rw [← hK] at T I
  obtain ⟨fI, fd, ps, iC, tI, F1, b⟩ := I.ex
  refine PE.imp (pe_mkV T.oex iC tI F1 (hr.mono (by omega)) b pass0 hg T.mgC (pa_cons he pa_nil hs) hdb hs hpl) fun σ H QQ hh => ?_
  obtain ⟨F, ρ, Q, x, r, xl, k, t⟩ := hh
  refine ⟨F, ρ, _, x, r, xl, fun v H1 w s rp q => ?_, t⟩
  obtain ⟨m, em, q⟩ := q
  refine ⟨by show 1 ≤ 1000; decide, fun a ha => ⟨a, v, rfl, upd_same, fun dx hdx hne => ⟨rfl, dx, [(ef er, v)], by rw [upd_ne hne, upd_same], ?_, ?_⟩⟩⟩
  · rw [upd_ne hne] at hdx
    exact hdx
  · have hd : H1 dx = none := by
      rw [upd_ne hne] at hdx
      exact hdx
    have e : upd (upd (upd (upd H1 a (exo a (Ω.ecs er) none)) dx (exd dx [(ef er, v)])) a (exo a (Ω.ecs er) (some dx))) dx (.xd [(ef er, v)]) = upd (upd H1 dx (.xd [(ef er, v)])) a (exo a (Ω.ecs er) (some dx)) := by
      funext b
      by_cases h1 : b = dx
      · rw [h1, upd_same, upd_ne hne, upd_same]
      · rw [upd_ne h1]
        by_cases h2 : b = a
        · rw [h2, upd_same, upd_same]
        · rw [upd_ne h2, upd_ne h1, upd_ne h2, upd_ne h2, upd_ne h1]
    rw [e]
    have s2 := s.rel.new (o := .xd [(ef er, v)]) hd
    have s3 := s2.rel.new (p := a) (o := exo a (Ω.ecs er) (some dx)) (by rw [upd_ne hne.symm]; exact ha)
    exact k _ _ _ ((s.trans s2).trans s3) (rv (.err ge (hidP_some.mpr ⟨fun z => z.elim (s.rel.notOwn ha) (s.rel.notZ ha), upd_same⟩) (hidP_some.mpr ⟨fun z => z.elim (s.rel.notOwn hd) (s.rel.notZ hd), by rw [upd_ne hne, upd_same]⟩)
      (((rp.m em fun p hp => r.notZ hp).mono s2.same).mono s3.same))) q
/-- an error's class that has no own __init__ -/
structure Er0 (Ω : Ev) (mg : Str → Option Value) (x : Str) (er : Nat) : Prop where
  mgC : mg x = some (.ref (Ω.ecs er))
  kC : PySem.W.keepIn Ω.K (.ref (Ω.ecs er)) = true
  ex : ∃ bm nid, ExcBaseFacts "ValueError" nid "ValueError.__init__" bm ∧ PySem.W.excIn Ω.K (Ω.ecs er) bm nid = true
def tmMk0 (er : Nat) : TM := fun _ Q _ => Q (.v (.err er []))
theorem pm_mk0 {x : Str} {er : Nat} {p pos : Pos} (ge : er < 13) (T : Er0 Ω X.mg x er) (hK : X.K = Ω.K) (hg : Gl X x) (hdb : (x == ("__debug__" : Str)) = false := by decide) : PE X (.Call (.Name x p) [] [] pos) (lf Ω Wx (tmMk0 er)) := by
  obtain ⟨bm, nid, F, q⟩ := T.ex
  have kC := T.kC
  rw [← hK] at kC q
  refine PE.imp (pe_mk0 F q T.mgC kC hg hdb) fun σ H QQ hh => ?_
  obtain ⟨F, ρ, Q, x, r, xl, k, t⟩ := hh
  intro a ha
  exact k _ _ _ (r.new ha) (rv (.err0 ge (hidP_some.mpr ⟨fun z => z.elim (r.notOwn ha) (r.notZ ha), upd_same⟩))) t
def tmIsiE (sub : Nat → Bool) (t : TM) : TM := fun ρ Q x => t ρ (fun r => ∃ e fs, r = .v (.err e fs) ∧ Q (.v (.bl (sub e)))) x
structure IE (Ω : Ev) (mg : Str → Option Value) (x : Str) (sub : Nat → Bool) : Prop where
  ex : ∃ A, mg x = some (.ref A) ∧ ∀ e, e < 13 → PySem.W.kitOne Ω.K (.ref (Ω.ecs e)) (.ref A) = some (sub e)
theorem pm_isiE {C : Str} {e : Expr} {p p2 pos : Pos} {t : TM} {sub : Nat → Bool} (EO : EvOk Ω) (hK : X.K = Ω.K) (hg : Gl X "isinstance") (hm : X.mg "isinstance" = none) (hC : IE Ω X.mg C sub) (h : PE X e (lf Ω Wx t)) (hgC : Gl X C := by rfl) (hdb : (C == ("__debug__" : Str)) = false := by decide)
    (he : starEach [e, .Name C p2] X.env = (false, eval e X.env) :: starEach [.Name C p2] X.env := by rfl) (he2 : starEach [.Name C p2] X.env = (false, eval (.Name C p2) X.env) :: starEach [] X.env := by rfl) (hpl : (backTo pos (starEach [.Name C p2] X.env)).any (·.1) = false := by rfl) :
    PE X (.Call (.Name "isinstance" p) [e, .Name C p2] [] pos) (lf Ω Wx (tmIsiE sub t)) := by
  obtain ⟨A, h1, h2⟩ := hC.ex
  exact PE.imp (pe_callB (is_err EO hK) hg hm (by decide +kernel) (pa_cons h (pa_cons (pe_gref hgC h1 hdb) pa_nil he2) he) (by decide) (by decide) he hpl) fun σ H QQ hh => by
    obtain ⟨F, ρ, Q, x, r, xl, k, t⟩ := hh
    refine ⟨F, ρ, _, x, r, xl, fun v H1 a s rp q => ?_, t⟩
    obtain ⟨er, fs, rfl, q⟩ := q
    cases (show Rp Ω _ v (.err er fs) from rp) with
    | err g h1' h2' _ => exact ⟨_, er, _, _, _, sub er, rfl, .own _, g, hid_sub _ _ h1', (fun dd z => by cases z; exact ⟨_, hid_sub _ _ h2'⟩), h2 er g, k _ H1 _ s (rv (.bl _)) q⟩
    | err0 g h1' => exact ⟨_, er, _, _, _, sub er, rfl, .own _, g, hid_sub _ _ h1', (fun dd z => by cases z), h2 er g, k _ H1 _ s (rv (.bl _)) q⟩
theorem pm_isiEV {e : Expr} {p p2 pos : Pos} {t : TM} {T : String} {y : Str} (EO : EvOk Ω) (hK : X.K = Ω.K) (hg : Gl X "isinstance") (hm : X.mg "isinstance" = none) (hT : PE X (.Name y p2) (tC (.ty T))) (hk : ∀ e, e < 13 → PySem.W.kitOne Ω.K (.ref (Ω.ecs e)) (.type T) = some true) (h : PE X e (lf Ω Wx t))
    (he : starEach [e, .Name y p2] X.env = (false, eval e X.env) :: starEach [.Name y p2] X.env := by rfl) (he2 : starEach [.Name y p2] X.env = (false, eval (.Name y p2) X.env) :: starEach [] X.env := by rfl) (hpl : (backTo pos (starEach [.Name y p2] X.env)).any (·.1) = false := by rfl) :
    PE X (.Call (.Name "isinstance" p) [e, .Name y p2] [] pos) (lf Ω Wx (tmIsiE (fun _ => true) t)) :=
  PE.imp (pe_callB (is_err EO hK) hg hm (by decide +kernel) (pa_cons h (pa_cons hT pa_nil he2) he) (by decide) (by decide) he hpl) fun σ H QQ hh => by
    obtain ⟨F, ρ, Q, x, r, xl, k, t⟩ := hh
    refine ⟨F, ρ, _, x, r, xl, fun v H1 a s rp q => ?_, t⟩
    obtain ⟨er, fs, rfl, q⟩ := q
    obtain ⟨p, e, dx, rfl, g, z1, z2⟩ := ErrV.of rp
    exact ⟨p, e, dx, _, _, true, rfl, .ty _, g, z1, z2, hk e g, k _ H1 _ s (rv (.bl _)) q⟩
def tmErF (f : Str) (t : TM) : TM := fun ρ Q x => t ρ (fun r => ∃ e m, r = .v (.err e [m]) ∧ ef e = f ∧ Q (.v m)) x
theorem pm_erF {e : Expr} {f : Str} {pos : Pos} {t : TM} (EO : EvOk Ω) (EN : ∀ e, e < 13 → PySem.W.findIn Ω.K (.ref (Ω.ecs e)) (ef e) = some none) (hK : X.K = Ω.K) (he : PE X e (lf Ω Wx t)) (hb : attributeBase e f X.env (eval e X.env) = eval e X.env) : PE X (.Attribute e f pos) (lf Ω Wx (tmErF f t)) :=
  PE.imp (pe_xv he hb) fun σ H QQ hh => by
    obtain ⟨F, ρ, Q, x, r, xl, k, t⟩ := hh
    refine ⟨F, ρ, _, x, r, xl, fun v H1 a s rp q => ?_, t⟩
    obtain ⟨er, m, rfl, rfl, q⟩ := q
    cases (show Rp Ω _ v (.err er [m]) from rp) with
    | err g h1 h2 a =>
      have T := EO.exc _ g
      rw [hK]
      exact ⟨_, _, _, _, _, rfl, hid_sub _ _ h1, hid_sub _ _ h2, by simp [List.lookup], ⟨T.hg, T.hk, T.hs, T.hd⟩, EN _ g, k _ H1 _ s (rv a) q⟩
theorem pe_mkE' {x : Str} {er : Nat} {f : Str} {p pos : Pos} {e : Expr} {te : TE} {k : Nat} (T : ErC Ω.K X.mg x f (Ω.ecs er)) (I : ErI X.prog X.w Ω.K X.mg X.base f (Ω.ecs er)) (hK : X.K = Ω.K) (hr : Room (k + 2) X.A) (hg : Gl X x) (he : PE X e te)
    (hdb : (x == ("__debug__" : Str)) = false := by decide) (hs : starEach [e] X.env = (false, eval e X.env) :: starEach [] X.env := by rfl) (hpl : (backTo pos (starEach [] X.env)).any (·.1) = false := by rfl) :
    PE X (.Call (.Name x p) [e] [] pos) (tMkV (Ω.ecs er) (spErr (Ω.ecs er) f) (tCons te tNil)) := by
  rw [← hK] at T I
  obtain ⟨fI, fd, ps, iC, tI, F1, b⟩ := I.ex
  exact pe_mkV T.oex iC tI F1 (hr.mono (by omega)) b pass0 hg T.mgC (pa_cons he pa_nil hs) hdb hs hpl
def tmAlias (i j l er : Nat) (a b : Int) (t : TMS) : TMS := fun ρ C => free ρ i = true ∧ free ρ j = true ∧ i < ρ.length ∧ j < ρ.length ∧ ∃ m, ρ[l]? = some (.v m) ∧ t ((ρ.set i (.v (.lst [.int a, .int b, m]))).set j (.v (.err er [.lst [.int a, .int b, m]]))) C
theorem pms_alias {s1 s2 s3 : Stmt} {rest : List Stmt} {i j l er : Nat} {a b : Int} {t : TMS} (ge : er < 13) (hij : i ≠ j) (hil : i ≠ l) (hjl : j ≠ l)
    (h1 : PS X s1 (tAsg (tLst (tCons (tC (.int a)) (tCons (tC (.int b)) tNil))) (gName i))) (h2 : PS X s2 (tAsg (tMkV (Ω.ecs er) (spErr (Ω.ecs er) (ef er)) (tCons (tVar i) tNil)) (gName j)))
    (h3 : PS X s3 (tDrop (tBM Ω.K "list" rAppend (tVar i) (tCons (tVar l) tNil)))) (h4 : PSs X rest (lfS Ω Wx t)) : PSs X (s1 :: s2 :: s3 :: rest) (lfS Ω Wx (tmAlias i j l er a b t)) :=
  PSs.imp (pss_cons h1 (pss_cons h2 (pss_cons h3 h4))) fun D σ H hh => by
    obtain ⟨F, ρ, C, r, k, f1, f2, li, lj, m, em, t⟩ := hh
    obtain ⟨v, hv, rpv⟩ := r.val l m em
    rw [r.len] at li lj
    refine ⟨by show 2 ≤ sizeLine; decide, fun p hp => ?_⟩
    have g0 : (σ.set i (some (V.ref p)))[i]? = some (some (.ref p)) := by rw [List.getElem?_set_self li]
    refine ⟨.ref p, g0, by show 1 ≤ 1000; decide, fun x hx => ⟨x, .ref p, rfl, upd_same, fun dx hdx hne => ⟨rfl, dx, [(ef er, .ref p)], by rw [upd_ne hne, upd_same], ?_, ?_⟩⟩⟩
    · rw [upd_ne hne] at hdx
      exact hdx
    · have nxp : x ≠ p := fun z => by
        rw [z, upd_same] at hx
        cases hx
      have hx0 : H x = none := by
        rw [upd_ne nxp] at hx
        exact hx
      rw [upd_ne hne] at hdx
      have ndp : dx ≠ p := fun z => by
        rw [z, upd_same] at hdx
        cases hdx
      have hd0 : H dx = none := by
        rw [upd_ne ndp] at hdx
        exact hdx
      have g1 : ((σ.set i (some (V.ref p))).set j (some (V.ref x)))[i]? = some (some (.ref p)) := by rw [set_ne hij.symm]; exact g0
      have g2 : ((σ.set i (some (V.ref p))).set j (some (V.ref x)))[l]? = some (some v) := by rw [set_ne hjl, set_ne hil]; exact hv
      generalize hG : upd (upd (upd (upd (upd H p (.lst [.int a, .int b])) x (exo x (Ω.ecs er) none)) dx (exd dx [(ef er, .ref p)])) x (exo x (Ω.ecs er) (some dx))) dx (.xd [(ef er, .ref p)]) = G
      have gp : G p = some (.lst [.int a, .int b]) := by rw [← hG, upd_ne ndp.symm, upd_ne nxp.symm, upd_ne ndp.symm, upd_ne nxp.symm, upd_same]
      refine ⟨_, g1, .inl ⟨rfl, _, SqL.of gp⟩, v, g2, p, _, v, rfl, rfl, gp, by show 2 < sizeLine; decide, ?_⟩
      have e : upd G p (.lst ([.int a, .int b] ++ [v])) = upd (upd (upd H p (.lst [.int a, .int b, v])) dx (.xd [(ef er, .ref p)])) x (exo x (Ω.ecs er) (some dx)) := by
        funext b
        by_cases h1 : b = p
        · rw [h1, upd_same, upd_ne nxp.symm, upd_ne ndp.symm, upd_same]; rfl
        · rw [upd_ne h1, ← hG]
          by_cases h2 : b = dx
          · rw [h2, upd_same, upd_ne hne, upd_same]
          · rw [upd_ne h2]
            by_cases h3 : b = x
            · rw [h3, upd_same, upd_same]
            · rw [upd_ne h3, upd_ne h2, upd_ne h3, upd_ne h1, upd_ne h3, upd_ne h2, upd_ne h1]
      show lfS Ω Wx _ D _ _
      rw [e]
      have s1 := r.new (o := .lst [.int a, .int b, v]) hp
      have s2 := s1.rel.new (p := dx) (o := .xd [(ef er, .ref p)]) (by rw [upd_ne ndp]; exact hd0)
      have s3 := s2.rel.new (p := x) (o := exo x (Ω.ecs er) (some dx)) (by rw [upd_ne hne.symm, upd_ne nxp]; exact hx0)
      have rl : Rp Ω (Hd F σ ρ (upd (upd (upd H p (.lst [.int a, .int b, v])) dx (.xd [(ef er, .ref p)])) x (exo x (Ω.ecs er) (some dx)))) (.ref p) (.lst [.int a, .int b, m]) :=
        .lst (hidP_some.mpr ⟨fun z => z.elim (r.notOwn hp) (r.notZ hp), by rw [upd_ne nxp.symm, upd_ne ndp.symm, upd_same]⟩) (.cons (.int a) (.cons (.int b) (.cons (((rpv.mono s1.same).mono s2.same).mono s3.same) .nil)))
      have re : Rp Ω (Hd F σ ρ (upd (upd (upd H p (.lst [.int a, .int b, v])) dx (.xd [(ef er, .ref p)])) x (exo x (Ω.ecs er) (some dx)))) (.ref x) (.err er [.lst [.int a, .int b, m]]) :=
        .err ge (hidP_some.mpr ⟨fun z => z.elim (r.notOwn hx0) (r.notZ hx0), upd_same⟩) (hidP_some.mpr ⟨fun z => z.elim (r.notOwn hd0) (r.notZ hd0), by rw [upd_ne hne, upd_same]⟩) rl
      have f2' : free (ρ.set i (.v (.lst [.int a, .int b, m]))) j = true := by
        unfold free at f2 ⊢
        rw [set_ne hij]
        exact f2
      have r1 := s3.rel.setV (i := i) f1 rl
      refine ⟨F, _, C, r1.setV (i := j) f2' (re.mono (hidP_same fun b o n e => ⟨fun z => n (z.imp (fun ⟨q, l', c, e1, e2⟩ => ?_) id), e⟩)), k, t⟩
      rcases set_get e1 with ⟨_, z⟩ | ⟨n, e1⟩
      · cases z
      · rw [set_ne n] at e2
        exact ⟨q, l', c, e1, e2⟩
end
end PL
namespace PL
open PySem PySem.Spec PyProof.Rows L2 KW L2H
theorem kt_ValueError {X : Cx} {pos : Pos} (hg : Gl X "ValueError") (hm : X.mg "ValueError" = none) : PE X (.Name "ValueError" pos) (tC (.ty "ValueError")) := pe_bltn (u := .type "ValueError") hg hm (by decide +kernel) rfl
theorem gq_ifNo {c : TMB} {t u : TMS} {ρ : List R} {C : CM} (h : Gb c ρ false) (q : u ρ C) : tmSeq (tmIfS c t tmNext) u ρ C := h _ _ q
theorem gv_isE {sub : Nat → Bool} {t : TM} {ρ : List R} {e : Nat} {fs : List M} {b : Bool} (h : Gv t ρ (.v (.err e fs))) (eb : sub e = b) : Gv (tmIsiE sub t) ρ (.v (.bl b)) := fun Q x q => h _ _ ⟨e, fs, rfl, by rw [eb]; exact q⟩
theorem gv_mkE {er : Nat} {t : TM} {ρ : List R} {r : R} {m : M} (h : Gv t ρ r) (e : r.m? = some m) : Gv (tmMkE er t) ρ (.v (.err er [m])) := fun Q x q => h _ _ ⟨m, e, q⟩
theorem gv_mk0 {er : Nat} {ρ : List R} : Gv (tmMk0 er) ρ (.v (.err er [])) := fun _ _ q => q
theorem gv_erF {f : Str} {t : TM} {ρ : List R} {e : Nat} {m : M} (h : Gv t ρ (.v (.err e [m]))) (he : ef e = f) : Gv (tmErF f t) ρ (.v m) := fun Q x q => h _ _ ⟨e, m, rfl, he, q⟩
theorem gv_castE {t : TM} {ρ : List R} {r r' : R} (h : Gv t ρ r) (e : r = r') : Gv t ρ r' := e ▸ h
theorem cut_lenE {xs : List M} {lo hi : Option Int} : (cutM xs lo hi).length ≤ xs.length := by
  unfold cutM
  exact Nat.le_trans (List.length_take_le' _ _) (by rw [List.length_drop]; omega)
theorem gi_enumE {hv : Bool} {t : TM} {ρ : List R} {r : R} {xs : List M} (h : Gv t ρ r) (e : r.lst? = some xs) (em : hv = true → r.m? = some (.lst xs)) : Gi (tmEnum hv t) ρ (xs.zipIdx.map fun z => .tup [.int (z.2 : Nat), z.1]) := fun Q x q => h _ _ ⟨xs, e, em, q⟩
theorem gs_fgtC {i : Nat} {is : List Nat} {t : TMS} {ρ ρ' : List R} {C : CM} (f : free ρ i = true) (e : ρ.set i .no = ρ') (q : tmFgt is t ρ' C) : tmFgt (i :: is) t ρ C := by
  subst e
  unfold tmFgt at q ⊢
  rw [fgt, if_pos f]
  exact q
theorem gs_fgtN {t : TMS} {ρ : List R} {C : CM} (q : t ρ C) : tmFgt [] t ρ C := q
/-- a comprehension with a test over any target -/
theorem gw_lcfE {α : Type} {vs : List Nat} {ti : TMI} {tg : TMG} {tt : TMB} {te : TM} {ρ : List R} {xs : List α} {ms : List M} (f g : α → M) (p : α → Bool) (em : ms = xs.map f) (hn : noOwn ρ vs = true) (h : Gi ti ρ ms) (hl : xs.length ≤ 100000)
    (he : ∀ a ∈ xs, ∃ ρ', (∀ K : List R → Prop, K ρ' → tg (f a) (wipeR ρ vs) K) ∧ Gb tt ρ' (p a) ∧ (p a = true → ∃ r, r.m? = some (g a) ∧ Gv te ρ' r)) : Gv (tmLc vs ti tg tt te) ρ (.f (.lst ((xs.filter p).map g))) := fun Q x q => ⟨hn, h _ _ (by
  rw [em]
  suffices H : ∀ (ys : List α) (acc : List M), (∀ a ∈ ys, a ∈ xs) → acc.length + ys.length ≤ 100000 → (Q (.f (.lst (acc ++ (ys.filter p).map g)))) → lcM tg tt te (wipeR ρ vs) (ys.map f) acc fun acc => Q (.f (.lst acc)) from H xs [] (fun _ h => h) (by simpa using hl) (by simpa using q)
  intro ys
  induction ys with
  | nil => intro acc _ _ q; simpa [lcM] using q
  | cons a ys ih =>
    intro acc hs hb q
    rw [List.length_cons] at hb
    have ha := hs a List.mem_cons_self
    obtain ⟨ρ', h1, h2, h3⟩ := he a ha
    show elM _ _ _ _ _ _ _
    unfold elM
    refine h1 _ (h2 _ _ ?_)
    cases hp : p a with
    | true =>
      rw [if_pos rfl]
      obtain ⟨r, er, h3⟩ := h3 hp
      rw [List.filter_cons_of_pos hp, List.map_cons] at q
      exact h3 _ _ ⟨g a, er, by omega, ih _ (fun b hb => hs b (List.mem_cons_of_mem _ hb)) (by rw [List.length_append, List.length_singleton]; omega) (by rw [List.append_assoc]; exact q)⟩
    | false =>
      rw [if_neg (by decide)]
      rw [List.filter_cons_of_neg (by rw [hp]; decide)] at q
      exact ih _ (fun b hb => hs b (List.mem_cons_of_mem _ hb)) (by omega) q)⟩
section
variable {P : Program} {w : World} {Ω : Ev} {mg : Str → Option Value} {base : Heap} {n d : Nat} {cl : M → Bool}
/-- of which of the errors one is -/
def refE (e : Nat) : List M := ((List.range 12).filter fun i => decide (e = i)).map fun i => .int (i : Nat)
theorem refE_lt : ∀ e, e < 12 → refE e = [.int (e : Nat)]
  | 0, _ => rfl
  | 1, _ => rfl
  | 2, _ => rfl
  | 3, _ => rfl
  | 4, _ => rfl
  | 5, _ => rfl
  | 6, _ => rfl
  | 7, _ => rfl
  | 8, _ => rfl
  | 9, _ => rfl
  | 10, _ => rfl
  | 11, _ => rfl
  | n + 12, h => absurd h (by omega)
def refF : FM := fun rs Q _ => ∃ e fs, rs = [.v (.err e fs)] ∧ Q (.f (.lst (refE e)))
abbrev s__law_refused : Stmt := topS 47
theorem sc__law_refused : FnScope ["_law_e", "_law_found", "_law_at", "_law_one"] ["_law_e"] (defScope s__law_refused) := ⟨rfl, rfl, rfl, by decide +kernel, rfl, by decide +kernel, by decide +kernel⟩
theorem p_refused {k : Nat} (B : Bi mg) (EO : EvOk Ω) (IE_InvalidStep : IE Ω mg "InvalidStep" fun e => decide (e = 0)) (IE_InvalidTrait : IE Ω mg "InvalidTrait" fun e => decide (e = 1)) (IE_InvalidExpr : IE Ω mg "InvalidExpr" fun e => decide (e = 2)) (IE_InvalidRow : IE Ω mg "InvalidRow" fun e => decide (e = 3))
    (IE_InvalidText : IE Ω mg "InvalidText" fun e => decide (e = 4)) (IE_InvalidWorld : IE Ω mg "InvalidWorld" fun e => decide (e = 5)) (IE_InvalidStart : IE Ω mg "InvalidStart" fun e => decide (e = 6)) (IE_InvalidClaim : IE Ω mg "InvalidClaim" fun e => decide (e = 7)) (IE_NoName : IE Ω mg "NoName" fun e => decide (e = 8))
    (IE_NoStep : IE Ω mg "NoStep" fun e => decide (e = 9)) (IE_NoRow : IE Ω mg "NoRow" fun e => decide (e = 10)) (IE_Impossible : IE Ω mg "Impossible" fun e => decide (e = 11)) (D : Df Ω.K mg "_law_refused" s__law_refused ["_law_e"]) : CalM P w Ω mg base (k + 1) "_law_refused" refF := by
  refine calM (k := k) D sc__law_refused (fun rs Q x h => ?_) (fun fa cdv A outer s H E hr => (pms_cons (pms_set (i := 1) sc__law_refused.nd rfl (Or.inl rfl) (pm_lst (pm_cons (pm_isiE EO rfl rfl B.isinstance IE_InvalidStep (pm_var (pv 0))) (pm_cons (pm_isiE EO rfl rfl B.isinstance IE_InvalidTrait (pm_var (pv 0))) (pm_cons (pm_isiE EO rfl rfl B.isinstance IE_InvalidExpr (pm_var (pv 0))) pm_nil)))))
      (pms_cons (pms_set (i := 1) sc__law_refused.nd rfl (Or.inl rfl) (pm_op (om_add rfl) (pm_var (pv 1)) (pm_lst (pm_cons (pm_isiE EO rfl rfl B.isinstance IE_InvalidRow (pm_var (pv 0))) (pm_cons (pm_isiE EO rfl rfl B.isinstance IE_InvalidText (pm_var (pv 0))) (pm_cons (pm_isiE EO rfl rfl B.isinstance IE_InvalidWorld (pm_var (pv 0))) pm_nil))))))
      (pms_cons (pms_set (i := 1) sc__law_refused.nd rfl (Or.inl rfl) (pm_op (om_add rfl) (pm_var (pv 1)) (pm_lst (pm_cons (pm_isiE EO rfl rfl B.isinstance IE_InvalidStart (pm_var (pv 0))) (pm_cons (pm_isiE EO rfl rfl B.isinstance IE_InvalidClaim (pm_var (pv 0))) (pm_cons (pm_isiE EO rfl rfl B.isinstance IE_NoName (pm_var (pv 0))) pm_nil))))))
      (pms_cons (pms_set (i := 1) sc__law_refused.nd rfl (Or.inl rfl) (pm_op (om_add rfl) (pm_var (pv 1)) (pm_lst (pm_cons (pm_isiE EO rfl rfl B.isinstance IE_NoStep (pm_var (pv 0))) (pm_cons (pm_isiE EO rfl rfl B.isinstance IE_NoRow (pm_var (pv 0))) (pm_cons (pm_isiE EO rfl rfl B.isinstance IE_Impossible (pm_var (pv 0))) pm_nil))))))
      (pms_one (pms_ret (pm_lc (own := [("_law_at", 2), ("_law_one", 3)]) rfl sc__law_refused.nd (pm_enum false rfl rfl B.enumerate (pm_var (pv 1))) (blkOk_by (own := [("_law_at", 2), ("_law_one", 3)]) (N := ["_law_e", "_law_found", "_law_at", "_law_one"]) (sc := defScope s__law_refused) (by decide +kernel)) (fun _ _ _ _ _ => (pmg_tup [2, 3] (by decide) (by decide) (kk_gtup Ω.K rfl (n := 2) rfl (pgs_cons (pg_name (i := 2) sc__law_refused.nd rfl (Or.inl rfl)) (pgs_cons (pg_name (i := 3) sc__law_refused.nd rfl (Or.inl rfl)) pgs_nil))))) (fun _ _ _ _ _ => (pmt_one (pm_t (pm_var (pv 3))))) (fun _ _ _ _ _ => (pm_var (pv 2))))))))))) (fun rs Q x h => ?_)
  · obtain ⟨e, fs, rfl, _⟩ := h
    rfl
  obtain ⟨e, fs, rfl, q⟩ := h
  have is : ∀ (i : Nat) (r1 : R), Gv (tmIsiE (fun e => decide (e = i)) (tmV 0)) [.v (.err e fs), r1, .no, .no] (.v (.bl (decide (e = i)))) := fun _ _ => gv_isE (gv_v rfl) rfl
  let b : Nat → M := fun i => .bl (decide (e = i))
  show tmSeq _ _ [.v (.err e fs), .no, .no, .no] _
  refine gq_setf (c := .lst [b 0, b 1, b 2]) (gv_lst (ga_cons (is 0 _) (ga_cons (is 1 _) (ga_cons (is 2 _) ga_nil))) rfl (Nat.le_of_ble_eq_true rfl)) rfl ?_
  show tmSeq _ _ [.v (.err e fs), .o true (.lst [b 0, b 1, b 2]), .no, .no] _
  refine gq_setf (c := .lst [b 0, b 1, b 2, b 3, b 4, b 5]) (gv_addL (xs := [b 0, b 1, b 2]) (gv_o rfl) (gv_lst (ga_cons (is 3 _) (ga_cons (is 4 _) (ga_cons (is 5 _) ga_nil))) rfl (Nat.le_of_ble_eq_true rfl)) rfl rfl (Nat.le_of_ble_eq_true rfl)) rfl ?_
  show tmSeq _ _ [.v (.err e fs), .o true (.lst [b 0, b 1, b 2, b 3, b 4, b 5]), .no, .no] _
  refine gq_setf (c := .lst [b 0, b 1, b 2, b 3, b 4, b 5, b 6, b 7, b 8]) (gv_addL (xs := [b 0, b 1, b 2, b 3, b 4, b 5]) (gv_o rfl) (gv_lst (ga_cons (is 6 _) (ga_cons (is 7 _) (ga_cons (is 8 _) ga_nil))) rfl (Nat.le_of_ble_eq_true rfl)) rfl rfl (Nat.le_of_ble_eq_true rfl)) rfl ?_
  show tmSeq _ _ [.v (.err e fs), .o true (.lst [b 0, b 1, b 2, b 3, b 4, b 5, b 6, b 7, b 8]), .no, .no] _
  refine gq_setf (c := .lst [b 0, b 1, b 2, b 3, b 4, b 5, b 6, b 7, b 8, b 9, b 10, b 11]) (gv_addL (xs := [b 0, b 1, b 2, b 3, b 4, b 5, b 6, b 7, b 8]) (gv_o rfl) (gv_lst (ga_cons (is 9 _) (ga_cons (is 10 _) (ga_cons (is 11 _) ga_nil))) rfl (Nat.le_of_ble_eq_true rfl)) rfl rfl (Nat.le_of_ble_eq_true rfl)) rfl ?_
  show tmRet _ [.v (.err e fs), .o true (.lst [b 0, b 1, b 2, b 3, b 4, b 5, b 6, b 7, b 8, b 9, b 10, b 11]), .no, .no] _
  refine gs_ret (gw_lcfE (α := Nat) (xs := List.range 12) (fun i => .tup [.int (i : Nat), b i]) (fun i => .int (i : Nat)) (fun i => decide (e = i)) ?_ rfl (gi_enumE (gv_o rfl) rfl fun z => nomatch z) (Nat.le_of_ble_eq_true rfl) fun i hi => ?_) q
  · rfl
  · exact ⟨[.v (.err e fs), .o true (.lst [b 0, b 1, b 2, b 3, b 4, b 5, b 6, b 7, b 8, b 9, b 10, b 11]), .v (.int (i : Nat)), .v (b i)], fun K k => ⟨rfl, rfl, k⟩, gb_t (gv_v rfl), fun _ => ⟨.v (.int (i : Nat)), rfl, gv_v rfl⟩⟩
/-- one of each error -/
def errsM (m : M) : List M := [.err 0 [m], .err 1 [m], .err 2 [m], .err 3 [m], .err 4 [m], .err 5 [m], .err 6 [m], .err 7 [m], .err 8 [m], .err 9 [m], .err 10 [m], .err 11 []]
def errsF : FM := fun rs Q _ => ∃ m, rs = [.v m] ∧ Q (.f (.lst (errsM m)))
abbrev s__law_errors : Stmt := topS 48
theorem sc__law_errors : FnScope ["_law_value", "_law_found"] ["_law_value"] (defScope s__law_errors) := ⟨rfl, rfl, rfl, by decide +kernel, rfl, by decide +kernel, by decide +kernel⟩
theorem p_errors {k : Nat} (hk2 : 2 ≤ k) (T_InvalidStep : ET Ω mg "InvalidStep" 0) (I_InvalidStep : ErI P w Ω.K mg base (ef 0) (Ω.ecs 0)) (T_InvalidTrait : ET Ω mg "InvalidTrait" 1) (I_InvalidTrait : ErI P w Ω.K mg base (ef 1) (Ω.ecs 1)) (T_InvalidExpr : ET Ω mg "InvalidExpr" 2) (I_InvalidExpr : ErI P w Ω.K mg base (ef 2) (Ω.ecs 2))
    (T_InvalidRow : ET Ω mg "InvalidRow" 3) (I_InvalidRow : ErI P w Ω.K mg base (ef 3) (Ω.ecs 3)) (T_InvalidText : ET Ω mg "InvalidText" 4) (I_InvalidText : ErI P w Ω.K mg base (ef 4) (Ω.ecs 4)) (T_InvalidWorld : ET Ω mg "InvalidWorld" 5) (I_InvalidWorld : ErI P w Ω.K mg base (ef 5) (Ω.ecs 5))
    (T_InvalidStart : ET Ω mg "InvalidStart" 6) (I_InvalidStart : ErI P w Ω.K mg base (ef 6) (Ω.ecs 6)) (T_InvalidClaim : ET Ω mg "InvalidClaim" 7) (I_InvalidClaim : ErI P w Ω.K mg base (ef 7) (Ω.ecs 7)) (T_NoName : ET Ω mg "NoName" 8) (I_NoName : ErI P w Ω.K mg base (ef 8) (Ω.ecs 8))
    (T_NoStep : ET Ω mg "NoStep" 9) (I_NoStep : ErI P w Ω.K mg base (ef 9) (Ω.ecs 9)) (T_NoRow : ET Ω mg "NoRow" 10) (I_NoRow : ErI P w Ω.K mg base (ef 10) (Ω.ecs 10)) (Z_Impossible : Er0 Ω mg "Impossible" 11) (D : Df Ω.K mg "_law_errors" s__law_errors ["_law_value"]) : CalM P w Ω mg base (k + 1) "_law_errors" errsF := by
  refine calM (k := k) D sc__law_errors (fun rs Q x h => ?_) (fun fa cdv A outer s H E hr => (pms_cons (pms_set (i := 1) sc__law_errors.nd rfl (Or.inl rfl) (pm_lst (pm_cons (pm_mkE (er := 0) (k := 0) (by decide) T_InvalidStep I_InvalidStep rfl (hr.mono (by omega)) rfl (pm_var (pv 0))) (pm_cons (pm_mkE (er := 1) (k := 0) (by decide) T_InvalidTrait I_InvalidTrait rfl (hr.mono (by omega)) rfl (pm_var (pv 0))) (pm_cons (pm_mkE (er := 2) (k := 0) (by decide) T_InvalidExpr I_InvalidExpr rfl (hr.mono (by omega)) rfl (pm_var (pv 0))) (pm_cons (pm_mkE (er := 3) (k := 0) (by decide) T_InvalidRow I_InvalidRow rfl (hr.mono (by omega)) rfl (pm_var (pv 0))) (pm_cons (pm_mkE (er := 4) (k := 0) (by decide) T_InvalidText I_InvalidText rfl (hr.mono (by omega)) rfl (pm_var (pv 0))) pm_nil)))))))
      (pms_cons (pms_set (i := 1) sc__law_errors.nd rfl (Or.inl rfl) (pm_op (om_add rfl) (pm_var (pv 1)) (pm_lst (pm_cons (pm_mkE (er := 5) (k := 0) (by decide) T_InvalidWorld I_InvalidWorld rfl (hr.mono (by omega)) rfl (pm_var (pv 0))) (pm_cons (pm_mkE (er := 6) (k := 0) (by decide) T_InvalidStart I_InvalidStart rfl (hr.mono (by omega)) rfl (pm_var (pv 0))) (pm_cons (pm_mkE (er := 7) (k := 0) (by decide) T_InvalidClaim I_InvalidClaim rfl (hr.mono (by omega)) rfl (pm_var (pv 0))) (pm_cons (pm_mkE (er := 8) (k := 0) (by decide) T_NoName I_NoName rfl (hr.mono (by omega)) rfl (pm_var (pv 0))) (pm_cons (pm_mkE (er := 9) (k := 0) (by decide) T_NoStep I_NoStep rfl (hr.mono (by omega)) rfl (pm_var (pv 0))) pm_nil))))))))
      (pms_one (pms_ret (pm_op (om_add rfl) (pm_var (pv 1)) (pm_lst (pm_cons (pm_mkE (er := 10) (k := 0) (by decide) T_NoRow I_NoRow rfl (hr.mono (by omega)) rfl (pm_var (pv 0))) (pm_cons (pm_mk0 (er := 11) (by decide) Z_Impossible rfl rfl) pm_nil))))))))) (fun rs Q x h => ?_)
  · obtain ⟨m, rfl, _⟩ := h
    rfl
  obtain ⟨m, rfl, q⟩ := h
  have mk : ∀ (i : Nat) (r1 : R), Gv (tmMkE i (tmV 0)) [.v m, r1] (.v (.err i [m])) := fun _ _ => gv_mkE (gv_v rfl) rfl
  show tmSeq _ _ [.v m, .no] _
  refine gq_setf (c := .lst [.err 0 [m], .err 1 [m], .err 2 [m], .err 3 [m], .err 4 [m]]) (gv_lst (ga_cons (mk 0 _) (ga_cons (mk 1 _) (ga_cons (mk 2 _) (ga_cons (mk 3 _) (ga_cons (mk 4 _) ga_nil))))) rfl (Nat.le_of_ble_eq_true rfl)) rfl ?_
  show tmSeq _ _ [.v m, .o true (.lst [.err 0 [m], .err 1 [m], .err 2 [m], .err 3 [m], .err 4 [m]])] _
  refine gq_setf (c := .lst [.err 0 [m], .err 1 [m], .err 2 [m], .err 3 [m], .err 4 [m], .err 5 [m], .err 6 [m], .err 7 [m], .err 8 [m], .err 9 [m]]) (gv_addL (xs := [.err 0 [m], .err 1 [m], .err 2 [m], .err 3 [m], .err 4 [m]]) (gv_o rfl) (gv_lst (ga_cons (mk 5 _) (ga_cons (mk 6 _) (ga_cons (mk 7 _) (ga_cons (mk 8 _) (ga_cons (mk 9 _) ga_nil))))) rfl (Nat.le_of_ble_eq_true rfl)) rfl rfl (Nat.le_of_ble_eq_true rfl)) rfl ?_
  show tmRet _ [.v m, .o true (.lst [.err 0 [m], .err 1 [m], .err 2 [m], .err 3 [m], .err 4 [m], .err 5 [m], .err 6 [m], .err 7 [m], .err 8 [m], .err 9 [m]])] _
  exact gs_ret (gv_addL (xs := [.err 0 [m], .err 1 [m], .err 2 [m], .err 3 [m], .err 4 [m], .err 5 [m], .err 6 [m], .err 7 [m], .err 8 [m], .err 9 [m]]) (gv_o rfl) (gv_lst (ga_cons (mk 10 _) (ga_cons gv_mk0 ga_nil)) rfl (Nat.le_of_ble_eq_true rfl)) rfl rfl (Nat.le_of_ble_eq_true rfl)) q
def keptF : FM := fun rs Q _ => ∃ m, rs = [.v (.lst (errsM m))] ∧ Q (.f (.lst [m, m, m, m, m, m, m, m, m, m, m]))
abbrev s__law_kept : Stmt := topS 49
theorem sc__law_kept : FnScope ["_law_errors_here", "_law_found", "_law_at"] ["_law_errors_here"] (defScope s__law_kept) := ⟨rfl, rfl, rfl, by decide +kernel, rfl, by decide +kernel, by decide +kernel⟩
theorem p_kept {k : Nat} (EO : EvOk Ω) (EN : ∀ e, e < 13 → PySem.W.findIn Ω.K (.ref (Ω.ecs e)) (ef e) = some none) (D : Df Ω.K mg "_law_kept" s__law_kept ["_law_errors_here"]) : CalM P w Ω mg base (k + 1) "_law_kept" keptF := by
  refine calM (k := k) D sc__law_kept (fun rs Q x h => ?_) (fun fa cdv A outer s H E hr => (pms_cons (pms_setLc (i := 1) (own := [("_law_at", 2)]) rfl sc__law_kept.nd rfl rfl (sw_true rfl rfl rfl (by decide +kernel)) (pm_iter false rfl (pm_tup (pm_cons pm_int (pm_cons pm_int (pm_cons pm_int (pm_cons pm_int (pm_cons pm_int (pm_cons pm_int pm_nil)))))))) (blkOk_by (own := [("_law_at", 2)]) (N := ["_law_errors_here", "_law_found", "_law_at"]) (sc := defScope s__law_kept) (by decide +kernel)) (fun _ _ _ _ _ => (pmg_name [2] (by decide) (pg_name (i := 2) sc__law_kept.nd rfl (Or.inl rfl)))) (fun _ _ _ _ _ => pmt_nil) (fun _ _ _ _ _ => (pm_erF EO EN rfl (pm_ix (ixm rfl) (pm_var (pv 0)) (pm_var (pv 2)) (fun _ _ => rfl)) rfl)))
      (pms_cons (pms_set (i := 1) sc__law_kept.nd rfl (Or.inl rfl) (pm_op (om_add rfl) (pm_var (pv 1)) (pm_lc (own := [("_law_at", 2)]) rfl sc__law_kept.nd (pm_iter false rfl (pm_tup (pm_cons pm_int (pm_cons pm_int pm_nil)))) (blkOk_by (own := [("_law_at", 2)]) (N := ["_law_errors_here", "_law_found", "_law_at"]) (sc := defScope s__law_kept) (by decide +kernel)) (fun _ _ _ _ _ => (pmg_name [2] (by decide) (pg_name (i := 2) sc__law_kept.nd rfl (Or.inl rfl)))) (fun _ _ _ _ _ => pmt_nil) (fun _ _ _ _ _ => (pm_erF EO EN rfl (pm_ix (ixm rfl) (pm_var (pv 0)) (pm_var (pv 2)) (fun _ _ => rfl)) rfl)))))
      (pms_one (pms_ret (pm_op (om_add rfl) (pm_var (pv 1)) (pm_lc (own := [("_law_at", 2)]) rfl sc__law_kept.nd (pm_iter false rfl (pm_tup (pm_cons pm_int (pm_cons pm_int (pm_cons pm_int pm_nil))))) (blkOk_by (own := [("_law_at", 2)]) (N := ["_law_errors_here", "_law_found", "_law_at"]) (sc := defScope s__law_kept) (by decide +kernel)) (fun _ _ _ _ _ => (pmg_name [2] (by decide) (pg_name (i := 2) sc__law_kept.nd rfl (Or.inl rfl)))) (fun _ _ _ _ _ => pmt_nil) (fun _ _ _ _ _ => (pm_erF EO EN rfl (pm_ix (ixm rfl) (pm_var (pv 0)) (pm_var (pv 2)) (fun _ _ => rfl)) rfl))))))))) (fun rs Q x h => ?_)
  · obtain ⟨m, rfl, _⟩ := h
    rfl
  obtain ⟨m, rfl, q⟩ := h
  have el : ∀ (f : Str) (i : Nat) (r1 : R), i < 11 → ef i = f → Gv (tmErF f (tmOp semIx (tmV 0) (tmV 2))) [.v (.lst (errsM m)), r1, .v (.int (i : Nat))] (.v m) := fun f i r1 hi he => by
    refine gv_erF (e := i) (gv_op (gv_v rfl) (gv_v rfl) fun Q q => ?_) he
    match i, hi with
    | 0, _ | 1, _ | 2, _ | 3, _ | 4, _ | 5, _ | 6, _ | 7, _ | 8, _ | 9, _ | 10, _ => exact ⟨_, rfl, q⟩
  show tmSeq _ _ [.v (.lst (errsM m)), .no, .no] _
  refine gq_setf (c := .lst [m, m, m, m, m, m]) (gv_lcm (i := 2) (xs := [0, 1, 2, 3, 5, 7]) (fun a : Nat => .int (a : Nat)) (fun _ => m) rfl rfl (gi_it (r := .v (.tup [.int 0, .int 1, .int 2, .int 3, .int 5, .int 7])) (gv_tup (ga_cons gv_c (ga_cons gv_c (ga_cons gv_c (ga_cons gv_c (ga_cons gv_c (ga_cons gv_c ga_nil)))))) rfl (Nat.le_of_ble_eq_true rfl)) rfl) rfl (Nat.le_of_ble_eq_true rfl) fun a ha => ⟨.v m, rfl, ?_⟩) rfl ?_
  · simp only [List.mem_cons, List.not_mem_nil, or_false] at ha
    exact el _ a _ (by omega) (by rcases ha with rfl | rfl | rfl | rfl | rfl | rfl <;> rfl)
  show tmSeq _ _ [.v (.lst (errsM m)), .o true (.lst [m, m, m, m, m, m]), .no] _
  refine gq_setf (c := .lst [m, m, m, m, m, m, m, m]) (gv_addL (xs := [m, m, m, m, m, m]) (gv_o rfl) (gv_lcm (i := 2) (xs := [4, 10]) (fun a : Nat => .int (a : Nat)) (fun _ => m) rfl rfl (gi_it (r := .v (.tup [.int 4, .int 10])) (gv_tup (ga_cons gv_c (ga_cons gv_c ga_nil)) rfl (Nat.le_of_ble_eq_true rfl)) rfl) rfl (Nat.le_of_ble_eq_true rfl) fun a ha => ⟨.v m, rfl, ?_⟩) rfl rfl (Nat.le_of_ble_eq_true rfl)) rfl ?_
  · simp only [List.mem_cons, List.not_mem_nil, or_false] at ha
    exact el _ a _ (by omega) (by rcases ha with rfl | rfl <;> rfl)
  show tmRet _ [.v (.lst (errsM m)), .o true (.lst [m, m, m, m, m, m, m, m]), .no] _
  refine gs_ret (r := .f (.lst [m, m, m, m, m, m, m, m, m, m, m])) (gv_addL (xs := [m, m, m, m, m, m, m, m]) (gv_o rfl) (gv_lcm (i := 2) (xs := [6, 8, 9]) (fun a : Nat => .int (a : Nat)) (fun _ => m) rfl rfl (gi_it (r := .v (.tup [.int 6, .int 8, .int 9])) (gv_tup (ga_cons gv_c (ga_cons gv_c (ga_cons gv_c ga_nil))) rfl (Nat.le_of_ble_eq_true rfl)) rfl) rfl (Nat.le_of_ble_eq_true rfl) fun a ha => ⟨.v m, rfl, ?_⟩) rfl rfl (Nat.le_of_ble_eq_true rfl)) q
  simp only [List.mem_cons, List.not_mem_nil, or_false] at ha
  exact el _ a _ (by omega) (by rcases ha with rfl | rfl | rfl <;> rfl)
end
end PL
namespace PL
open PySem PySem.Spec PyProof.Rows L2 KW L2H
theorem gq_parVVE {i j : Nat} {t u : TM} {v : TMS} {ρ : List R} {C : CM} {S T : M → Prop} (n1 : nofeed ρ i = true) (h1 : Gd t ρ fun r => ∃ m, S m ∧ r = .v m) (f1 : free ρ i = true) (h2 : Gd u ρ fun r => ∃ m, T m ∧ r = .v m) (f2 : ∀ a, S a → free (ρ.set i (.v a)) j = true) (q : ∀ a b, S a → T b → v ((ρ.set i (.v a)).set j (.v b)) C) : tmSeq (tmPar i j t u) v ρ C := ⟨n1, h1 _ _ fun r ⟨a, ha, e⟩ => by
  subst e
  exact ⟨f1, h2 _ _ fun r ⟨b, hb, e⟩ => by
    subst e
    exact ⟨f2 a ha, q a b ha hb⟩⟩⟩
theorem gq_parFFE {i j : Nat} {t u : TM} {v : TMS} {ρ : List R} {C : CM} {c1 c2 : OC} (n1 : nofeed ρ i = true) (h1 : Gv t ρ (.f c1)) (f1 : free ρ i = true) (h2 : Gv u ρ (.f c2)) (f2 : free (ρ.set i (.o true c1)) j = true) (q : v ((ρ.set i (.o true c1)).set j (.o true c2)) C) : tmSeq (tmPar i j t u) v ρ C := ⟨n1, h1 _ _ ⟨f1, h2 _ _ ⟨f2, q⟩⟩⟩
theorem valW_up {cl : M → Bool} : ∀ {N : Nat} {m : M}, valW cl N m = true → valW cl (N + 1) m = true
  | 0, _, h => by cases h
  | N + 1, .lst xs, h => by
    simp only [valW, Bool.and_eq_true, List.all_eq_true] at h ⊢
    exact ⟨h.1, fun y hy => valW_up (N := N) (h.2 y hy)⟩
  | N + 1, .tup xs, h => by
    simp only [valW, Bool.and_eq_true, List.all_eq_true] at h ⊢
    exact ⟨h.1, fun y hy => valW_up (N := N) (h.2 y hy)⟩
  | N + 1, .obj c fs, h => h
  | N + 1, .dct _ _, h => by cases h
  | N + 1, .err _ _, h => by cases h
  | N + 1, .non, _ => rfl
  | N + 1, .bl _, _ => rfl
  | N + 1, .int _, _ => rfl
  | N + 1, .str _, _ => rfl
theorem valW_11 {cl : M → Bool} {N : Nat} {m : M} (h : valW cl N m = true) : valW cl (N + 1) (.lst [m, m, m, m, m, m, m, m, m, m, m]) = true := by
  simp [valW, h]
theorem valW_1 {cl : M → Bool} {N : Nat} {m : M} (h : valW cl N m = true) : valW cl (N + 1) (.lst [m]) = true := by
  simp [valW, h]
theorem valW_3 {cl : M → Bool} {N : Nat} {m : M} {a b : Int} (h : valW cl (N + 1) m = true) : valW cl (N + 2) (.lst [.int a, .int b, m]) = true := by
  have h1 : ∀ i : Int, valW cl (N + 1) (.int i) = true := fun _ => rfl
  rw [valW]
  simp [h, h1]
theorem gv_eleven {t : TM} {ρ : List R} {r : R} {m : M} (h : Gv t ρ r) (e : r.m? = some m) : Gv (tmOp semMul (tmLst (tmCons t tmNil)) (tmC (.int 11))) ρ (.f (.lst [m, m, m, m, m, m, m, m, m, m, m])) :=
  gv_op (gv_lst (ms := [m]) (ga_cons h ga_nil) (by unfold ms? ms?; rw [e]) (Nat.le_of_ble_eq_true rfl)) gv_c fun Q q => ⟨by decide, by decide, Nat.le_of_ble_eq_true rfl, q⟩
section
variable {P : Program} {w : World} {Ω : Ev} {mg : Str → Option Value} {base : Heap} {n d : Nat} {cl : M → Bool}
abbrev s_law : Stmt := topS 50
theorem sc_law : FnScope ["_law_script", "_law_base", "_law_k", "_law_feed_here", "_law_changed", "_law_error", "_law_value", "_law_other", "_law_errors_here", "_law_others", "_law_at"] ["_law_script"] (defScope s_law) := ⟨rfl, rfl, rfl, by decide +kernel, rfl, by decide +kernel, by decide +kernel⟩
theorem p_law {k : Nat} {fa : Addr} {fd : FuncData} (B : Bi mg) (EO : EvOk Ω) (EN : ∀ e, e < 13 → PySem.W.findIn Ω.K (.ref (Ω.ecs e)) (ef e) = some none) (EQ : EqP P w Ω mg base n d cl) (hk : n + d + 1 ≤ k) (hk2 : 2 ≤ k) (hd : 2 ≤ d) (IE_WaysError : IE Ω mg "WaysError" fun _ => true) (N_ValueError : mg "ValueError" = none)
    (EV : ∀ e, e < 13 → PySem.W.kitOne Ω.K (.ref (Ω.ecs e)) (.type "ValueError") = some true) (Z_WaysError : Er0 Ω mg "WaysError" 12) (T_NoRow : ET Ω mg "NoRow" 10) (I_NoRow : ErI P w Ω.K mg base (ef 10) (Ω.ecs 10)) (F : Fun Ω.K "law" "law" s_law fa fd)
    (G_law_feed : CalM P w Ω mg base k "_law_feed" feedF) (G_law_any : CalM P w Ω mg base k "_law_any" (anyF 4)) (G_law_errors : CalM P w Ω mg base k "_law_errors" errsF) (G_law_refused : CalM P w Ω mg base k "_law_refused" refF) (G_law_kept : CalM P w Ω mg base k "_law_kept" keptF) (G_law_same : CalM P w Ω mg base k "_law_same" (sameF cl5 6)) :
    FnOk P w Ω.K mg base CX0 (k + 1) fa fd ["_law_script"] (spLaw Ω.K Ω.tb) := by
  refine law_of (fnM F sc_law (fun rs Q x h => ?_) (fun fa cdv A outer s H E hr => (pms_cons (pms_set (i := 1) sc_law.nd rfl (Or.inl rfl) (pm_mk0 (er := 12) (by decide) Z_WaysError rfl rfl))
      (pms_cons (pms_if (PW.pt (pm_or (pm_not (pm_t (pm_isiEV EO rfl rfl B.isinstance (kt_ValueError rfl N_ValueError) EV (pm_var (pv 1))))) (pm_or1 (pm_tcmp (om_ne EQ rfl (hr.mono (by omega))) (pm_call G_law_refused rfl (L2N.takes_of rfl rfl rfl rfl) hr (by omega) rfl (pm_cons (pm_var (pv 1)) pm_nil)) (pm_lst pm_nil) (nomark _))))) (pms_one (pms_ret pm_bl)) pms_nil)
      (pms_fgt [2, 3, 4, 5, 6, 7, 8, 9, 10] (pms_cons (pms_for (passes_of rfl) rfl (pm_range1 true rfl B.range (pm_op (om_add rfl) pm_int (pm_callB (cm_len rfl) rfl B.len PySem.boot_len (pm_cons (pm_slice rfl (pm_var (pv 0)) pm_on (pm_os pm_int)) pm_nil)))) (pmg_name [2] (by decide) (pg_name (i := 2) sc_law.nd rfl (Or.inl rfl))) (pms_hid (pms_cons (pms_set (i := 3) sc_law.nd rfl (Or.inl rfl) (pm_call G_law_feed rfl (L2N.takes_of rfl rfl rfl rfl) hr (by omega) rfl (pm_cons (pm_var (pv 0)) (pm_cons (pm_var (pv 2)) pm_nil))))
      (pms_cons (pms_par rfl sc_law.nd (i := 6) (j := 7) rfl rfl  (by decide) rfl rfl  (pm_call G_law_any rfl (L2N.takes_of rfl rfl rfl rfl) hr (by omega) rfl (pm_cons (pm_var (pv 3)) (pm_cons pm_int pm_nil))) (pm_call G_law_any rfl (L2N.takes_of rfl rfl rfl rfl) hr (by omega) rfl (pm_cons (pm_var (pv 3)) (pm_cons pm_int pm_nil))) (by rfl))
      (pms_cons (pms_par rfl sc_law.nd (i := 8) (j := 9) rfl rfl  (by decide) rfl rfl  (pm_call G_law_errors rfl (L2N.takes_of rfl rfl rfl rfl) hr (by omega) rfl (pm_cons (pm_var (pv 6)) pm_nil)) (pm_call G_law_errors rfl (L2N.takes_of rfl rfl rfl rfl) hr (by omega) rfl (pm_cons (pm_lst (pm_cons (pm_var (pv 7)) pm_nil)) pm_nil)) (by rfl))
      (pms_fgt [5, 10] (pms_frz 8 (pms_frz 9 (pms_cons (pms_for (passes_of rfl) rfl (pm_enum true rfl rfl B.enumerate (pm_var (pv 8))) (pmg_tup [10, 5] (by decide) (by decide) (kk_gtup Ω.K rfl (n := 2) rfl (pgs_cons (pg_name (i := 10) sc_law.nd rfl (Or.inl rfl)) (pgs_cons (pg_name (i := 5) sc_law.nd rfl (Or.inl rfl)) pgs_nil)))) (pms_hid (pms_oneF [5, 10] (pms_if (PW.pt (pm_or (pm_not (pm_t (pm_isiE EO rfl rfl B.isinstance IE_WaysError (pm_var (pv 5))))) (pm_or (pm_not (pm_t (pm_isiEV EO rfl rfl B.isinstance (kt_ValueError rfl N_ValueError) EV (pm_var (pv 5))))) (pm_or1 (pm_tcmp (om_ne EQ rfl (hr.mono (by omega))) (pm_call G_law_refused rfl (L2N.takes_of rfl rfl rfl rfl) hr (by omega) rfl (pm_cons (pm_var (pv 5)) pm_nil)) (pm_lst (pm_cons (pm_var (pv 10)) pm_nil)) (nomark _)))))) (pms_one (pms_ret pm_bl)) pms_nil))))
      (pms_cons (pms_if (PW.pt (pm_or (pm_not (pm_t (pm_call G_law_same rfl (L2N.takes_of rfl rfl rfl rfl) hr (by omega) rfl (pm_cons (pm_call G_law_kept rfl (L2N.takes_of rfl rfl rfl rfl) hr (by omega) rfl (pm_cons (pm_var (pv 8)) pm_nil)) (pm_cons (pm_op (om_mul rfl) (pm_lst (pm_cons (pm_var (pv 6)) pm_nil)) pm_int) pm_nil))))) (pm_or1 (pm_not (pm_t (pm_call G_law_same rfl (L2N.takes_of rfl rfl rfl rfl) hr (by omega) rfl (pm_cons (pm_call G_law_kept rfl (L2N.takes_of rfl rfl rfl rfl) hr (by omega) rfl (pm_cons (pm_var (pv 9)) pm_nil)) (pm_cons (pm_op (om_mul rfl) (pm_lst (pm_cons (pm_lst (pm_cons (pm_var (pv 7)) pm_nil)) pm_nil)) pm_int) pm_nil)))))))) (pms_one (pms_ret pm_bl)) pms_nil)
      (pms_alias (i := 4) (j := 5) (l := 7) (er := 10) (a := 1) (b := 2) (by decide) (by decide) (by decide) (by decide) (ps_set sc_law.nd rfl (Or.inl rfl) (pe_lst (pa_cons pe_int (pa_cons pe_int pa_nil)))) (ps_set sc_law.nd rfl (Or.inl rfl) (pe_mkE' (k := 0) T_NoRow.1 I_NoRow rfl (hr.mono (by omega)) rfl (pv 4))) (ps_expr (kk_bm Ω.K rfl PySem.F.plainAttrs_list PySem.F.slot_list_append PySem.F.type_list_append mt_append (pv 4) (pa_cons (pv 7) pa_nil)))
      (pms_oneF [2, 3, 4, 5, 6, 7, 8, 9, 10] (pms_if (pm_not (pm_t (pm_call G_law_same rfl (L2N.takes_of rfl rfl rfl rfl) hr (by omega) rfl (pm_cons (pm_erF EO EN rfl (pm_var (pv 5)) rfl) (pm_cons (pm_lst (pm_cons pm_int (pm_cons pm_int (pm_cons (pm_var (pv 7)) pm_nil)))) pm_nil))))) (pms_one (pms_ret pm_bl)) pms_nil)))))))))))))
      (pms_one (pms_ret pm_bl))))))) (fun rs Q x h => ?_))
  · obtain ⟨zs, rfl, _⟩ := h
    rfl
  obtain ⟨zs, rfl, hl, q⟩ := h
  obtain ⟨d, rfl⟩ : ∃ z, d = z + 2 := ⟨d - 2, by omega⟩
  let st : R → R → R → R → R → R → R → R → R → List R := fun r2 r3 r4 r5 r6 r7 r8 r9 r10 => [.o false (.scr zs), .v (.err 12 []), r2, r3, r4, r5, r6, r7, r8, r9, r10]
  let e0 : List R := st .no .no .no .no .no .no .no .no .no
  refine gq_setv gv_mk0 rfl ?_
  show tmSeq _ _ e0 _
  refine gq_ifNo (gb_orF (gb_not (gb_t (gv_isE (gv_v rfl) rfl)) rfl) (gb_t (gv_ne (a := .f (.lst [])) (b := .f (.lst [])) (m := .lst []) (m' := .lst []) (gv_call (ga_cons (gv_v rfl) ga_nil) fun Q x q => ⟨12, [], rfl, q⟩) (gv_lst ga_nil rfl (Nat.zero_le _)) rfl rfl (by simp [cOk]) rfl rfl))) ?_
  show tmFgt _ _ e0 _
  iterate 9 refine gs_fgtC (ρ' := e0) rfl rfl ?_
  apply gs_fgtN
  have hcut := cut_lenE (xs := zs.map M.int) (lo := none) (hi := some 2)
  rw [List.length_map] at hcut
  have rng : Gv (tmOp semAdd (tmC (.int 1)) (tmCallB semLen (tmCons (tmSl (tmV 0) tmON (tmOS (tmC (.int 2)))) tmNil))) e0 (.v (.int ((1 + (cutM (zs.map M.int) none (some 2)).length : Nat) : Int))) := gv_castE (gv_addI gv_c (gv_len (r := .f (.lst (cutM (zs.map M.int) none (some 2)))) (fun Q x q => gv_o (l := false) (c := .scr zs) rfl _ _ ⟨_, rfl, q⟩) rfl)) (by rw [Int.natCast_add]; rfl)
  refine gq_forP (fun i : Nat => M.int ((0 : Int) + (i : Nat))) (fun _ ρ => ρ = e0) rfl (gi_rn rng (by omega)) rfl (fun pre i post e ρ I D hD hX hN => ?_) (fun ρ I => ?_)
  · subst I
    refine ⟨rfl, ?_⟩
    apply gs_hid
    show tmSeq _ _ (st (.v (.int ((0 : Int) + (i : Nat)))) .no .no .no .no .no .no .no .no) D
    rw [Int.zero_add]
    refine gq_setf (c := .feed) (gv_call (rs := [.o false (.scr zs), .v (.int (i : Nat))]) (ga_cons (gv_o rfl) (ga_cons (gv_v rfl) ga_nil)) fun Q x q => ⟨by omega, q⟩) rfl ?_
    generalize (i : Int) = iv
    show tmSeq _ _ (st (.v (.int iv)) (.o true .feed) .no .no .no .no .no .no .no) D
    refine gq_parVVE (S := fun m => valW cl5 4 m = true) (T := fun m => valW cl5 4 m = true) rfl (gd_call (rs := [.o true .feed, .v (.int 3)]) (ga_cons (gv_o rfl) (ga_cons gv_c ga_nil)) fun Q x q => ⟨false, 3, rfl, by decide, by decide, fun m hm => q _ ⟨m, hm, rfl⟩⟩) rfl
      (gd_call (rs := [.o true .feed, .v (.int 2)]) (ga_cons (gv_o rfl) (ga_cons gv_c ga_nil)) fun Q x q => ⟨false, 2, rfl, by decide, by decide, fun m hm => q _ ⟨m, hm, rfl⟩⟩) (fun a _ => rfl) fun v o hv ho => ?_
    show tmSeq _ _ (st (.v (.int iv)) (.o true .feed) .no .no (.v v) (.v o) .no .no .no) D
    refine gq_parFFE (c1 := .lst (errsM v)) (c2 := .lst (errsM (.lst [o]))) rfl (gv_call (ga_cons (gv_v rfl) ga_nil) fun Q x q => ⟨v, rfl, q⟩) rfl (gv_call (rs := [.f (.lst [o])]) (ga_cons (gv_lst (ga_cons (gv_v rfl) ga_nil) rfl (Nat.le_of_ble_eq_true rfl)) ga_nil) fun Q x q => ⟨.lst [o], rfl, q⟩) rfl ?_
    show tmFgt _ _ (st (.v (.int iv)) (.o true .feed) .no .no (.v v) (.v o) (.o true (.lst (errsM v))) (.o true (.lst (errsM (.lst [o])))) .no) D
    iterate 2 refine gs_fgtC (ρ' := st (.v (.int iv)) (.o true .feed) .no .no (.v v) (.v o) (.o true (.lst (errsM v))) (.o true (.lst (errsM (.lst [o])))) .no) rfl rfl ?_
    apply gs_fgtN
    apply gs_frz
    apply gs_frz
    let s1 : R → R → R → List R := fun r4 r5 r10 => st (.v (.int iv)) (.o true .feed) r4 r5 (.v v) (.v o) (.v (.lst (errsM v))) (.v (.lst (errsM (.lst [o])))) r10
    show tmSeq _ _ (s1 .no .no .no) D
    refine gq_forP (xs := List.range 12) (ms := (errsM v).zipIdx.map fun z => M.tup [.int (z.2 : Nat), z.1]) (fun z : Nat => M.tup [.int (z : Nat), .err z (if z < 11 then [v] else [])]) (fun _ ρ => ρ = s1 .no .no .no) rfl (gi_enumE (gv_v rfl) rfl fun _ => rfl) rfl (fun pre z post e ρ I D' hD' hX' hN' => ?_) (fun ρ I => ?_)
    · subst I
      have hz : z < 12 := by
        have : z ∈ List.range 12 := by rw [e]; simp
        exact List.mem_range.mp this
      refine ⟨rfl, rfl, ?_⟩
      apply gs_hid
      show tmSeq _ _ (s1 .no (.v (.err z (if z < 11 then [v] else []))) (.v (.int (z : Nat)))) D'
      generalize (if z < 11 then [v] else []) = fs
      have rz : Gv (tmCall refF (tmCons (tmV 5) tmNil)) (s1 .no (.v (.err z fs)) (.v (.int (z : Nat)))) (.f (.lst [.int (z : Nat)])) := gv_call (ga_cons (gv_v rfl) ga_nil) fun Q x q => ⟨z, fs, rfl, by rw [refE_lt z hz]; exact q⟩
      refine gq_ifNo (gb_orF (gb_not (gb_t (gv_isE (gv_v rfl) rfl)) rfl) (gb_orF (gb_not (gb_t (gv_isE (gv_v rfl) rfl)) rfl) (gb_t (gv_ne (a := .f (.lst [.int (z : Nat)])) (b := .f (.lst [.int (z : Nat)])) (m := .lst [.int (z : Nat)]) (m' := .lst [.int (z : Nat)]) rz (gv_lst (ga_cons (gv_v rfl) ga_nil) rfl (Nat.le_of_ble_eq_true rfl)) rfl rfl (by simp [cOk, M.ob, M.nd]) rfl rfl)))) ?_
      show tmFgt _ _ (s1 .no (.v (.err z fs)) (.v (.int (z : Nat)))) D'
      refine gs_fgtC (ρ' := s1 .no .no (.v (.int (z : Nat)))) rfl rfl ?_
      refine gs_fgtC (ρ' := s1 .no .no .no) rfl rfl ?_
      exact hN' _ rfl
    subst I
    have kp : ∀ (j : Nat) (m : M), (s1 .no .no .no)[j]? = some (.v (.lst (errsM m))) → Gv (tmCall keptF (tmCons (tmV j) tmNil)) (s1 .no .no .no) (.f (.lst [m, m, m, m, m, m, m, m, m, m, m])) := fun j m e => gv_call (ga_cons (gv_v e) ga_nil) fun Q x q => ⟨m, rfl, q⟩
    have sm : ∀ (t : TM) (j : Nat) (r : R) (m : M), (s1 .no .no .no)[j]? = some (.v (.lst (errsM m))) → Gv t (s1 .no .no .no) r → r.m? = some m → valW cl5 5 m = true → Gv (tmCall (sameF cl5 6) (tmCons (tmCall keptF (tmCons (tmV j) tmNil)) (tmCons (tmOp semMul (tmLst (tmCons t tmNil)) (tmC (.int 11))) tmNil))) (s1 .no .no .no) (.v (.bl true)) := fun t j r m e ht er hm =>
      gv_call (ga_cons (kp j m e) (ga_cons (gv_eleven ht er) ga_nil)) fun Q x q => ⟨_, rfl, valW_11 hm, q⟩
    refine gq_ifNo (gb_orF (gb_not (gb_t (sm _ 8 (.v v) v rfl (gv_v rfl) rfl (valW_up hv))) rfl) (gb_not (gb_t (sm _ 9 (.f (.lst [o])) (.lst [o]) rfl (gv_lst (ga_cons (gv_v rfl) ga_nil) rfl (Nat.le_of_ble_eq_true rfl)) rfl (valW_1 ho))) rfl)) ?_
    refine ⟨rfl, rfl, (by show 4 < 11; decide), (by show 5 < 11; decide), o, rfl, ?_⟩
    show tmSeq _ _ (s1 (.v (.lst [.int 1, .int 2, o])) (.v (.err 10 [.lst [.int 1, .int 2, o]])) .no) D
    refine gq_ifNo (gb_not (gb_t (gv_call (rs := [.v (.lst [.int 1, .int 2, o]), .f (.lst [.int 1, .int 2, o])]) (ga_cons (gv_erF (gv_v rfl) rfl) (ga_cons (gv_lst (ga_cons gv_c (ga_cons gv_c (ga_cons (gv_v rfl) ga_nil))) rfl (Nat.le_of_ble_eq_true rfl)) ga_nil)) fun Q x q => ⟨_, rfl, ?_, q⟩)) rfl) ?_
    · exact valW_3 (N := 4) (valW_up ho)
    show tmFgt _ _ (s1 (.v (.lst [.int 1, .int 2, o])) (.v (.err 10 [.lst [.int 1, .int 2, o]])) .no) D
    iterate 9 refine gs_fgtC rfl rfl ?_
    exact hN _ rfl
  subst I
  exact gs_ret gv_c q
end
end PL
namespace KW
open PySem PySem.Spec PyProof.Rows L2 L2H
/-- the errors' classes -/
structure RfN (mg : Str → Option Value) (cs : Nat → Addr) : Prop where
  InvalidStep : mg "InvalidStep" = some (.ref (cs 0))
  InvalidTrait : mg "InvalidTrait" = some (.ref (cs 1))
  InvalidExpr : mg "InvalidExpr" = some (.ref (cs 2))
  InvalidRow : mg "InvalidRow" = some (.ref (cs 3))
  InvalidText : mg "InvalidText" = some (.ref (cs 4))
  InvalidWorld : mg "InvalidWorld" = some (.ref (cs 5))
  InvalidStart : mg "InvalidStart" = some (.ref (cs 6))
  InvalidClaim : mg "InvalidClaim" = some (.ref (cs 7))
  NoName : mg "NoName" = some (.ref (cs 8))
  NoStep : mg "NoStep" = some (.ref (cs 9))
  NoRow : mg "NoRow" = some (.ref (cs 10))
  Impossible : mg "Impossible" = some (.ref (cs 11))
/-- D is the class number n -/
structure RfD (K : PySem.W.Frag) (cs : Nat → Addr) (D : Addr) (n : Nat) : Prop where
  exc : ExcC K D
  lt : n < 12
  is : ∀ i, i < 12 → PySem.W.kitOne K (.ref D) (.ref (cs i)) = some (decide (i = n))
def csOf (l : List Addr) (i : Nat) : Addr := l.getD i 0
theorem kit_of {K : PySem.W.Frag} {D C : Addr} {b : Bool} (hc : PySem.W.isClsIn K C = true) (ht : PySem.W.typeIn K (.ref C) = some (.type "type")) (hs : PySem.W.subIn K (.ref D) (.ref C) = some b) (self : PySem.W.subIn K (.ref D) (.ref D) = some true) : PySem.W.kitOne K (.ref D) (.ref C) = some b := by
  unfold PySem.W.kitOne
  by_cases h : (Value.ref D == Value.ref C) = true
  · rw [if_pos h]
    have e : Value.ref D = Value.ref C := eq_of_beq h
    rw [← e, self] at hs
    exact hs
  · rw [if_neg h]
    show (if ((PySem.W.clsIn K C).isSome && PySem.W.typeIn K (.ref C) == some (.type "type")) = true then PySem.W.subIn K (.ref D) (.ref C) else none) = some b
    have e2 : ((PySem.W.clsIn K C).isSome && PySem.W.typeIn K (.ref C) == some (.type "type")) = true := by
      rw [show (PySem.W.clsIn K C).isSome = true from hc, ht] <;> rfl
    rw [if_pos e2]
    exact hs
theorem refsVE_one (C : Addr) : PySem.HandSPX.refsVE [.ref C, .type "ValueError", .type "Exception", .type "BaseException", .type "object"] = true := by
  show PySem.HandSPX.refsVE [.type "ValueError", .type "Exception", .type "BaseException", .type "object"] = true
  decide +kernel
end KW
namespace PL
open PySem PySem.Spec PyProof.Rows L2 KW
def csO (cs : List (Option Addr)) (c : Nat) : Addr := (cs[c]?.join).getD 0
def hasO (cs : List (Option Addr)) (c : Nat) : Prop := ∃ C, cs[c]? = some (some C)
abbrev Om (K : PySem.W.Frag) (cs : List (Option Addr)) (es : List Addr) (tb : List (Addr × Str) := []) : Ev := ⟨K, csO cs, csOf es, hasO cs, tb⟩
theorem csO_of {cs : List (Option Addr)} {c : Nat} {C : Addr} (h : cs[c]? = some (some C)) : csO cs c = C := by
  unfold csO
  rw [h]
  rfl
/-- one class -/
structure CF (K : PySem.W.Frag) (c : Nat) (C : Addr) (Ab : List Addr := []) : Prop where
  cl : Cls K C
  na : ∀ f ∈ an c, NoAttr K C f
  ha : PySem.W.findIn K (.ref C) "__class__" = some (some (.builtin "object.__class__"))
  lk : ∃ a b cd e, K.lookup C = some ⟨a, b, .cls cd, e⟩ ∧ cd.mro = .ref C :: (Ab.map Value.ref ++ [.type "object"])
  tt : PySem.W.typeIn K (.ref C) = some (.type "type")
theorem CF.cls {K : PySem.W.Frag} {c : Nat} {C : Addr} {Ab : List Addr} (h : CF K c C Ab) : ∃ cd, PySem.W.clsIn K C = some cd ∧ cd.mro = .ref C :: (Ab.map Value.ref ++ [.type "object"]) := by
  obtain ⟨a, b, cd, e, h1, h2⟩ := h.lk
  refine ⟨cd, ?_, h2⟩
  unfold PySem.W.clsIn
  rw [h1]
theorem CF.mro {K : PySem.W.Frag} {c : Nat} {C : Addr} {Ab : List Addr} (h : CF K c C Ab) (b : Value) : PySem.W.mroIn K C b = some ((Value.ref C :: (Ab.map Value.ref ++ [.type "object"])).contains b) := by
  obtain ⟨cd, h1, h2⟩ := h.cls
  unfold PySem.W.mroIn
  rw [h1]
  simp [h2]
theorem CF.sub {K : PySem.W.Frag} {c : Nat} {C : Addr} {Ab : List Addr} (h : CF K c C Ab) (b : Value) : PySem.W.subIn K (.ref C) b = some ((Value.ref C :: (Ab.map Value.ref ++ [.type "object"])).contains b) := h.mro b
theorem mro_ty (C : Addr) (Ab : List Addr) (t : String) : (Value.ref C :: (Ab.map Value.ref ++ [.type "object"])).contains (.type t) = decide (t = "object") := by
  rw [Bool.eq_iff_iff]
  simp
theorem mro_ref (C : Addr) (Ab : List Addr) (A : Addr) : (Value.ref C :: (Ab.map Value.ref ++ [.type "object"])).contains (.ref A) = decide (A = C ∨ A ∈ Ab) := by
  rw [Bool.eq_iff_iff]
  simp
theorem mros : ∀ t ∈ tyNames, ∃ l : List Value, fastBuiltinMro t = some l ∧ ∀ C : Addr, l.contains (.ref C) = false := by
  intro t ht
  simp only [tyNames, List.mem_cons, List.not_mem_nil, or_false] at ht
  rcases ht with rfl | rfl | rfl | rfl | rfl | rfl | rfl <;> exact ⟨_, rfl, fun C => by simp⟩
theorem sub_ty {K : PySem.W.Frag} {C : Addr} {t : String} (ht : t ∈ tyNames) : PySem.W.subIn K (.type t) (.ref C) = some false := by
  obtain ⟨l, h1, h2⟩ := mros t ht
  unfold PySem.W.subIn
  simp only [h1, Option.map_some, h2]
theorem metas : ∀ t ∈ tyNames, PySem.W.kitMeta t = true := by decide +kernel
theorem ty_not_obj : ∀ t ∈ tyNames, ¬ t = "object" := by decide
theorem CF.kitT {K : PySem.W.Frag} {c : Nat} {C : Addr} {Ab : List Addr} (h : CF K c C Ab) {t : String} (ht : t ∈ tyNames) : PySem.W.kitOne K (.type t) (.ref C) = some false := by
  obtain ⟨cd, h1, h2⟩ := h.cls
  unfold PySem.W.kitOne
  rw [if_neg (by simp)]
  show (if ((PySem.W.clsIn K C).isSome && PySem.W.typeIn K (.ref C) == some (.type "type")) = true then PySem.W.subIn K (.type t) (.ref C) else none) = some false
  rw [if_pos (by rw [h1, h.tt]; simp), sub_ty ht]
theorem CF.ns {K : PySem.W.Frag} {c : Nat} {C : Addr} {Ab : List Addr} (h : CF K c C Ab) {t : String} (ht : t ∈ tyNames) : PySem.W.subIn K (.ref C) (.type t) = some false := by
  rw [h.sub, mro_ty, decide_eq_false (ty_not_obj t ht)]
theorem CF.kitN {K : PySem.W.Frag} {c : Nat} {C : Addr} {Ab : List Addr} (h : CF K c C Ab) {t : String} (ht : t ∈ tyNames) : PySem.W.kitOne K (.ref C) (.type t) = some false := by
  unfold PySem.W.kitOne
  rw [if_neg (by simp)]
  show (if PySem.W.kitMeta t = true then PySem.W.subIn K (.ref C) (.type t) else none) = some false
  rw [if_pos (metas t ht), h.ns ht]
abbrev veT : List Value := [.type "ValueError", .type "Exception", .type "BaseException", .type "object"]
/-- one error's class -/
structure XF (K : PySem.W.Frag) (C : Addr) (bm : List Value) : Prop where
  lk : ∃ cd, PySem.W.clsIn K C = some cd ∧ cd.mro = .ref C :: bm
  tt : PySem.W.typeIn K (.ref C) = some (.type "type")
  ec : ExcC K C
theorem XF.sub {K : PySem.W.Frag} {C : Addr} {bm : List Value} (h : XF K C bm) (b : Value) : PySem.W.subIn K (.ref C) b = some ((Value.ref C :: bm).contains b) := by
  obtain ⟨cd, h1, h2⟩ := h.lk
  show PySem.W.mroIn K C b = _
  unfold PySem.W.mroIn
  rw [h1]
  simp [h2]
theorem XF.isC {K : PySem.W.Frag} {C : Addr} {bm : List Value} (h : XF K C bm) : PySem.W.isClsIn K C = true := by
  obtain ⟨cd, h1, _⟩ := h.lk
  unfold PySem.W.isClsIn
  rw [h1]
  rfl
theorem XF.kitTy {K : PySem.W.Frag} {C : Addr} {bm : List Value} (h : XF K C bm) {T : String} {b : Bool} (hm : PySem.W.kitMeta T = true) (hb : (Value.ref C :: bm).contains (.type T) = b) : PySem.W.kitOne K (.ref C) (.type T) = some b := by
  unfold PySem.W.kitOne
  rw [if_neg (by simp)]
  show (if PySem.W.kitMeta T = true then PySem.W.subIn K (.ref C) (.type T) else none) = some b
  rw [if_pos hm, h.sub, hb]
/-- the thirteen errors, WaysError the last -/
structure XFs (K : PySem.W.Frag) (cs : List (Option Addr)) (es : List Addr) : Prop where
  len : es.length = 13
  nd : es.Nodup
  all : ∀ (i : Nat) (D : Addr), es[i]? = some D → XF K D (if i = 12 then veT else .ref (csOf es 12) :: veT)
  ap : ∀ D ∈ es, ∀ i : Nat, cs[i]? ≠ some (some D)
theorem XFs.at {K : PySem.W.Frag} {cs : List (Option Addr)} {es : List Addr} (h : XFs K cs es) {e : Nat} (he : e < 13) : es[e]? = some (csOf es e) := by
  unfold csOf
  rw [List.getD_eq_getElem?_getD, List.getElem?_eq_getElem (by rw [h.len]; exact he)]
  rfl
theorem XFs.inj {K : PySem.W.Frag} {cs : List (Option Addr)} {es : List Addr} (h : XFs K cs es) {e e' : Nat} (he : e < 13) (he' : e' < 13) (z : csOf es e = csOf es e') : e = e' := by
  obtain ⟨l1, e1⟩ := List.getElem?_eq_some_iff.mp (h.at he)
  obtain ⟨l2, e2⟩ := List.getElem?_eq_some_iff.mp (h.at he')
  have H := List.pairwise_iff_getElem.mp h.nd
  rcases Nat.lt_trichotomy e e' with c | c | c
  · exact absurd (by rw [e1, e2, z]) (H e e' l1 l2 c)
  · exact c
  · exact absurd (by rw [e1, e2, z]) (H e' e l2 l1 c)
theorem XFs.ty {K : PySem.W.Frag} {cs : List (Option Addr)} {es : List Addr} (h : XFs K cs es) {e : Nat} (he : e < 13) {T : String} {b : Bool} (hm : PySem.W.kitMeta T = true) (hb : veT.contains (.type T) = b) : PySem.W.kitOne K (.ref (csOf es e)) (.type T) = some b := by
  refine (h.all e _ (h.at he)).kitTy hm ?_
  subst hb
  split
  · rw [List.contains_cons, Bool.eq_iff_iff]
    simp
  · rw [List.contains_cons, List.contains_cons, Bool.eq_iff_iff]
    simp
theorem XFs.ref {K : PySem.W.Frag} {cs : List (Option Addr)} {es : List Addr} (h : XFs K cs es) {e : Nat} (he : e < 13) {C : Addr} (hc : PySem.W.isClsIn K C = true) (ht : PySem.W.typeIn K (.ref C) = some (.type "type")) {b : Bool} (hb : decide (C = csOf es e ∨ (e < 12 ∧ C = csOf es 12)) = b) : PySem.W.kitOne K (.ref (csOf es e)) (.ref C) = some b := by
  have x := h.all e _ (h.at he)
  refine kit_of hc ht ?_ (by rw [x.sub]; simp)
  rw [x.sub, ← hb]
  congr 1
  rw [Bool.eq_iff_iff, decide_eq_true_iff]
  by_cases c : e = 12
  · rw [if_pos c]
    simp [c]
  · rw [if_neg c]
    simp
    constructor
    · rintro (z | z)
      · exact .inl z
      · exact .inr ⟨by omega, z⟩
    · rintro (z | ⟨_, z⟩)
      · exact .inl z
      · exact .inr z
/-- is it one of this class -/
theorem XFs.ie {K : PySem.W.Frag} {cs : List (Option Addr)} {es : List Addr} (h : XFs K cs es) {tb : List (Addr × Str)} {mg : Str → Option Value} {x : Str} {j : Nat} (hj : j < 12) (hm : mg x = some (.ref (csOf es j))) : IE (Om K cs es tb) mg x fun e => decide (e = j) := by
  refine ⟨_, hm, fun e he => ?_⟩
  have y := h.all j _ (h.at (by omega))
  refine h.ref he y.isC y.tt ?_
  rw [Bool.eq_iff_iff, decide_eq_true_iff, decide_eq_true_iff]
  constructor
  · rintro (z | ⟨_, z⟩)
    · exact (h.inj (by omega) he z).symm
    · exact absurd (h.inj (by omega) (by omega) z) (by omega)
  · rintro rfl
    exact .inl rfl
theorem XFs.ieW {K : PySem.W.Frag} {cs : List (Option Addr)} {es : List Addr} (h : XFs K cs es) {tb : List (Addr × Str)} {mg : Str → Option Value} {x : Str} (hm : mg x = some (.ref (csOf es 12))) : IE (Om K cs es tb) mg x fun _ => true := by
  refine ⟨_, hm, fun e he => ?_⟩
  have y := h.all 12 _ (h.at (by omega))
  refine h.ref he y.isC y.tt ?_
  rw [decide_eq_true_iff]
  by_cases c : e = 12
  · rw [c]
    exact .inl rfl
  · exact .inr ⟨by omega, rfl⟩
theorem evOk_ofA {K : PySem.W.Frag} {cs : List (Option Addr)} {es : List Addr} (xf : XFs K cs es) (sg : PySem.W.specialIn K (.builtin "object.__class__") "__get__" = some (some (.builtin "getset_descriptor.__get__"))) (tk : PySem.W.takesIn K (.builtin "object.__class__") = some true)
    (h : ∀ (c : Nat) (C : Addr), cs[c]? = some (some C) → ∃ Ab, CF K c C Ab ∧ ∀ A ∈ Ab, ∀ i : Nat, cs[i]? ≠ some (some A)) {tb : List (Addr × Str)} (inj : ∀ (c c' : Nat) (C : Addr), cs[c]? = some (some C) → cs[c']? = some (some C) → c = c') : EvOk (Om K cs es tb) := by
  have ne : ∀ {c c' : Nat} {C C' : Addr} {Ab : List Addr}, (∀ A ∈ Ab, ∀ i : Nat, cs[i]? ≠ some (some A)) → cs[c]? = some (some C) → cs[c']? = some (some C') → ((Value.ref C :: (Ab.map Value.ref ++ [.type "object"])).contains (.ref C')) = decide (c = c') := fun {c c' C C' Ab} na e1 e2 => by
    rw [mro_ref]
    have nb : ¬ C' ∈ Ab := fun z => na _ z _ e2
    by_cases hc : c = c'
    · subst hc
      rw [e1] at e2
      cases e2
      simp
    · have : ¬ C' = C := fun z => hc (inj c c' C e1 (z ▸ e2))
      simp [hc, this, nb]
  refine ⟨?_, ?_, ?_, ?_, ?_, ?_, ?_, ?_, fun e e' he he' z => xf.inj he he' z, fun e he => (xf.all e _ (xf.at he)).ec, fun e he c ⟨C, ec⟩ => ?_, fun e he T hT => ?_, ?_⟩
  · rintro c ⟨C, e⟩
    show Cls K (csO cs c)
    rw [csO_of e]
    exact (h c C e).choose_spec.1.cl
  · rintro c ⟨C, e⟩ f hf
    show NoAttr K (csO cs c) f
    rw [csO_of e]
    exact (h c C e).choose_spec.1.na f hf
  · rintro c ⟨C, e⟩
    show IsC K (csO cs c)
    rw [csO_of e]
    obtain ⟨Ab, k, _⟩ := h c C e
    exact ⟨k.cl, k.ha, sg, tk, by rw [k.mro, mro_ty]; rfl, k.kitN (by decide)⟩
  · rintro c c' ⟨C, e⟩ ⟨C', e'⟩
    show PySem.W.kitOne K (.ref (csO cs c)) (.ref (csO cs c')) = some (decide (c = c'))
    rw [csO_of e, csO_of e']
    obtain ⟨Ab, k, na⟩ := h c C e
    obtain ⟨Ab', k', _⟩ := h c' C' e'
    obtain ⟨cd, h1, h2⟩ := k'.cls
    refine kit_of (by unfold PySem.W.isClsIn; rw [h1]; rfl) k'.tt (by rw [k.sub, ne na e e']) (by rw [k.sub]; simp)
  · rintro t ht c ⟨C, e⟩
    show PySem.W.kitOne K (.type t) (.ref (csO cs c)) = some false
    rw [csO_of e]
    exact (h c C e).choose_spec.1.kitT ht
  · rintro c ⟨C, e⟩
    show (∀ t ∈ tyNames, PySem.W.notFirst K (csO cs c) (.type t) = true) ∧ ∀ c', hasO cs c' → PySem.W.notFirst K (csO cs c) (.ref (csO cs c')) = true
    rw [csO_of e]
    refine ⟨fun t ht => ?_, fun c' ⟨C', e'⟩ => ?_⟩
    · unfold PySem.W.notFirst
      rw [sub_ty ht]
      simp
    · rw [csO_of e']
      unfold PySem.W.notFirst
      obtain ⟨Ab', k', na⟩ := h c' C' e'
      rw [k'.sub, ne na e' e]
      by_cases hc : c' = c
      · subst hc
        rw [e] at e'
        cases e'
        simp
      · simp [hc]
  · rintro c ⟨C, e⟩ t ht
    show PySem.W.subIn K (.ref (csO cs c)) (.type t) = some false
    rw [csO_of e]
    exact (h c C e).choose_spec.1.ns ht
  · rintro c c' ⟨C, e⟩ ⟨C', e'⟩ z
    have z : csO cs c = csO cs c' := z
    rw [csO_of e, csO_of e'] at z
    subst z
    exact inj c c' C e e'
  · show PySem.W.kitOne K (.ref (csOf es e)) (.ref (csO cs c)) = some false
    rw [csO_of ec]
    obtain ⟨Ab, k, _⟩ := h c C ec
    obtain ⟨cd, h1, _⟩ := k.cls
    refine xf.ref he (by unfold PySem.W.isClsIn; rw [h1]; rfl) k.tt ?_
    rw [decide_eq_false_iff_not]
    rintro (z | ⟨_, z⟩)
    · exact xf.ap _ (List.mem_of_getElem? (xf.at he)) c (z ▸ ec)
    · exact xf.ap _ (List.mem_of_getElem? (xf.at (e := 12) (by omega))) c (z ▸ ec)
  · show PySem.W.kitOne K (.ref (csOf es e)) (.type T) = some false
    simp only [List.mem_cons, List.not_mem_nil, or_false] at hT
    rcases hT with rfl | rfl | rfl | rfl | rfl <;> exact xf.ty he (by decide +kernel) (by decide +kernel)
  · rintro t ht c ⟨C, e⟩
    show PySem.W.kitOne K (.ref (csO cs c)) (.type t) = some false
    rw [csO_of e]
    exact (h c C e).choose_spec.1.kitN ht
theorem evOk_of {K : PySem.W.Frag} {cs : List (Option Addr)} {es : List Addr} (xf : XFs K cs es) (sg : PySem.W.specialIn K (.builtin "object.__class__") "__get__" = some (some (.builtin "getset_descriptor.__get__"))) (tk : PySem.W.takesIn K (.builtin "object.__class__") = some true)
    (h : ∀ (c : Nat) (C : Addr), cs[c]? = some (some C) → CF K c C) (inj : ∀ (c c' : Nat) (C : Addr), cs[c]? = some (some C) → cs[c']? = some (some C) → c = c') : EvOk (Om K cs es) := evOk_ofA xf sg tk (fun c C e => ⟨[], h c C e, fun A hA => by cases hA⟩) inj
theorem inj_of : ∀ {cs : List (Option Addr)}, (cs.filterMap id).Nodup → ∀ (c c' : Nat) (C : Addr), cs[c]? = some (some C) → cs[c']? = some (some C) → c = c'
  | [], _, _, _, _, h, _ => by simp at h
  | x :: cs, h, c, c', C, e, e' => by
    have mem : ∀ {i : Nat}, cs[i]? = some (some C) → C ∈ cs.filterMap id := fun e => List.mem_filterMap.mpr ⟨some C, List.mem_of_getElem? e, rfl⟩
    have ht : (cs.filterMap id).Nodup := by
      cases x with
      | none => simpa using h
      | some y => exact (List.nodup_cons.mp (by simpa using h)).2
    match c, c', e, e' with
    | 0, 0, _, _ => rfl
    | 0, j + 1, e, e' =>
      cases (show x = some C by simpa using e)
      exact absurd (mem (by simpa using e')) (List.nodup_cons.mp (by simpa using h)).1
    | i + 1, 0, e, e' =>
      cases (show x = some C by simpa using e')
      exact absurd (mem (by simpa using e)) (List.nodup_cons.mp (by simpa using h)).1
    | i + 1, j + 1, e, e' => rw [inj_of ht i j C (by simpa using e) (by simpa using e')]
theorem mem_csE : ∀ {cs : List (Option Addr)} {i : Nat} {C : Addr}, cs[i]? = some (some C) → C ∈ cs.filterMap id := fun e => List.mem_filterMap.mpr ⟨some _, List.mem_of_getElem? e, rfl⟩
theorem eqN_of {K : PySem.W.Frag} {cs : List (Option Addr)} {es : List Addr} {tb : List (Addr × Str)} {c : Nat} {C : Addr} {Ab : List Addr} (e : cs[c]? = some (some C)) (k : CF K c C Ab) (ne : PySem.W.findIn K (.ref C) "__ne__" = some (some (.builtin "object.__ne__"))) : EqN (Om K cs es tb) c := by
  refine ⟨?_, ?_⟩
  · show PySem.W.findIn K (.ref (csO cs c)) "__ne__" = _
    rw [csO_of e]
    exact ne
  · show PySem.W.mroIn K (csO cs c) (.type "object") = some true
    rw [csO_of e, k.mro, mro_ty]
    rfl
section
variable {P : Program} {w : World} {Ω : Ev} {mg : Str → Option Value} {base : Heap} {n : Nat}
/-- own == of some classes: each one's == walked -/
theorem owE_of {cl : M → Bool} (cs : List Nat) (hc : ∀ m, cl m = true → ∃ c fs, m = .obj c fs ∧ c ∈ cs) (h : ∀ c ∈ cs, MetM P w Ω mg base n c "__eq__" (eqF cl c) ∧ EqN Ω c) : OwE P w Ω mg base n cl := by
  refine ⟨fun m hm => ?_, fun c fs hm => ?_⟩
  · obtain ⟨c, fs, e, _⟩ := hc m hm
    exact ⟨c, fs, e⟩
  · obtain ⟨c', fs', e, k⟩ := hc _ hm
    cases e
    obtain ⟨h1, h2⟩ := h c k
    exact h1.eqx h2
theorem stepW_c {m : M} (h : stepW m = true) : ∃ c fs, m = .obj c fs ∧ c ∈ [0] := by
  obtain ⟨a, b, rfl, _⟩ := stepW_ob h
  exact ⟨_, _, rfl, by simp⟩
end
end PL
namespace PL
open PySem PySem.Spec PyProof.Rows L2 KW
theorem cl5_c {m : M} (h : cl5 m = true) : ∃ c fs, m = .obj c fs ∧ c ∈ [0, 1, 2, 3] := by
  unfold cl5 at h
  simp only [Bool.or_eq_true] at h
  rcases h with ((h | h) | h) | h
  · unfold stepW at h
    split at h
    · exact ⟨_, _, rfl, by simp⟩
    · cases h
  · unfold traitW at h
    split at h
    · exact ⟨_, _, rfl, by simp⟩
    · cases h
  · unfold chainW at h
    split at h
    · exact ⟨_, _, rfl, by simp⟩
    · cases h
  · unfold exprW0 at h
    split at h
    · exact ⟨_, _, rfl, by simp⟩
    · cases h
end PL
namespace KW
open PySem PySem.Spec PyProof.Rows L2
section
variable {P : Program} {w : World} {K : PySem.W.Frag} {mg : Str → Option Value} {base : Heap}
abbrev s_InvalidStep___init__ : Stmt := inClass (topS 2) 0
theorem sc_InvalidStep___init__ : FnScope ["self", "word"] ["self", "word"] (defScope s_InvalidStep___init__) := ⟨rfl, rfl, rfl, by decide +kernel, rfl, by decide +kernel, by decide +kernel⟩
theorem ok_InvalidStep {C fI : Addr} {fd : FuncData} (T : ErC K mg "InvalidStep" "word" C) (iC : PySem.W.findIn K (.ref C) "__init__" = some (some (.ref fI))) (tI : PySem.W.typeIn K (.ref fI) = some (.type "function"))
    (F : Fun K "__init__" "InvalidStep.__init__" s_InvalidStep___init__ fI fd) (b : Binds K fd ["self", "word"] []) : ErI P w K mg base "word" C := by
  refine ⟨fI, fd, ["self", "word"], iC, tI, ?_, b⟩
  refine F.ok sc_InvalidStep___init__ (fun vs H Q E h => ?_) (fun cdv A outer s H vs Q E hr h => ?_)
  · obtain ⟨a, v, rfl, _⟩ := h
    rfl
  · obtain ⟨a, v, rfl, ha, q⟩ := h
    refine ⟨_, pss_one (ps_ost (pv 0) (pv 1)), ?_⟩
    exact ⟨_, rfl, _, rfl, a, C, rfl, T.oex, T.no, .inl ⟨ha, q⟩⟩
abbrev s_InvalidTrait___init__ : Stmt := inClass (topS 3) 0
theorem sc_InvalidTrait___init__ : FnScope ["self", "word"] ["self", "word"] (defScope s_InvalidTrait___init__) := ⟨rfl, rfl, rfl, by decide +kernel, rfl, by decide +kernel, by decide +kernel⟩
theorem ok_InvalidTrait {C fI : Addr} {fd : FuncData} (T : ErC K mg "InvalidTrait" "word" C) (iC : PySem.W.findIn K (.ref C) "__init__" = some (some (.ref fI))) (tI : PySem.W.typeIn K (.ref fI) = some (.type "function"))
    (F : Fun K "__init__" "InvalidTrait.__init__" s_InvalidTrait___init__ fI fd) (b : Binds K fd ["self", "word"] []) : ErI P w K mg base "word" C := by
  refine ⟨fI, fd, ["self", "word"], iC, tI, ?_, b⟩
  refine F.ok sc_InvalidTrait___init__ (fun vs H Q E h => ?_) (fun cdv A outer s H vs Q E hr h => ?_)
  · obtain ⟨a, v, rfl, _⟩ := h
    rfl
  · obtain ⟨a, v, rfl, ha, q⟩ := h
    refine ⟨_, pss_one (ps_ost (pv 0) (pv 1)), ?_⟩
    exact ⟨_, rfl, _, rfl, a, C, rfl, T.oex, T.no, .inl ⟨ha, q⟩⟩
abbrev s_InvalidRow___init__ : Stmt := inClass (topS 5) 0
theorem sc_InvalidRow___init__ : FnScope ["self", "word"] ["self", "word"] (defScope s_InvalidRow___init__) := ⟨rfl, rfl, rfl, by decide +kernel, rfl, by decide +kernel, by decide +kernel⟩
theorem ok_InvalidRow {C fI : Addr} {fd : FuncData} (T : ErC K mg "InvalidRow" "word" C) (iC : PySem.W.findIn K (.ref C) "__init__" = some (some (.ref fI))) (tI : PySem.W.typeIn K (.ref fI) = some (.type "function"))
    (F : Fun K "__init__" "InvalidRow.__init__" s_InvalidRow___init__ fI fd) (b : Binds K fd ["self", "word"] []) : ErI P w K mg base "word" C := by
  refine ⟨fI, fd, ["self", "word"], iC, tI, ?_, b⟩
  refine F.ok sc_InvalidRow___init__ (fun vs H Q E h => ?_) (fun cdv A outer s H vs Q E hr h => ?_)
  · obtain ⟨a, v, rfl, _⟩ := h
    rfl
  · obtain ⟨a, v, rfl, ha, q⟩ := h
    refine ⟨_, pss_one (ps_ost (pv 0) (pv 1)), ?_⟩
    exact ⟨_, rfl, _, rfl, a, C, rfl, T.oex, T.no, .inl ⟨ha, q⟩⟩
abbrev s_InvalidText___init__ : Stmt := inClass (topS 6) 0
theorem sc_InvalidText___init__ : FnScope ["self", "at"] ["self", "at"] (defScope s_InvalidText___init__) := ⟨rfl, rfl, rfl, by decide +kernel, rfl, by decide +kernel, by decide +kernel⟩
theorem ok_InvalidText {C fI : Addr} {fd : FuncData} (T : ErC K mg "InvalidText" "at" C) (iC : PySem.W.findIn K (.ref C) "__init__" = some (some (.ref fI))) (tI : PySem.W.typeIn K (.ref fI) = some (.type "function"))
    (F : Fun K "__init__" "InvalidText.__init__" s_InvalidText___init__ fI fd) (b : Binds K fd ["self", "at"] []) : ErI P w K mg base "at" C := by
  refine ⟨fI, fd, ["self", "at"], iC, tI, ?_, b⟩
  refine F.ok sc_InvalidText___init__ (fun vs H Q E h => ?_) (fun cdv A outer s H vs Q E hr h => ?_)
  · obtain ⟨a, v, rfl, _⟩ := h
    rfl
  · obtain ⟨a, v, rfl, ha, q⟩ := h
    refine ⟨_, pss_one (ps_ost (pv 0) (pv 1)), ?_⟩
    exact ⟨_, rfl, _, rfl, a, C, rfl, T.oex, T.no, .inl ⟨ha, q⟩⟩
abbrev s_NoRow___init__ : Stmt := inClass (topS 12) 0
theorem sc_NoRow___init__ : FnScope ["self", "at"] ["self", "at"] (defScope s_NoRow___init__) := ⟨rfl, rfl, rfl, by decide +kernel, rfl, by decide +kernel, by decide +kernel⟩
theorem ok_NoRow {C fI : Addr} {fd : FuncData} (T : ErC K mg "NoRow" "at" C) (iC : PySem.W.findIn K (.ref C) "__init__" = some (some (.ref fI))) (tI : PySem.W.typeIn K (.ref fI) = some (.type "function"))
    (F : Fun K "__init__" "NoRow.__init__" s_NoRow___init__ fI fd) (b : Binds K fd ["self", "at"] []) : ErI P w K mg base "at" C := by
  refine ⟨fI, fd, ["self", "at"], iC, tI, ?_, b⟩
  refine F.ok sc_NoRow___init__ (fun vs H Q E h => ?_) (fun cdv A outer s H vs Q E hr h => ?_)
  · obtain ⟨a, v, rfl, _⟩ := h
    rfl
  · obtain ⟨a, v, rfl, ha, q⟩ := h
    refine ⟨_, pss_one (ps_ost (pv 0) (pv 1)), ?_⟩
    exact ⟨_, rfl, _, rfl, a, C, rfl, T.oex, T.no, .inl ⟨ha, q⟩⟩
abbrev s_InvalidWorld___init__ : Stmt := inClass (topS 7) 0
theorem sc_InvalidWorld___init__ : FnScope ["self", "word"] ["self", "word"] (defScope s_InvalidWorld___init__) := ⟨rfl, rfl, rfl, by decide +kernel, rfl, by decide +kernel, by decide +kernel⟩
theorem ok_InvalidWorld {C fI : Addr} {fd : FuncData} (T : ErC K mg "InvalidWorld" "word" C) (iC : PySem.W.findIn K (.ref C) "__init__" = some (some (.ref fI))) (tI : PySem.W.typeIn K (.ref fI) = some (.type "function"))
    (F : Fun K "__init__" "InvalidWorld.__init__" s_InvalidWorld___init__ fI fd) (b : Binds K fd ["self", "word"] []) : ErI P w K mg base "word" C := by
  refine ⟨fI, fd, ["self", "word"], iC, tI, ?_, b⟩
  refine F.ok sc_InvalidWorld___init__ (fun vs H Q E h => ?_) (fun cdv A outer s H vs Q E hr h => ?_)
  · obtain ⟨a, v, rfl, _⟩ := h
    rfl
  · obtain ⟨a, v, rfl, ha, q⟩ := h
    refine ⟨_, pss_one (ps_ost (pv 0) (pv 1)), ?_⟩
    exact ⟨_, rfl, _, rfl, a, C, rfl, T.oex, T.no, .inl ⟨ha, q⟩⟩
abbrev s_NoStep___init__ : Stmt := inClass (topS 11) 0
theorem sc_NoStep___init__ : FnScope ["self", "name"] ["self", "name"] (defScope s_NoStep___init__) := ⟨rfl, rfl, rfl, by decide +kernel, rfl, by decide +kernel, by decide +kernel⟩
theorem ok_NoStep {C fI : Addr} {fd : FuncData} (T : ErC K mg "NoStep" "name" C) (iC : PySem.W.findIn K (.ref C) "__init__" = some (some (.ref fI))) (tI : PySem.W.typeIn K (.ref fI) = some (.type "function"))
    (F : Fun K "__init__" "NoStep.__init__" s_NoStep___init__ fI fd) (b : Binds K fd ["self", "name"] []) : ErI P w K mg base "name" C := by
  refine ⟨fI, fd, ["self", "name"], iC, tI, ?_, b⟩
  refine F.ok sc_NoStep___init__ (fun vs H Q E h => ?_) (fun cdv A outer s H vs Q E hr h => ?_)
  · obtain ⟨a, v, rfl, _⟩ := h
    rfl
  · obtain ⟨a, v, rfl, ha, q⟩ := h
    refine ⟨_, pss_one (ps_ost (pv 0) (pv 1)), ?_⟩
    exact ⟨_, rfl, _, rfl, a, C, rfl, T.oex, T.no, .inl ⟨ha, q⟩⟩
abbrev s_NoName___init__ : Stmt := inClass (topS 10) 0
theorem sc_NoName___init__ : FnScope ["self", "name"] ["self", "name"] (defScope s_NoName___init__) := ⟨rfl, rfl, rfl, by decide +kernel, rfl, by decide +kernel, by decide +kernel⟩
theorem ok_NoName {C fI : Addr} {fd : FuncData} (T : ErC K mg "NoName" "name" C) (iC : PySem.W.findIn K (.ref C) "__init__" = some (some (.ref fI))) (tI : PySem.W.typeIn K (.ref fI) = some (.type "function"))
    (F : Fun K "__init__" "NoName.__init__" s_NoName___init__ fI fd) (b : Binds K fd ["self", "name"] []) : ErI P w K mg base "name" C := by
  refine ⟨fI, fd, ["self", "name"], iC, tI, ?_, b⟩
  refine F.ok sc_NoName___init__ (fun vs H Q E h => ?_) (fun cdv A outer s H vs Q E hr h => ?_)
  · obtain ⟨a, v, rfl, _⟩ := h
    rfl
  · obtain ⟨a, v, rfl, ha, q⟩ := h
    refine ⟨_, pss_one (ps_ost (pv 0) (pv 1)), ?_⟩
    exact ⟨_, rfl, _, rfl, a, C, rfl, T.oex, T.no, .inl ⟨ha, q⟩⟩
abbrev s_InvalidStart___init__ : Stmt := inClass (topS 8) 0
theorem sc_InvalidStart___init__ : FnScope ["self", "name"] ["self", "name"] (defScope s_InvalidStart___init__) := ⟨rfl, rfl, rfl, by decide +kernel, rfl, by decide +kernel, by decide +kernel⟩
theorem ok_InvalidStart {C fI : Addr} {fd : FuncData} (T : ErC K mg "InvalidStart" "name" C) (iC : PySem.W.findIn K (.ref C) "__init__" = some (some (.ref fI))) (tI : PySem.W.typeIn K (.ref fI) = some (.type "function"))
    (F : Fun K "__init__" "InvalidStart.__init__" s_InvalidStart___init__ fI fd) (b : Binds K fd ["self", "name"] []) : ErI P w K mg base "name" C := by
  refine ⟨fI, fd, ["self", "name"], iC, tI, ?_, b⟩
  refine F.ok sc_InvalidStart___init__ (fun vs H Q E h => ?_) (fun cdv A outer s H vs Q E hr h => ?_)
  · obtain ⟨a, v, rfl, _⟩ := h
    rfl
  · obtain ⟨a, v, rfl, ha, q⟩ := h
    refine ⟨_, pss_one (ps_ost (pv 0) (pv 1)), ?_⟩
    exact ⟨_, rfl, _, rfl, a, C, rfl, T.oex, T.no, .inl ⟨ha, q⟩⟩
abbrev s_InvalidExpr___init__ : Stmt := inClass (topS 4) 0
theorem sc_InvalidExpr___init__ : FnScope ["self", "word"] ["self", "word"] (defScope s_InvalidExpr___init__) := ⟨rfl, rfl, rfl, by decide +kernel, rfl, by decide +kernel, by decide +kernel⟩
theorem ok_InvalidExpr {C fI : Addr} {fd : FuncData} (T : ErC K mg "InvalidExpr" "word" C) (iC : PySem.W.findIn K (.ref C) "__init__" = some (some (.ref fI))) (tI : PySem.W.typeIn K (.ref fI) = some (.type "function"))
    (F : Fun K "__init__" "InvalidExpr.__init__" s_InvalidExpr___init__ fI fd) (b : Binds K fd ["self", "word"] []) : ErI P w K mg base "word" C := by
  refine ⟨fI, fd, ["self", "word"], iC, tI, ?_, b⟩
  refine F.ok sc_InvalidExpr___init__ (fun vs H Q E h => ?_) (fun cdv A outer s H vs Q E hr h => ?_)
  · obtain ⟨a, v, rfl, _⟩ := h
    rfl
  · obtain ⟨a, v, rfl, ha, q⟩ := h
    refine ⟨_, pss_one (ps_ost (pv 0) (pv 1)), ?_⟩
    exact ⟨_, rfl, _, rfl, a, C, rfl, T.oex, T.no, .inl ⟨ha, q⟩⟩
abbrev s_InvalidClaim___init__ : Stmt := inClass (topS 9) 0
theorem sc_InvalidClaim___init__ : FnScope ["self", "word"] ["self", "word"] (defScope s_InvalidClaim___init__) := ⟨rfl, rfl, rfl, by decide +kernel, rfl, by decide +kernel, by decide +kernel⟩
theorem ok_InvalidClaim {C fI : Addr} {fd : FuncData} (T : ErC K mg "InvalidClaim" "word" C) (iC : PySem.W.findIn K (.ref C) "__init__" = some (some (.ref fI))) (tI : PySem.W.typeIn K (.ref fI) = some (.type "function"))
    (F : Fun K "__init__" "InvalidClaim.__init__" s_InvalidClaim___init__ fI fd) (b : Binds K fd ["self", "word"] []) : ErI P w K mg base "word" C := by
  refine ⟨fI, fd, ["self", "word"], iC, tI, ?_, b⟩
  refine F.ok sc_InvalidClaim___init__ (fun vs H Q E h => ?_) (fun cdv A outer s H vs Q E hr h => ?_)
  · obtain ⟨a, v, rfl, _⟩ := h
    rfl
  · obtain ⟨a, v, rfl, ha, q⟩ := h
    refine ⟨_, pss_one (ps_ost (pv 0) (pv 1)), ?_⟩
    exact ⟨_, rfl, _, rfl, a, C, rfl, T.oex, T.no, .inl ⟨ha, q⟩⟩
end
end KW
namespace PL
open PySem PySem.Spec PyProof.Rows L2 KW
abbrev s_all_names : Stmt := topS 21
end PL
namespace KW
open PySem PySem.Spec PyProof.Rows L2 PL
theorem all_mk {l : PySem.W.OpenLaw} {w : World} {K : PySem.W.Frag} {h : Heap} {mg : Str → Option Value} {fa : Addr} (X : K.In h) (G : h.Ns mainGlobals mg) (hfa : mg "law" = some (.ref fa))
    {od_is_name an_is_name : Option Addr} {sl_is_name : Array (Option Value)} {oc_is_name kV_is_name dc_is_name pm_is_name cd_is_name ct_is_name : Value} {f_is_name : Addr}
    {od_are_ways an_are_ways : Option Addr} {sl_are_ways : Array (Option Value)} {oc_are_ways kV_are_ways dc_are_ways pm_are_ways cd_are_ways ct_are_ways : Value} {f_are_ways : Addr}
    {od_ways_fit an_ways_fit : Option Addr} {sl_ways_fit : Array (Option Value)} {oc_ways_fit kV_ways_fit dc_ways_fit pm_ways_fit cd_ways_fit ct_ways_fit : Value} {f_ways_fit : Addr}
    {od_all_steps an_all_steps : Option Addr} {sl_all_steps : Array (Option Value)} {oc_all_steps kV_all_steps dc_all_steps pm_all_steps cd_all_steps ct_all_steps : Value} {f_all_steps : Addr}
    {od_all_names an_all_names : Option Addr} {sl_all_names : Array (Option Value)} {oc_all_names kV_all_names dc_all_names pm_all_names cd_all_names ct_all_names : Value} {f_all_names : Addr}
    {od_text_of an_text_of : Option Addr} {sl_text_of : Array (Option Value)} {oc_text_of kV_text_of dc_text_of pm_text_of cd_text_of ct_text_of : Value} {f_text_of : Addr}
    {od_named an_named : Option Addr} {sl_named : Array (Option Value)} {oc_named kV_named dc_named pm_named cd_named ct_named : Value} {f_named : Addr}
    {od__law_feed an__law_feed : Option Addr} {sl__law_feed : Array (Option Value)} {oc__law_feed kV__law_feed dc__law_feed pm__law_feed cd__law_feed ct__law_feed : Value} {f__law_feed : Addr}
    {od__law_draw an__law_draw : Option Addr} {sl__law_draw : Array (Option Value)} {oc__law_draw kV__law_draw dc__law_draw pm__law_draw cd__law_draw ct__law_draw : Value} {f__law_draw : Addr}
    {od__law_pick an__law_pick : Option Addr} {sl__law_pick : Array (Option Value)} {oc__law_pick kV__law_pick dc__law_pick pm__law_pick cd__law_pick ct__law_pick : Value} {f__law_pick : Addr}
    {od__law_word an__law_word : Option Addr} {sl__law_word : Array (Option Value)} {oc__law_word kV__law_word dc__law_word pm__law_word cd__law_word ct__law_word : Value} {f__law_word : Addr}
    {od__law_same an__law_same : Option Addr} {sl__law_same : Array (Option Value)} {oc__law_same kV__law_same dc__law_same pm__law_same cd__law_same ct__law_same : Value} {f__law_same : Addr}
    {od__law_sign an__law_sign : Option Addr} {sl__law_sign : Array (Option Value)} {oc__law_sign kV__law_sign dc__law_sign pm__law_sign cd__law_sign ct__law_sign : Value} {f__law_sign : Addr}
    {od__law_bent an__law_bent : Option Addr} {sl__law_bent : Array (Option Value)} {oc__law_bent kV__law_bent dc__law_bent pm__law_bent cd__law_bent ct__law_bent : Value} {f__law_bent : Addr}
    {od__law_near_name an__law_near_name : Option Addr} {sl__law_near_name : Array (Option Value)} {oc__law_near_name kV__law_near_name dc__law_near_name pm__law_near_name cd__law_near_name ct__law_near_name : Value} {f__law_near_name : Addr}
    {od__law_any an__law_any : Option Addr} {sl__law_any : Array (Option Value)} {oc__law_any kV__law_any dc__law_any pm__law_any cd__law_any ct__law_any : Value} {f__law_any : Addr}
    {od__law_ways an__law_ways : Option Addr} {sl__law_ways : Array (Option Value)} {oc__law_ways kV__law_ways dc__law_ways pm__law_ways cd__law_ways ct__law_ways : Value} {f__law_ways : Addr}
    {od__law_refused an__law_refused : Option Addr} {sl__law_refused : Array (Option Value)} {oc__law_refused kV__law_refused dc__law_refused pm__law_refused cd__law_refused ct__law_refused : Value} {f__law_refused : Addr}
    {od__law_errors an__law_errors : Option Addr} {sl__law_errors : Array (Option Value)} {oc__law_errors kV__law_errors dc__law_errors pm__law_errors cd__law_errors ct__law_errors : Value} {f__law_errors : Addr}
    {od__law_kept an__law_kept : Option Addr} {sl__law_kept : Array (Option Value)} {oc__law_kept kV__law_kept dc__law_kept pm__law_kept cd__law_kept ct__law_kept : Value} {f__law_kept : Addr}
    {C_Step : Addr}
    {ka_Step : Value} {kb_Step : Option Addr} {cd_Step : ClassData} {ke_Step : Array (Option Value)}
    {od_Step___init__ an_Step___init__ : Option Addr} {sl_Step___init__ : Array (Option Value)} {oc_Step___init__ kV_Step___init__ dc_Step___init__ pm_Step___init__ cd_Step___init__ ct_Step___init__ : Value} {f_Step___init__ : Addr}
    {od_Step___eq__ an_Step___eq__ : Option Addr} {sl_Step___eq__ : Array (Option Value)} {oc_Step___eq__ kV_Step___eq__ dc_Step___eq__ pm_Step___eq__ cd_Step___eq__ ct_Step___eq__ : Value} {f_Step___eq__ : Addr}
    {C_Expr : Addr}
    {ka_Expr : Value} {kb_Expr : Option Addr} {cd_Expr : ClassData} {ke_Expr : Array (Option Value)}
    {od_Expr___init__ an_Expr___init__ : Option Addr} {sl_Expr___init__ : Array (Option Value)} {oc_Expr___init__ kV_Expr___init__ dc_Expr___init__ pm_Expr___init__ cd_Expr___init__ ct_Expr___init__ : Value} {f_Expr___init__ : Addr}
    {od_Expr___eq__ an_Expr___eq__ : Option Addr} {sl_Expr___eq__ : Array (Option Value)} {oc_Expr___eq__ kV_Expr___eq__ dc_Expr___eq__ pm_Expr___eq__ cd_Expr___eq__ ct_Expr___eq__ : Value} {f_Expr___eq__ : Addr}
    {C_Trait : Addr}
    {ka_Trait : Value} {kb_Trait : Option Addr} {cd_Trait : ClassData} {ke_Trait : Array (Option Value)}
    {od_Trait___init__ an_Trait___init__ : Option Addr} {sl_Trait___init__ : Array (Option Value)} {oc_Trait___init__ kV_Trait___init__ dc_Trait___init__ pm_Trait___init__ cd_Trait___init__ ct_Trait___init__ : Value} {f_Trait___init__ : Addr}
    {od_Trait___eq__ an_Trait___eq__ : Option Addr} {sl_Trait___eq__ : Array (Option Value)} {oc_Trait___eq__ kV_Trait___eq__ dc_Trait___eq__ pm_Trait___eq__ cd_Trait___eq__ ct_Trait___eq__ : Value} {f_Trait___eq__ : Addr}
    {od_Trait___str__ an_Trait___str__ : Option Addr} {sl_Trait___str__ : Array (Option Value)} {oc_Trait___str__ kV_Trait___str__ dc_Trait___str__ pm_Trait___str__ cd_Trait___str__ ct_Trait___str__ : Value} {f_Trait___str__ : Addr}
    {C_Chain : Addr}
    {ka_Chain : Value} {kb_Chain : Option Addr} {cd_Chain : ClassData} {ke_Chain : Array (Option Value)}
    {od_Chain___init__ an_Chain___init__ : Option Addr} {sl_Chain___init__ : Array (Option Value)} {oc_Chain___init__ kV_Chain___init__ dc_Chain___init__ pm_Chain___init__ cd_Chain___init__ ct_Chain___init__ : Value} {f_Chain___init__ : Addr}
    {od_Chain___eq__ an_Chain___eq__ : Option Addr} {sl_Chain___eq__ : Array (Option Value)} {oc_Chain___eq__ kV_Chain___eq__ dc_Chain___eq__ pm_Chain___eq__ cd_Chain___eq__ ct_Chain___eq__ : Value} {f_Chain___eq__ : Addr}
    {C_WaysError : Addr}
    {C_InvalidStep : Addr}
    {C_InvalidTrait : Addr}
    {C_InvalidExpr : Addr}
    {C_InvalidRow : Addr}
    {C_InvalidText : Addr}
    {C_InvalidWorld : Addr}
    {C_InvalidStart : Addr}
    {C_InvalidClaim : Addr}
    {C_NoName : Addr}
    {C_NoStep : Addr}
    {C_NoRow : Addr}
    {C_Impossible : Addr}
    {nm_Impossible qn_Impossible : Str} {N_Impossible : Addr} {bs_Impossible : List Value} {sn_Impossible : List Str} {su_Impossible : List Value} {ab_Impossible : Bool} {co_Impossible : Option Bool} {dd_Impossible : Option Addr} {m0_Impossible m1_Impossible m2_Impossible m3_Impossible m5_Impossible : Option Value}
    {nm_WaysError qn_WaysError : Str} {N_WaysError : Addr} {bs_WaysError : List Value} {sn_WaysError : List Str} {su_WaysError : List Value} {ab_WaysError : Bool} {co_WaysError : Option Bool} {dd_WaysError : Option Addr} {m0_WaysError m1_WaysError m2_WaysError m3_WaysError m5_WaysError : Option Value}
    {nm_InvalidStep qn_InvalidStep : Str} {N_InvalidStep : Addr} {bs_InvalidStep : List Value} {sn_InvalidStep : List Str} {su_InvalidStep : List Value} {ab_InvalidStep : Bool} {co_InvalidStep : Option Bool} {dd_InvalidStep : Option Addr} {m0_InvalidStep m1_InvalidStep m2_InvalidStep m3_InvalidStep m5_InvalidStep : Option Value}
    {od_InvalidStep___init__ an_InvalidStep___init__ : Option Addr} {sl_InvalidStep___init__ : Array (Option Value)} {oc_InvalidStep___init__ kV_InvalidStep___init__ dc_InvalidStep___init__ pm_InvalidStep___init__ cd_InvalidStep___init__ ct_InvalidStep___init__ : Value} {f_InvalidStep___init__ : Addr}
    {nm_InvalidTrait qn_InvalidTrait : Str} {N_InvalidTrait : Addr} {bs_InvalidTrait : List Value} {sn_InvalidTrait : List Str} {su_InvalidTrait : List Value} {ab_InvalidTrait : Bool} {co_InvalidTrait : Option Bool} {dd_InvalidTrait : Option Addr} {m0_InvalidTrait m1_InvalidTrait m2_InvalidTrait m3_InvalidTrait m5_InvalidTrait : Option Value}
    {od_InvalidTrait___init__ an_InvalidTrait___init__ : Option Addr} {sl_InvalidTrait___init__ : Array (Option Value)} {oc_InvalidTrait___init__ kV_InvalidTrait___init__ dc_InvalidTrait___init__ pm_InvalidTrait___init__ cd_InvalidTrait___init__ ct_InvalidTrait___init__ : Value} {f_InvalidTrait___init__ : Addr}
    {nm_InvalidExpr qn_InvalidExpr : Str} {N_InvalidExpr : Addr} {bs_InvalidExpr : List Value} {sn_InvalidExpr : List Str} {su_InvalidExpr : List Value} {ab_InvalidExpr : Bool} {co_InvalidExpr : Option Bool} {dd_InvalidExpr : Option Addr} {m0_InvalidExpr m1_InvalidExpr m2_InvalidExpr m3_InvalidExpr m5_InvalidExpr : Option Value}
    {od_InvalidExpr___init__ an_InvalidExpr___init__ : Option Addr} {sl_InvalidExpr___init__ : Array (Option Value)} {oc_InvalidExpr___init__ kV_InvalidExpr___init__ dc_InvalidExpr___init__ pm_InvalidExpr___init__ cd_InvalidExpr___init__ ct_InvalidExpr___init__ : Value} {f_InvalidExpr___init__ : Addr}
    {nm_InvalidRow qn_InvalidRow : Str} {N_InvalidRow : Addr} {bs_InvalidRow : List Value} {sn_InvalidRow : List Str} {su_InvalidRow : List Value} {ab_InvalidRow : Bool} {co_InvalidRow : Option Bool} {dd_InvalidRow : Option Addr} {m0_InvalidRow m1_InvalidRow m2_InvalidRow m3_InvalidRow m5_InvalidRow : Option Value}
    {od_InvalidRow___init__ an_InvalidRow___init__ : Option Addr} {sl_InvalidRow___init__ : Array (Option Value)} {oc_InvalidRow___init__ kV_InvalidRow___init__ dc_InvalidRow___init__ pm_InvalidRow___init__ cd_InvalidRow___init__ ct_InvalidRow___init__ : Value} {f_InvalidRow___init__ : Addr}
    {nm_InvalidText qn_InvalidText : Str} {N_InvalidText : Addr} {bs_InvalidText : List Value} {sn_InvalidText : List Str} {su_InvalidText : List Value} {ab_InvalidText : Bool} {co_InvalidText : Option Bool} {dd_InvalidText : Option Addr} {m0_InvalidText m1_InvalidText m2_InvalidText m3_InvalidText m5_InvalidText : Option Value}
    {od_InvalidText___init__ an_InvalidText___init__ : Option Addr} {sl_InvalidText___init__ : Array (Option Value)} {oc_InvalidText___init__ kV_InvalidText___init__ dc_InvalidText___init__ pm_InvalidText___init__ cd_InvalidText___init__ ct_InvalidText___init__ : Value} {f_InvalidText___init__ : Addr}
    {nm_InvalidWorld qn_InvalidWorld : Str} {N_InvalidWorld : Addr} {bs_InvalidWorld : List Value} {sn_InvalidWorld : List Str} {su_InvalidWorld : List Value} {ab_InvalidWorld : Bool} {co_InvalidWorld : Option Bool} {dd_InvalidWorld : Option Addr} {m0_InvalidWorld m1_InvalidWorld m2_InvalidWorld m3_InvalidWorld m5_InvalidWorld : Option Value}
    {od_InvalidWorld___init__ an_InvalidWorld___init__ : Option Addr} {sl_InvalidWorld___init__ : Array (Option Value)} {oc_InvalidWorld___init__ kV_InvalidWorld___init__ dc_InvalidWorld___init__ pm_InvalidWorld___init__ cd_InvalidWorld___init__ ct_InvalidWorld___init__ : Value} {f_InvalidWorld___init__ : Addr}
    {nm_InvalidStart qn_InvalidStart : Str} {N_InvalidStart : Addr} {bs_InvalidStart : List Value} {sn_InvalidStart : List Str} {su_InvalidStart : List Value} {ab_InvalidStart : Bool} {co_InvalidStart : Option Bool} {dd_InvalidStart : Option Addr} {m0_InvalidStart m1_InvalidStart m2_InvalidStart m3_InvalidStart m5_InvalidStart : Option Value}
    {od_InvalidStart___init__ an_InvalidStart___init__ : Option Addr} {sl_InvalidStart___init__ : Array (Option Value)} {oc_InvalidStart___init__ kV_InvalidStart___init__ dc_InvalidStart___init__ pm_InvalidStart___init__ cd_InvalidStart___init__ ct_InvalidStart___init__ : Value} {f_InvalidStart___init__ : Addr}
    {nm_InvalidClaim qn_InvalidClaim : Str} {N_InvalidClaim : Addr} {bs_InvalidClaim : List Value} {sn_InvalidClaim : List Str} {su_InvalidClaim : List Value} {ab_InvalidClaim : Bool} {co_InvalidClaim : Option Bool} {dd_InvalidClaim : Option Addr} {m0_InvalidClaim m1_InvalidClaim m2_InvalidClaim m3_InvalidClaim m5_InvalidClaim : Option Value}
    {od_InvalidClaim___init__ an_InvalidClaim___init__ : Option Addr} {sl_InvalidClaim___init__ : Array (Option Value)} {oc_InvalidClaim___init__ kV_InvalidClaim___init__ dc_InvalidClaim___init__ pm_InvalidClaim___init__ cd_InvalidClaim___init__ ct_InvalidClaim___init__ : Value} {f_InvalidClaim___init__ : Addr}
    {nm_NoName qn_NoName : Str} {N_NoName : Addr} {bs_NoName : List Value} {sn_NoName : List Str} {su_NoName : List Value} {ab_NoName : Bool} {co_NoName : Option Bool} {dd_NoName : Option Addr} {m0_NoName m1_NoName m2_NoName m3_NoName m5_NoName : Option Value}
    {od_NoName___init__ an_NoName___init__ : Option Addr} {sl_NoName___init__ : Array (Option Value)} {oc_NoName___init__ kV_NoName___init__ dc_NoName___init__ pm_NoName___init__ cd_NoName___init__ ct_NoName___init__ : Value} {f_NoName___init__ : Addr}
    {nm_NoStep qn_NoStep : Str} {N_NoStep : Addr} {bs_NoStep : List Value} {sn_NoStep : List Str} {su_NoStep : List Value} {ab_NoStep : Bool} {co_NoStep : Option Bool} {dd_NoStep : Option Addr} {m0_NoStep m1_NoStep m2_NoStep m3_NoStep m5_NoStep : Option Value}
    {od_NoStep___init__ an_NoStep___init__ : Option Addr} {sl_NoStep___init__ : Array (Option Value)} {oc_NoStep___init__ kV_NoStep___init__ dc_NoStep___init__ pm_NoStep___init__ cd_NoStep___init__ ct_NoStep___init__ : Value} {f_NoStep___init__ : Addr}
    {nm_NoRow qn_NoRow : Str} {N_NoRow : Addr} {bs_NoRow : List Value} {sn_NoRow : List Str} {su_NoRow : List Value} {ab_NoRow : Bool} {co_NoRow : Option Bool} {dd_NoRow : Option Addr} {m0_NoRow m1_NoRow m2_NoRow m3_NoRow m5_NoRow : Option Value}
    {od_NoRow___init__ an_NoRow___init__ : Option Addr} {sl_NoRow___init__ : Array (Option Value)} {oc_NoRow___init__ kV_NoRow___init__ dc_NoRow___init__ pm_NoRow___init__ cd_NoRow___init__ ct_NoRow___init__ : Value} {f_NoRow___init__ : Addr}
    {t_LETTERS t_WAYS t_kw1 t_kw2 t_kw3 : Tok} {a_KW : Addr} {dd_KW : Option Addr} {nn_KW : Nat} {sl_KW : Array (Option Value)}
    {d_CO : Addr} {es_CO : Array DictEntry} {n_CO : Nat}
    {od_law an_law : Option Addr} {sl_law : Array (Option Value)} {oc_law kV_law dc_law pm_law cd_law ct_law : Value} {f_law : Addr}
    (a_is_name : PySem.W.nsIn K mainGlobals "is_name" = some (some (.ref f_is_name)))
    (l_is_name : K.lookup f_is_name = some ⟨oc_is_name, od_is_name, .func (PySem.W.fnOf "is_name" "is_name" (defArgs s_is_name) (defBody s_is_name) (defScope s_is_name) .none kV_is_name dc_is_name pm_is_name an_is_name cd_is_name ct_is_name), sl_is_name⟩)
    (c_is_name : PySem.W.codeIn K cd_is_name "is_name" = true)
    (k_is_name : PySem.W.keepIn K (.ref f_is_name) = true)
    (a_are_ways : PySem.W.nsIn K mainGlobals "are_ways" = some (some (.ref f_are_ways)))
    (l_are_ways : K.lookup f_are_ways = some ⟨oc_are_ways, od_are_ways, .func (PySem.W.fnOf "are_ways" "are_ways" (defArgs s_are_ways) (defBody s_are_ways) (defScope s_are_ways) .none kV_are_ways dc_are_ways pm_are_ways an_are_ways cd_are_ways ct_are_ways), sl_are_ways⟩)
    (c_are_ways : PySem.W.codeIn K cd_are_ways "are_ways" = true)
    (k_are_ways : PySem.W.keepIn K (.ref f_are_ways) = true)
    (a_ways_fit : PySem.W.nsIn K mainGlobals "ways_fit" = some (some (.ref f_ways_fit)))
    (l_ways_fit : K.lookup f_ways_fit = some ⟨oc_ways_fit, od_ways_fit, .func (PySem.W.fnOf "ways_fit" "ways_fit" (defArgs s_ways_fit) (defBody s_ways_fit) (defScope s_ways_fit) .none kV_ways_fit dc_ways_fit pm_ways_fit an_ways_fit cd_ways_fit ct_ways_fit), sl_ways_fit⟩)
    (c_ways_fit : PySem.W.codeIn K cd_ways_fit "ways_fit" = true)
    (k_ways_fit : PySem.W.keepIn K (.ref f_ways_fit) = true)
    (a_all_steps : PySem.W.nsIn K mainGlobals "all_steps" = some (some (.ref f_all_steps)))
    (l_all_steps : K.lookup f_all_steps = some ⟨oc_all_steps, od_all_steps, .func (PySem.W.fnOf "all_steps" "all_steps" (defArgs s_all_steps) (defBody s_all_steps) (defScope s_all_steps) .none kV_all_steps dc_all_steps pm_all_steps an_all_steps cd_all_steps ct_all_steps), sl_all_steps⟩)
    (c_all_steps : PySem.W.codeIn K cd_all_steps "all_steps" = true)
    (k_all_steps : PySem.W.keepIn K (.ref f_all_steps) = true)
    (a_all_names : PySem.W.nsIn K mainGlobals "all_names" = some (some (.ref f_all_names)))
    (l_all_names : K.lookup f_all_names = some ⟨oc_all_names, od_all_names, .func (PySem.W.fnOf "all_names" "all_names" (defArgs s_all_names) (defBody s_all_names) (defScope s_all_names) .none kV_all_names dc_all_names pm_all_names an_all_names cd_all_names ct_all_names), sl_all_names⟩)
    (c_all_names : PySem.W.codeIn K cd_all_names "all_names" = true)
    (k_all_names : PySem.W.keepIn K (.ref f_all_names) = true)
    (a_text_of : PySem.W.nsIn K mainGlobals "text_of" = some (some (.ref f_text_of)))
    (l_text_of : K.lookup f_text_of = some ⟨oc_text_of, od_text_of, .func (PySem.W.fnOf "text_of" "text_of" (defArgs s_text_of) (defBody s_text_of) (defScope s_text_of) .none kV_text_of dc_text_of pm_text_of an_text_of cd_text_of ct_text_of), sl_text_of⟩)
    (c_text_of : PySem.W.codeIn K cd_text_of "text_of" = true)
    (k_text_of : PySem.W.keepIn K (.ref f_text_of) = true)
    (a_named : PySem.W.nsIn K mainGlobals "named" = some (some (.ref f_named)))
    (l_named : K.lookup f_named = some ⟨oc_named, od_named, .func (PySem.W.fnOf "named" "named" (defArgs s_named) (defBody s_named) (defScope s_named) .none kV_named dc_named pm_named an_named cd_named ct_named), sl_named⟩)
    (c_named : PySem.W.codeIn K cd_named "named" = true)
    (k_named : PySem.W.keepIn K (.ref f_named) = true)
    (a__law_feed : PySem.W.nsIn K mainGlobals "_law_feed" = some (some (.ref f__law_feed)))
    (l__law_feed : K.lookup f__law_feed = some ⟨oc__law_feed, od__law_feed, .func (PySem.W.fnOf "_law_feed" "_law_feed" (defArgs s__law_feed) (defBody s__law_feed) (defScope s__law_feed) .none kV__law_feed dc__law_feed pm__law_feed an__law_feed cd__law_feed ct__law_feed), sl__law_feed⟩)
    (c__law_feed : PySem.W.codeIn K cd__law_feed "_law_feed" = true)
    (k__law_feed : PySem.W.keepIn K (.ref f__law_feed) = true)
    (a__law_draw : PySem.W.nsIn K mainGlobals "_law_draw" = some (some (.ref f__law_draw)))
    (l__law_draw : K.lookup f__law_draw = some ⟨oc__law_draw, od__law_draw, .func (PySem.W.fnOf "_law_draw" "_law_draw" (defArgs s__law_draw) (defBody s__law_draw) (defScope s__law_draw) .none kV__law_draw dc__law_draw pm__law_draw an__law_draw cd__law_draw ct__law_draw), sl__law_draw⟩)
    (c__law_draw : PySem.W.codeIn K cd__law_draw "_law_draw" = true)
    (k__law_draw : PySem.W.keepIn K (.ref f__law_draw) = true)
    (a__law_pick : PySem.W.nsIn K mainGlobals "_law_pick" = some (some (.ref f__law_pick)))
    (l__law_pick : K.lookup f__law_pick = some ⟨oc__law_pick, od__law_pick, .func (PySem.W.fnOf "_law_pick" "_law_pick" (defArgs s__law_pick) (defBody s__law_pick) (defScope s__law_pick) .none kV__law_pick dc__law_pick pm__law_pick an__law_pick cd__law_pick ct__law_pick), sl__law_pick⟩)
    (c__law_pick : PySem.W.codeIn K cd__law_pick "_law_pick" = true)
    (k__law_pick : PySem.W.keepIn K (.ref f__law_pick) = true)
    (a__law_word : PySem.W.nsIn K mainGlobals "_law_word" = some (some (.ref f__law_word)))
    (l__law_word : K.lookup f__law_word = some ⟨oc__law_word, od__law_word, .func (PySem.W.fnOf "_law_word" "_law_word" (defArgs s__law_word) (defBody s__law_word) (defScope s__law_word) .none kV__law_word dc__law_word pm__law_word an__law_word cd__law_word ct__law_word), sl__law_word⟩)
    (c__law_word : PySem.W.codeIn K cd__law_word "_law_word" = true)
    (k__law_word : PySem.W.keepIn K (.ref f__law_word) = true)
    (a__law_same : PySem.W.nsIn K mainGlobals "_law_same" = some (some (.ref f__law_same)))
    (l__law_same : K.lookup f__law_same = some ⟨oc__law_same, od__law_same, .func (PySem.W.fnOf "_law_same" "_law_same" (defArgs s__law_same) (defBody s__law_same) (defScope s__law_same) .none kV__law_same dc__law_same pm__law_same an__law_same cd__law_same ct__law_same), sl__law_same⟩)
    (c__law_same : PySem.W.codeIn K cd__law_same "_law_same" = true)
    (k__law_same : PySem.W.keepIn K (.ref f__law_same) = true)
    (a__law_sign : PySem.W.nsIn K mainGlobals "_law_sign" = some (some (.ref f__law_sign)))
    (l__law_sign : K.lookup f__law_sign = some ⟨oc__law_sign, od__law_sign, .func (PySem.W.fnOf "_law_sign" "_law_sign" (defArgs s__law_sign) (defBody s__law_sign) (defScope s__law_sign) .none kV__law_sign dc__law_sign pm__law_sign an__law_sign cd__law_sign ct__law_sign), sl__law_sign⟩)
    (c__law_sign : PySem.W.codeIn K cd__law_sign "_law_sign" = true)
    (k__law_sign : PySem.W.keepIn K (.ref f__law_sign) = true)
    (a__law_bent : PySem.W.nsIn K mainGlobals "_law_bent" = some (some (.ref f__law_bent)))
    (l__law_bent : K.lookup f__law_bent = some ⟨oc__law_bent, od__law_bent, .func (PySem.W.fnOf "_law_bent" "_law_bent" (defArgs s__law_bent) (defBody s__law_bent) (defScope s__law_bent) .none kV__law_bent dc__law_bent pm__law_bent an__law_bent cd__law_bent ct__law_bent), sl__law_bent⟩)
    (c__law_bent : PySem.W.codeIn K cd__law_bent "_law_bent" = true)
    (k__law_bent : PySem.W.keepIn K (.ref f__law_bent) = true)
    (a__law_near_name : PySem.W.nsIn K mainGlobals "_law_near_name" = some (some (.ref f__law_near_name)))
    (l__law_near_name : K.lookup f__law_near_name = some ⟨oc__law_near_name, od__law_near_name, .func (PySem.W.fnOf "_law_near_name" "_law_near_name" (defArgs s__law_near_name) (defBody s__law_near_name) (defScope s__law_near_name) .none kV__law_near_name dc__law_near_name pm__law_near_name an__law_near_name cd__law_near_name ct__law_near_name), sl__law_near_name⟩)
    (c__law_near_name : PySem.W.codeIn K cd__law_near_name "_law_near_name" = true)
    (k__law_near_name : PySem.W.keepIn K (.ref f__law_near_name) = true)
    (a__law_any : PySem.W.nsIn K mainGlobals "_law_any" = some (some (.ref f__law_any)))
    (l__law_any : K.lookup f__law_any = some ⟨oc__law_any, od__law_any, .func (PySem.W.fnOf "_law_any" "_law_any" (defArgs s__law_any) (defBody s__law_any) (defScope s__law_any) .none kV__law_any dc__law_any pm__law_any an__law_any cd__law_any ct__law_any), sl__law_any⟩)
    (c__law_any : PySem.W.codeIn K cd__law_any "_law_any" = true)
    (k__law_any : PySem.W.keepIn K (.ref f__law_any) = true)
    (a__law_ways : PySem.W.nsIn K mainGlobals "_law_ways" = some (some (.ref f__law_ways)))
    (l__law_ways : K.lookup f__law_ways = some ⟨oc__law_ways, od__law_ways, .func (PySem.W.fnOf "_law_ways" "_law_ways" (defArgs s__law_ways) (defBody s__law_ways) (defScope s__law_ways) .none kV__law_ways dc__law_ways pm__law_ways an__law_ways cd__law_ways ct__law_ways), sl__law_ways⟩)
    (c__law_ways : PySem.W.codeIn K cd__law_ways "_law_ways" = true)
    (k__law_ways : PySem.W.keepIn K (.ref f__law_ways) = true)
    (a__law_refused : PySem.W.nsIn K mainGlobals "_law_refused" = some (some (.ref f__law_refused)))
    (l__law_refused : K.lookup f__law_refused = some ⟨oc__law_refused, od__law_refused, .func (PySem.W.fnOf "_law_refused" "_law_refused" (defArgs s__law_refused) (defBody s__law_refused) (defScope s__law_refused) .none kV__law_refused dc__law_refused pm__law_refused an__law_refused cd__law_refused ct__law_refused), sl__law_refused⟩)
    (c__law_refused : PySem.W.codeIn K cd__law_refused "_law_refused" = true)
    (k__law_refused : PySem.W.keepIn K (.ref f__law_refused) = true)
    (a__law_errors : PySem.W.nsIn K mainGlobals "_law_errors" = some (some (.ref f__law_errors)))
    (l__law_errors : K.lookup f__law_errors = some ⟨oc__law_errors, od__law_errors, .func (PySem.W.fnOf "_law_errors" "_law_errors" (defArgs s__law_errors) (defBody s__law_errors) (defScope s__law_errors) .none kV__law_errors dc__law_errors pm__law_errors an__law_errors cd__law_errors ct__law_errors), sl__law_errors⟩)
    (c__law_errors : PySem.W.codeIn K cd__law_errors "_law_errors" = true)
    (k__law_errors : PySem.W.keepIn K (.ref f__law_errors) = true)
    (a__law_kept : PySem.W.nsIn K mainGlobals "_law_kept" = some (some (.ref f__law_kept)))
    (l__law_kept : K.lookup f__law_kept = some ⟨oc__law_kept, od__law_kept, .func (PySem.W.fnOf "_law_kept" "_law_kept" (defArgs s__law_kept) (defBody s__law_kept) (defScope s__law_kept) .none kV__law_kept dc__law_kept pm__law_kept an__law_kept cd__law_kept ct__law_kept), sl__law_kept⟩)
    (c__law_kept : PySem.W.codeIn K cd__law_kept "_law_kept" = true)
    (k__law_kept : PySem.W.keepIn K (.ref f__law_kept) = true)
    (a_Step : PySem.W.nsIn K mainGlobals "Step" = some (some (.ref C_Step)))
    (pg_Step : PySem.W.plainGet K C_Step Str.empty = true) (hd_Step : PySem.W.hasDictIn K C_Step = true) (po_Step : PySem.W.plainOver K C_Step = true) (sa_Step : PySem.W.findIn K (.ref C_Step) "__setattr__" = some (some (.builtin "object.__setattr__"))) (mk_Step : PySem.W.makesIn K C_Step = true) (kc_Step : PySem.W.keepIn K (.ref C_Step) = true)
    (ca_Step : PySem.W.findIn K (.ref C_Step) "__class__" = some (some (.builtin "object.__class__"))) (lk_Step : K.lookup C_Step = some ⟨ka_Step, kb_Step, .cls cd_Step, ke_Step⟩) (mq_Step : cd_Step.mro = [.ref C_Step, .type "object"]) (tt_Step : PySem.W.typeIn K (.ref C_Step) = some (.type "type"))
    (ne_Step : PySem.W.findIn K (.ref C_Step) "__ne__" = some (some (.builtin "object.__ne__")))
    (n_Step_name : PySem.W.findIn K (.ref C_Step) "name" = some none)
    (n_Step_ways : PySem.W.findIn K (.ref C_Step) "ways" = some none)
    (a_Step___init__ : PySem.W.findIn K (.ref C_Step) "__init__" = some (some (.ref f_Step___init__)))
    (i_Step___init__ : PySem.W.isFn K (.ref f_Step___init__) = true)
    (l_Step___init__ : K.lookup f_Step___init__ = some ⟨oc_Step___init__, od_Step___init__, .func (PySem.W.fnOf "__init__" "Step.__init__" (defArgs s_Step___init__) (defBody s_Step___init__) (defScope s_Step___init__) .none kV_Step___init__ dc_Step___init__ pm_Step___init__ an_Step___init__ cd_Step___init__ ct_Step___init__), sl_Step___init__⟩)
    (c_Step___init__ : PySem.W.codeIn K cd_Step___init__ "Step.__init__" = true)
    (k_Step___init__ : PySem.W.keepIn K (.ref f_Step___init__) = true)
    (a_Step___eq__ : PySem.W.findIn K (.ref C_Step) "__eq__" = some (some (.ref f_Step___eq__)))
    (i_Step___eq__ : PySem.W.isFn K (.ref f_Step___eq__) = true)
    (l_Step___eq__ : K.lookup f_Step___eq__ = some ⟨oc_Step___eq__, od_Step___eq__, .func (PySem.W.fnOf "__eq__" "Step.__eq__" (defArgs s_Step___eq__) (defBody s_Step___eq__) (defScope s_Step___eq__) .none kV_Step___eq__ dc_Step___eq__ pm_Step___eq__ an_Step___eq__ cd_Step___eq__ ct_Step___eq__), sl_Step___eq__⟩)
    (c_Step___eq__ : PySem.W.codeIn K cd_Step___eq__ "Step.__eq__" = true)
    (k_Step___eq__ : PySem.W.keepIn K (.ref f_Step___eq__) = true)
    (a_Expr : PySem.W.nsIn K mainGlobals "Expr" = some (some (.ref C_Expr)))
    (pg_Expr : PySem.W.plainGet K C_Expr Str.empty = true) (hd_Expr : PySem.W.hasDictIn K C_Expr = true) (po_Expr : PySem.W.plainOver K C_Expr = true) (sa_Expr : PySem.W.findIn K (.ref C_Expr) "__setattr__" = some (some (.builtin "object.__setattr__"))) (mk_Expr : PySem.W.makesIn K C_Expr = true) (kc_Expr : PySem.W.keepIn K (.ref C_Expr) = true)
    (ca_Expr : PySem.W.findIn K (.ref C_Expr) "__class__" = some (some (.builtin "object.__class__"))) (lk_Expr : K.lookup C_Expr = some ⟨ka_Expr, kb_Expr, .cls cd_Expr, ke_Expr⟩) (mq_Expr : cd_Expr.mro = [.ref C_Expr, .type "object"]) (tt_Expr : PySem.W.typeIn K (.ref C_Expr) = some (.type "type"))
    (ne_Expr : PySem.W.findIn K (.ref C_Expr) "__ne__" = some (some (.builtin "object.__ne__")))
    (n_Expr_kind : PySem.W.findIn K (.ref C_Expr) "kind" = some none)
    (n_Expr_word : PySem.W.findIn K (.ref C_Expr) "word" = some none)
    (n_Expr_step : PySem.W.findIn K (.ref C_Expr) "step" = some none)
    (n_Expr_parts : PySem.W.findIn K (.ref C_Expr) "parts" = some none)
    (n_Expr_names : PySem.W.findIn K (.ref C_Expr) "names" = some none)
    (n_Expr_steps : PySem.W.findIn K (.ref C_Expr) "steps" = some none)
    (n_Expr_marks : PySem.W.findIn K (.ref C_Expr) "marks" = some none)
    (n_Expr_text : PySem.W.findIn K (.ref C_Expr) "text" = some none)
    (a_Expr___init__ : PySem.W.findIn K (.ref C_Expr) "__init__" = some (some (.ref f_Expr___init__)))
    (i_Expr___init__ : PySem.W.isFn K (.ref f_Expr___init__) = true)
    (l_Expr___init__ : K.lookup f_Expr___init__ = some ⟨oc_Expr___init__, od_Expr___init__, .func (PySem.W.fnOf "__init__" "Expr.__init__" (defArgs s_Expr___init__) (defBody s_Expr___init__) (defScope s_Expr___init__) .none kV_Expr___init__ dc_Expr___init__ pm_Expr___init__ an_Expr___init__ cd_Expr___init__ ct_Expr___init__), sl_Expr___init__⟩)
    (c_Expr___init__ : PySem.W.codeIn K cd_Expr___init__ "Expr.__init__" = true)
    (k_Expr___init__ : PySem.W.keepIn K (.ref f_Expr___init__) = true)
    (a_Expr___eq__ : PySem.W.findIn K (.ref C_Expr) "__eq__" = some (some (.ref f_Expr___eq__)))
    (i_Expr___eq__ : PySem.W.isFn K (.ref f_Expr___eq__) = true)
    (l_Expr___eq__ : K.lookup f_Expr___eq__ = some ⟨oc_Expr___eq__, od_Expr___eq__, .func (PySem.W.fnOf "__eq__" "Expr.__eq__" (defArgs s_Expr___eq__) (defBody s_Expr___eq__) (defScope s_Expr___eq__) .none kV_Expr___eq__ dc_Expr___eq__ pm_Expr___eq__ an_Expr___eq__ cd_Expr___eq__ ct_Expr___eq__), sl_Expr___eq__⟩)
    (c_Expr___eq__ : PySem.W.codeIn K cd_Expr___eq__ "Expr.__eq__" = true)
    (k_Expr___eq__ : PySem.W.keepIn K (.ref f_Expr___eq__) = true)
    (a_Trait : PySem.W.nsIn K mainGlobals "Trait" = some (some (.ref C_Trait)))
    (pg_Trait : PySem.W.plainGet K C_Trait Str.empty = true) (hd_Trait : PySem.W.hasDictIn K C_Trait = true) (po_Trait : PySem.W.plainOver K C_Trait = true) (sa_Trait : PySem.W.findIn K (.ref C_Trait) "__setattr__" = some (some (.builtin "object.__setattr__"))) (mk_Trait : PySem.W.makesIn K C_Trait = true) (kc_Trait : PySem.W.keepIn K (.ref C_Trait) = true)
    (ca_Trait : PySem.W.findIn K (.ref C_Trait) "__class__" = some (some (.builtin "object.__class__"))) (lk_Trait : K.lookup C_Trait = some ⟨ka_Trait, kb_Trait, .cls cd_Trait, ke_Trait⟩) (mq_Trait : cd_Trait.mro = [.ref C_Trait, .type "object"]) (tt_Trait : PySem.W.typeIn K (.ref C_Trait) = some (.type "type"))
    (ne_Trait : PySem.W.findIn K (.ref C_Trait) "__ne__" = some (some (.builtin "object.__ne__")))
    (n_Trait_word : PySem.W.findIn K (.ref C_Trait) "word" = some none)
    (n_Trait_steps : PySem.W.findIn K (.ref C_Trait) "steps" = some none)
    (a_Trait___init__ : PySem.W.findIn K (.ref C_Trait) "__init__" = some (some (.ref f_Trait___init__)))
    (i_Trait___init__ : PySem.W.isFn K (.ref f_Trait___init__) = true)
    (l_Trait___init__ : K.lookup f_Trait___init__ = some ⟨oc_Trait___init__, od_Trait___init__, .func (PySem.W.fnOf "__init__" "Trait.__init__" (defArgs s_Trait___init__) (defBody s_Trait___init__) (defScope s_Trait___init__) .none kV_Trait___init__ dc_Trait___init__ pm_Trait___init__ an_Trait___init__ cd_Trait___init__ ct_Trait___init__), sl_Trait___init__⟩)
    (c_Trait___init__ : PySem.W.codeIn K cd_Trait___init__ "Trait.__init__" = true)
    (k_Trait___init__ : PySem.W.keepIn K (.ref f_Trait___init__) = true)
    (a_Trait___eq__ : PySem.W.findIn K (.ref C_Trait) "__eq__" = some (some (.ref f_Trait___eq__)))
    (i_Trait___eq__ : PySem.W.isFn K (.ref f_Trait___eq__) = true)
    (l_Trait___eq__ : K.lookup f_Trait___eq__ = some ⟨oc_Trait___eq__, od_Trait___eq__, .func (PySem.W.fnOf "__eq__" "Trait.__eq__" (defArgs s_Trait___eq__) (defBody s_Trait___eq__) (defScope s_Trait___eq__) .none kV_Trait___eq__ dc_Trait___eq__ pm_Trait___eq__ an_Trait___eq__ cd_Trait___eq__ ct_Trait___eq__), sl_Trait___eq__⟩)
    (c_Trait___eq__ : PySem.W.codeIn K cd_Trait___eq__ "Trait.__eq__" = true)
    (k_Trait___eq__ : PySem.W.keepIn K (.ref f_Trait___eq__) = true)
    (a_Trait___str__ : PySem.W.findIn K (.ref C_Trait) "__str__" = some (some (.ref f_Trait___str__)))
    (i_Trait___str__ : PySem.W.isFn K (.ref f_Trait___str__) = true)
    (l_Trait___str__ : K.lookup f_Trait___str__ = some ⟨oc_Trait___str__, od_Trait___str__, .func (PySem.W.fnOf "__str__" "Trait.__str__" (defArgs s_Trait___str__) (defBody s_Trait___str__) (defScope s_Trait___str__) .none kV_Trait___str__ dc_Trait___str__ pm_Trait___str__ an_Trait___str__ cd_Trait___str__ ct_Trait___str__), sl_Trait___str__⟩)
    (c_Trait___str__ : PySem.W.codeIn K cd_Trait___str__ "Trait.__str__" = true)
    (k_Trait___str__ : PySem.W.keepIn K (.ref f_Trait___str__) = true)
    (a_Chain : PySem.W.nsIn K mainGlobals "Chain" = some (some (.ref C_Chain)))
    (pg_Chain : PySem.W.plainGet K C_Chain Str.empty = true) (hd_Chain : PySem.W.hasDictIn K C_Chain = true) (po_Chain : PySem.W.plainOver K C_Chain = true) (sa_Chain : PySem.W.findIn K (.ref C_Chain) "__setattr__" = some (some (.builtin "object.__setattr__"))) (mk_Chain : PySem.W.makesIn K C_Chain = true) (kc_Chain : PySem.W.keepIn K (.ref C_Chain) = true)
    (ca_Chain : PySem.W.findIn K (.ref C_Chain) "__class__" = some (some (.builtin "object.__class__"))) (lk_Chain : K.lookup C_Chain = some ⟨ka_Chain, kb_Chain, .cls cd_Chain, ke_Chain⟩) (mq_Chain : cd_Chain.mro = [.ref C_Chain, .type "object"]) (tt_Chain : PySem.W.typeIn K (.ref C_Chain) = some (.type "type"))
    (ne_Chain : PySem.W.findIn K (.ref C_Chain) "__ne__" = some (some (.builtin "object.__ne__")))
    (n_Chain_steps : PySem.W.findIn K (.ref C_Chain) "steps" = some none)
    (a_Chain___init__ : PySem.W.findIn K (.ref C_Chain) "__init__" = some (some (.ref f_Chain___init__)))
    (i_Chain___init__ : PySem.W.isFn K (.ref f_Chain___init__) = true)
    (l_Chain___init__ : K.lookup f_Chain___init__ = some ⟨oc_Chain___init__, od_Chain___init__, .func (PySem.W.fnOf "__init__" "Chain.__init__" (defArgs s_Chain___init__) (defBody s_Chain___init__) (defScope s_Chain___init__) .none kV_Chain___init__ dc_Chain___init__ pm_Chain___init__ an_Chain___init__ cd_Chain___init__ ct_Chain___init__), sl_Chain___init__⟩)
    (c_Chain___init__ : PySem.W.codeIn K cd_Chain___init__ "Chain.__init__" = true)
    (k_Chain___init__ : PySem.W.keepIn K (.ref f_Chain___init__) = true)
    (a_Chain___eq__ : PySem.W.findIn K (.ref C_Chain) "__eq__" = some (some (.ref f_Chain___eq__)))
    (i_Chain___eq__ : PySem.W.isFn K (.ref f_Chain___eq__) = true)
    (l_Chain___eq__ : K.lookup f_Chain___eq__ = some ⟨oc_Chain___eq__, od_Chain___eq__, .func (PySem.W.fnOf "__eq__" "Chain.__eq__" (defArgs s_Chain___eq__) (defBody s_Chain___eq__) (defScope s_Chain___eq__) .none kV_Chain___eq__ dc_Chain___eq__ pm_Chain___eq__ an_Chain___eq__ cd_Chain___eq__ ct_Chain___eq__), sl_Chain___eq__⟩)
    (c_Chain___eq__ : PySem.W.codeIn K cd_Chain___eq__ "Chain.__eq__" = true)
    (k_Chain___eq__ : PySem.W.keepIn K (.ref f_Chain___eq__) = true)
    (dj : [C_Step, C_Expr, C_Trait, C_Chain].Nodup)
    (a_WaysError : PySem.W.nsIn K mainGlobals "WaysError" = some (some (.ref C_WaysError))) (ic_WaysError : PySem.W.isClsIn K C_WaysError = true) (ty_WaysError : PySem.W.typeIn K (.ref C_WaysError) = some (.type "type"))
    (a_InvalidStep : PySem.W.nsIn K mainGlobals "InvalidStep" = some (some (.ref C_InvalidStep))) (ic_InvalidStep : PySem.W.isClsIn K C_InvalidStep = true) (ty_InvalidStep : PySem.W.typeIn K (.ref C_InvalidStep) = some (.type "type"))
    (a_InvalidTrait : PySem.W.nsIn K mainGlobals "InvalidTrait" = some (some (.ref C_InvalidTrait))) (ic_InvalidTrait : PySem.W.isClsIn K C_InvalidTrait = true) (ty_InvalidTrait : PySem.W.typeIn K (.ref C_InvalidTrait) = some (.type "type"))
    (a_InvalidExpr : PySem.W.nsIn K mainGlobals "InvalidExpr" = some (some (.ref C_InvalidExpr))) (ic_InvalidExpr : PySem.W.isClsIn K C_InvalidExpr = true) (ty_InvalidExpr : PySem.W.typeIn K (.ref C_InvalidExpr) = some (.type "type"))
    (a_InvalidRow : PySem.W.nsIn K mainGlobals "InvalidRow" = some (some (.ref C_InvalidRow))) (ic_InvalidRow : PySem.W.isClsIn K C_InvalidRow = true) (ty_InvalidRow : PySem.W.typeIn K (.ref C_InvalidRow) = some (.type "type"))
    (a_InvalidText : PySem.W.nsIn K mainGlobals "InvalidText" = some (some (.ref C_InvalidText))) (ic_InvalidText : PySem.W.isClsIn K C_InvalidText = true) (ty_InvalidText : PySem.W.typeIn K (.ref C_InvalidText) = some (.type "type"))
    (a_InvalidWorld : PySem.W.nsIn K mainGlobals "InvalidWorld" = some (some (.ref C_InvalidWorld))) (ic_InvalidWorld : PySem.W.isClsIn K C_InvalidWorld = true) (ty_InvalidWorld : PySem.W.typeIn K (.ref C_InvalidWorld) = some (.type "type"))
    (a_InvalidStart : PySem.W.nsIn K mainGlobals "InvalidStart" = some (some (.ref C_InvalidStart))) (ic_InvalidStart : PySem.W.isClsIn K C_InvalidStart = true) (ty_InvalidStart : PySem.W.typeIn K (.ref C_InvalidStart) = some (.type "type"))
    (a_InvalidClaim : PySem.W.nsIn K mainGlobals "InvalidClaim" = some (some (.ref C_InvalidClaim))) (ic_InvalidClaim : PySem.W.isClsIn K C_InvalidClaim = true) (ty_InvalidClaim : PySem.W.typeIn K (.ref C_InvalidClaim) = some (.type "type"))
    (a_NoName : PySem.W.nsIn K mainGlobals "NoName" = some (some (.ref C_NoName))) (ic_NoName : PySem.W.isClsIn K C_NoName = true) (ty_NoName : PySem.W.typeIn K (.ref C_NoName) = some (.type "type"))
    (a_NoStep : PySem.W.nsIn K mainGlobals "NoStep" = some (some (.ref C_NoStep))) (ic_NoStep : PySem.W.isClsIn K C_NoStep = true) (ty_NoStep : PySem.W.typeIn K (.ref C_NoStep) = some (.type "type"))
    (a_NoRow : PySem.W.nsIn K mainGlobals "NoRow" = some (some (.ref C_NoRow))) (ic_NoRow : PySem.W.isClsIn K C_NoRow = true) (ty_NoRow : PySem.W.typeIn K (.ref C_NoRow) = some (.type "type"))
    (a_Impossible : PySem.W.nsIn K mainGlobals "Impossible" = some (some (.ref C_Impossible))) (ic_Impossible : PySem.W.isClsIn K C_Impossible = true) (ty_Impossible : PySem.W.typeIn K (.ref C_Impossible) = some (.type "type"))
    (ex_WaysError : PySem.W.subIn K (.ref C_WaysError) (.type "BaseException") = some true) (hd_WaysError : PySem.W.hasDictIn K C_WaysError = true)
    (sg_cls : PySem.W.specialIn K (.builtin "object.__class__") "__get__" = some (some (.builtin "getset_descriptor.__get__"))) (tk_cls : PySem.W.takesIn K (.builtin "object.__class__") = some true)
    (x_Impossible : K.lookup C_Impossible = some (excClassObj nm_Impossible qn_Impossible C_Impossible N_Impossible bs_Impossible [.ref C_WaysError, .type "ValueError", .type "Exception", .type "BaseException", .type "object"] true sn_Impossible su_Impossible ab_Impossible co_Impossible dd_Impossible m0_Impossible m1_Impossible m2_Impossible m3_Impossible m5_Impossible "ValueError.__new__"))
    (ga_Impossible : PySem.W.findIn K (.ref C_Impossible) "__getattribute__" = some (some (.builtin "BaseException.__getattribute__"))) (gg_Impossible : PySem.W.findIn K (.ref C_Impossible) "__getattr__" = some none) (no_Impossible : PySem.W.findIn K (.ref C_Impossible) "word" = some none) (kc_Impossible : PySem.W.keepIn K (.ref C_Impossible) = true) (cc_Impossible : PySem.W.findIn K (.ref C_Impossible) "__class__" = some (some (.builtin "object.__class__"))) (mr_Impossible : PySem.W.mroIn K C_Impossible (.type "object") = some true) (xi_Impossible : PySem.W.excIn K C_Impossible [.type "ValueError", .type "Exception", .type "BaseException", .type "object"] "ValueError.__new__" = true)
    (ex_Impossible : PySem.W.subIn K (.ref C_Impossible) (.type "BaseException") = some true) (hd_Impossible : PySem.W.hasDictIn K C_Impossible = true)
    (x_WaysError : K.lookup C_WaysError = some (excClassObj nm_WaysError qn_WaysError C_WaysError N_WaysError bs_WaysError [.type "ValueError", .type "Exception", .type "BaseException", .type "object"] true sn_WaysError su_WaysError ab_WaysError co_WaysError dd_WaysError m0_WaysError m1_WaysError m2_WaysError m3_WaysError m5_WaysError "ValueError.__new__"))
    (ga_WaysError : PySem.W.findIn K (.ref C_WaysError) "__getattribute__" = some (some (.builtin "BaseException.__getattribute__"))) (gg_WaysError : PySem.W.findIn K (.ref C_WaysError) "__getattr__" = some none) (no_WaysError : PySem.W.findIn K (.ref C_WaysError) "word" = some none) (kc_WaysError : PySem.W.keepIn K (.ref C_WaysError) = true) (cc_WaysError : PySem.W.findIn K (.ref C_WaysError) "__class__" = some (some (.builtin "object.__class__"))) (mr_WaysError : PySem.W.mroIn K C_WaysError (.type "object") = some true) (xi_WaysError : PySem.W.excIn K C_WaysError [.type "ValueError", .type "Exception", .type "BaseException", .type "object"] "ValueError.__new__" = true)
    (x_InvalidStep : K.lookup C_InvalidStep = some (excClassObj nm_InvalidStep qn_InvalidStep C_InvalidStep N_InvalidStep bs_InvalidStep [.ref C_WaysError, .type "ValueError", .type "Exception", .type "BaseException", .type "object"] true sn_InvalidStep su_InvalidStep ab_InvalidStep co_InvalidStep dd_InvalidStep m0_InvalidStep m1_InvalidStep m2_InvalidStep m3_InvalidStep m5_InvalidStep "ValueError.__new__"))
    (sa_InvalidStep : PySem.W.findIn K (.ref C_InvalidStep) "__setattr__" = some (some (.builtin "object.__setattr__"))) (ga_InvalidStep : PySem.W.findIn K (.ref C_InvalidStep) "__getattribute__" = some (some (.builtin "BaseException.__getattribute__"))) (gg_InvalidStep : PySem.W.findIn K (.ref C_InvalidStep) "__getattr__" = some none) (no_InvalidStep : PySem.W.findIn K (.ref C_InvalidStep) "word" = some none)
    (ex_InvalidStep : PySem.W.subIn K (.ref C_InvalidStep) (.type "BaseException") = some true) (hd_InvalidStep : PySem.W.hasDictIn K C_InvalidStep = true) (kc_InvalidStep : PySem.W.keepIn K (.ref C_InvalidStep) = true) (cc_InvalidStep : PySem.W.findIn K (.ref C_InvalidStep) "__class__" = some (some (.builtin "object.__class__"))) (mr_InvalidStep : PySem.W.mroIn K C_InvalidStep (.type "object") = some true) (sw_InvalidStep : PySem.W.subIn K (.ref C_InvalidStep) (.ref C_WaysError) = some true)
    (s_InvalidStep_InvalidStep : PySem.W.subIn K (.ref C_InvalidStep) (.ref C_InvalidStep) = some true)
    (s_InvalidStep_InvalidTrait : PySem.W.subIn K (.ref C_InvalidStep) (.ref C_InvalidTrait) = some false)
    (s_InvalidStep_InvalidExpr : PySem.W.subIn K (.ref C_InvalidStep) (.ref C_InvalidExpr) = some false)
    (s_InvalidStep_InvalidRow : PySem.W.subIn K (.ref C_InvalidStep) (.ref C_InvalidRow) = some false)
    (s_InvalidStep_InvalidText : PySem.W.subIn K (.ref C_InvalidStep) (.ref C_InvalidText) = some false)
    (s_InvalidStep_InvalidWorld : PySem.W.subIn K (.ref C_InvalidStep) (.ref C_InvalidWorld) = some false)
    (s_InvalidStep_InvalidStart : PySem.W.subIn K (.ref C_InvalidStep) (.ref C_InvalidStart) = some false)
    (s_InvalidStep_InvalidClaim : PySem.W.subIn K (.ref C_InvalidStep) (.ref C_InvalidClaim) = some false)
    (s_InvalidStep_NoName : PySem.W.subIn K (.ref C_InvalidStep) (.ref C_NoName) = some false)
    (s_InvalidStep_NoStep : PySem.W.subIn K (.ref C_InvalidStep) (.ref C_NoStep) = some false)
    (s_InvalidStep_NoRow : PySem.W.subIn K (.ref C_InvalidStep) (.ref C_NoRow) = some false)
    (s_InvalidStep_Impossible : PySem.W.subIn K (.ref C_InvalidStep) (.ref C_Impossible) = some false)
    (a_InvalidStep___init__ : PySem.W.findIn K (.ref C_InvalidStep) "__init__" = some (some (.ref f_InvalidStep___init__))) (t_InvalidStep___init__ : PySem.W.typeIn K (.ref f_InvalidStep___init__) = some (.type "function"))
    (l_InvalidStep___init__ : K.lookup f_InvalidStep___init__ = some ⟨oc_InvalidStep___init__, od_InvalidStep___init__, .func (PySem.W.fnOf "__init__" "InvalidStep.__init__" (defArgs s_InvalidStep___init__) (defBody s_InvalidStep___init__) (defScope s_InvalidStep___init__) .none kV_InvalidStep___init__ dc_InvalidStep___init__ pm_InvalidStep___init__ an_InvalidStep___init__ cd_InvalidStep___init__ ct_InvalidStep___init__), sl_InvalidStep___init__⟩)
    (c_InvalidStep___init__ : PySem.W.codeIn K cd_InvalidStep___init__ "InvalidStep.__init__" = true)
    (k_InvalidStep___init__ : PySem.W.keepIn K (.ref f_InvalidStep___init__) = true)
    (x_InvalidTrait : K.lookup C_InvalidTrait = some (excClassObj nm_InvalidTrait qn_InvalidTrait C_InvalidTrait N_InvalidTrait bs_InvalidTrait [.ref C_WaysError, .type "ValueError", .type "Exception", .type "BaseException", .type "object"] true sn_InvalidTrait su_InvalidTrait ab_InvalidTrait co_InvalidTrait dd_InvalidTrait m0_InvalidTrait m1_InvalidTrait m2_InvalidTrait m3_InvalidTrait m5_InvalidTrait "ValueError.__new__"))
    (sa_InvalidTrait : PySem.W.findIn K (.ref C_InvalidTrait) "__setattr__" = some (some (.builtin "object.__setattr__"))) (ga_InvalidTrait : PySem.W.findIn K (.ref C_InvalidTrait) "__getattribute__" = some (some (.builtin "BaseException.__getattribute__"))) (gg_InvalidTrait : PySem.W.findIn K (.ref C_InvalidTrait) "__getattr__" = some none) (no_InvalidTrait : PySem.W.findIn K (.ref C_InvalidTrait) "word" = some none)
    (ex_InvalidTrait : PySem.W.subIn K (.ref C_InvalidTrait) (.type "BaseException") = some true) (hd_InvalidTrait : PySem.W.hasDictIn K C_InvalidTrait = true) (kc_InvalidTrait : PySem.W.keepIn K (.ref C_InvalidTrait) = true) (cc_InvalidTrait : PySem.W.findIn K (.ref C_InvalidTrait) "__class__" = some (some (.builtin "object.__class__"))) (mr_InvalidTrait : PySem.W.mroIn K C_InvalidTrait (.type "object") = some true) (sw_InvalidTrait : PySem.W.subIn K (.ref C_InvalidTrait) (.ref C_WaysError) = some true)
    (s_InvalidTrait_InvalidStep : PySem.W.subIn K (.ref C_InvalidTrait) (.ref C_InvalidStep) = some false)
    (s_InvalidTrait_InvalidTrait : PySem.W.subIn K (.ref C_InvalidTrait) (.ref C_InvalidTrait) = some true)
    (s_InvalidTrait_InvalidExpr : PySem.W.subIn K (.ref C_InvalidTrait) (.ref C_InvalidExpr) = some false)
    (s_InvalidTrait_InvalidRow : PySem.W.subIn K (.ref C_InvalidTrait) (.ref C_InvalidRow) = some false)
    (s_InvalidTrait_InvalidText : PySem.W.subIn K (.ref C_InvalidTrait) (.ref C_InvalidText) = some false)
    (s_InvalidTrait_InvalidWorld : PySem.W.subIn K (.ref C_InvalidTrait) (.ref C_InvalidWorld) = some false)
    (s_InvalidTrait_InvalidStart : PySem.W.subIn K (.ref C_InvalidTrait) (.ref C_InvalidStart) = some false)
    (s_InvalidTrait_InvalidClaim : PySem.W.subIn K (.ref C_InvalidTrait) (.ref C_InvalidClaim) = some false)
    (s_InvalidTrait_NoName : PySem.W.subIn K (.ref C_InvalidTrait) (.ref C_NoName) = some false)
    (s_InvalidTrait_NoStep : PySem.W.subIn K (.ref C_InvalidTrait) (.ref C_NoStep) = some false)
    (s_InvalidTrait_NoRow : PySem.W.subIn K (.ref C_InvalidTrait) (.ref C_NoRow) = some false)
    (s_InvalidTrait_Impossible : PySem.W.subIn K (.ref C_InvalidTrait) (.ref C_Impossible) = some false)
    (a_InvalidTrait___init__ : PySem.W.findIn K (.ref C_InvalidTrait) "__init__" = some (some (.ref f_InvalidTrait___init__))) (t_InvalidTrait___init__ : PySem.W.typeIn K (.ref f_InvalidTrait___init__) = some (.type "function"))
    (l_InvalidTrait___init__ : K.lookup f_InvalidTrait___init__ = some ⟨oc_InvalidTrait___init__, od_InvalidTrait___init__, .func (PySem.W.fnOf "__init__" "InvalidTrait.__init__" (defArgs s_InvalidTrait___init__) (defBody s_InvalidTrait___init__) (defScope s_InvalidTrait___init__) .none kV_InvalidTrait___init__ dc_InvalidTrait___init__ pm_InvalidTrait___init__ an_InvalidTrait___init__ cd_InvalidTrait___init__ ct_InvalidTrait___init__), sl_InvalidTrait___init__⟩)
    (c_InvalidTrait___init__ : PySem.W.codeIn K cd_InvalidTrait___init__ "InvalidTrait.__init__" = true)
    (k_InvalidTrait___init__ : PySem.W.keepIn K (.ref f_InvalidTrait___init__) = true)
    (x_InvalidExpr : K.lookup C_InvalidExpr = some (excClassObj nm_InvalidExpr qn_InvalidExpr C_InvalidExpr N_InvalidExpr bs_InvalidExpr [.ref C_WaysError, .type "ValueError", .type "Exception", .type "BaseException", .type "object"] true sn_InvalidExpr su_InvalidExpr ab_InvalidExpr co_InvalidExpr dd_InvalidExpr m0_InvalidExpr m1_InvalidExpr m2_InvalidExpr m3_InvalidExpr m5_InvalidExpr "ValueError.__new__"))
    (sa_InvalidExpr : PySem.W.findIn K (.ref C_InvalidExpr) "__setattr__" = some (some (.builtin "object.__setattr__"))) (ga_InvalidExpr : PySem.W.findIn K (.ref C_InvalidExpr) "__getattribute__" = some (some (.builtin "BaseException.__getattribute__"))) (gg_InvalidExpr : PySem.W.findIn K (.ref C_InvalidExpr) "__getattr__" = some none) (no_InvalidExpr : PySem.W.findIn K (.ref C_InvalidExpr) "word" = some none)
    (ex_InvalidExpr : PySem.W.subIn K (.ref C_InvalidExpr) (.type "BaseException") = some true) (hd_InvalidExpr : PySem.W.hasDictIn K C_InvalidExpr = true) (kc_InvalidExpr : PySem.W.keepIn K (.ref C_InvalidExpr) = true) (cc_InvalidExpr : PySem.W.findIn K (.ref C_InvalidExpr) "__class__" = some (some (.builtin "object.__class__"))) (mr_InvalidExpr : PySem.W.mroIn K C_InvalidExpr (.type "object") = some true) (sw_InvalidExpr : PySem.W.subIn K (.ref C_InvalidExpr) (.ref C_WaysError) = some true)
    (s_InvalidExpr_InvalidStep : PySem.W.subIn K (.ref C_InvalidExpr) (.ref C_InvalidStep) = some false)
    (s_InvalidExpr_InvalidTrait : PySem.W.subIn K (.ref C_InvalidExpr) (.ref C_InvalidTrait) = some false)
    (s_InvalidExpr_InvalidExpr : PySem.W.subIn K (.ref C_InvalidExpr) (.ref C_InvalidExpr) = some true)
    (s_InvalidExpr_InvalidRow : PySem.W.subIn K (.ref C_InvalidExpr) (.ref C_InvalidRow) = some false)
    (s_InvalidExpr_InvalidText : PySem.W.subIn K (.ref C_InvalidExpr) (.ref C_InvalidText) = some false)
    (s_InvalidExpr_InvalidWorld : PySem.W.subIn K (.ref C_InvalidExpr) (.ref C_InvalidWorld) = some false)
    (s_InvalidExpr_InvalidStart : PySem.W.subIn K (.ref C_InvalidExpr) (.ref C_InvalidStart) = some false)
    (s_InvalidExpr_InvalidClaim : PySem.W.subIn K (.ref C_InvalidExpr) (.ref C_InvalidClaim) = some false)
    (s_InvalidExpr_NoName : PySem.W.subIn K (.ref C_InvalidExpr) (.ref C_NoName) = some false)
    (s_InvalidExpr_NoStep : PySem.W.subIn K (.ref C_InvalidExpr) (.ref C_NoStep) = some false)
    (s_InvalidExpr_NoRow : PySem.W.subIn K (.ref C_InvalidExpr) (.ref C_NoRow) = some false)
    (s_InvalidExpr_Impossible : PySem.W.subIn K (.ref C_InvalidExpr) (.ref C_Impossible) = some false)
    (a_InvalidExpr___init__ : PySem.W.findIn K (.ref C_InvalidExpr) "__init__" = some (some (.ref f_InvalidExpr___init__))) (t_InvalidExpr___init__ : PySem.W.typeIn K (.ref f_InvalidExpr___init__) = some (.type "function"))
    (l_InvalidExpr___init__ : K.lookup f_InvalidExpr___init__ = some ⟨oc_InvalidExpr___init__, od_InvalidExpr___init__, .func (PySem.W.fnOf "__init__" "InvalidExpr.__init__" (defArgs s_InvalidExpr___init__) (defBody s_InvalidExpr___init__) (defScope s_InvalidExpr___init__) .none kV_InvalidExpr___init__ dc_InvalidExpr___init__ pm_InvalidExpr___init__ an_InvalidExpr___init__ cd_InvalidExpr___init__ ct_InvalidExpr___init__), sl_InvalidExpr___init__⟩)
    (c_InvalidExpr___init__ : PySem.W.codeIn K cd_InvalidExpr___init__ "InvalidExpr.__init__" = true)
    (k_InvalidExpr___init__ : PySem.W.keepIn K (.ref f_InvalidExpr___init__) = true)
    (x_InvalidRow : K.lookup C_InvalidRow = some (excClassObj nm_InvalidRow qn_InvalidRow C_InvalidRow N_InvalidRow bs_InvalidRow [.ref C_WaysError, .type "ValueError", .type "Exception", .type "BaseException", .type "object"] true sn_InvalidRow su_InvalidRow ab_InvalidRow co_InvalidRow dd_InvalidRow m0_InvalidRow m1_InvalidRow m2_InvalidRow m3_InvalidRow m5_InvalidRow "ValueError.__new__"))
    (sa_InvalidRow : PySem.W.findIn K (.ref C_InvalidRow) "__setattr__" = some (some (.builtin "object.__setattr__"))) (ga_InvalidRow : PySem.W.findIn K (.ref C_InvalidRow) "__getattribute__" = some (some (.builtin "BaseException.__getattribute__"))) (gg_InvalidRow : PySem.W.findIn K (.ref C_InvalidRow) "__getattr__" = some none) (no_InvalidRow : PySem.W.findIn K (.ref C_InvalidRow) "word" = some none)
    (ex_InvalidRow : PySem.W.subIn K (.ref C_InvalidRow) (.type "BaseException") = some true) (hd_InvalidRow : PySem.W.hasDictIn K C_InvalidRow = true) (kc_InvalidRow : PySem.W.keepIn K (.ref C_InvalidRow) = true) (cc_InvalidRow : PySem.W.findIn K (.ref C_InvalidRow) "__class__" = some (some (.builtin "object.__class__"))) (mr_InvalidRow : PySem.W.mroIn K C_InvalidRow (.type "object") = some true) (sw_InvalidRow : PySem.W.subIn K (.ref C_InvalidRow) (.ref C_WaysError) = some true)
    (s_InvalidRow_InvalidStep : PySem.W.subIn K (.ref C_InvalidRow) (.ref C_InvalidStep) = some false)
    (s_InvalidRow_InvalidTrait : PySem.W.subIn K (.ref C_InvalidRow) (.ref C_InvalidTrait) = some false)
    (s_InvalidRow_InvalidExpr : PySem.W.subIn K (.ref C_InvalidRow) (.ref C_InvalidExpr) = some false)
    (s_InvalidRow_InvalidRow : PySem.W.subIn K (.ref C_InvalidRow) (.ref C_InvalidRow) = some true)
    (s_InvalidRow_InvalidText : PySem.W.subIn K (.ref C_InvalidRow) (.ref C_InvalidText) = some false)
    (s_InvalidRow_InvalidWorld : PySem.W.subIn K (.ref C_InvalidRow) (.ref C_InvalidWorld) = some false)
    (s_InvalidRow_InvalidStart : PySem.W.subIn K (.ref C_InvalidRow) (.ref C_InvalidStart) = some false)
    (s_InvalidRow_InvalidClaim : PySem.W.subIn K (.ref C_InvalidRow) (.ref C_InvalidClaim) = some false)
    (s_InvalidRow_NoName : PySem.W.subIn K (.ref C_InvalidRow) (.ref C_NoName) = some false)
    (s_InvalidRow_NoStep : PySem.W.subIn K (.ref C_InvalidRow) (.ref C_NoStep) = some false)
    (s_InvalidRow_NoRow : PySem.W.subIn K (.ref C_InvalidRow) (.ref C_NoRow) = some false)
    (s_InvalidRow_Impossible : PySem.W.subIn K (.ref C_InvalidRow) (.ref C_Impossible) = some false)
    (a_InvalidRow___init__ : PySem.W.findIn K (.ref C_InvalidRow) "__init__" = some (some (.ref f_InvalidRow___init__))) (t_InvalidRow___init__ : PySem.W.typeIn K (.ref f_InvalidRow___init__) = some (.type "function"))
    (l_InvalidRow___init__ : K.lookup f_InvalidRow___init__ = some ⟨oc_InvalidRow___init__, od_InvalidRow___init__, .func (PySem.W.fnOf "__init__" "InvalidRow.__init__" (defArgs s_InvalidRow___init__) (defBody s_InvalidRow___init__) (defScope s_InvalidRow___init__) .none kV_InvalidRow___init__ dc_InvalidRow___init__ pm_InvalidRow___init__ an_InvalidRow___init__ cd_InvalidRow___init__ ct_InvalidRow___init__), sl_InvalidRow___init__⟩)
    (c_InvalidRow___init__ : PySem.W.codeIn K cd_InvalidRow___init__ "InvalidRow.__init__" = true)
    (k_InvalidRow___init__ : PySem.W.keepIn K (.ref f_InvalidRow___init__) = true)
    (x_InvalidText : K.lookup C_InvalidText = some (excClassObj nm_InvalidText qn_InvalidText C_InvalidText N_InvalidText bs_InvalidText [.ref C_WaysError, .type "ValueError", .type "Exception", .type "BaseException", .type "object"] true sn_InvalidText su_InvalidText ab_InvalidText co_InvalidText dd_InvalidText m0_InvalidText m1_InvalidText m2_InvalidText m3_InvalidText m5_InvalidText "ValueError.__new__"))
    (sa_InvalidText : PySem.W.findIn K (.ref C_InvalidText) "__setattr__" = some (some (.builtin "object.__setattr__"))) (ga_InvalidText : PySem.W.findIn K (.ref C_InvalidText) "__getattribute__" = some (some (.builtin "BaseException.__getattribute__"))) (gg_InvalidText : PySem.W.findIn K (.ref C_InvalidText) "__getattr__" = some none) (no_InvalidText : PySem.W.findIn K (.ref C_InvalidText) "at" = some none)
    (ex_InvalidText : PySem.W.subIn K (.ref C_InvalidText) (.type "BaseException") = some true) (hd_InvalidText : PySem.W.hasDictIn K C_InvalidText = true) (kc_InvalidText : PySem.W.keepIn K (.ref C_InvalidText) = true) (cc_InvalidText : PySem.W.findIn K (.ref C_InvalidText) "__class__" = some (some (.builtin "object.__class__"))) (mr_InvalidText : PySem.W.mroIn K C_InvalidText (.type "object") = some true) (sw_InvalidText : PySem.W.subIn K (.ref C_InvalidText) (.ref C_WaysError) = some true)
    (s_InvalidText_InvalidStep : PySem.W.subIn K (.ref C_InvalidText) (.ref C_InvalidStep) = some false)
    (s_InvalidText_InvalidTrait : PySem.W.subIn K (.ref C_InvalidText) (.ref C_InvalidTrait) = some false)
    (s_InvalidText_InvalidExpr : PySem.W.subIn K (.ref C_InvalidText) (.ref C_InvalidExpr) = some false)
    (s_InvalidText_InvalidRow : PySem.W.subIn K (.ref C_InvalidText) (.ref C_InvalidRow) = some false)
    (s_InvalidText_InvalidText : PySem.W.subIn K (.ref C_InvalidText) (.ref C_InvalidText) = some true)
    (s_InvalidText_InvalidWorld : PySem.W.subIn K (.ref C_InvalidText) (.ref C_InvalidWorld) = some false)
    (s_InvalidText_InvalidStart : PySem.W.subIn K (.ref C_InvalidText) (.ref C_InvalidStart) = some false)
    (s_InvalidText_InvalidClaim : PySem.W.subIn K (.ref C_InvalidText) (.ref C_InvalidClaim) = some false)
    (s_InvalidText_NoName : PySem.W.subIn K (.ref C_InvalidText) (.ref C_NoName) = some false)
    (s_InvalidText_NoStep : PySem.W.subIn K (.ref C_InvalidText) (.ref C_NoStep) = some false)
    (s_InvalidText_NoRow : PySem.W.subIn K (.ref C_InvalidText) (.ref C_NoRow) = some false)
    (s_InvalidText_Impossible : PySem.W.subIn K (.ref C_InvalidText) (.ref C_Impossible) = some false)
    (a_InvalidText___init__ : PySem.W.findIn K (.ref C_InvalidText) "__init__" = some (some (.ref f_InvalidText___init__))) (t_InvalidText___init__ : PySem.W.typeIn K (.ref f_InvalidText___init__) = some (.type "function"))
    (l_InvalidText___init__ : K.lookup f_InvalidText___init__ = some ⟨oc_InvalidText___init__, od_InvalidText___init__, .func (PySem.W.fnOf "__init__" "InvalidText.__init__" (defArgs s_InvalidText___init__) (defBody s_InvalidText___init__) (defScope s_InvalidText___init__) .none kV_InvalidText___init__ dc_InvalidText___init__ pm_InvalidText___init__ an_InvalidText___init__ cd_InvalidText___init__ ct_InvalidText___init__), sl_InvalidText___init__⟩)
    (c_InvalidText___init__ : PySem.W.codeIn K cd_InvalidText___init__ "InvalidText.__init__" = true)
    (k_InvalidText___init__ : PySem.W.keepIn K (.ref f_InvalidText___init__) = true)
    (x_InvalidWorld : K.lookup C_InvalidWorld = some (excClassObj nm_InvalidWorld qn_InvalidWorld C_InvalidWorld N_InvalidWorld bs_InvalidWorld [.ref C_WaysError, .type "ValueError", .type "Exception", .type "BaseException", .type "object"] true sn_InvalidWorld su_InvalidWorld ab_InvalidWorld co_InvalidWorld dd_InvalidWorld m0_InvalidWorld m1_InvalidWorld m2_InvalidWorld m3_InvalidWorld m5_InvalidWorld "ValueError.__new__"))
    (sa_InvalidWorld : PySem.W.findIn K (.ref C_InvalidWorld) "__setattr__" = some (some (.builtin "object.__setattr__"))) (ga_InvalidWorld : PySem.W.findIn K (.ref C_InvalidWorld) "__getattribute__" = some (some (.builtin "BaseException.__getattribute__"))) (gg_InvalidWorld : PySem.W.findIn K (.ref C_InvalidWorld) "__getattr__" = some none) (no_InvalidWorld : PySem.W.findIn K (.ref C_InvalidWorld) "word" = some none)
    (ex_InvalidWorld : PySem.W.subIn K (.ref C_InvalidWorld) (.type "BaseException") = some true) (hd_InvalidWorld : PySem.W.hasDictIn K C_InvalidWorld = true) (kc_InvalidWorld : PySem.W.keepIn K (.ref C_InvalidWorld) = true) (cc_InvalidWorld : PySem.W.findIn K (.ref C_InvalidWorld) "__class__" = some (some (.builtin "object.__class__"))) (mr_InvalidWorld : PySem.W.mroIn K C_InvalidWorld (.type "object") = some true) (sw_InvalidWorld : PySem.W.subIn K (.ref C_InvalidWorld) (.ref C_WaysError) = some true)
    (s_InvalidWorld_InvalidStep : PySem.W.subIn K (.ref C_InvalidWorld) (.ref C_InvalidStep) = some false)
    (s_InvalidWorld_InvalidTrait : PySem.W.subIn K (.ref C_InvalidWorld) (.ref C_InvalidTrait) = some false)
    (s_InvalidWorld_InvalidExpr : PySem.W.subIn K (.ref C_InvalidWorld) (.ref C_InvalidExpr) = some false)
    (s_InvalidWorld_InvalidRow : PySem.W.subIn K (.ref C_InvalidWorld) (.ref C_InvalidRow) = some false)
    (s_InvalidWorld_InvalidText : PySem.W.subIn K (.ref C_InvalidWorld) (.ref C_InvalidText) = some false)
    (s_InvalidWorld_InvalidWorld : PySem.W.subIn K (.ref C_InvalidWorld) (.ref C_InvalidWorld) = some true)
    (s_InvalidWorld_InvalidStart : PySem.W.subIn K (.ref C_InvalidWorld) (.ref C_InvalidStart) = some false)
    (s_InvalidWorld_InvalidClaim : PySem.W.subIn K (.ref C_InvalidWorld) (.ref C_InvalidClaim) = some false)
    (s_InvalidWorld_NoName : PySem.W.subIn K (.ref C_InvalidWorld) (.ref C_NoName) = some false)
    (s_InvalidWorld_NoStep : PySem.W.subIn K (.ref C_InvalidWorld) (.ref C_NoStep) = some false)
    (s_InvalidWorld_NoRow : PySem.W.subIn K (.ref C_InvalidWorld) (.ref C_NoRow) = some false)
    (s_InvalidWorld_Impossible : PySem.W.subIn K (.ref C_InvalidWorld) (.ref C_Impossible) = some false)
    (a_InvalidWorld___init__ : PySem.W.findIn K (.ref C_InvalidWorld) "__init__" = some (some (.ref f_InvalidWorld___init__))) (t_InvalidWorld___init__ : PySem.W.typeIn K (.ref f_InvalidWorld___init__) = some (.type "function"))
    (l_InvalidWorld___init__ : K.lookup f_InvalidWorld___init__ = some ⟨oc_InvalidWorld___init__, od_InvalidWorld___init__, .func (PySem.W.fnOf "__init__" "InvalidWorld.__init__" (defArgs s_InvalidWorld___init__) (defBody s_InvalidWorld___init__) (defScope s_InvalidWorld___init__) .none kV_InvalidWorld___init__ dc_InvalidWorld___init__ pm_InvalidWorld___init__ an_InvalidWorld___init__ cd_InvalidWorld___init__ ct_InvalidWorld___init__), sl_InvalidWorld___init__⟩)
    (c_InvalidWorld___init__ : PySem.W.codeIn K cd_InvalidWorld___init__ "InvalidWorld.__init__" = true)
    (k_InvalidWorld___init__ : PySem.W.keepIn K (.ref f_InvalidWorld___init__) = true)
    (x_InvalidStart : K.lookup C_InvalidStart = some (excClassObj nm_InvalidStart qn_InvalidStart C_InvalidStart N_InvalidStart bs_InvalidStart [.ref C_WaysError, .type "ValueError", .type "Exception", .type "BaseException", .type "object"] true sn_InvalidStart su_InvalidStart ab_InvalidStart co_InvalidStart dd_InvalidStart m0_InvalidStart m1_InvalidStart m2_InvalidStart m3_InvalidStart m5_InvalidStart "ValueError.__new__"))
    (sa_InvalidStart : PySem.W.findIn K (.ref C_InvalidStart) "__setattr__" = some (some (.builtin "object.__setattr__"))) (ga_InvalidStart : PySem.W.findIn K (.ref C_InvalidStart) "__getattribute__" = some (some (.builtin "BaseException.__getattribute__"))) (gg_InvalidStart : PySem.W.findIn K (.ref C_InvalidStart) "__getattr__" = some none) (no_InvalidStart : PySem.W.findIn K (.ref C_InvalidStart) "name" = some none)
    (ex_InvalidStart : PySem.W.subIn K (.ref C_InvalidStart) (.type "BaseException") = some true) (hd_InvalidStart : PySem.W.hasDictIn K C_InvalidStart = true) (kc_InvalidStart : PySem.W.keepIn K (.ref C_InvalidStart) = true) (cc_InvalidStart : PySem.W.findIn K (.ref C_InvalidStart) "__class__" = some (some (.builtin "object.__class__"))) (mr_InvalidStart : PySem.W.mroIn K C_InvalidStart (.type "object") = some true) (sw_InvalidStart : PySem.W.subIn K (.ref C_InvalidStart) (.ref C_WaysError) = some true)
    (s_InvalidStart_InvalidStep : PySem.W.subIn K (.ref C_InvalidStart) (.ref C_InvalidStep) = some false)
    (s_InvalidStart_InvalidTrait : PySem.W.subIn K (.ref C_InvalidStart) (.ref C_InvalidTrait) = some false)
    (s_InvalidStart_InvalidExpr : PySem.W.subIn K (.ref C_InvalidStart) (.ref C_InvalidExpr) = some false)
    (s_InvalidStart_InvalidRow : PySem.W.subIn K (.ref C_InvalidStart) (.ref C_InvalidRow) = some false)
    (s_InvalidStart_InvalidText : PySem.W.subIn K (.ref C_InvalidStart) (.ref C_InvalidText) = some false)
    (s_InvalidStart_InvalidWorld : PySem.W.subIn K (.ref C_InvalidStart) (.ref C_InvalidWorld) = some false)
    (s_InvalidStart_InvalidStart : PySem.W.subIn K (.ref C_InvalidStart) (.ref C_InvalidStart) = some true)
    (s_InvalidStart_InvalidClaim : PySem.W.subIn K (.ref C_InvalidStart) (.ref C_InvalidClaim) = some false)
    (s_InvalidStart_NoName : PySem.W.subIn K (.ref C_InvalidStart) (.ref C_NoName) = some false)
    (s_InvalidStart_NoStep : PySem.W.subIn K (.ref C_InvalidStart) (.ref C_NoStep) = some false)
    (s_InvalidStart_NoRow : PySem.W.subIn K (.ref C_InvalidStart) (.ref C_NoRow) = some false)
    (s_InvalidStart_Impossible : PySem.W.subIn K (.ref C_InvalidStart) (.ref C_Impossible) = some false)
    (a_InvalidStart___init__ : PySem.W.findIn K (.ref C_InvalidStart) "__init__" = some (some (.ref f_InvalidStart___init__))) (t_InvalidStart___init__ : PySem.W.typeIn K (.ref f_InvalidStart___init__) = some (.type "function"))
    (l_InvalidStart___init__ : K.lookup f_InvalidStart___init__ = some ⟨oc_InvalidStart___init__, od_InvalidStart___init__, .func (PySem.W.fnOf "__init__" "InvalidStart.__init__" (defArgs s_InvalidStart___init__) (defBody s_InvalidStart___init__) (defScope s_InvalidStart___init__) .none kV_InvalidStart___init__ dc_InvalidStart___init__ pm_InvalidStart___init__ an_InvalidStart___init__ cd_InvalidStart___init__ ct_InvalidStart___init__), sl_InvalidStart___init__⟩)
    (c_InvalidStart___init__ : PySem.W.codeIn K cd_InvalidStart___init__ "InvalidStart.__init__" = true)
    (k_InvalidStart___init__ : PySem.W.keepIn K (.ref f_InvalidStart___init__) = true)
    (x_InvalidClaim : K.lookup C_InvalidClaim = some (excClassObj nm_InvalidClaim qn_InvalidClaim C_InvalidClaim N_InvalidClaim bs_InvalidClaim [.ref C_WaysError, .type "ValueError", .type "Exception", .type "BaseException", .type "object"] true sn_InvalidClaim su_InvalidClaim ab_InvalidClaim co_InvalidClaim dd_InvalidClaim m0_InvalidClaim m1_InvalidClaim m2_InvalidClaim m3_InvalidClaim m5_InvalidClaim "ValueError.__new__"))
    (sa_InvalidClaim : PySem.W.findIn K (.ref C_InvalidClaim) "__setattr__" = some (some (.builtin "object.__setattr__"))) (ga_InvalidClaim : PySem.W.findIn K (.ref C_InvalidClaim) "__getattribute__" = some (some (.builtin "BaseException.__getattribute__"))) (gg_InvalidClaim : PySem.W.findIn K (.ref C_InvalidClaim) "__getattr__" = some none) (no_InvalidClaim : PySem.W.findIn K (.ref C_InvalidClaim) "word" = some none)
    (ex_InvalidClaim : PySem.W.subIn K (.ref C_InvalidClaim) (.type "BaseException") = some true) (hd_InvalidClaim : PySem.W.hasDictIn K C_InvalidClaim = true) (kc_InvalidClaim : PySem.W.keepIn K (.ref C_InvalidClaim) = true) (cc_InvalidClaim : PySem.W.findIn K (.ref C_InvalidClaim) "__class__" = some (some (.builtin "object.__class__"))) (mr_InvalidClaim : PySem.W.mroIn K C_InvalidClaim (.type "object") = some true) (sw_InvalidClaim : PySem.W.subIn K (.ref C_InvalidClaim) (.ref C_WaysError) = some true)
    (s_InvalidClaim_InvalidStep : PySem.W.subIn K (.ref C_InvalidClaim) (.ref C_InvalidStep) = some false)
    (s_InvalidClaim_InvalidTrait : PySem.W.subIn K (.ref C_InvalidClaim) (.ref C_InvalidTrait) = some false)
    (s_InvalidClaim_InvalidExpr : PySem.W.subIn K (.ref C_InvalidClaim) (.ref C_InvalidExpr) = some false)
    (s_InvalidClaim_InvalidRow : PySem.W.subIn K (.ref C_InvalidClaim) (.ref C_InvalidRow) = some false)
    (s_InvalidClaim_InvalidText : PySem.W.subIn K (.ref C_InvalidClaim) (.ref C_InvalidText) = some false)
    (s_InvalidClaim_InvalidWorld : PySem.W.subIn K (.ref C_InvalidClaim) (.ref C_InvalidWorld) = some false)
    (s_InvalidClaim_InvalidStart : PySem.W.subIn K (.ref C_InvalidClaim) (.ref C_InvalidStart) = some false)
    (s_InvalidClaim_InvalidClaim : PySem.W.subIn K (.ref C_InvalidClaim) (.ref C_InvalidClaim) = some true)
    (s_InvalidClaim_NoName : PySem.W.subIn K (.ref C_InvalidClaim) (.ref C_NoName) = some false)
    (s_InvalidClaim_NoStep : PySem.W.subIn K (.ref C_InvalidClaim) (.ref C_NoStep) = some false)
    (s_InvalidClaim_NoRow : PySem.W.subIn K (.ref C_InvalidClaim) (.ref C_NoRow) = some false)
    (s_InvalidClaim_Impossible : PySem.W.subIn K (.ref C_InvalidClaim) (.ref C_Impossible) = some false)
    (a_InvalidClaim___init__ : PySem.W.findIn K (.ref C_InvalidClaim) "__init__" = some (some (.ref f_InvalidClaim___init__))) (t_InvalidClaim___init__ : PySem.W.typeIn K (.ref f_InvalidClaim___init__) = some (.type "function"))
    (l_InvalidClaim___init__ : K.lookup f_InvalidClaim___init__ = some ⟨oc_InvalidClaim___init__, od_InvalidClaim___init__, .func (PySem.W.fnOf "__init__" "InvalidClaim.__init__" (defArgs s_InvalidClaim___init__) (defBody s_InvalidClaim___init__) (defScope s_InvalidClaim___init__) .none kV_InvalidClaim___init__ dc_InvalidClaim___init__ pm_InvalidClaim___init__ an_InvalidClaim___init__ cd_InvalidClaim___init__ ct_InvalidClaim___init__), sl_InvalidClaim___init__⟩)
    (c_InvalidClaim___init__ : PySem.W.codeIn K cd_InvalidClaim___init__ "InvalidClaim.__init__" = true)
    (k_InvalidClaim___init__ : PySem.W.keepIn K (.ref f_InvalidClaim___init__) = true)
    (x_NoName : K.lookup C_NoName = some (excClassObj nm_NoName qn_NoName C_NoName N_NoName bs_NoName [.ref C_WaysError, .type "ValueError", .type "Exception", .type "BaseException", .type "object"] true sn_NoName su_NoName ab_NoName co_NoName dd_NoName m0_NoName m1_NoName m2_NoName m3_NoName m5_NoName "ValueError.__new__"))
    (sa_NoName : PySem.W.findIn K (.ref C_NoName) "__setattr__" = some (some (.builtin "object.__setattr__"))) (ga_NoName : PySem.W.findIn K (.ref C_NoName) "__getattribute__" = some (some (.builtin "BaseException.__getattribute__"))) (gg_NoName : PySem.W.findIn K (.ref C_NoName) "__getattr__" = some none) (no_NoName : PySem.W.findIn K (.ref C_NoName) "name" = some none)
    (ex_NoName : PySem.W.subIn K (.ref C_NoName) (.type "BaseException") = some true) (hd_NoName : PySem.W.hasDictIn K C_NoName = true) (kc_NoName : PySem.W.keepIn K (.ref C_NoName) = true) (cc_NoName : PySem.W.findIn K (.ref C_NoName) "__class__" = some (some (.builtin "object.__class__"))) (mr_NoName : PySem.W.mroIn K C_NoName (.type "object") = some true) (sw_NoName : PySem.W.subIn K (.ref C_NoName) (.ref C_WaysError) = some true)
    (s_NoName_InvalidStep : PySem.W.subIn K (.ref C_NoName) (.ref C_InvalidStep) = some false)
    (s_NoName_InvalidTrait : PySem.W.subIn K (.ref C_NoName) (.ref C_InvalidTrait) = some false)
    (s_NoName_InvalidExpr : PySem.W.subIn K (.ref C_NoName) (.ref C_InvalidExpr) = some false)
    (s_NoName_InvalidRow : PySem.W.subIn K (.ref C_NoName) (.ref C_InvalidRow) = some false)
    (s_NoName_InvalidText : PySem.W.subIn K (.ref C_NoName) (.ref C_InvalidText) = some false)
    (s_NoName_InvalidWorld : PySem.W.subIn K (.ref C_NoName) (.ref C_InvalidWorld) = some false)
    (s_NoName_InvalidStart : PySem.W.subIn K (.ref C_NoName) (.ref C_InvalidStart) = some false)
    (s_NoName_InvalidClaim : PySem.W.subIn K (.ref C_NoName) (.ref C_InvalidClaim) = some false)
    (s_NoName_NoName : PySem.W.subIn K (.ref C_NoName) (.ref C_NoName) = some true)
    (s_NoName_NoStep : PySem.W.subIn K (.ref C_NoName) (.ref C_NoStep) = some false)
    (s_NoName_NoRow : PySem.W.subIn K (.ref C_NoName) (.ref C_NoRow) = some false)
    (s_NoName_Impossible : PySem.W.subIn K (.ref C_NoName) (.ref C_Impossible) = some false)
    (a_NoName___init__ : PySem.W.findIn K (.ref C_NoName) "__init__" = some (some (.ref f_NoName___init__))) (t_NoName___init__ : PySem.W.typeIn K (.ref f_NoName___init__) = some (.type "function"))
    (l_NoName___init__ : K.lookup f_NoName___init__ = some ⟨oc_NoName___init__, od_NoName___init__, .func (PySem.W.fnOf "__init__" "NoName.__init__" (defArgs s_NoName___init__) (defBody s_NoName___init__) (defScope s_NoName___init__) .none kV_NoName___init__ dc_NoName___init__ pm_NoName___init__ an_NoName___init__ cd_NoName___init__ ct_NoName___init__), sl_NoName___init__⟩)
    (c_NoName___init__ : PySem.W.codeIn K cd_NoName___init__ "NoName.__init__" = true)
    (k_NoName___init__ : PySem.W.keepIn K (.ref f_NoName___init__) = true)
    (x_NoStep : K.lookup C_NoStep = some (excClassObj nm_NoStep qn_NoStep C_NoStep N_NoStep bs_NoStep [.ref C_WaysError, .type "ValueError", .type "Exception", .type "BaseException", .type "object"] true sn_NoStep su_NoStep ab_NoStep co_NoStep dd_NoStep m0_NoStep m1_NoStep m2_NoStep m3_NoStep m5_NoStep "ValueError.__new__"))
    (sa_NoStep : PySem.W.findIn K (.ref C_NoStep) "__setattr__" = some (some (.builtin "object.__setattr__"))) (ga_NoStep : PySem.W.findIn K (.ref C_NoStep) "__getattribute__" = some (some (.builtin "BaseException.__getattribute__"))) (gg_NoStep : PySem.W.findIn K (.ref C_NoStep) "__getattr__" = some none) (no_NoStep : PySem.W.findIn K (.ref C_NoStep) "name" = some none)
    (ex_NoStep : PySem.W.subIn K (.ref C_NoStep) (.type "BaseException") = some true) (hd_NoStep : PySem.W.hasDictIn K C_NoStep = true) (kc_NoStep : PySem.W.keepIn K (.ref C_NoStep) = true) (cc_NoStep : PySem.W.findIn K (.ref C_NoStep) "__class__" = some (some (.builtin "object.__class__"))) (mr_NoStep : PySem.W.mroIn K C_NoStep (.type "object") = some true) (sw_NoStep : PySem.W.subIn K (.ref C_NoStep) (.ref C_WaysError) = some true)
    (s_NoStep_InvalidStep : PySem.W.subIn K (.ref C_NoStep) (.ref C_InvalidStep) = some false)
    (s_NoStep_InvalidTrait : PySem.W.subIn K (.ref C_NoStep) (.ref C_InvalidTrait) = some false)
    (s_NoStep_InvalidExpr : PySem.W.subIn K (.ref C_NoStep) (.ref C_InvalidExpr) = some false)
    (s_NoStep_InvalidRow : PySem.W.subIn K (.ref C_NoStep) (.ref C_InvalidRow) = some false)
    (s_NoStep_InvalidText : PySem.W.subIn K (.ref C_NoStep) (.ref C_InvalidText) = some false)
    (s_NoStep_InvalidWorld : PySem.W.subIn K (.ref C_NoStep) (.ref C_InvalidWorld) = some false)
    (s_NoStep_InvalidStart : PySem.W.subIn K (.ref C_NoStep) (.ref C_InvalidStart) = some false)
    (s_NoStep_InvalidClaim : PySem.W.subIn K (.ref C_NoStep) (.ref C_InvalidClaim) = some false)
    (s_NoStep_NoName : PySem.W.subIn K (.ref C_NoStep) (.ref C_NoName) = some false)
    (s_NoStep_NoStep : PySem.W.subIn K (.ref C_NoStep) (.ref C_NoStep) = some true)
    (s_NoStep_NoRow : PySem.W.subIn K (.ref C_NoStep) (.ref C_NoRow) = some false)
    (s_NoStep_Impossible : PySem.W.subIn K (.ref C_NoStep) (.ref C_Impossible) = some false)
    (a_NoStep___init__ : PySem.W.findIn K (.ref C_NoStep) "__init__" = some (some (.ref f_NoStep___init__))) (t_NoStep___init__ : PySem.W.typeIn K (.ref f_NoStep___init__) = some (.type "function"))
    (l_NoStep___init__ : K.lookup f_NoStep___init__ = some ⟨oc_NoStep___init__, od_NoStep___init__, .func (PySem.W.fnOf "__init__" "NoStep.__init__" (defArgs s_NoStep___init__) (defBody s_NoStep___init__) (defScope s_NoStep___init__) .none kV_NoStep___init__ dc_NoStep___init__ pm_NoStep___init__ an_NoStep___init__ cd_NoStep___init__ ct_NoStep___init__), sl_NoStep___init__⟩)
    (c_NoStep___init__ : PySem.W.codeIn K cd_NoStep___init__ "NoStep.__init__" = true)
    (k_NoStep___init__ : PySem.W.keepIn K (.ref f_NoStep___init__) = true)
    (x_NoRow : K.lookup C_NoRow = some (excClassObj nm_NoRow qn_NoRow C_NoRow N_NoRow bs_NoRow [.ref C_WaysError, .type "ValueError", .type "Exception", .type "BaseException", .type "object"] true sn_NoRow su_NoRow ab_NoRow co_NoRow dd_NoRow m0_NoRow m1_NoRow m2_NoRow m3_NoRow m5_NoRow "ValueError.__new__"))
    (sa_NoRow : PySem.W.findIn K (.ref C_NoRow) "__setattr__" = some (some (.builtin "object.__setattr__"))) (ga_NoRow : PySem.W.findIn K (.ref C_NoRow) "__getattribute__" = some (some (.builtin "BaseException.__getattribute__"))) (gg_NoRow : PySem.W.findIn K (.ref C_NoRow) "__getattr__" = some none) (no_NoRow : PySem.W.findIn K (.ref C_NoRow) "at" = some none)
    (ex_NoRow : PySem.W.subIn K (.ref C_NoRow) (.type "BaseException") = some true) (hd_NoRow : PySem.W.hasDictIn K C_NoRow = true) (kc_NoRow : PySem.W.keepIn K (.ref C_NoRow) = true) (cc_NoRow : PySem.W.findIn K (.ref C_NoRow) "__class__" = some (some (.builtin "object.__class__"))) (mr_NoRow : PySem.W.mroIn K C_NoRow (.type "object") = some true) (sw_NoRow : PySem.W.subIn K (.ref C_NoRow) (.ref C_WaysError) = some true)
    (s_NoRow_InvalidStep : PySem.W.subIn K (.ref C_NoRow) (.ref C_InvalidStep) = some false)
    (s_NoRow_InvalidTrait : PySem.W.subIn K (.ref C_NoRow) (.ref C_InvalidTrait) = some false)
    (s_NoRow_InvalidExpr : PySem.W.subIn K (.ref C_NoRow) (.ref C_InvalidExpr) = some false)
    (s_NoRow_InvalidRow : PySem.W.subIn K (.ref C_NoRow) (.ref C_InvalidRow) = some false)
    (s_NoRow_InvalidText : PySem.W.subIn K (.ref C_NoRow) (.ref C_InvalidText) = some false)
    (s_NoRow_InvalidWorld : PySem.W.subIn K (.ref C_NoRow) (.ref C_InvalidWorld) = some false)
    (s_NoRow_InvalidStart : PySem.W.subIn K (.ref C_NoRow) (.ref C_InvalidStart) = some false)
    (s_NoRow_InvalidClaim : PySem.W.subIn K (.ref C_NoRow) (.ref C_InvalidClaim) = some false)
    (s_NoRow_NoName : PySem.W.subIn K (.ref C_NoRow) (.ref C_NoName) = some false)
    (s_NoRow_NoStep : PySem.W.subIn K (.ref C_NoRow) (.ref C_NoStep) = some false)
    (s_NoRow_NoRow : PySem.W.subIn K (.ref C_NoRow) (.ref C_NoRow) = some true)
    (s_NoRow_Impossible : PySem.W.subIn K (.ref C_NoRow) (.ref C_Impossible) = some false)
    (a_NoRow___init__ : PySem.W.findIn K (.ref C_NoRow) "__init__" = some (some (.ref f_NoRow___init__))) (t_NoRow___init__ : PySem.W.typeIn K (.ref f_NoRow___init__) = some (.type "function"))
    (l_NoRow___init__ : K.lookup f_NoRow___init__ = some ⟨oc_NoRow___init__, od_NoRow___init__, .func (PySem.W.fnOf "__init__" "NoRow.__init__" (defArgs s_NoRow___init__) (defBody s_NoRow___init__) (defScope s_NoRow___init__) .none kV_NoRow___init__ dc_NoRow___init__ pm_NoRow___init__ an_NoRow___init__ cd_NoRow___init__ ct_NoRow___init__), sl_NoRow___init__⟩)
    (c_NoRow___init__ : PySem.W.codeIn K cd_NoRow___init__ "NoRow.__init__" = true)
    (k_NoRow___init__ : PySem.W.keepIn K (.ref f_NoRow___init__) = true)
    (dx : ∀ A ∈ [C_InvalidStep, C_InvalidTrait, C_InvalidExpr, C_InvalidRow, C_InvalidText, C_InvalidWorld, C_InvalidStart, C_InvalidClaim, C_NoName, C_NoStep, C_NoRow, C_Impossible, C_WaysError], A ∉ [C_Step, C_Expr, C_Trait, C_Chain]) (de : [C_InvalidStep, C_InvalidTrait, C_InvalidExpr, C_InvalidRow, C_InvalidText, C_InvalidWorld, C_InvalidStart, C_InvalidClaim, C_NoName, C_NoStep, C_NoRow, C_Impossible, C_WaysError].Nodup)
    (m_LETTERS : PySem.W.nsIn K mainGlobals "LETTERS" = some (some (.str (Str.ofString "abcdefghijklmnopqrstuvwxyz") t_LETTERS)))
    (m_WAYS : PySem.W.nsIn K mainGlobals "WAYS" = some (some (.str (Str.ofString "+-?") t_WAYS)))
    (m_KW : PySem.W.nsIn K mainGlobals "KEPT_WORDS" = some (some (.ref a_KW)))
    (lk_KW : K.lookup a_KW = some ⟨.type "tuple", dd_KW, .seq #[.str (Str.ofString "if") t_kw1, .str (Str.ofString "else") t_kw2, .str (Str.ofString "end") t_kw3] nn_KW, sl_KW⟩)
    (m_CO : PySem.W.nsIn K mainGlobals "COUNTS" = some (some (.ref d_CO)))
    (lk_CO : K.lookup d_CO = some ⟨.type "dict", none, .dict es_CO n_CO, #[]⟩)
    (kl_CO : PySem.W.KeysLit w.params es_CO.toList)
    (lo_CO : (d_CO == sysModules) = false)
    (ea_CO : PL.EsAre es_CO.toList [("up", 1), ("down", 1), ("settled", 1), ("mean", 1), ("alike", 1), ("below", 2), ("back", 2)])
    (z_len : PySem.W.nsIn K mainGlobals "len" = some none)
    (z_range : PySem.W.nsIn K mainGlobals "range" = some none)
    (z_abs : PySem.W.nsIn K mainGlobals "abs" = some none)
    (z_isinstance : PySem.W.nsIn K mainGlobals "isinstance" = some none)
    (z_all : PySem.W.nsIn K mainGlobals "all" = some none)
    (z_zip : PySem.W.nsIn K mainGlobals "zip" = some none)
    (z_enumerate : PySem.W.nsIn K mainGlobals "enumerate" = some none)
    (z_min : PySem.W.nsIn K mainGlobals "min" = some none)
    (z_int : PySem.W.nsIn K mainGlobals "int" = some none)
    (z_str : PySem.W.nsIn K mainGlobals "str" = some none)
    (z_list : PySem.W.nsIn K mainGlobals "list" = some none)
    (z_tuple : PySem.W.nsIn K mainGlobals "tuple" = some none)
    (z_bool : PySem.W.nsIn K mainGlobals "bool" = some none)
    (z_sorted : PySem.W.nsIn K mainGlobals "sorted" = some none)
    (z_sum : PySem.W.nsIn K mainGlobals "sum" = some none)
    (z_ValueError : PySem.W.nsIn K mainGlobals "ValueError" = some none)
    (a_law : PySem.W.nsIn K mainGlobals "law" = some (some (.ref f_law)))
    (l_law : K.lookup f_law = some ⟨oc_law, od_law, .func (PySem.W.fnOf "law" "law" (defArgs s_law) (defBody s_law) (defScope s_law) .none kV_law dc_law pm_law an_law cd_law ct_law), sl_law⟩)
    (c_law : PySem.W.codeIn K cd_law "law" = true)
    (k_law : PySem.W.keepIn K (.ref f_law) = true) :
    ∃ fd : FuncData, (∀ (s : Shared) (v : Value), BindsTo s fd ⟨[v], []⟩ [("_law_script", v)]) ∧ ∀ base : Heap, K.In base → base.Ns mainGlobals mg → FnOk l.prog w K mg base CX0 21 fa fd ["_law_script"] (PL.spLaw K []) := by
  have e := hfa.symm.trans (PySem.W.mg_of X G a_law)
  cases e
  have B : Bi mg := { len := PySem.W.mg_none_of X G z_len, range := PySem.W.mg_none_of X G z_range, abs := PySem.W.mg_none_of X G z_abs, isinstance := PySem.W.mg_none_of X G z_isinstance, all := PySem.W.mg_none_of X G z_all, zip := PySem.W.mg_none_of X G z_zip, enumerate := PySem.W.mg_none_of X G z_enumerate, min := PySem.W.mg_none_of X G z_min, ty_int := PySem.W.mg_none_of X G z_int, ty_str := PySem.W.mg_none_of X G z_str, ty_list := PySem.W.mg_none_of X G z_list, ty_tuple := PySem.W.mg_none_of X G z_tuple, ty_bool := PySem.W.mg_none_of X G z_bool }
  have F_is_name := fun_mk (st := s_is_name) l_is_name c_is_name k_is_name
  have D_is_name : Df K mg "is_name" s_is_name ["word"] := ⟨_, _, F_is_name, PySem.W.mg_of X G a_is_name, k_is_name, F_is_name.binds (ps := ["word"]) fun _ _ _ _ _ _ us hl => match us, hl with | [_], _ => rfl⟩
  have F_are_ways := fun_mk (st := s_are_ways) l_are_ways c_are_ways k_are_ways
  have D_are_ways : Df K mg "are_ways" s_are_ways ["ways"] := ⟨_, _, F_are_ways, PySem.W.mg_of X G a_are_ways, k_are_ways, F_are_ways.binds (ps := ["ways"]) fun _ _ _ _ _ _ us hl => match us, hl with | [_], _ => rfl⟩
  have F_ways_fit := fun_mk (st := s_ways_fit) l_ways_fit c_ways_fit k_ways_fit
  have D_ways_fit : Df K mg "ways_fit" s_ways_fit ["word", "ways"] := ⟨_, _, F_ways_fit, PySem.W.mg_of X G a_ways_fit, k_ways_fit, F_ways_fit.binds (ps := ["word", "ways"]) fun _ _ _ _ _ _ us hl => match us, hl with | [_, _], _ => rfl⟩
  have F_all_steps := fun_mk (st := s_all_steps) l_all_steps c_all_steps k_all_steps
  have D_all_steps : Df K mg "all_steps" s_all_steps ["step", "parts"] := ⟨_, _, F_all_steps, PySem.W.mg_of X G a_all_steps, k_all_steps, F_all_steps.binds (ps := ["step", "parts"]) fun _ _ _ _ _ _ us hl => match us, hl with | [_, _], _ => rfl⟩
  have F_all_names := fun_mk (st := s_all_names) l_all_names c_all_names k_all_names
  have D_all_names : Df K mg "all_names" s_all_names ["parts"] := ⟨_, _, F_all_names, PySem.W.mg_of X G a_all_names, k_all_names, F_all_names.binds (ps := ["parts"]) fun _ _ _ _ _ _ us hl => match us, hl with | [_], _ => rfl⟩
  have F_text_of := fun_mk (st := s_text_of) l_text_of c_text_of k_text_of
  have D_text_of : Df K mg "text_of" s_text_of ["kind", "word", "step", "parts"] := ⟨_, _, F_text_of, PySem.W.mg_of X G a_text_of, k_text_of, F_text_of.binds (ps := ["kind", "word", "step", "parts"]) fun _ _ _ _ _ _ us hl => match us, hl with | [_, _, _, _], _ => rfl⟩
  have F_named := fun_mk (st := s_named) l_named c_named k_named
  have D_named : Df K mg "named" s_named ["word"] := ⟨_, _, F_named, PySem.W.mg_of X G a_named, k_named, F_named.binds (ps := ["word"]) fun _ _ _ _ _ _ us hl => match us, hl with | [_], _ => rfl⟩
  have F__law_feed := fun_mk (st := s__law_feed) l__law_feed c__law_feed k__law_feed
  have D__law_feed : Df K mg "_law_feed" s__law_feed ["_law_script", "_law_k"] := ⟨_, _, F__law_feed, PySem.W.mg_of X G a__law_feed, k__law_feed, F__law_feed.binds (ps := ["_law_script", "_law_k"]) fun _ _ _ _ _ _ us hl => match us, hl with | [_, _], _ => rfl⟩
  have F__law_draw := fun_mk (st := s__law_draw) l__law_draw c__law_draw k__law_draw
  have D__law_draw : Df K mg "_law_draw" s__law_draw ["_law_feed_here", "_law_many"] := ⟨_, _, F__law_draw, PySem.W.mg_of X G a__law_draw, k__law_draw, F__law_draw.binds (ps := ["_law_feed_here", "_law_many"]) fun _ _ _ _ _ _ us hl => match us, hl with | [_, _], _ => rfl⟩
  have F__law_pick := fun_mk (st := s__law_pick) l__law_pick c__law_pick k__law_pick
  have D__law_pick : Df K mg "_law_pick" s__law_pick ["_law_feed_here", "_law_items"] := ⟨_, _, F__law_pick, PySem.W.mg_of X G a__law_pick, k__law_pick, F__law_pick.binds (ps := ["_law_feed_here", "_law_items"]) fun _ _ _ _ _ _ us hl => match us, hl with | [_, _], _ => rfl⟩
  have F__law_word := fun_mk (st := s__law_word) l__law_word c__law_word k__law_word
  have D__law_word : Df K mg "_law_word" s__law_word ["_law_feed_here"] := ⟨_, _, F__law_word, PySem.W.mg_of X G a__law_word, k__law_word, F__law_word.binds (ps := ["_law_feed_here"]) fun _ _ _ _ _ _ us hl => match us, hl with | [_], _ => rfl⟩
  have F__law_same := fun_mk (st := s__law_same) l__law_same c__law_same k__law_same
  have D__law_same : Df K mg "_law_same" s__law_same ["_law_found", "_law_due"] := ⟨_, _, F__law_same, PySem.W.mg_of X G a__law_same, k__law_same, F__law_same.binds (ps := ["_law_found", "_law_due"]) fun _ _ _ _ _ _ us hl => match us, hl with | [_, _], _ => rfl⟩
  have F__law_sign := fun_mk (st := s__law_sign) l__law_sign c__law_sign k__law_sign
  have D__law_sign : Df K mg "_law_sign" s__law_sign ["_law_feed_here"] := ⟨_, _, F__law_sign, PySem.W.mg_of X G a__law_sign, k__law_sign, F__law_sign.binds (ps := ["_law_feed_here"]) fun _ _ _ _ _ _ us hl => match us, hl with | [_], _ => rfl⟩
  have F__law_bent := fun_mk (st := s__law_bent) l__law_bent c__law_bent k__law_bent
  have D__law_bent : Df K mg "_law_bent" s__law_bent ["_law_feed_here", "_law_text"] := ⟨_, _, F__law_bent, PySem.W.mg_of X G a__law_bent, k__law_bent, F__law_bent.binds (ps := ["_law_feed_here", "_law_text"]) fun _ _ _ _ _ _ us hl => match us, hl with | [_, _], _ => rfl⟩
  have F__law_near_name := fun_mk (st := s__law_near_name) l__law_near_name c__law_near_name k__law_near_name
  have D__law_near_name : Df K mg "_law_near_name" s__law_near_name ["_law_feed_here"] := ⟨_, _, F__law_near_name, PySem.W.mg_of X G a__law_near_name, k__law_near_name, F__law_near_name.binds (ps := ["_law_feed_here"]) fun _ _ _ _ _ _ us hl => match us, hl with | [_], _ => rfl⟩
  have F__law_any := fun_mk (st := s__law_any) l__law_any c__law_any k__law_any
  have D__law_any : Df K mg "_law_any" s__law_any ["_law_feed_here", "_law_deep"] := ⟨_, _, F__law_any, PySem.W.mg_of X G a__law_any, k__law_any, F__law_any.binds (ps := ["_law_feed_here", "_law_deep"]) fun _ _ _ _ _ _ us hl => match us, hl with | [_, _], _ => rfl⟩
  have F__law_ways := fun_mk (st := s__law_ways) l__law_ways c__law_ways k__law_ways
  have D__law_ways : Df K mg "_law_ways" s__law_ways ["_law_feed_here"] := ⟨_, _, F__law_ways, PySem.W.mg_of X G a__law_ways, k__law_ways, F__law_ways.binds (ps := ["_law_feed_here"]) fun _ _ _ _ _ _ us hl => match us, hl with | [_], _ => rfl⟩
  have F__law_refused := fun_mk (st := s__law_refused) l__law_refused c__law_refused k__law_refused
  have D__law_refused : Df K mg "_law_refused" s__law_refused ["_law_e"] := ⟨_, _, F__law_refused, PySem.W.mg_of X G a__law_refused, k__law_refused, F__law_refused.binds (ps := ["_law_e"]) fun _ _ _ _ _ _ us hl => match us, hl with | [_], _ => rfl⟩
  have F__law_errors := fun_mk (st := s__law_errors) l__law_errors c__law_errors k__law_errors
  have D__law_errors : Df K mg "_law_errors" s__law_errors ["_law_value"] := ⟨_, _, F__law_errors, PySem.W.mg_of X G a__law_errors, k__law_errors, F__law_errors.binds (ps := ["_law_value"]) fun _ _ _ _ _ _ us hl => match us, hl with | [_], _ => rfl⟩
  have F__law_kept := fun_mk (st := s__law_kept) l__law_kept c__law_kept k__law_kept
  have D__law_kept : Df K mg "_law_kept" s__law_kept ["_law_errors_here"] := ⟨_, _, F__law_kept, PySem.W.mg_of X G a__law_kept, k__law_kept, F__law_kept.binds (ps := ["_law_errors_here"]) fun _ _ _ _ _ _ us hl => match us, hl with | [_], _ => rfl⟩
  have cl_Step : Cls K C_Step := ⟨pg_Step, hd_Step, po_Step, sa_Step⟩
  have F_Step___init__ := fun_mk (st := s_Step___init__) l_Step___init__ c_Step___init__ k_Step___init__
  have D_Step___init__ : Dc K mg C_Step "Step" "Step.__init__" s_Step___init__ ["self", "name", "ways"] := ⟨_, _, ⟨mk_Step, a_Step___init__, i_Step___init__, kc_Step⟩, PySem.W.mg_of X G a_Step, F_Step___init__, F_Step___init__.binds (ps := ["self", "name", "ways"]) fun _ _ _ _ _ _ us hl => match us, hl with | [_, _, _], _ => rfl⟩
  have F_Step___eq__ := fun_mk (st := s_Step___eq__) l_Step___eq__ c_Step___eq__ k_Step___eq__
  have D_Step___eq__ : Dm K C_Step "__eq__" "Step.__eq__" s_Step___eq__ ["self", "other"] := ⟨_, _, cl_Step, ⟨a_Step___eq__, i_Step___eq__, k_Step___eq__⟩, F_Step___eq__, F_Step___eq__.binds (ps := ["self", "other"]) fun _ _ _ _ _ _ us hl => match us, hl with | [_, _], _ => rfl⟩
  have cl_Expr : Cls K C_Expr := ⟨pg_Expr, hd_Expr, po_Expr, sa_Expr⟩
  have F_Expr___init__ := fun_mk (st := s_Expr___init__) l_Expr___init__ c_Expr___init__ k_Expr___init__
  have D_Expr___init__ : Dc K mg C_Expr "Expr" "Expr.__init__" s_Expr___init__ ["self", "kind", "word", "step", "parts"] := ⟨_, _, ⟨mk_Expr, a_Expr___init__, i_Expr___init__, kc_Expr⟩, PySem.W.mg_of X G a_Expr, F_Expr___init__, F_Expr___init__.binds (ps := ["self", "kind", "word", "step", "parts"]) fun _ _ _ _ _ _ us hl => match us, hl with | [_, _, _, _, _], _ => rfl⟩
  have F_Expr___eq__ := fun_mk (st := s_Expr___eq__) l_Expr___eq__ c_Expr___eq__ k_Expr___eq__
  have D_Expr___eq__ : Dm K C_Expr "__eq__" "Expr.__eq__" s_Expr___eq__ ["self", "other"] := ⟨_, _, cl_Expr, ⟨a_Expr___eq__, i_Expr___eq__, k_Expr___eq__⟩, F_Expr___eq__, F_Expr___eq__.binds (ps := ["self", "other"]) fun _ _ _ _ _ _ us hl => match us, hl with | [_, _], _ => rfl⟩
  have cl_Trait : Cls K C_Trait := ⟨pg_Trait, hd_Trait, po_Trait, sa_Trait⟩
  have F_Trait___init__ := fun_mk (st := s_Trait___init__) l_Trait___init__ c_Trait___init__ k_Trait___init__
  have D_Trait___init__ : Ds K mg C_Trait "Trait" "Trait.__init__" s_Trait___init__ ["self", "word"] "steps" := ⟨_, _, ⟨mk_Trait, a_Trait___init__, i_Trait___init__, kc_Trait⟩, PySem.W.mg_of X G a_Trait, F_Trait___init__, StX.bind_star2 (B := fun z => bindArgs _ ⟨z, []⟩) (fun _ _ => rfl) (fun _ _ _ _ => rfl)⟩
  have F_Trait___eq__ := fun_mk (st := s_Trait___eq__) l_Trait___eq__ c_Trait___eq__ k_Trait___eq__
  have D_Trait___eq__ : Dm K C_Trait "__eq__" "Trait.__eq__" s_Trait___eq__ ["self", "other"] := ⟨_, _, cl_Trait, ⟨a_Trait___eq__, i_Trait___eq__, k_Trait___eq__⟩, F_Trait___eq__, F_Trait___eq__.binds (ps := ["self", "other"]) fun _ _ _ _ _ _ us hl => match us, hl with | [_, _], _ => rfl⟩
  have F_Trait___str__ := fun_mk (st := s_Trait___str__) l_Trait___str__ c_Trait___str__ k_Trait___str__
  have D_Trait___str__ : Dm K C_Trait "__str__" "Trait.__str__" s_Trait___str__ ["self"] := ⟨_, _, cl_Trait, ⟨a_Trait___str__, i_Trait___str__, k_Trait___str__⟩, F_Trait___str__, F_Trait___str__.binds (ps := ["self"]) fun _ _ _ _ _ _ us hl => match us, hl with | [_], _ => rfl⟩
  have cl_Chain : Cls K C_Chain := ⟨pg_Chain, hd_Chain, po_Chain, sa_Chain⟩
  have F_Chain___init__ := fun_mk (st := s_Chain___init__) l_Chain___init__ c_Chain___init__ k_Chain___init__
  have D_Chain___init__ : Ds K mg C_Chain "Chain" "Chain.__init__" s_Chain___init__ ["self"] "steps" := ⟨_, _, ⟨mk_Chain, a_Chain___init__, i_Chain___init__, kc_Chain⟩, PySem.W.mg_of X G a_Chain, F_Chain___init__, StX.bind_star1 (B := fun z => bindArgs _ ⟨z, []⟩) (fun _ => rfl) (fun _ _ _ => rfl)⟩
  have F_Chain___eq__ := fun_mk (st := s_Chain___eq__) l_Chain___eq__ c_Chain___eq__ k_Chain___eq__
  have D_Chain___eq__ : Dm K C_Chain "__eq__" "Chain.__eq__" s_Chain___eq__ ["self", "other"] := ⟨_, _, cl_Chain, ⟨a_Chain___eq__, i_Chain___eq__, k_Chain___eq__⟩, F_Chain___eq__, F_Chain___eq__.binds (ps := ["self", "other"]) fun _ _ _ _ _ _ us hl => match us, hl with | [_, _], _ => rfl⟩
  have CF_Step : PL.CF K 0 C_Step [] := ⟨cl_Step, by intro f hf; simp only [PL.an, List.mem_cons, List.not_mem_nil, or_false] at hf; rcases hf with rfl | rfl <;> assumption, ca_Step, ⟨_, _, _, _, lk_Step, mq_Step⟩, tt_Step⟩
  have CF_Expr : PL.CF K 1 C_Expr [] := ⟨cl_Expr, by intro f hf; simp only [PL.an, List.mem_cons, List.not_mem_nil, or_false] at hf; rcases hf with rfl | rfl | rfl | rfl | rfl | rfl | rfl | rfl <;> assumption, ca_Expr, ⟨_, _, _, _, lk_Expr, mq_Expr⟩, tt_Expr⟩
  have CF_Trait : PL.CF K 2 C_Trait [] := ⟨cl_Trait, by intro f hf; simp only [PL.an, List.mem_cons, List.not_mem_nil, or_false] at hf; rcases hf with rfl | rfl <;> assumption, ca_Trait, ⟨_, _, _, _, lk_Trait, mq_Trait⟩, tt_Trait⟩
  have CF_Chain : PL.CF K 3 C_Chain [] := ⟨cl_Chain, by intro f hf; simp only [PL.an, List.mem_cons, List.not_mem_nil, or_false] at hf; rcases hf with rfl <;> assumption, ca_Chain, ⟨_, _, _, _, lk_Chain, mq_Chain⟩, tt_Chain⟩
  have RN : RfN mg (csOf [C_InvalidStep, C_InvalidTrait, C_InvalidExpr, C_InvalidRow, C_InvalidText, C_InvalidWorld, C_InvalidStart, C_InvalidClaim, C_NoName, C_NoStep, C_NoRow, C_Impossible]) := ⟨PySem.W.mg_of X G a_InvalidStep, PySem.W.mg_of X G a_InvalidTrait, PySem.W.mg_of X G a_InvalidExpr, PySem.W.mg_of X G a_InvalidRow, PySem.W.mg_of X G a_InvalidText, PySem.W.mg_of X G a_InvalidWorld, PySem.W.mg_of X G a_InvalidStart, PySem.W.mg_of X G a_InvalidClaim, PySem.W.mg_of X G a_NoName, PySem.W.mg_of X G a_NoStep, PySem.W.mg_of X G a_NoRow, PySem.W.mg_of X G a_Impossible⟩
  have EC_Impossible : L2.ExcC K C_Impossible := ⟨ga_Impossible, gg_Impossible, ex_Impossible, hd_Impossible, cc_Impossible, sg_cls, tk_cls, mr_Impossible⟩
  have EC_WaysError : L2.ExcC K C_WaysError := ⟨ga_WaysError, gg_WaysError, ex_WaysError, hd_WaysError, cc_WaysError, sg_cls, tk_cls, mr_WaysError⟩
  have F_InvalidStep___init__ := fun_mk (st := s_InvalidStep___init__) l_InvalidStep___init__ c_InvalidStep___init__ k_InvalidStep___init__
  have EC_InvalidStep : L2.ExcC K C_InvalidStep := ⟨ga_InvalidStep, gg_InvalidStep, ex_InvalidStep, hd_InvalidStep, cc_InvalidStep, sg_cls, tk_cls, mr_InvalidStep⟩
  have T_InvalidStep : ErC K mg "InvalidStep" "word" C_InvalidStep := ⟨⟨⟨_, _, _, _, _, _, _, _, _, _, _, _, _, _, _, x_InvalidStep, refsVE_one _⟩, sa_InvalidStep, ex_InvalidStep, ty_InvalidStep, kc_InvalidStep⟩, EC_InvalidStep, no_InvalidStep, PySem.W.mg_of X G a_InvalidStep⟩
  have RD_InvalidStep : RfD K (csOf [C_InvalidStep, C_InvalidTrait, C_InvalidExpr, C_InvalidRow, C_InvalidText, C_InvalidWorld, C_InvalidStart, C_InvalidClaim, C_NoName, C_NoStep, C_NoRow, C_Impossible]) C_InvalidStep 0 := ⟨EC_InvalidStep, by decide, fun i hi => match i, hi with | 0, _ => kit_of ic_InvalidStep ty_InvalidStep s_InvalidStep_InvalidStep s_InvalidStep_InvalidStep | 1, _ => kit_of ic_InvalidTrait ty_InvalidTrait s_InvalidStep_InvalidTrait s_InvalidStep_InvalidStep | 2, _ => kit_of ic_InvalidExpr ty_InvalidExpr s_InvalidStep_InvalidExpr s_InvalidStep_InvalidStep | 3, _ => kit_of ic_InvalidRow ty_InvalidRow s_InvalidStep_InvalidRow s_InvalidStep_InvalidStep | 4, _ => kit_of ic_InvalidText ty_InvalidText s_InvalidStep_InvalidText s_InvalidStep_InvalidStep | 5, _ => kit_of ic_InvalidWorld ty_InvalidWorld s_InvalidStep_InvalidWorld s_InvalidStep_InvalidStep | 6, _ => kit_of ic_InvalidStart ty_InvalidStart s_InvalidStep_InvalidStart s_InvalidStep_InvalidStep | 7, _ => kit_of ic_InvalidClaim ty_InvalidClaim s_InvalidStep_InvalidClaim s_InvalidStep_InvalidStep | 8, _ => kit_of ic_NoName ty_NoName s_InvalidStep_NoName s_InvalidStep_InvalidStep | 9, _ => kit_of ic_NoStep ty_NoStep s_InvalidStep_NoStep s_InvalidStep_InvalidStep | 10, _ => kit_of ic_NoRow ty_NoRow s_InvalidStep_NoRow s_InvalidStep_InvalidStep | 11, _ => kit_of ic_Impossible ty_Impossible s_InvalidStep_Impossible s_InvalidStep_InvalidStep⟩
  have XE_InvalidStep : PySem.W.exmOne K (.ref C_InvalidStep) (.ref C_WaysError) = some true := PySem.W.exm_ref ex_WaysError hd_WaysError ty_WaysError sw_InvalidStep
  have bI_InvalidStep := F_InvalidStep___init__.binds (ps := ["self", "word"]) fun _ _ _ _ _ _ us hl => match us, hl with | [_, _], _ => rfl
  have F_InvalidTrait___init__ := fun_mk (st := s_InvalidTrait___init__) l_InvalidTrait___init__ c_InvalidTrait___init__ k_InvalidTrait___init__
  have EC_InvalidTrait : L2.ExcC K C_InvalidTrait := ⟨ga_InvalidTrait, gg_InvalidTrait, ex_InvalidTrait, hd_InvalidTrait, cc_InvalidTrait, sg_cls, tk_cls, mr_InvalidTrait⟩
  have T_InvalidTrait : ErC K mg "InvalidTrait" "word" C_InvalidTrait := ⟨⟨⟨_, _, _, _, _, _, _, _, _, _, _, _, _, _, _, x_InvalidTrait, refsVE_one _⟩, sa_InvalidTrait, ex_InvalidTrait, ty_InvalidTrait, kc_InvalidTrait⟩, EC_InvalidTrait, no_InvalidTrait, PySem.W.mg_of X G a_InvalidTrait⟩
  have RD_InvalidTrait : RfD K (csOf [C_InvalidStep, C_InvalidTrait, C_InvalidExpr, C_InvalidRow, C_InvalidText, C_InvalidWorld, C_InvalidStart, C_InvalidClaim, C_NoName, C_NoStep, C_NoRow, C_Impossible]) C_InvalidTrait 1 := ⟨EC_InvalidTrait, by decide, fun i hi => match i, hi with | 0, _ => kit_of ic_InvalidStep ty_InvalidStep s_InvalidTrait_InvalidStep s_InvalidTrait_InvalidTrait | 1, _ => kit_of ic_InvalidTrait ty_InvalidTrait s_InvalidTrait_InvalidTrait s_InvalidTrait_InvalidTrait | 2, _ => kit_of ic_InvalidExpr ty_InvalidExpr s_InvalidTrait_InvalidExpr s_InvalidTrait_InvalidTrait | 3, _ => kit_of ic_InvalidRow ty_InvalidRow s_InvalidTrait_InvalidRow s_InvalidTrait_InvalidTrait | 4, _ => kit_of ic_InvalidText ty_InvalidText s_InvalidTrait_InvalidText s_InvalidTrait_InvalidTrait | 5, _ => kit_of ic_InvalidWorld ty_InvalidWorld s_InvalidTrait_InvalidWorld s_InvalidTrait_InvalidTrait | 6, _ => kit_of ic_InvalidStart ty_InvalidStart s_InvalidTrait_InvalidStart s_InvalidTrait_InvalidTrait | 7, _ => kit_of ic_InvalidClaim ty_InvalidClaim s_InvalidTrait_InvalidClaim s_InvalidTrait_InvalidTrait | 8, _ => kit_of ic_NoName ty_NoName s_InvalidTrait_NoName s_InvalidTrait_InvalidTrait | 9, _ => kit_of ic_NoStep ty_NoStep s_InvalidTrait_NoStep s_InvalidTrait_InvalidTrait | 10, _ => kit_of ic_NoRow ty_NoRow s_InvalidTrait_NoRow s_InvalidTrait_InvalidTrait | 11, _ => kit_of ic_Impossible ty_Impossible s_InvalidTrait_Impossible s_InvalidTrait_InvalidTrait⟩
  have XE_InvalidTrait : PySem.W.exmOne K (.ref C_InvalidTrait) (.ref C_WaysError) = some true := PySem.W.exm_ref ex_WaysError hd_WaysError ty_WaysError sw_InvalidTrait
  have bI_InvalidTrait := F_InvalidTrait___init__.binds (ps := ["self", "word"]) fun _ _ _ _ _ _ us hl => match us, hl with | [_, _], _ => rfl
  have F_InvalidExpr___init__ := fun_mk (st := s_InvalidExpr___init__) l_InvalidExpr___init__ c_InvalidExpr___init__ k_InvalidExpr___init__
  have EC_InvalidExpr : L2.ExcC K C_InvalidExpr := ⟨ga_InvalidExpr, gg_InvalidExpr, ex_InvalidExpr, hd_InvalidExpr, cc_InvalidExpr, sg_cls, tk_cls, mr_InvalidExpr⟩
  have T_InvalidExpr : ErC K mg "InvalidExpr" "word" C_InvalidExpr := ⟨⟨⟨_, _, _, _, _, _, _, _, _, _, _, _, _, _, _, x_InvalidExpr, refsVE_one _⟩, sa_InvalidExpr, ex_InvalidExpr, ty_InvalidExpr, kc_InvalidExpr⟩, EC_InvalidExpr, no_InvalidExpr, PySem.W.mg_of X G a_InvalidExpr⟩
  have RD_InvalidExpr : RfD K (csOf [C_InvalidStep, C_InvalidTrait, C_InvalidExpr, C_InvalidRow, C_InvalidText, C_InvalidWorld, C_InvalidStart, C_InvalidClaim, C_NoName, C_NoStep, C_NoRow, C_Impossible]) C_InvalidExpr 2 := ⟨EC_InvalidExpr, by decide, fun i hi => match i, hi with | 0, _ => kit_of ic_InvalidStep ty_InvalidStep s_InvalidExpr_InvalidStep s_InvalidExpr_InvalidExpr | 1, _ => kit_of ic_InvalidTrait ty_InvalidTrait s_InvalidExpr_InvalidTrait s_InvalidExpr_InvalidExpr | 2, _ => kit_of ic_InvalidExpr ty_InvalidExpr s_InvalidExpr_InvalidExpr s_InvalidExpr_InvalidExpr | 3, _ => kit_of ic_InvalidRow ty_InvalidRow s_InvalidExpr_InvalidRow s_InvalidExpr_InvalidExpr | 4, _ => kit_of ic_InvalidText ty_InvalidText s_InvalidExpr_InvalidText s_InvalidExpr_InvalidExpr | 5, _ => kit_of ic_InvalidWorld ty_InvalidWorld s_InvalidExpr_InvalidWorld s_InvalidExpr_InvalidExpr | 6, _ => kit_of ic_InvalidStart ty_InvalidStart s_InvalidExpr_InvalidStart s_InvalidExpr_InvalidExpr | 7, _ => kit_of ic_InvalidClaim ty_InvalidClaim s_InvalidExpr_InvalidClaim s_InvalidExpr_InvalidExpr | 8, _ => kit_of ic_NoName ty_NoName s_InvalidExpr_NoName s_InvalidExpr_InvalidExpr | 9, _ => kit_of ic_NoStep ty_NoStep s_InvalidExpr_NoStep s_InvalidExpr_InvalidExpr | 10, _ => kit_of ic_NoRow ty_NoRow s_InvalidExpr_NoRow s_InvalidExpr_InvalidExpr | 11, _ => kit_of ic_Impossible ty_Impossible s_InvalidExpr_Impossible s_InvalidExpr_InvalidExpr⟩
  have XE_InvalidExpr : PySem.W.exmOne K (.ref C_InvalidExpr) (.ref C_WaysError) = some true := PySem.W.exm_ref ex_WaysError hd_WaysError ty_WaysError sw_InvalidExpr
  have bI_InvalidExpr := F_InvalidExpr___init__.binds (ps := ["self", "word"]) fun _ _ _ _ _ _ us hl => match us, hl with | [_, _], _ => rfl
  have F_InvalidRow___init__ := fun_mk (st := s_InvalidRow___init__) l_InvalidRow___init__ c_InvalidRow___init__ k_InvalidRow___init__
  have EC_InvalidRow : L2.ExcC K C_InvalidRow := ⟨ga_InvalidRow, gg_InvalidRow, ex_InvalidRow, hd_InvalidRow, cc_InvalidRow, sg_cls, tk_cls, mr_InvalidRow⟩
  have T_InvalidRow : ErC K mg "InvalidRow" "word" C_InvalidRow := ⟨⟨⟨_, _, _, _, _, _, _, _, _, _, _, _, _, _, _, x_InvalidRow, refsVE_one _⟩, sa_InvalidRow, ex_InvalidRow, ty_InvalidRow, kc_InvalidRow⟩, EC_InvalidRow, no_InvalidRow, PySem.W.mg_of X G a_InvalidRow⟩
  have RD_InvalidRow : RfD K (csOf [C_InvalidStep, C_InvalidTrait, C_InvalidExpr, C_InvalidRow, C_InvalidText, C_InvalidWorld, C_InvalidStart, C_InvalidClaim, C_NoName, C_NoStep, C_NoRow, C_Impossible]) C_InvalidRow 3 := ⟨EC_InvalidRow, by decide, fun i hi => match i, hi with | 0, _ => kit_of ic_InvalidStep ty_InvalidStep s_InvalidRow_InvalidStep s_InvalidRow_InvalidRow | 1, _ => kit_of ic_InvalidTrait ty_InvalidTrait s_InvalidRow_InvalidTrait s_InvalidRow_InvalidRow | 2, _ => kit_of ic_InvalidExpr ty_InvalidExpr s_InvalidRow_InvalidExpr s_InvalidRow_InvalidRow | 3, _ => kit_of ic_InvalidRow ty_InvalidRow s_InvalidRow_InvalidRow s_InvalidRow_InvalidRow | 4, _ => kit_of ic_InvalidText ty_InvalidText s_InvalidRow_InvalidText s_InvalidRow_InvalidRow | 5, _ => kit_of ic_InvalidWorld ty_InvalidWorld s_InvalidRow_InvalidWorld s_InvalidRow_InvalidRow | 6, _ => kit_of ic_InvalidStart ty_InvalidStart s_InvalidRow_InvalidStart s_InvalidRow_InvalidRow | 7, _ => kit_of ic_InvalidClaim ty_InvalidClaim s_InvalidRow_InvalidClaim s_InvalidRow_InvalidRow | 8, _ => kit_of ic_NoName ty_NoName s_InvalidRow_NoName s_InvalidRow_InvalidRow | 9, _ => kit_of ic_NoStep ty_NoStep s_InvalidRow_NoStep s_InvalidRow_InvalidRow | 10, _ => kit_of ic_NoRow ty_NoRow s_InvalidRow_NoRow s_InvalidRow_InvalidRow | 11, _ => kit_of ic_Impossible ty_Impossible s_InvalidRow_Impossible s_InvalidRow_InvalidRow⟩
  have XE_InvalidRow : PySem.W.exmOne K (.ref C_InvalidRow) (.ref C_WaysError) = some true := PySem.W.exm_ref ex_WaysError hd_WaysError ty_WaysError sw_InvalidRow
  have bI_InvalidRow := F_InvalidRow___init__.binds (ps := ["self", "word"]) fun _ _ _ _ _ _ us hl => match us, hl with | [_, _], _ => rfl
  have F_InvalidText___init__ := fun_mk (st := s_InvalidText___init__) l_InvalidText___init__ c_InvalidText___init__ k_InvalidText___init__
  have EC_InvalidText : L2.ExcC K C_InvalidText := ⟨ga_InvalidText, gg_InvalidText, ex_InvalidText, hd_InvalidText, cc_InvalidText, sg_cls, tk_cls, mr_InvalidText⟩
  have T_InvalidText : ErC K mg "InvalidText" "at" C_InvalidText := ⟨⟨⟨_, _, _, _, _, _, _, _, _, _, _, _, _, _, _, x_InvalidText, refsVE_one _⟩, sa_InvalidText, ex_InvalidText, ty_InvalidText, kc_InvalidText⟩, EC_InvalidText, no_InvalidText, PySem.W.mg_of X G a_InvalidText⟩
  have RD_InvalidText : RfD K (csOf [C_InvalidStep, C_InvalidTrait, C_InvalidExpr, C_InvalidRow, C_InvalidText, C_InvalidWorld, C_InvalidStart, C_InvalidClaim, C_NoName, C_NoStep, C_NoRow, C_Impossible]) C_InvalidText 4 := ⟨EC_InvalidText, by decide, fun i hi => match i, hi with | 0, _ => kit_of ic_InvalidStep ty_InvalidStep s_InvalidText_InvalidStep s_InvalidText_InvalidText | 1, _ => kit_of ic_InvalidTrait ty_InvalidTrait s_InvalidText_InvalidTrait s_InvalidText_InvalidText | 2, _ => kit_of ic_InvalidExpr ty_InvalidExpr s_InvalidText_InvalidExpr s_InvalidText_InvalidText | 3, _ => kit_of ic_InvalidRow ty_InvalidRow s_InvalidText_InvalidRow s_InvalidText_InvalidText | 4, _ => kit_of ic_InvalidText ty_InvalidText s_InvalidText_InvalidText s_InvalidText_InvalidText | 5, _ => kit_of ic_InvalidWorld ty_InvalidWorld s_InvalidText_InvalidWorld s_InvalidText_InvalidText | 6, _ => kit_of ic_InvalidStart ty_InvalidStart s_InvalidText_InvalidStart s_InvalidText_InvalidText | 7, _ => kit_of ic_InvalidClaim ty_InvalidClaim s_InvalidText_InvalidClaim s_InvalidText_InvalidText | 8, _ => kit_of ic_NoName ty_NoName s_InvalidText_NoName s_InvalidText_InvalidText | 9, _ => kit_of ic_NoStep ty_NoStep s_InvalidText_NoStep s_InvalidText_InvalidText | 10, _ => kit_of ic_NoRow ty_NoRow s_InvalidText_NoRow s_InvalidText_InvalidText | 11, _ => kit_of ic_Impossible ty_Impossible s_InvalidText_Impossible s_InvalidText_InvalidText⟩
  have XE_InvalidText : PySem.W.exmOne K (.ref C_InvalidText) (.ref C_WaysError) = some true := PySem.W.exm_ref ex_WaysError hd_WaysError ty_WaysError sw_InvalidText
  have bI_InvalidText := F_InvalidText___init__.binds (ps := ["self", "at"]) fun _ _ _ _ _ _ us hl => match us, hl with | [_, _], _ => rfl
  have F_InvalidWorld___init__ := fun_mk (st := s_InvalidWorld___init__) l_InvalidWorld___init__ c_InvalidWorld___init__ k_InvalidWorld___init__
  have EC_InvalidWorld : L2.ExcC K C_InvalidWorld := ⟨ga_InvalidWorld, gg_InvalidWorld, ex_InvalidWorld, hd_InvalidWorld, cc_InvalidWorld, sg_cls, tk_cls, mr_InvalidWorld⟩
  have T_InvalidWorld : ErC K mg "InvalidWorld" "word" C_InvalidWorld := ⟨⟨⟨_, _, _, _, _, _, _, _, _, _, _, _, _, _, _, x_InvalidWorld, refsVE_one _⟩, sa_InvalidWorld, ex_InvalidWorld, ty_InvalidWorld, kc_InvalidWorld⟩, EC_InvalidWorld, no_InvalidWorld, PySem.W.mg_of X G a_InvalidWorld⟩
  have RD_InvalidWorld : RfD K (csOf [C_InvalidStep, C_InvalidTrait, C_InvalidExpr, C_InvalidRow, C_InvalidText, C_InvalidWorld, C_InvalidStart, C_InvalidClaim, C_NoName, C_NoStep, C_NoRow, C_Impossible]) C_InvalidWorld 5 := ⟨EC_InvalidWorld, by decide, fun i hi => match i, hi with | 0, _ => kit_of ic_InvalidStep ty_InvalidStep s_InvalidWorld_InvalidStep s_InvalidWorld_InvalidWorld | 1, _ => kit_of ic_InvalidTrait ty_InvalidTrait s_InvalidWorld_InvalidTrait s_InvalidWorld_InvalidWorld | 2, _ => kit_of ic_InvalidExpr ty_InvalidExpr s_InvalidWorld_InvalidExpr s_InvalidWorld_InvalidWorld | 3, _ => kit_of ic_InvalidRow ty_InvalidRow s_InvalidWorld_InvalidRow s_InvalidWorld_InvalidWorld | 4, _ => kit_of ic_InvalidText ty_InvalidText s_InvalidWorld_InvalidText s_InvalidWorld_InvalidWorld | 5, _ => kit_of ic_InvalidWorld ty_InvalidWorld s_InvalidWorld_InvalidWorld s_InvalidWorld_InvalidWorld | 6, _ => kit_of ic_InvalidStart ty_InvalidStart s_InvalidWorld_InvalidStart s_InvalidWorld_InvalidWorld | 7, _ => kit_of ic_InvalidClaim ty_InvalidClaim s_InvalidWorld_InvalidClaim s_InvalidWorld_InvalidWorld | 8, _ => kit_of ic_NoName ty_NoName s_InvalidWorld_NoName s_InvalidWorld_InvalidWorld | 9, _ => kit_of ic_NoStep ty_NoStep s_InvalidWorld_NoStep s_InvalidWorld_InvalidWorld | 10, _ => kit_of ic_NoRow ty_NoRow s_InvalidWorld_NoRow s_InvalidWorld_InvalidWorld | 11, _ => kit_of ic_Impossible ty_Impossible s_InvalidWorld_Impossible s_InvalidWorld_InvalidWorld⟩
  have XE_InvalidWorld : PySem.W.exmOne K (.ref C_InvalidWorld) (.ref C_WaysError) = some true := PySem.W.exm_ref ex_WaysError hd_WaysError ty_WaysError sw_InvalidWorld
  have bI_InvalidWorld := F_InvalidWorld___init__.binds (ps := ["self", "word"]) fun _ _ _ _ _ _ us hl => match us, hl with | [_, _], _ => rfl
  have F_InvalidStart___init__ := fun_mk (st := s_InvalidStart___init__) l_InvalidStart___init__ c_InvalidStart___init__ k_InvalidStart___init__
  have EC_InvalidStart : L2.ExcC K C_InvalidStart := ⟨ga_InvalidStart, gg_InvalidStart, ex_InvalidStart, hd_InvalidStart, cc_InvalidStart, sg_cls, tk_cls, mr_InvalidStart⟩
  have T_InvalidStart : ErC K mg "InvalidStart" "name" C_InvalidStart := ⟨⟨⟨_, _, _, _, _, _, _, _, _, _, _, _, _, _, _, x_InvalidStart, refsVE_one _⟩, sa_InvalidStart, ex_InvalidStart, ty_InvalidStart, kc_InvalidStart⟩, EC_InvalidStart, no_InvalidStart, PySem.W.mg_of X G a_InvalidStart⟩
  have RD_InvalidStart : RfD K (csOf [C_InvalidStep, C_InvalidTrait, C_InvalidExpr, C_InvalidRow, C_InvalidText, C_InvalidWorld, C_InvalidStart, C_InvalidClaim, C_NoName, C_NoStep, C_NoRow, C_Impossible]) C_InvalidStart 6 := ⟨EC_InvalidStart, by decide, fun i hi => match i, hi with | 0, _ => kit_of ic_InvalidStep ty_InvalidStep s_InvalidStart_InvalidStep s_InvalidStart_InvalidStart | 1, _ => kit_of ic_InvalidTrait ty_InvalidTrait s_InvalidStart_InvalidTrait s_InvalidStart_InvalidStart | 2, _ => kit_of ic_InvalidExpr ty_InvalidExpr s_InvalidStart_InvalidExpr s_InvalidStart_InvalidStart | 3, _ => kit_of ic_InvalidRow ty_InvalidRow s_InvalidStart_InvalidRow s_InvalidStart_InvalidStart | 4, _ => kit_of ic_InvalidText ty_InvalidText s_InvalidStart_InvalidText s_InvalidStart_InvalidStart | 5, _ => kit_of ic_InvalidWorld ty_InvalidWorld s_InvalidStart_InvalidWorld s_InvalidStart_InvalidStart | 6, _ => kit_of ic_InvalidStart ty_InvalidStart s_InvalidStart_InvalidStart s_InvalidStart_InvalidStart | 7, _ => kit_of ic_InvalidClaim ty_InvalidClaim s_InvalidStart_InvalidClaim s_InvalidStart_InvalidStart | 8, _ => kit_of ic_NoName ty_NoName s_InvalidStart_NoName s_InvalidStart_InvalidStart | 9, _ => kit_of ic_NoStep ty_NoStep s_InvalidStart_NoStep s_InvalidStart_InvalidStart | 10, _ => kit_of ic_NoRow ty_NoRow s_InvalidStart_NoRow s_InvalidStart_InvalidStart | 11, _ => kit_of ic_Impossible ty_Impossible s_InvalidStart_Impossible s_InvalidStart_InvalidStart⟩
  have XE_InvalidStart : PySem.W.exmOne K (.ref C_InvalidStart) (.ref C_WaysError) = some true := PySem.W.exm_ref ex_WaysError hd_WaysError ty_WaysError sw_InvalidStart
  have bI_InvalidStart := F_InvalidStart___init__.binds (ps := ["self", "name"]) fun _ _ _ _ _ _ us hl => match us, hl with | [_, _], _ => rfl
  have F_InvalidClaim___init__ := fun_mk (st := s_InvalidClaim___init__) l_InvalidClaim___init__ c_InvalidClaim___init__ k_InvalidClaim___init__
  have EC_InvalidClaim : L2.ExcC K C_InvalidClaim := ⟨ga_InvalidClaim, gg_InvalidClaim, ex_InvalidClaim, hd_InvalidClaim, cc_InvalidClaim, sg_cls, tk_cls, mr_InvalidClaim⟩
  have T_InvalidClaim : ErC K mg "InvalidClaim" "word" C_InvalidClaim := ⟨⟨⟨_, _, _, _, _, _, _, _, _, _, _, _, _, _, _, x_InvalidClaim, refsVE_one _⟩, sa_InvalidClaim, ex_InvalidClaim, ty_InvalidClaim, kc_InvalidClaim⟩, EC_InvalidClaim, no_InvalidClaim, PySem.W.mg_of X G a_InvalidClaim⟩
  have RD_InvalidClaim : RfD K (csOf [C_InvalidStep, C_InvalidTrait, C_InvalidExpr, C_InvalidRow, C_InvalidText, C_InvalidWorld, C_InvalidStart, C_InvalidClaim, C_NoName, C_NoStep, C_NoRow, C_Impossible]) C_InvalidClaim 7 := ⟨EC_InvalidClaim, by decide, fun i hi => match i, hi with | 0, _ => kit_of ic_InvalidStep ty_InvalidStep s_InvalidClaim_InvalidStep s_InvalidClaim_InvalidClaim | 1, _ => kit_of ic_InvalidTrait ty_InvalidTrait s_InvalidClaim_InvalidTrait s_InvalidClaim_InvalidClaim | 2, _ => kit_of ic_InvalidExpr ty_InvalidExpr s_InvalidClaim_InvalidExpr s_InvalidClaim_InvalidClaim | 3, _ => kit_of ic_InvalidRow ty_InvalidRow s_InvalidClaim_InvalidRow s_InvalidClaim_InvalidClaim | 4, _ => kit_of ic_InvalidText ty_InvalidText s_InvalidClaim_InvalidText s_InvalidClaim_InvalidClaim | 5, _ => kit_of ic_InvalidWorld ty_InvalidWorld s_InvalidClaim_InvalidWorld s_InvalidClaim_InvalidClaim | 6, _ => kit_of ic_InvalidStart ty_InvalidStart s_InvalidClaim_InvalidStart s_InvalidClaim_InvalidClaim | 7, _ => kit_of ic_InvalidClaim ty_InvalidClaim s_InvalidClaim_InvalidClaim s_InvalidClaim_InvalidClaim | 8, _ => kit_of ic_NoName ty_NoName s_InvalidClaim_NoName s_InvalidClaim_InvalidClaim | 9, _ => kit_of ic_NoStep ty_NoStep s_InvalidClaim_NoStep s_InvalidClaim_InvalidClaim | 10, _ => kit_of ic_NoRow ty_NoRow s_InvalidClaim_NoRow s_InvalidClaim_InvalidClaim | 11, _ => kit_of ic_Impossible ty_Impossible s_InvalidClaim_Impossible s_InvalidClaim_InvalidClaim⟩
  have XE_InvalidClaim : PySem.W.exmOne K (.ref C_InvalidClaim) (.ref C_WaysError) = some true := PySem.W.exm_ref ex_WaysError hd_WaysError ty_WaysError sw_InvalidClaim
  have bI_InvalidClaim := F_InvalidClaim___init__.binds (ps := ["self", "word"]) fun _ _ _ _ _ _ us hl => match us, hl with | [_, _], _ => rfl
  have F_NoName___init__ := fun_mk (st := s_NoName___init__) l_NoName___init__ c_NoName___init__ k_NoName___init__
  have EC_NoName : L2.ExcC K C_NoName := ⟨ga_NoName, gg_NoName, ex_NoName, hd_NoName, cc_NoName, sg_cls, tk_cls, mr_NoName⟩
  have T_NoName : ErC K mg "NoName" "name" C_NoName := ⟨⟨⟨_, _, _, _, _, _, _, _, _, _, _, _, _, _, _, x_NoName, refsVE_one _⟩, sa_NoName, ex_NoName, ty_NoName, kc_NoName⟩, EC_NoName, no_NoName, PySem.W.mg_of X G a_NoName⟩
  have RD_NoName : RfD K (csOf [C_InvalidStep, C_InvalidTrait, C_InvalidExpr, C_InvalidRow, C_InvalidText, C_InvalidWorld, C_InvalidStart, C_InvalidClaim, C_NoName, C_NoStep, C_NoRow, C_Impossible]) C_NoName 8 := ⟨EC_NoName, by decide, fun i hi => match i, hi with | 0, _ => kit_of ic_InvalidStep ty_InvalidStep s_NoName_InvalidStep s_NoName_NoName | 1, _ => kit_of ic_InvalidTrait ty_InvalidTrait s_NoName_InvalidTrait s_NoName_NoName | 2, _ => kit_of ic_InvalidExpr ty_InvalidExpr s_NoName_InvalidExpr s_NoName_NoName | 3, _ => kit_of ic_InvalidRow ty_InvalidRow s_NoName_InvalidRow s_NoName_NoName | 4, _ => kit_of ic_InvalidText ty_InvalidText s_NoName_InvalidText s_NoName_NoName | 5, _ => kit_of ic_InvalidWorld ty_InvalidWorld s_NoName_InvalidWorld s_NoName_NoName | 6, _ => kit_of ic_InvalidStart ty_InvalidStart s_NoName_InvalidStart s_NoName_NoName | 7, _ => kit_of ic_InvalidClaim ty_InvalidClaim s_NoName_InvalidClaim s_NoName_NoName | 8, _ => kit_of ic_NoName ty_NoName s_NoName_NoName s_NoName_NoName | 9, _ => kit_of ic_NoStep ty_NoStep s_NoName_NoStep s_NoName_NoName | 10, _ => kit_of ic_NoRow ty_NoRow s_NoName_NoRow s_NoName_NoName | 11, _ => kit_of ic_Impossible ty_Impossible s_NoName_Impossible s_NoName_NoName⟩
  have XE_NoName : PySem.W.exmOne K (.ref C_NoName) (.ref C_WaysError) = some true := PySem.W.exm_ref ex_WaysError hd_WaysError ty_WaysError sw_NoName
  have bI_NoName := F_NoName___init__.binds (ps := ["self", "name"]) fun _ _ _ _ _ _ us hl => match us, hl with | [_, _], _ => rfl
  have F_NoStep___init__ := fun_mk (st := s_NoStep___init__) l_NoStep___init__ c_NoStep___init__ k_NoStep___init__
  have EC_NoStep : L2.ExcC K C_NoStep := ⟨ga_NoStep, gg_NoStep, ex_NoStep, hd_NoStep, cc_NoStep, sg_cls, tk_cls, mr_NoStep⟩
  have T_NoStep : ErC K mg "NoStep" "name" C_NoStep := ⟨⟨⟨_, _, _, _, _, _, _, _, _, _, _, _, _, _, _, x_NoStep, refsVE_one _⟩, sa_NoStep, ex_NoStep, ty_NoStep, kc_NoStep⟩, EC_NoStep, no_NoStep, PySem.W.mg_of X G a_NoStep⟩
  have RD_NoStep : RfD K (csOf [C_InvalidStep, C_InvalidTrait, C_InvalidExpr, C_InvalidRow, C_InvalidText, C_InvalidWorld, C_InvalidStart, C_InvalidClaim, C_NoName, C_NoStep, C_NoRow, C_Impossible]) C_NoStep 9 := ⟨EC_NoStep, by decide, fun i hi => match i, hi with | 0, _ => kit_of ic_InvalidStep ty_InvalidStep s_NoStep_InvalidStep s_NoStep_NoStep | 1, _ => kit_of ic_InvalidTrait ty_InvalidTrait s_NoStep_InvalidTrait s_NoStep_NoStep | 2, _ => kit_of ic_InvalidExpr ty_InvalidExpr s_NoStep_InvalidExpr s_NoStep_NoStep | 3, _ => kit_of ic_InvalidRow ty_InvalidRow s_NoStep_InvalidRow s_NoStep_NoStep | 4, _ => kit_of ic_InvalidText ty_InvalidText s_NoStep_InvalidText s_NoStep_NoStep | 5, _ => kit_of ic_InvalidWorld ty_InvalidWorld s_NoStep_InvalidWorld s_NoStep_NoStep | 6, _ => kit_of ic_InvalidStart ty_InvalidStart s_NoStep_InvalidStart s_NoStep_NoStep | 7, _ => kit_of ic_InvalidClaim ty_InvalidClaim s_NoStep_InvalidClaim s_NoStep_NoStep | 8, _ => kit_of ic_NoName ty_NoName s_NoStep_NoName s_NoStep_NoStep | 9, _ => kit_of ic_NoStep ty_NoStep s_NoStep_NoStep s_NoStep_NoStep | 10, _ => kit_of ic_NoRow ty_NoRow s_NoStep_NoRow s_NoStep_NoStep | 11, _ => kit_of ic_Impossible ty_Impossible s_NoStep_Impossible s_NoStep_NoStep⟩
  have XE_NoStep : PySem.W.exmOne K (.ref C_NoStep) (.ref C_WaysError) = some true := PySem.W.exm_ref ex_WaysError hd_WaysError ty_WaysError sw_NoStep
  have bI_NoStep := F_NoStep___init__.binds (ps := ["self", "name"]) fun _ _ _ _ _ _ us hl => match us, hl with | [_, _], _ => rfl
  have F_NoRow___init__ := fun_mk (st := s_NoRow___init__) l_NoRow___init__ c_NoRow___init__ k_NoRow___init__
  have EC_NoRow : L2.ExcC K C_NoRow := ⟨ga_NoRow, gg_NoRow, ex_NoRow, hd_NoRow, cc_NoRow, sg_cls, tk_cls, mr_NoRow⟩
  have T_NoRow : ErC K mg "NoRow" "at" C_NoRow := ⟨⟨⟨_, _, _, _, _, _, _, _, _, _, _, _, _, _, _, x_NoRow, refsVE_one _⟩, sa_NoRow, ex_NoRow, ty_NoRow, kc_NoRow⟩, EC_NoRow, no_NoRow, PySem.W.mg_of X G a_NoRow⟩
  have RD_NoRow : RfD K (csOf [C_InvalidStep, C_InvalidTrait, C_InvalidExpr, C_InvalidRow, C_InvalidText, C_InvalidWorld, C_InvalidStart, C_InvalidClaim, C_NoName, C_NoStep, C_NoRow, C_Impossible]) C_NoRow 10 := ⟨EC_NoRow, by decide, fun i hi => match i, hi with | 0, _ => kit_of ic_InvalidStep ty_InvalidStep s_NoRow_InvalidStep s_NoRow_NoRow | 1, _ => kit_of ic_InvalidTrait ty_InvalidTrait s_NoRow_InvalidTrait s_NoRow_NoRow | 2, _ => kit_of ic_InvalidExpr ty_InvalidExpr s_NoRow_InvalidExpr s_NoRow_NoRow | 3, _ => kit_of ic_InvalidRow ty_InvalidRow s_NoRow_InvalidRow s_NoRow_NoRow | 4, _ => kit_of ic_InvalidText ty_InvalidText s_NoRow_InvalidText s_NoRow_NoRow | 5, _ => kit_of ic_InvalidWorld ty_InvalidWorld s_NoRow_InvalidWorld s_NoRow_NoRow | 6, _ => kit_of ic_InvalidStart ty_InvalidStart s_NoRow_InvalidStart s_NoRow_NoRow | 7, _ => kit_of ic_InvalidClaim ty_InvalidClaim s_NoRow_InvalidClaim s_NoRow_NoRow | 8, _ => kit_of ic_NoName ty_NoName s_NoRow_NoName s_NoRow_NoRow | 9, _ => kit_of ic_NoStep ty_NoStep s_NoRow_NoStep s_NoRow_NoRow | 10, _ => kit_of ic_NoRow ty_NoRow s_NoRow_NoRow s_NoRow_NoRow | 11, _ => kit_of ic_Impossible ty_Impossible s_NoRow_Impossible s_NoRow_NoRow⟩
  have XE_NoRow : PySem.W.exmOne K (.ref C_NoRow) (.ref C_WaysError) = some true := PySem.W.exm_ref ex_WaysError hd_WaysError ty_WaysError sw_NoRow
  have bI_NoRow := F_NoRow___init__.binds (ps := ["self", "at"]) fun _ _ _ _ _ _ us hl => match us, hl with | [_, _], _ => rfl
  have F_law := fun_mk (st := s_law) l_law c_law k_law
  refine ⟨PySem.W.fnOf "law" "law" (defArgs s_law) (defBody s_law) (defScope s_law) .none kV_law dc_law pm_law an_law cd_law ct_law, fun s v => .of_eq rfl, fun base _ _ => ?_⟩
  have B2 : Bi2 mg := ⟨PySem.W.mg_none_of X G z_sorted, PySem.W.mg_none_of X G z_sum⟩
  have hcs : ∀ (c : Nat) (C : Addr), ([some C_Step, some C_Expr, some C_Trait, some C_Chain] : List (Option Addr))[c]? = some (some C) → PL.CF K c C := by
    intro c C h
    match c, h with
    | 0, h => cases h; exact CF_Step
    | 1, h => cases h; exact CF_Expr
    | 2, h => cases h; exact CF_Trait
    | 3, h => cases h; exact CF_Chain
    | n + 4, h => simp at h
  have xf : PL.XFs K [some C_Step, some C_Expr, some C_Trait, some C_Chain] [C_InvalidStep, C_InvalidTrait, C_InvalidExpr, C_InvalidRow, C_InvalidText, C_InvalidWorld, C_InvalidStart, C_InvalidClaim, C_NoName, C_NoStep, C_NoRow, C_Impossible, C_WaysError] := ⟨rfl, de, by
    intro i D h
    match i, h with
    | 0, h => cases h; exact ⟨⟨_, by unfold PySem.W.clsIn; rw [x_InvalidStep], rfl⟩, ty_InvalidStep, EC_InvalidStep⟩
    | 1, h => cases h; exact ⟨⟨_, by unfold PySem.W.clsIn; rw [x_InvalidTrait], rfl⟩, ty_InvalidTrait, EC_InvalidTrait⟩
    | 2, h => cases h; exact ⟨⟨_, by unfold PySem.W.clsIn; rw [x_InvalidExpr], rfl⟩, ty_InvalidExpr, EC_InvalidExpr⟩
    | 3, h => cases h; exact ⟨⟨_, by unfold PySem.W.clsIn; rw [x_InvalidRow], rfl⟩, ty_InvalidRow, EC_InvalidRow⟩
    | 4, h => cases h; exact ⟨⟨_, by unfold PySem.W.clsIn; rw [x_InvalidText], rfl⟩, ty_InvalidText, EC_InvalidText⟩
    | 5, h => cases h; exact ⟨⟨_, by unfold PySem.W.clsIn; rw [x_InvalidWorld], rfl⟩, ty_InvalidWorld, EC_InvalidWorld⟩
    | 6, h => cases h; exact ⟨⟨_, by unfold PySem.W.clsIn; rw [x_InvalidStart], rfl⟩, ty_InvalidStart, EC_InvalidStart⟩
    | 7, h => cases h; exact ⟨⟨_, by unfold PySem.W.clsIn; rw [x_InvalidClaim], rfl⟩, ty_InvalidClaim, EC_InvalidClaim⟩
    | 8, h => cases h; exact ⟨⟨_, by unfold PySem.W.clsIn; rw [x_NoName], rfl⟩, ty_NoName, EC_NoName⟩
    | 9, h => cases h; exact ⟨⟨_, by unfold PySem.W.clsIn; rw [x_NoStep], rfl⟩, ty_NoStep, EC_NoStep⟩
    | 10, h => cases h; exact ⟨⟨_, by unfold PySem.W.clsIn; rw [x_NoRow], rfl⟩, ty_NoRow, EC_NoRow⟩
    | 11, h => cases h; exact ⟨⟨_, by unfold PySem.W.clsIn; rw [x_Impossible], rfl⟩, ty_Impossible, EC_Impossible⟩
    | 12, h => cases h; exact ⟨⟨_, by unfold PySem.W.clsIn; rw [x_WaysError], rfl⟩, ty_WaysError, EC_WaysError⟩
    | n + 13, h => simp at h
    , fun D hD i z => dx D hD (PL.mem_csE z)⟩
  have EO : PL.EvOk (PL.Om K [some C_Step, some C_Expr, some C_Trait, some C_Chain] [C_InvalidStep, C_InvalidTrait, C_InvalidExpr, C_InvalidRow, C_InvalidText, C_InvalidWorld, C_InvalidStart, C_InvalidClaim, C_NoName, C_NoStep, C_NoRow, C_Impossible, C_WaysError]) := PL.evOk_of xf sg_cls tk_cls hcs (PL.inj_of dj)
  have hs_Step : (PL.Om K [some C_Step, some C_Expr, some C_Trait, some C_Chain] [C_InvalidStep, C_InvalidTrait, C_InvalidExpr, C_InvalidRow, C_InvalidText, C_InvalidWorld, C_InvalidStart, C_InvalidClaim, C_NoName, C_NoStep, C_NoRow, C_Impossible, C_WaysError]).has 0 := ⟨C_Step, rfl⟩
  have H_Step : PL.HC (PL.Om K [some C_Step, some C_Expr, some C_Trait, some C_Chain] [C_InvalidStep, C_InvalidTrait, C_InvalidExpr, C_InvalidRow, C_InvalidText, C_InvalidWorld, C_InvalidStart, C_InvalidClaim, C_NoName, C_NoStep, C_NoRow, C_Impossible, C_WaysError]) mg "Step" 0 := ⟨PySem.W.mg_of X G a_Step, hs_Step⟩
  have hs_Expr : (PL.Om K [some C_Step, some C_Expr, some C_Trait, some C_Chain] [C_InvalidStep, C_InvalidTrait, C_InvalidExpr, C_InvalidRow, C_InvalidText, C_InvalidWorld, C_InvalidStart, C_InvalidClaim, C_NoName, C_NoStep, C_NoRow, C_Impossible, C_WaysError]).has 1 := ⟨C_Expr, rfl⟩
  have H_Expr : PL.HC (PL.Om K [some C_Step, some C_Expr, some C_Trait, some C_Chain] [C_InvalidStep, C_InvalidTrait, C_InvalidExpr, C_InvalidRow, C_InvalidText, C_InvalidWorld, C_InvalidStart, C_InvalidClaim, C_NoName, C_NoStep, C_NoRow, C_Impossible, C_WaysError]) mg "Expr" 1 := ⟨PySem.W.mg_of X G a_Expr, hs_Expr⟩
  have hs_Trait : (PL.Om K [some C_Step, some C_Expr, some C_Trait, some C_Chain] [C_InvalidStep, C_InvalidTrait, C_InvalidExpr, C_InvalidRow, C_InvalidText, C_InvalidWorld, C_InvalidStart, C_InvalidClaim, C_NoName, C_NoStep, C_NoRow, C_Impossible, C_WaysError]).has 2 := ⟨C_Trait, rfl⟩
  have H_Trait : PL.HC (PL.Om K [some C_Step, some C_Expr, some C_Trait, some C_Chain] [C_InvalidStep, C_InvalidTrait, C_InvalidExpr, C_InvalidRow, C_InvalidText, C_InvalidWorld, C_InvalidStart, C_InvalidClaim, C_NoName, C_NoStep, C_NoRow, C_Impossible, C_WaysError]) mg "Trait" 2 := ⟨PySem.W.mg_of X G a_Trait, hs_Trait⟩
  have hs_Chain : (PL.Om K [some C_Step, some C_Expr, some C_Trait, some C_Chain] [C_InvalidStep, C_InvalidTrait, C_InvalidExpr, C_InvalidRow, C_InvalidText, C_InvalidWorld, C_InvalidStart, C_InvalidClaim, C_NoName, C_NoStep, C_NoRow, C_Impossible, C_WaysError]).has 3 := ⟨C_Chain, rfl⟩
  have H_Chain : PL.HC (PL.Om K [some C_Step, some C_Expr, some C_Trait, some C_Chain] [C_InvalidStep, C_InvalidTrait, C_InvalidExpr, C_InvalidRow, C_InvalidText, C_InvalidWorld, C_InvalidStart, C_InvalidClaim, C_NoName, C_NoStep, C_NoRow, C_Impossible, C_WaysError]) mg "Chain" 3 := ⟨PySem.W.mg_of X G a_Chain, hs_Chain⟩
  have EI_InvalidStep : ErI l.prog w K mg base "word" C_InvalidStep := ok_InvalidStep T_InvalidStep a_InvalidStep___init__ t_InvalidStep___init__ F_InvalidStep___init__ bI_InvalidStep
  have EI_InvalidTrait : ErI l.prog w K mg base "word" C_InvalidTrait := ok_InvalidTrait T_InvalidTrait a_InvalidTrait___init__ t_InvalidTrait___init__ F_InvalidTrait___init__ bI_InvalidTrait
  have EI_InvalidExpr : ErI l.prog w K mg base "word" C_InvalidExpr := ok_InvalidExpr T_InvalidExpr a_InvalidExpr___init__ t_InvalidExpr___init__ F_InvalidExpr___init__ bI_InvalidExpr
  have EI_InvalidRow : ErI l.prog w K mg base "word" C_InvalidRow := ok_InvalidRow T_InvalidRow a_InvalidRow___init__ t_InvalidRow___init__ F_InvalidRow___init__ bI_InvalidRow
  have EI_InvalidText : ErI l.prog w K mg base "at" C_InvalidText := ok_InvalidText T_InvalidText a_InvalidText___init__ t_InvalidText___init__ F_InvalidText___init__ bI_InvalidText
  have EI_InvalidWorld : ErI l.prog w K mg base "word" C_InvalidWorld := ok_InvalidWorld T_InvalidWorld a_InvalidWorld___init__ t_InvalidWorld___init__ F_InvalidWorld___init__ bI_InvalidWorld
  have EI_InvalidStart : ErI l.prog w K mg base "name" C_InvalidStart := ok_InvalidStart T_InvalidStart a_InvalidStart___init__ t_InvalidStart___init__ F_InvalidStart___init__ bI_InvalidStart
  have EI_InvalidClaim : ErI l.prog w K mg base "word" C_InvalidClaim := ok_InvalidClaim T_InvalidClaim a_InvalidClaim___init__ t_InvalidClaim___init__ F_InvalidClaim___init__ bI_InvalidClaim
  have EI_NoName : ErI l.prog w K mg base "name" C_NoName := ok_NoName T_NoName a_NoName___init__ t_NoName___init__ F_NoName___init__ bI_NoName
  have EI_NoStep : ErI l.prog w K mg base "name" C_NoStep := ok_NoStep T_NoStep a_NoStep___init__ t_NoStep___init__ F_NoStep___init__ bI_NoStep
  have EI_NoRow : ErI l.prog w K mg base "at" C_NoRow := ok_NoRow T_NoRow a_NoRow___init__ t_NoRow___init__ F_NoRow___init__ bI_NoRow
  have NW : NwC K mg := ⟨⟨_, PySem.W.mg_of X G m_LETTERS⟩, ⟨_, PySem.W.mg_of X G m_WAYS⟩, ⟨_, PySem.W.mg_of X G m_KW, fun H => .inr ⟨_, _, _, lk_KW, rfl, rfl, by show 3 ≤ sizeLine; decide, by rw [← kept_eq]; exact .cons ⟨_, rfl⟩ (.cons ⟨_, rfl⟩ (.cons ⟨_, rfl⟩ .nil))⟩⟩⟩
  have KC : PL.KD (PL.Om K [some C_Step, some C_Expr, some C_Trait, some C_Chain] [C_InvalidStep, C_InvalidTrait, C_InvalidExpr, C_InvalidRow, C_InvalidText, C_InvalidWorld, C_InvalidStart, C_InvalidClaim, C_NoName, C_NoStep, C_NoRow, C_Impossible, C_WaysError]) w mg "COUNTS" PL.counts := PL.KD.of (PySem.W.mg_of X G m_CO) ⟨lk_CO, kl_CO, lo_CO⟩ ea_CO (by decide +kernel)
  have EQ0 : PL.EqP l.prog w (PL.Om K [some C_Step, some C_Expr, some C_Trait, some C_Chain] [C_InvalidStep, C_InvalidTrait, C_InvalidExpr, C_InvalidRow, C_InvalidText, C_InvalidWorld, C_InvalidStart, C_InvalidClaim, C_NoName, C_NoStep, C_NoRow, C_Impossible, C_WaysError]) mg base 0 3 (fun _ => false) := ⟨EO, PL.owE0⟩
  have g__law_feed := PL.calM_feed (P := l.prog) (w := w) (Ω := (PL.Om K [some C_Step, some C_Expr, some C_Trait, some C_Chain] [C_InvalidStep, C_InvalidTrait, C_InvalidExpr, C_InvalidRow, C_InvalidText, C_InvalidWorld, C_InvalidStart, C_InvalidClaim, C_NoName, C_NoStep, C_NoRow, C_Impossible, C_WaysError])) (base := base) (ok_feed (k := 0) B D__law_feed)
  have c_draw : C8.Cal l.prog w K mg base 1 "_law_draw" spDraw [] := ok_draw (k := 0) B D__law_draw
  have g__law_draw := PL.calM_draw (Ω := (PL.Om K [some C_Step, some C_Expr, some C_Trait, some C_Chain] [C_InvalidStep, C_InvalidTrait, C_InvalidExpr, C_InvalidRow, C_InvalidText, C_InvalidWorld, C_InvalidStart, C_InvalidClaim, C_NoName, C_NoStep, C_NoRow, C_Impossible, C_WaysError])) c_draw
  have c_pick : C8.Cal l.prog w K mg base 2 "_law_pick" (spPick K) [] := ok_pick B D__law_pick c_draw
  have c_word : C8.Cal l.prog w K mg base 3 "_law_word" spWord [] := ok_word B D__law_word (calMono c_draw (by decide)) c_pick
  have g__law_word := PL.calM_word (Ω := (PL.Om K [some C_Step, some C_Expr, some C_Trait, some C_Chain] [C_InvalidStep, C_InvalidTrait, C_InvalidExpr, C_InvalidRow, C_InvalidText, C_InvalidWorld, C_InvalidStart, C_InvalidClaim, C_NoName, C_NoStep, C_NoRow, C_Impossible, C_WaysError])) c_word
  have g__law_pick := PL.p_pick (P := l.prog) (w := w) (Ω := (PL.Om K [some C_Step, some C_Expr, some C_Trait, some C_Chain] [C_InvalidStep, C_InvalidTrait, C_InvalidExpr, C_InvalidRow, C_InvalidText, C_InvalidWorld, C_InvalidStart, C_InvalidClaim, C_NoName, C_NoStep, C_NoRow, C_Impossible, C_WaysError])) (mg := mg) (base := base) (k := 1) B D__law_pick (g__law_draw.mono (by decide))
  have g_is_name := PL.p_is_name (P := l.prog) (w := w) (Ω := (PL.Om K [some C_Step, some C_Expr, some C_Trait, some C_Chain] [C_InvalidStep, C_InvalidTrait, C_InvalidExpr, C_InvalidRow, C_InvalidText, C_InvalidWorld, C_InvalidStart, C_InvalidClaim, C_NoName, C_NoStep, C_NoRow, C_Impossible, C_WaysError])) (mg := mg) (base := base) (k := 4) B NW EO EQ0 (by decide) (by decide) D_is_name
  have g_are_ways := PL.p_are_ways (P := l.prog) (w := w) (Ω := (PL.Om K [some C_Step, some C_Expr, some C_Trait, some C_Chain] [C_InvalidStep, C_InvalidTrait, C_InvalidExpr, C_InvalidRow, C_InvalidText, C_InvalidWorld, C_InvalidStart, C_InvalidClaim, C_NoName, C_NoStep, C_NoRow, C_Impossible, C_WaysError])) (mg := mg) (base := base) (k := 4) B NW EO EQ0 (by decide) (by decide) D_are_ways
  have g_Step := PL.p_Step (P := l.prog) (w := w) (Ω := (PL.Om K [some C_Step, some C_Expr, some C_Trait, some C_Chain] [C_InvalidStep, C_InvalidTrait, C_InvalidExpr, C_InvalidRow, C_InvalidText, C_InvalidWorld, C_InvalidStart, C_InvalidClaim, C_NoName, C_NoStep, C_NoRow, C_Impossible, C_WaysError])) (mg := mg) (base := base) (k := 5) EO hs_Step ⟨T_InvalidStep, rfl⟩ EI_InvalidStep D_Step___init__ (g_is_name.mono (by decide)) (g_are_ways.mono (by decide)) (by decide)
  have g_StepEq := PL.p_StepEq (P := l.prog) (w := w) (Ω := (PL.Om K [some C_Step, some C_Expr, some C_Trait, some C_Chain] [C_InvalidStep, C_InvalidTrait, C_InvalidExpr, C_InvalidRow, C_InvalidText, C_InvalidWorld, C_InvalidStart, C_InvalidClaim, C_NoName, C_NoStep, C_NoRow, C_Impossible, C_WaysError])) (mg := mg) (base := base) (cl' := PL.stepW) (k := 3) B EO H_Step EQ0 (by decide) (by decide) D_Step___eq__ (fun _ h => h)
  have EQs : PL.EqP l.prog w (PL.Om K [some C_Step, some C_Expr, some C_Trait, some C_Chain] [C_InvalidStep, C_InvalidTrait, C_InvalidExpr, C_InvalidRow, C_InvalidText, C_InvalidWorld, C_InvalidStart, C_InvalidClaim, C_NoName, C_NoStep, C_NoRow, C_Impossible, C_WaysError]) mg base 4 3 PL.stepW := ⟨EO, PL.owE_of [0] (fun m h => PL.stepW_c h) (by
    intro c hc
    simp only [List.mem_cons, List.not_mem_nil, or_false] at hc
    rcases hc with rfl
    · exact ⟨g_StepEq.mono (by decide), PL.eqN_of (c := 0) rfl CF_Step ne_Step⟩)⟩
  have g_ways_fit := PL.p_ways_fit (P := l.prog) (w := w) (Ω := (PL.Om K [some C_Step, some C_Expr, some C_Trait, some C_Chain] [C_InvalidStep, C_InvalidTrait, C_InvalidExpr, C_InvalidRow, C_InvalidText, C_InvalidWorld, C_InvalidStart, C_InvalidClaim, C_NoName, C_NoStep, C_NoRow, C_Impossible, C_WaysError])) (mg := mg) (base := base) (k := 4) B EO EQ0 (by decide) (by decide) D_ways_fit
  have g_Trait := PL.p_Trait (P := l.prog) (w := w) (Ω := (PL.Om K [some C_Step, some C_Expr, some C_Trait, some C_Chain] [C_InvalidStep, C_InvalidTrait, C_InvalidExpr, C_InvalidRow, C_InvalidText, C_InvalidWorld, C_InvalidStart, C_InvalidClaim, C_NoName, C_NoStep, C_NoRow, C_Impossible, C_WaysError])) (mg := mg) (base := base) (k := 8) B EO EQs (by decide) (by decide) (by decide) hs_Trait H_Step ⟨T_InvalidTrait, rfl⟩ EI_InvalidTrait KC D_Trait___init__ (g_ways_fit.mono (by decide))
  have g_Chain := PL.p_Chain (P := l.prog) (w := w) (Ω := (PL.Om K [some C_Step, some C_Expr, some C_Trait, some C_Chain] [C_InvalidStep, C_InvalidTrait, C_InvalidExpr, C_InvalidRow, C_InvalidText, C_InvalidWorld, C_InvalidStart, C_InvalidClaim, C_NoName, C_NoStep, C_NoRow, C_Impossible, C_WaysError])) (mg := mg) (base := base) (k := 4) B EO EQ0 (by decide) (by decide) (by decide) hs_Chain H_Step ⟨T_InvalidStep, rfl⟩ EI_InvalidStep D_Chain___init__
  have g_all_steps := PL.p_all_steps0 (P := l.prog) (w := w) (Ω := (PL.Om K [some C_Step, some C_Expr, some C_Trait, some C_Chain] [C_InvalidStep, C_InvalidTrait, C_InvalidExpr, C_InvalidRow, C_InvalidText, C_InvalidWorld, C_InvalidStart, C_InvalidClaim, C_NoName, C_NoStep, C_NoRow, C_Impossible, C_WaysError])) (mg := mg) (base := base) (k := 0) B B2 EO D_all_steps
  have g_text_of := PL.p_text_of0 (P := l.prog) (w := w) (Ω := (PL.Om K [some C_Step, some C_Expr, some C_Trait, some C_Chain] [C_InvalidStep, C_InvalidTrait, C_InvalidExpr, C_InvalidRow, C_InvalidText, C_InvalidWorld, C_InvalidStart, C_InvalidClaim, C_NoName, C_NoStep, C_NoRow, C_Impossible, C_WaysError])) (mg := mg) (base := base) (k := 3) EQ0 (by decide) (by decide) D_text_of
  have g_all_names : PL.CalM l.prog w (PL.Om K [some C_Step, some C_Expr, some C_Trait, some C_Chain] [C_InvalidStep, C_InvalidTrait, C_InvalidExpr, C_InvalidRow, C_InvalidText, C_InvalidWorld, C_InvalidStart, C_InvalidClaim, C_NoName, C_NoStep, C_NoRow, C_Impossible, C_WaysError]) mg base 0 "all_names" (fun _ _ _ => False) := PL.calM_never D_all_names fun _ _ _ h => h
  have g_Expr := PL.p_Expr0 (P := l.prog) (w := w) (Ω := (PL.Om K [some C_Step, some C_Expr, some C_Trait, some C_Chain] [C_InvalidStep, C_InvalidTrait, C_InvalidExpr, C_InvalidRow, C_InvalidText, C_InvalidWorld, C_InvalidStart, C_InvalidClaim, C_NoName, C_NoStep, C_NoRow, C_Impossible, C_WaysError])) (mg := mg) (base := base) (k := 4) B B2 EO EQ0 (by decide) (by decide) hs_Expr D_Expr___init__ (g_all_names.mono (by decide)) (g_all_steps.mono (by decide)) (g_text_of.mono (by decide))
  have g_named := PL.p_named (P := l.prog) (w := w) (Ω := (PL.Om K [some C_Step, some C_Expr, some C_Trait, some C_Chain] [C_InvalidStep, C_InvalidTrait, C_InvalidExpr, C_InvalidRow, C_InvalidText, C_InvalidWorld, C_InvalidStart, C_InvalidClaim, C_NoName, C_NoStep, C_NoRow, C_Impossible, C_WaysError])) (mg := mg) (base := base) (k := 6) D_named ⟨T_InvalidExpr, rfl⟩ EI_InvalidExpr (by decide) (g_is_name.mono (by decide)) (g_Expr.mono (by decide))
  have g_StepEq5 := PL.p_StepEq (P := l.prog) (w := w) (Ω := (PL.Om K [some C_Step, some C_Expr, some C_Trait, some C_Chain] [C_InvalidStep, C_InvalidTrait, C_InvalidExpr, C_InvalidRow, C_InvalidText, C_InvalidWorld, C_InvalidStart, C_InvalidClaim, C_NoName, C_NoStep, C_NoRow, C_Impossible, C_WaysError])) (mg := mg) (base := base) (cl' := PL.cl5) (k := 3) B EO H_Step EQ0 (by decide) (by decide) D_Step___eq__ (fun _ h => PL.cl5_0 h)
  have g_ExprEq5 := PL.p_ExprEq0 (P := l.prog) (w := w) (Ω := (PL.Om K [some C_Step, some C_Expr, some C_Trait, some C_Chain] [C_InvalidStep, C_InvalidTrait, C_InvalidExpr, C_InvalidRow, C_InvalidText, C_InvalidWorld, C_InvalidStart, C_InvalidClaim, C_NoName, C_NoStep, C_NoRow, C_Impossible, C_WaysError])) (mg := mg) (base := base) (cl' := PL.cl5) (k := 7) B EO H_Expr EQs (by decide) (by decide) D_Expr___eq__ (fun _ h => PL.cl5_1 h)
  have g_TraitEq5 := PL.p_TraitEq (P := l.prog) (w := w) (Ω := (PL.Om K [some C_Step, some C_Expr, some C_Trait, some C_Chain] [C_InvalidStep, C_InvalidTrait, C_InvalidExpr, C_InvalidRow, C_InvalidText, C_InvalidWorld, C_InvalidStart, C_InvalidClaim, C_NoName, C_NoStep, C_NoRow, C_Impossible, C_WaysError])) (mg := mg) (base := base) (cl' := PL.cl5) (k := 7) B EO H_Trait EQs (by decide) (by decide) D_Trait___eq__ (fun _ h => PL.cl5_2 h)
  have g_ChainEq5 := PL.p_ChainEq (P := l.prog) (w := w) (Ω := (PL.Om K [some C_Step, some C_Expr, some C_Trait, some C_Chain] [C_InvalidStep, C_InvalidTrait, C_InvalidExpr, C_InvalidRow, C_InvalidText, C_InvalidWorld, C_InvalidStart, C_InvalidClaim, C_NoName, C_NoStep, C_NoRow, C_Impossible, C_WaysError])) (mg := mg) (base := base) (cl' := PL.cl5) (k := 7) B EO H_Chain EQs (by decide) (by decide) D_Chain___eq__ (fun _ h => PL.cl5_3 h)
  have EQ5 : PL.EqP l.prog w (PL.Om K [some C_Step, some C_Expr, some C_Trait, some C_Chain] [C_InvalidStep, C_InvalidTrait, C_InvalidExpr, C_InvalidRow, C_InvalidText, C_InvalidWorld, C_InvalidStart, C_InvalidClaim, C_NoName, C_NoStep, C_NoRow, C_Impossible, C_WaysError]) mg base 8 5 PL.cl5 := ⟨EO, PL.owE_of [0, 1, 2, 3] (fun m h => PL.cl5_c h) (by
    intro c hc
    simp only [List.mem_cons, List.not_mem_nil, or_false] at hc
    rcases hc with rfl | rfl | rfl | rfl
    · exact ⟨g_StepEq5.mono (by decide), PL.eqN_of (c := 0) rfl CF_Step ne_Step⟩
    · exact ⟨g_ExprEq5.mono (by decide), PL.eqN_of (c := 1) rfl CF_Expr ne_Expr⟩
    · exact ⟨g_TraitEq5.mono (by decide), PL.eqN_of (c := 2) rfl CF_Trait ne_Trait⟩
    · exact ⟨g_ChainEq5.mono (by decide), PL.eqN_of (c := 3) rfl CF_Chain ne_Chain⟩)⟩
  have g_TraitStr := PL.p_TraitStr (P := l.prog) (w := w) (Ω := (PL.Om K [some C_Step, some C_Expr, some C_Trait, some C_Chain] [C_InvalidStep, C_InvalidTrait, C_InvalidExpr, C_InvalidRow, C_InvalidText, C_InvalidWorld, C_InvalidStart, C_InvalidClaim, C_NoName, C_NoStep, C_NoRow, C_Impossible, C_WaysError])) (mg := mg) (base := base) (k := 0) B EO D_Trait___str__
  have g__law_sign := PL.p_sign (P := l.prog) (w := w) (Ω := (PL.Om K [some C_Step, some C_Expr, some C_Trait, some C_Chain] [C_InvalidStep, C_InvalidTrait, C_InvalidExpr, C_InvalidRow, C_InvalidText, C_InvalidWorld, C_InvalidStart, C_InvalidClaim, C_NoName, C_NoStep, C_NoRow, C_Impossible, C_WaysError])) (mg := mg) (base := base) (k := 2) D__law_sign (g__law_pick.mono (by decide))
  have g__law_ways := PL.p_ways (P := l.prog) (w := w) (Ω := (PL.Om K [some C_Step, some C_Expr, some C_Trait, some C_Chain] [C_InvalidStep, C_InvalidTrait, C_InvalidExpr, C_InvalidRow, C_InvalidText, C_InvalidWorld, C_InvalidStart, C_InvalidClaim, C_NoName, C_NoStep, C_NoRow, C_Impossible, C_WaysError])) (mg := mg) (base := base) (k := 2) B D__law_ways (g__law_draw.mono (by decide)) (g__law_pick.mono (by decide))
  have g__law_bent := PL.p_bent (P := l.prog) (w := w) (Ω := (PL.Om K [some C_Step, some C_Expr, some C_Trait, some C_Chain] [C_InvalidStep, C_InvalidTrait, C_InvalidExpr, C_InvalidRow, C_InvalidText, C_InvalidWorld, C_InvalidStart, C_InvalidClaim, C_NoName, C_NoStep, C_NoRow, C_Impossible, C_WaysError])) (mg := mg) (base := base) (k := 4) B EO EQ0 (by decide) (by decide) D__law_bent (g__law_draw.mono (by decide)) (g__law_sign.mono (by decide))
  have g__law_near_name := PL.p_near (P := l.prog) (w := w) (Ω := (PL.Om K [some C_Step, some C_Expr, some C_Trait, some C_Chain] [C_InvalidStep, C_InvalidTrait, C_InvalidExpr, C_InvalidRow, C_InvalidText, C_InvalidWorld, C_InvalidStart, C_InvalidClaim, C_NoName, C_NoStep, C_NoRow, C_Impossible, C_WaysError])) (mg := mg) (base := base) (k := 5) B EO EQ0 (by decide) (by decide) D__law_near_name (g__law_draw.mono (by decide)) (g__law_pick.mono (by decide)) (g__law_word.mono (by decide)) (g__law_bent.mono (by decide))
  have g__law_any := PL.p_any (P := l.prog) (w := w) (Ω := (PL.Om K [some C_Step, some C_Expr, some C_Trait, some C_Chain] [C_InvalidStep, C_InvalidTrait, C_InvalidExpr, C_InvalidRow, C_InvalidText, C_InvalidWorld, C_InvalidStart, C_InvalidClaim, C_NoName, C_NoStep, C_NoRow, C_Impossible, C_WaysError])) (mg := mg) (base := base) (k := 10) B EO EQ0 (by decide) (by decide) D__law_any (g__law_draw.mono (by decide)) (g__law_pick.mono (by decide)) (g__law_near_name.mono (by decide)) (g__law_word.mono (by decide)) (g__law_ways.mono (by decide)) (g_Step.mono (by decide)) (g_named.mono (by decide)) (g_Trait.mono (by decide)) (g_Chain.mono (by decide)) 4
  have g__law_same := PL.p_same (P := l.prog) (w := w) (Ω := (PL.Om K [some C_Step, some C_Expr, some C_Trait, some C_Chain] [C_InvalidStep, C_InvalidTrait, C_InvalidExpr, C_InvalidRow, C_InvalidText, C_InvalidWorld, C_InvalidStart, C_InvalidClaim, C_NoName, C_NoStep, C_NoRow, C_Impossible, C_WaysError])) (base := base) B EO EQ5 (by decide) D__law_same 6
  have IE_InvalidStep : PL.IE (PL.Om K [some C_Step, some C_Expr, some C_Trait, some C_Chain] [C_InvalidStep, C_InvalidTrait, C_InvalidExpr, C_InvalidRow, C_InvalidText, C_InvalidWorld, C_InvalidStart, C_InvalidClaim, C_NoName, C_NoStep, C_NoRow, C_Impossible, C_WaysError]) mg "InvalidStep" (fun e => decide (e = 0)) := xf.ie (by decide) (PySem.W.mg_of X G a_InvalidStep)
  have IE_InvalidTrait : PL.IE (PL.Om K [some C_Step, some C_Expr, some C_Trait, some C_Chain] [C_InvalidStep, C_InvalidTrait, C_InvalidExpr, C_InvalidRow, C_InvalidText, C_InvalidWorld, C_InvalidStart, C_InvalidClaim, C_NoName, C_NoStep, C_NoRow, C_Impossible, C_WaysError]) mg "InvalidTrait" (fun e => decide (e = 1)) := xf.ie (by decide) (PySem.W.mg_of X G a_InvalidTrait)
  have IE_InvalidExpr : PL.IE (PL.Om K [some C_Step, some C_Expr, some C_Trait, some C_Chain] [C_InvalidStep, C_InvalidTrait, C_InvalidExpr, C_InvalidRow, C_InvalidText, C_InvalidWorld, C_InvalidStart, C_InvalidClaim, C_NoName, C_NoStep, C_NoRow, C_Impossible, C_WaysError]) mg "InvalidExpr" (fun e => decide (e = 2)) := xf.ie (by decide) (PySem.W.mg_of X G a_InvalidExpr)
  have IE_InvalidRow : PL.IE (PL.Om K [some C_Step, some C_Expr, some C_Trait, some C_Chain] [C_InvalidStep, C_InvalidTrait, C_InvalidExpr, C_InvalidRow, C_InvalidText, C_InvalidWorld, C_InvalidStart, C_InvalidClaim, C_NoName, C_NoStep, C_NoRow, C_Impossible, C_WaysError]) mg "InvalidRow" (fun e => decide (e = 3)) := xf.ie (by decide) (PySem.W.mg_of X G a_InvalidRow)
  have IE_InvalidText : PL.IE (PL.Om K [some C_Step, some C_Expr, some C_Trait, some C_Chain] [C_InvalidStep, C_InvalidTrait, C_InvalidExpr, C_InvalidRow, C_InvalidText, C_InvalidWorld, C_InvalidStart, C_InvalidClaim, C_NoName, C_NoStep, C_NoRow, C_Impossible, C_WaysError]) mg "InvalidText" (fun e => decide (e = 4)) := xf.ie (by decide) (PySem.W.mg_of X G a_InvalidText)
  have IE_InvalidWorld : PL.IE (PL.Om K [some C_Step, some C_Expr, some C_Trait, some C_Chain] [C_InvalidStep, C_InvalidTrait, C_InvalidExpr, C_InvalidRow, C_InvalidText, C_InvalidWorld, C_InvalidStart, C_InvalidClaim, C_NoName, C_NoStep, C_NoRow, C_Impossible, C_WaysError]) mg "InvalidWorld" (fun e => decide (e = 5)) := xf.ie (by decide) (PySem.W.mg_of X G a_InvalidWorld)
  have IE_InvalidStart : PL.IE (PL.Om K [some C_Step, some C_Expr, some C_Trait, some C_Chain] [C_InvalidStep, C_InvalidTrait, C_InvalidExpr, C_InvalidRow, C_InvalidText, C_InvalidWorld, C_InvalidStart, C_InvalidClaim, C_NoName, C_NoStep, C_NoRow, C_Impossible, C_WaysError]) mg "InvalidStart" (fun e => decide (e = 6)) := xf.ie (by decide) (PySem.W.mg_of X G a_InvalidStart)
  have IE_InvalidClaim : PL.IE (PL.Om K [some C_Step, some C_Expr, some C_Trait, some C_Chain] [C_InvalidStep, C_InvalidTrait, C_InvalidExpr, C_InvalidRow, C_InvalidText, C_InvalidWorld, C_InvalidStart, C_InvalidClaim, C_NoName, C_NoStep, C_NoRow, C_Impossible, C_WaysError]) mg "InvalidClaim" (fun e => decide (e = 7)) := xf.ie (by decide) (PySem.W.mg_of X G a_InvalidClaim)
  have IE_NoName : PL.IE (PL.Om K [some C_Step, some C_Expr, some C_Trait, some C_Chain] [C_InvalidStep, C_InvalidTrait, C_InvalidExpr, C_InvalidRow, C_InvalidText, C_InvalidWorld, C_InvalidStart, C_InvalidClaim, C_NoName, C_NoStep, C_NoRow, C_Impossible, C_WaysError]) mg "NoName" (fun e => decide (e = 8)) := xf.ie (by decide) (PySem.W.mg_of X G a_NoName)
  have IE_NoStep : PL.IE (PL.Om K [some C_Step, some C_Expr, some C_Trait, some C_Chain] [C_InvalidStep, C_InvalidTrait, C_InvalidExpr, C_InvalidRow, C_InvalidText, C_InvalidWorld, C_InvalidStart, C_InvalidClaim, C_NoName, C_NoStep, C_NoRow, C_Impossible, C_WaysError]) mg "NoStep" (fun e => decide (e = 9)) := xf.ie (by decide) (PySem.W.mg_of X G a_NoStep)
  have IE_NoRow : PL.IE (PL.Om K [some C_Step, some C_Expr, some C_Trait, some C_Chain] [C_InvalidStep, C_InvalidTrait, C_InvalidExpr, C_InvalidRow, C_InvalidText, C_InvalidWorld, C_InvalidStart, C_InvalidClaim, C_NoName, C_NoStep, C_NoRow, C_Impossible, C_WaysError]) mg "NoRow" (fun e => decide (e = 10)) := xf.ie (by decide) (PySem.W.mg_of X G a_NoRow)
  have IE_Impossible : PL.IE (PL.Om K [some C_Step, some C_Expr, some C_Trait, some C_Chain] [C_InvalidStep, C_InvalidTrait, C_InvalidExpr, C_InvalidRow, C_InvalidText, C_InvalidWorld, C_InvalidStart, C_InvalidClaim, C_NoName, C_NoStep, C_NoRow, C_Impossible, C_WaysError]) mg "Impossible" (fun e => decide (e = 11)) := xf.ie (by decide) (PySem.W.mg_of X G a_Impossible)
  have IE_WaysError : PL.IE (PL.Om K [some C_Step, some C_Expr, some C_Trait, some C_Chain] [C_InvalidStep, C_InvalidTrait, C_InvalidExpr, C_InvalidRow, C_InvalidText, C_InvalidWorld, C_InvalidStart, C_InvalidClaim, C_NoName, C_NoStep, C_NoRow, C_Impossible, C_WaysError]) mg "WaysError" (fun _ => true) := xf.ieW (PySem.W.mg_of X G a_WaysError)
  have Z_Impossible : PL.Er0 (PL.Om K [some C_Step, some C_Expr, some C_Trait, some C_Chain] [C_InvalidStep, C_InvalidTrait, C_InvalidExpr, C_InvalidRow, C_InvalidText, C_InvalidWorld, C_InvalidStart, C_InvalidClaim, C_NoName, C_NoStep, C_NoRow, C_Impossible, C_WaysError]) mg "Impossible" 11 := ⟨PySem.W.mg_of X G a_Impossible, kc_Impossible, _, _, PySem.F.excBase_ValueError, xi_Impossible⟩
  have Z_WaysError : PL.Er0 (PL.Om K [some C_Step, some C_Expr, some C_Trait, some C_Chain] [C_InvalidStep, C_InvalidTrait, C_InvalidExpr, C_InvalidRow, C_InvalidText, C_InvalidWorld, C_InvalidStart, C_InvalidClaim, C_NoName, C_NoStep, C_NoRow, C_Impossible, C_WaysError]) mg "WaysError" 12 := ⟨PySem.W.mg_of X G a_WaysError, kc_WaysError, _, _, PySem.F.excBase_ValueError, xi_WaysError⟩
  have EN : ∀ e, e < 13 → PySem.W.findIn (PL.Om K [some C_Step, some C_Expr, some C_Trait, some C_Chain] [C_InvalidStep, C_InvalidTrait, C_InvalidExpr, C_InvalidRow, C_InvalidText, C_InvalidWorld, C_InvalidStart, C_InvalidClaim, C_NoName, C_NoStep, C_NoRow, C_Impossible, C_WaysError]).K (.ref ((PL.Om K [some C_Step, some C_Expr, some C_Trait, some C_Chain] [C_InvalidStep, C_InvalidTrait, C_InvalidExpr, C_InvalidRow, C_InvalidText, C_InvalidWorld, C_InvalidStart, C_InvalidClaim, C_NoName, C_NoStep, C_NoRow, C_Impossible, C_WaysError]).ecs e)) (PL.ef e) = some none := fun e he => match e, he with | 0, _ => no_InvalidStep | 1, _ => no_InvalidTrait | 2, _ => no_InvalidExpr | 3, _ => no_InvalidRow | 4, _ => no_InvalidText | 5, _ => no_InvalidWorld | 6, _ => no_InvalidStart | 7, _ => no_InvalidClaim | 8, _ => no_NoName | 9, _ => no_NoStep | 10, _ => no_NoRow | 11, _ => no_Impossible | 12, _ => no_WaysError
  have EV : ∀ e, e < 13 → PySem.W.kitOne (PL.Om K [some C_Step, some C_Expr, some C_Trait, some C_Chain] [C_InvalidStep, C_InvalidTrait, C_InvalidExpr, C_InvalidRow, C_InvalidText, C_InvalidWorld, C_InvalidStart, C_InvalidClaim, C_NoName, C_NoStep, C_NoRow, C_Impossible, C_WaysError]).K (.ref ((PL.Om K [some C_Step, some C_Expr, some C_Trait, some C_Chain] [C_InvalidStep, C_InvalidTrait, C_InvalidExpr, C_InvalidRow, C_InvalidText, C_InvalidWorld, C_InvalidStart, C_InvalidClaim, C_NoName, C_NoStep, C_NoRow, C_Impossible, C_WaysError]).ecs e)) (.type "ValueError") = some true := fun e he => xf.ty he (by decide +kernel) (by decide +kernel)
  have g__law_refused := PL.p_refused (P := l.prog) (w := w) (Ω := (PL.Om K [some C_Step, some C_Expr, some C_Trait, some C_Chain] [C_InvalidStep, C_InvalidTrait, C_InvalidExpr, C_InvalidRow, C_InvalidText, C_InvalidWorld, C_InvalidStart, C_InvalidClaim, C_NoName, C_NoStep, C_NoRow, C_Impossible, C_WaysError])) (mg := mg) (base := base) (k := 0) B EO IE_InvalidStep IE_InvalidTrait IE_InvalidExpr IE_InvalidRow IE_InvalidText IE_InvalidWorld IE_InvalidStart IE_InvalidClaim IE_NoName IE_NoStep IE_NoRow IE_Impossible D__law_refused
  have g__law_errors := PL.p_errors (P := l.prog) (w := w) (Ω := (PL.Om K [some C_Step, some C_Expr, some C_Trait, some C_Chain] [C_InvalidStep, C_InvalidTrait, C_InvalidExpr, C_InvalidRow, C_InvalidText, C_InvalidWorld, C_InvalidStart, C_InvalidClaim, C_NoName, C_NoStep, C_NoRow, C_Impossible, C_WaysError])) (mg := mg) (base := base) (k := 2) (by decide) ⟨T_InvalidStep, rfl⟩ EI_InvalidStep ⟨T_InvalidTrait, rfl⟩ EI_InvalidTrait ⟨T_InvalidExpr, rfl⟩ EI_InvalidExpr ⟨T_InvalidRow, rfl⟩ EI_InvalidRow ⟨T_InvalidText, rfl⟩ EI_InvalidText ⟨T_InvalidWorld, rfl⟩ EI_InvalidWorld ⟨T_InvalidStart, rfl⟩ EI_InvalidStart ⟨T_InvalidClaim, rfl⟩ EI_InvalidClaim ⟨T_NoName, rfl⟩ EI_NoName ⟨T_NoStep, rfl⟩ EI_NoStep ⟨T_NoRow, rfl⟩ EI_NoRow Z_Impossible D__law_errors
  have g__law_kept := PL.p_kept (P := l.prog) (w := w) (Ω := (PL.Om K [some C_Step, some C_Expr, some C_Trait, some C_Chain] [C_InvalidStep, C_InvalidTrait, C_InvalidExpr, C_InvalidRow, C_InvalidText, C_InvalidWorld, C_InvalidStart, C_InvalidClaim, C_NoName, C_NoStep, C_NoRow, C_Impossible, C_WaysError])) (mg := mg) (base := base) (k := 0) EO EN D__law_kept
  exact PL.p_law (P := l.prog) (w := w) (Ω := (PL.Om K [some C_Step, some C_Expr, some C_Trait, some C_Chain] [C_InvalidStep, C_InvalidTrait, C_InvalidExpr, C_InvalidRow, C_InvalidText, C_InvalidWorld, C_InvalidStart, C_InvalidClaim, C_NoName, C_NoStep, C_NoRow, C_Impossible, C_WaysError])) (mg := mg) (base := base) (k := 20) B EO EN EQ0 (by decide) (by decide) (by decide) IE_WaysError (PySem.W.mg_none_of X G z_ValueError) EV Z_WaysError ⟨T_NoRow, rfl⟩ EI_NoRow F_law (g__law_feed.mono (by decide)) (g__law_any.mono (by decide)) (g__law_errors.mono (by decide)) (g__law_refused.mono (by decide)) (g__law_kept.mono (by decide)) (g__law_same.mono (by decide))
theorem walk {l : PySem.W.OpenLaw} {q : Program} {loose : List Str} {XP : (Str → Option Value) → Heap → Prop} {YP : World → Heap → Prop} {d : DefRec} {K : Params → PySem.W.Frag} (hn : l.most = some 63) (hdf : d.params.defaults = [])
    (hY : ∀ (w : World) (h : Heap), YP w h → (K w.params).In h)
    (F : ∀ (w : World) (mg : Str → Option Value) (fa : Addr) (h : Heap), (K w.params).In h → h.Ns mainGlobals mg → mg d.name = some (.ref fa) →
      ∃ fd : FuncData, (∀ (s : Shared) (u : Value), BindsTo s fd ⟨[u], []⟩ [("_law_script", u)]) ∧ ∀ base : Heap, (K w.params).In base → base.Ns mainGlobals mg → FnOk l.prog w (K w.params) mg base CX0 21 fa fd ["_law_script"] (PL.spLaw (K w.params) [])) (NL : ∀ w : World, ((K w.params).all fun e => e.2.cls != .type "list") = true) :
    PySem.W.WalkO q loose XP YP l.row.toRowW d [] (fun f vs => PySem.call f vs) :=
  L2.walk_of (n := 63) (k := 21) (x := "_law_script") (CX := fun _ => CX0) (sp := fun w => PL.spLaw (K w.params) []) hn (by decide) hdf ⟨rfl, by decide, by decide⟩ hY F (fun w _ a ns hl _ hS => ⟨a, ns, rfl, hS, hl, PL.scr_thereT (NL w) hS, (fun _ h => by cases h), fun _ => rfl⟩) fun _ _ _ _ _ z => z
end KW
open PySem PySem.W PyProof.Rows
set_option maxRecDepth 100000 in
set_option maxHeartbeats 0 in
theorem PySem.Challenge.cw_knownways_k01_errors_and_what_they_keep_holds : PySem.Challenge.rw_knownways_k01_errors_and_what_they_keep.Holds :=
  KW.hd (by
  k_fill
  refine KW.walk (l := PySem.Challenge.rw_knownways_k01_errors_and_what_they_keep) rfl rfl (fun w h Y => by first | exact PySem.W.kIn_of Y | exact PySem.W.km_in_of Y) ?F ?NL
  case NL => intro w; rfl
  case F =>
    intro w mg fa h KX G hmg
    refine' KW.all_mk KX G hmg ?a_is_name ?l_is_name ?c_is_name ?k_is_name ?a_are_ways ?l_are_ways ?c_are_ways ?k_are_ways ?a_ways_fit ?l_ways_fit ?c_ways_fit ?k_ways_fit ?a_all_steps ?l_all_steps ?c_all_steps ?k_all_steps ?a_all_names ?l_all_names ?c_all_names ?k_all_names ?a_text_of ?l_text_of ?c_text_of ?k_text_of ?a_named ?l_named ?c_named ?k_named ?a__law_feed ?l__law_feed ?c__law_feed ?k__law_feed ?a__law_draw ?l__law_draw ?c__law_draw ?k__law_draw ?a__law_pick ?l__law_pick ?c__law_pick ?k__law_pick ?a__law_word ?l__law_word ?c__law_word ?k__law_word ?a__law_same ?l__law_same ?c__law_same ?k__law_same ?a__law_sign ?l__law_sign ?c__law_sign ?k__law_sign ?a__law_bent ?l__law_bent ?c__law_bent ?k__law_bent ?a__law_near_name ?l__law_near_name ?c__law_near_name ?k__law_near_name ?a__law_any ?l__law_any ?c__law_any ?k__law_any ?a__law_ways ?l__law_ways ?c__law_ways ?k__law_ways ?a__law_refused ?l__law_refused ?c__law_refused ?k__law_refused ?a__law_errors ?l__law_errors ?c__law_errors ?k__law_errors ?a__law_kept ?l__law_kept ?c__law_kept ?k__law_kept ?a_Step ?pg_Step ?hd_Step ?po_Step ?sa_Step ?mk_Step ?kc_Step ?ca_Step ?lk_Step ?mq_Step ?tt_Step ?ne_Step ?n_Step_name ?n_Step_ways ?a_Step___init__ ?i_Step___init__ ?l_Step___init__ ?c_Step___init__ ?k_Step___init__ ?a_Step___eq__ ?i_Step___eq__ ?l_Step___eq__ ?c_Step___eq__ ?k_Step___eq__ ?a_Expr ?pg_Expr ?hd_Expr ?po_Expr ?sa_Expr ?mk_Expr ?kc_Expr ?ca_Expr ?lk_Expr ?mq_Expr ?tt_Expr ?ne_Expr ?n_Expr_kind ?n_Expr_word ?n_Expr_step ?n_Expr_parts ?n_Expr_names ?n_Expr_steps ?n_Expr_marks ?n_Expr_text ?a_Expr___init__ ?i_Expr___init__ ?l_Expr___init__ ?c_Expr___init__ ?k_Expr___init__ ?a_Expr___eq__ ?i_Expr___eq__ ?l_Expr___eq__ ?c_Expr___eq__ ?k_Expr___eq__ ?a_Trait ?pg_Trait ?hd_Trait ?po_Trait ?sa_Trait ?mk_Trait ?kc_Trait ?ca_Trait ?lk_Trait ?mq_Trait ?tt_Trait ?ne_Trait ?n_Trait_word ?n_Trait_steps ?a_Trait___init__ ?i_Trait___init__ ?l_Trait___init__ ?c_Trait___init__ ?k_Trait___init__ ?a_Trait___eq__ ?i_Trait___eq__ ?l_Trait___eq__ ?c_Trait___eq__ ?k_Trait___eq__ ?a_Trait___str__ ?i_Trait___str__ ?l_Trait___str__ ?c_Trait___str__ ?k_Trait___str__ ?a_Chain ?pg_Chain ?hd_Chain ?po_Chain ?sa_Chain ?mk_Chain ?kc_Chain ?ca_Chain ?lk_Chain ?mq_Chain ?tt_Chain ?ne_Chain ?n_Chain_steps ?a_Chain___init__ ?i_Chain___init__ ?l_Chain___init__ ?c_Chain___init__ ?k_Chain___init__ ?a_Chain___eq__ ?i_Chain___eq__ ?l_Chain___eq__ ?c_Chain___eq__ ?k_Chain___eq__ ?dj ?a_WaysError ?ic_WaysError ?ty_WaysError ?a_InvalidStep ?ic_InvalidStep ?ty_InvalidStep ?a_InvalidTrait ?ic_InvalidTrait ?ty_InvalidTrait ?a_InvalidExpr ?ic_InvalidExpr ?ty_InvalidExpr ?a_InvalidRow ?ic_InvalidRow ?ty_InvalidRow ?a_InvalidText ?ic_InvalidText ?ty_InvalidText ?a_InvalidWorld ?ic_InvalidWorld ?ty_InvalidWorld ?a_InvalidStart ?ic_InvalidStart ?ty_InvalidStart ?a_InvalidClaim ?ic_InvalidClaim ?ty_InvalidClaim ?a_NoName ?ic_NoName ?ty_NoName ?a_NoStep ?ic_NoStep ?ty_NoStep ?a_NoRow ?ic_NoRow ?ty_NoRow ?a_Impossible ?ic_Impossible ?ty_Impossible ?ex_WaysError ?hd_WaysError ?sg_cls ?tk_cls ?x_Impossible ?ga_Impossible ?gg_Impossible ?no_Impossible ?kc_Impossible ?cc_Impossible ?mr_Impossible ?xi_Impossible ?ex_Impossible ?hd_Impossible ?x_WaysError ?ga_WaysError ?gg_WaysError ?no_WaysError ?kc_WaysError ?cc_WaysError ?mr_WaysError ?xi_WaysError ?x_InvalidStep ?sa_InvalidStep ?ga_InvalidStep ?gg_InvalidStep ?no_InvalidStep ?ex_InvalidStep ?hd_InvalidStep ?kc_InvalidStep ?cc_InvalidStep ?mr_InvalidStep ?sw_InvalidStep ?s_InvalidStep_InvalidStep ?s_InvalidStep_InvalidTrait ?s_InvalidStep_InvalidExpr ?s_InvalidStep_InvalidRow ?s_InvalidStep_InvalidText ?s_InvalidStep_InvalidWorld ?s_InvalidStep_InvalidStart ?s_InvalidStep_InvalidClaim ?s_InvalidStep_NoName ?s_InvalidStep_NoStep ?s_InvalidStep_NoRow ?s_InvalidStep_Impossible ?a_InvalidStep___init__ ?t_InvalidStep___init__ ?l_InvalidStep___init__ ?c_InvalidStep___init__ ?k_InvalidStep___init__ ?x_InvalidTrait ?sa_InvalidTrait ?ga_InvalidTrait ?gg_InvalidTrait ?no_InvalidTrait ?ex_InvalidTrait ?hd_InvalidTrait ?kc_InvalidTrait ?cc_InvalidTrait ?mr_InvalidTrait ?sw_InvalidTrait ?s_InvalidTrait_InvalidStep ?s_InvalidTrait_InvalidTrait ?s_InvalidTrait_InvalidExpr ?s_InvalidTrait_InvalidRow ?s_InvalidTrait_InvalidText ?s_InvalidTrait_InvalidWorld ?s_InvalidTrait_InvalidStart ?s_InvalidTrait_InvalidClaim ?s_InvalidTrait_NoName ?s_InvalidTrait_NoStep ?s_InvalidTrait_NoRow ?s_InvalidTrait_Impossible ?a_InvalidTrait___init__ ?t_InvalidTrait___init__ ?l_InvalidTrait___init__ ?c_InvalidTrait___init__ ?k_InvalidTrait___init__ ?x_InvalidExpr ?sa_InvalidExpr ?ga_InvalidExpr ?gg_InvalidExpr ?no_InvalidExpr ?ex_InvalidExpr ?hd_InvalidExpr ?kc_InvalidExpr ?cc_InvalidExpr ?mr_InvalidExpr ?sw_InvalidExpr ?s_InvalidExpr_InvalidStep ?s_InvalidExpr_InvalidTrait ?s_InvalidExpr_InvalidExpr ?s_InvalidExpr_InvalidRow ?s_InvalidExpr_InvalidText ?s_InvalidExpr_InvalidWorld ?s_InvalidExpr_InvalidStart ?s_InvalidExpr_InvalidClaim ?s_InvalidExpr_NoName ?s_InvalidExpr_NoStep ?s_InvalidExpr_NoRow ?s_InvalidExpr_Impossible ?a_InvalidExpr___init__ ?t_InvalidExpr___init__ ?l_InvalidExpr___init__ ?c_InvalidExpr___init__ ?k_InvalidExpr___init__ ?x_InvalidRow ?sa_InvalidRow ?ga_InvalidRow ?gg_InvalidRow ?no_InvalidRow ?ex_InvalidRow ?hd_InvalidRow ?kc_InvalidRow ?cc_InvalidRow ?mr_InvalidRow ?sw_InvalidRow ?s_InvalidRow_InvalidStep ?s_InvalidRow_InvalidTrait ?s_InvalidRow_InvalidExpr ?s_InvalidRow_InvalidRow ?s_InvalidRow_InvalidText ?s_InvalidRow_InvalidWorld ?s_InvalidRow_InvalidStart ?s_InvalidRow_InvalidClaim ?s_InvalidRow_NoName ?s_InvalidRow_NoStep ?s_InvalidRow_NoRow ?s_InvalidRow_Impossible ?a_InvalidRow___init__ ?t_InvalidRow___init__ ?l_InvalidRow___init__ ?c_InvalidRow___init__ ?k_InvalidRow___init__ ?x_InvalidText ?sa_InvalidText ?ga_InvalidText ?gg_InvalidText ?no_InvalidText ?ex_InvalidText ?hd_InvalidText ?kc_InvalidText ?cc_InvalidText ?mr_InvalidText ?sw_InvalidText ?s_InvalidText_InvalidStep ?s_InvalidText_InvalidTrait ?s_InvalidText_InvalidExpr ?s_InvalidText_InvalidRow ?s_InvalidText_InvalidText ?s_InvalidText_InvalidWorld ?s_InvalidText_InvalidStart ?s_InvalidText_InvalidClaim ?s_InvalidText_NoName ?s_InvalidText_NoStep ?s_InvalidText_NoRow ?s_InvalidText_Impossible ?a_InvalidText___init__ ?t_InvalidText___init__ ?l_InvalidText___init__ ?c_InvalidText___init__ ?k_InvalidText___init__ ?x_InvalidWorld ?sa_InvalidWorld ?ga_InvalidWorld ?gg_InvalidWorld ?no_InvalidWorld ?ex_InvalidWorld ?hd_InvalidWorld ?kc_InvalidWorld ?cc_InvalidWorld ?mr_InvalidWorld ?sw_InvalidWorld ?s_InvalidWorld_InvalidStep ?s_InvalidWorld_InvalidTrait ?s_InvalidWorld_InvalidExpr ?s_InvalidWorld_InvalidRow ?s_InvalidWorld_InvalidText ?s_InvalidWorld_InvalidWorld ?s_InvalidWorld_InvalidStart ?s_InvalidWorld_InvalidClaim ?s_InvalidWorld_NoName ?s_InvalidWorld_NoStep ?s_InvalidWorld_NoRow ?s_InvalidWorld_Impossible ?a_InvalidWorld___init__ ?t_InvalidWorld___init__ ?l_InvalidWorld___init__ ?c_InvalidWorld___init__ ?k_InvalidWorld___init__ ?x_InvalidStart ?sa_InvalidStart ?ga_InvalidStart ?gg_InvalidStart ?no_InvalidStart ?ex_InvalidStart ?hd_InvalidStart ?kc_InvalidStart ?cc_InvalidStart ?mr_InvalidStart ?sw_InvalidStart ?s_InvalidStart_InvalidStep ?s_InvalidStart_InvalidTrait ?s_InvalidStart_InvalidExpr ?s_InvalidStart_InvalidRow ?s_InvalidStart_InvalidText ?s_InvalidStart_InvalidWorld ?s_InvalidStart_InvalidStart ?s_InvalidStart_InvalidClaim ?s_InvalidStart_NoName ?s_InvalidStart_NoStep ?s_InvalidStart_NoRow ?s_InvalidStart_Impossible ?a_InvalidStart___init__ ?t_InvalidStart___init__ ?l_InvalidStart___init__ ?c_InvalidStart___init__ ?k_InvalidStart___init__ ?x_InvalidClaim ?sa_InvalidClaim ?ga_InvalidClaim ?gg_InvalidClaim ?no_InvalidClaim ?ex_InvalidClaim ?hd_InvalidClaim ?kc_InvalidClaim ?cc_InvalidClaim ?mr_InvalidClaim ?sw_InvalidClaim ?s_InvalidClaim_InvalidStep ?s_InvalidClaim_InvalidTrait ?s_InvalidClaim_InvalidExpr ?s_InvalidClaim_InvalidRow ?s_InvalidClaim_InvalidText ?s_InvalidClaim_InvalidWorld ?s_InvalidClaim_InvalidStart ?s_InvalidClaim_InvalidClaim ?s_InvalidClaim_NoName ?s_InvalidClaim_NoStep ?s_InvalidClaim_NoRow ?s_InvalidClaim_Impossible ?a_InvalidClaim___init__ ?t_InvalidClaim___init__ ?l_InvalidClaim___init__ ?c_InvalidClaim___init__ ?k_InvalidClaim___init__ ?x_NoName ?sa_NoName ?ga_NoName ?gg_NoName ?no_NoName ?ex_NoName ?hd_NoName ?kc_NoName ?cc_NoName ?mr_NoName ?sw_NoName ?s_NoName_InvalidStep ?s_NoName_InvalidTrait ?s_NoName_InvalidExpr ?s_NoName_InvalidRow ?s_NoName_InvalidText ?s_NoName_InvalidWorld ?s_NoName_InvalidStart ?s_NoName_InvalidClaim ?s_NoName_NoName ?s_NoName_NoStep ?s_NoName_NoRow ?s_NoName_Impossible ?a_NoName___init__ ?t_NoName___init__ ?l_NoName___init__ ?c_NoName___init__ ?k_NoName___init__ ?x_NoStep ?sa_NoStep ?ga_NoStep ?gg_NoStep ?no_NoStep ?ex_NoStep ?hd_NoStep ?kc_NoStep ?cc_NoStep ?mr_NoStep ?sw_NoStep ?s_NoStep_InvalidStep ?s_NoStep_InvalidTrait ?s_NoStep_InvalidExpr ?s_NoStep_InvalidRow ?s_NoStep_InvalidText ?s_NoStep_InvalidWorld ?s_NoStep_InvalidStart ?s_NoStep_InvalidClaim ?s_NoStep_NoName ?s_NoStep_NoStep ?s_NoStep_NoRow ?s_NoStep_Impossible ?a_NoStep___init__ ?t_NoStep___init__ ?l_NoStep___init__ ?c_NoStep___init__ ?k_NoStep___init__ ?x_NoRow ?sa_NoRow ?ga_NoRow ?gg_NoRow ?no_NoRow ?ex_NoRow ?hd_NoRow ?kc_NoRow ?cc_NoRow ?mr_NoRow ?sw_NoRow ?s_NoRow_InvalidStep ?s_NoRow_InvalidTrait ?s_NoRow_InvalidExpr ?s_NoRow_InvalidRow ?s_NoRow_InvalidText ?s_NoRow_InvalidWorld ?s_NoRow_InvalidStart ?s_NoRow_InvalidClaim ?s_NoRow_NoName ?s_NoRow_NoStep ?s_NoRow_NoRow ?s_NoRow_Impossible ?a_NoRow___init__ ?t_NoRow___init__ ?l_NoRow___init__ ?c_NoRow___init__ ?k_NoRow___init__ ?dx ?de ?m_LETTERS ?m_WAYS ?m_KW ?lk_KW ?m_CO ?lk_CO ?kl_CO ?lo_CO ?ea_CO ?z_len ?z_range ?z_abs ?z_isinstance ?z_all ?z_zip ?z_enumerate ?z_min ?z_int ?z_str ?z_list ?z_tuple ?z_bool ?z_sorted ?z_sum ?z_ValueError ?a_law ?l_law ?c_law ?k_law
    (case a_is_name => k_is)
    (case l_is_name => k_is)
    (case c_is_name => k_is)
    (case k_is_name => k_is)
    (case a_are_ways => k_is)
    (case l_are_ways => k_is)
    (case c_are_ways => k_is)
    (case k_are_ways => k_is)
    (case a_ways_fit => k_is)
    (case l_ways_fit => k_is)
    (case c_ways_fit => k_is)
    (case k_ways_fit => k_is)
    (case a_all_steps => k_is)
    (case l_all_steps => k_is)
    (case c_all_steps => k_is)
    (case k_all_steps => k_is)
    (case a_all_names => k_is)
    (case l_all_names => k_is)
    (case c_all_names => k_is)
    (case k_all_names => k_is)
    (case a_text_of => k_is)
    (case l_text_of => k_is)
    (case c_text_of => k_is)
    (case k_text_of => k_is)
    (case a_named => k_is)
    (case l_named => k_is)
    (case c_named => k_is)
    (case k_named => k_is)
    (case a__law_feed => k_is)
    (case l__law_feed => k_is)
    (case c__law_feed => k_is)
    (case k__law_feed => k_is)
    (case a__law_draw => k_is)
    (case l__law_draw => k_is)
    (case c__law_draw => k_is)
    (case k__law_draw => k_is)
    (case a__law_pick => k_is)
    (case l__law_pick => k_is)
    (case c__law_pick => k_is)
    (case k__law_pick => k_is)
    (case a__law_word => k_is)
    (case l__law_word => k_is)
    (case c__law_word => k_is)
    (case k__law_word => k_is)
    (case a__law_same => k_is)
    (case l__law_same => k_is)
    (case c__law_same => k_is)
    (case k__law_same => k_is)
    (case a__law_sign => k_is)
    (case l__law_sign => k_is)
    (case c__law_sign => k_is)
    (case k__law_sign => k_is)
    (case a__law_bent => k_is)
    (case l__law_bent => k_is)
    (case c__law_bent => k_is)
    (case k__law_bent => k_is)
    (case a__law_near_name => k_is)
    (case l__law_near_name => k_is)
    (case c__law_near_name => k_is)
    (case k__law_near_name => k_is)
    (case a__law_any => k_is)
    (case l__law_any => k_is)
    (case c__law_any => k_is)
    (case k__law_any => k_is)
    (case a__law_ways => k_is)
    (case l__law_ways => k_is)
    (case c__law_ways => k_is)
    (case k__law_ways => k_is)
    (case a__law_refused => k_is)
    (case l__law_refused => k_is)
    (case c__law_refused => k_is)
    (case k__law_refused => k_is)
    (case a__law_errors => k_is)
    (case l__law_errors => k_is)
    (case c__law_errors => k_is)
    (case k__law_errors => k_is)
    (case a__law_kept => k_is)
    (case l__law_kept => k_is)
    (case c__law_kept => k_is)
    (case k__law_kept => k_is)
    (case a_Step => k_is)
    (case pg_Step => k_is)
    (case hd_Step => k_is)
    (case po_Step => k_is)
    (case sa_Step => k_is)
    (case mk_Step => k_is)
    (case kc_Step => k_is)
    (case ca_Step => k_is)
    (case lk_Step => k_is)
    (case mq_Step => exact rfl)
    (case tt_Step => k_is)
    (case ne_Step => k_is)
    (case n_Step_name => k_is)
    (case n_Step_ways => k_is)
    (case a_Step___init__ => k_is)
    (case i_Step___init__ => k_is)
    (case l_Step___init__ => k_is)
    (case c_Step___init__ => k_is)
    (case k_Step___init__ => k_is)
    (case a_Step___eq__ => k_is)
    (case i_Step___eq__ => k_is)
    (case l_Step___eq__ => k_is)
    (case c_Step___eq__ => k_is)
    (case k_Step___eq__ => k_is)
    (case a_Expr => k_is)
    (case pg_Expr => k_is)
    (case hd_Expr => k_is)
    (case po_Expr => k_is)
    (case sa_Expr => k_is)
    (case mk_Expr => k_is)
    (case kc_Expr => k_is)
    (case ca_Expr => k_is)
    (case lk_Expr => k_is)
    (case mq_Expr => exact rfl)
    (case tt_Expr => k_is)
    (case ne_Expr => k_is)
    (case n_Expr_kind => k_is)
    (case n_Expr_word => k_is)
    (case n_Expr_step => k_is)
    (case n_Expr_parts => k_is)
    (case n_Expr_names => k_is)
    (case n_Expr_steps => k_is)
    (case n_Expr_marks => k_is)
    (case n_Expr_text => k_is)
    (case a_Expr___init__ => k_is)
    (case i_Expr___init__ => k_is)
    (case l_Expr___init__ => k_is)
    (case c_Expr___init__ => k_is)
    (case k_Expr___init__ => k_is)
    (case a_Expr___eq__ => k_is)
    (case i_Expr___eq__ => k_is)
    (case l_Expr___eq__ => k_is)
    (case c_Expr___eq__ => k_is)
    (case k_Expr___eq__ => k_is)
    (case a_Trait => k_is)
    (case pg_Trait => k_is)
    (case hd_Trait => k_is)
    (case po_Trait => k_is)
    (case sa_Trait => k_is)
    (case mk_Trait => k_is)
    (case kc_Trait => k_is)
    (case ca_Trait => k_is)
    (case lk_Trait => k_is)
    (case mq_Trait => exact rfl)
    (case tt_Trait => k_is)
    (case ne_Trait => k_is)
    (case n_Trait_word => k_is)
    (case n_Trait_steps => k_is)
    (case a_Trait___init__ => k_is)
    (case i_Trait___init__ => k_is)
    (case l_Trait___init__ => k_is)
    (case c_Trait___init__ => k_is)
    (case k_Trait___init__ => k_is)
    (case a_Trait___eq__ => k_is)
    (case i_Trait___eq__ => k_is)
    (case l_Trait___eq__ => k_is)
    (case c_Trait___eq__ => k_is)
    (case k_Trait___eq__ => k_is)
    (case a_Trait___str__ => k_is)
    (case i_Trait___str__ => k_is)
    (case l_Trait___str__ => k_is)
    (case c_Trait___str__ => k_is)
    (case k_Trait___str__ => k_is)
    (case a_Chain => k_is)
    (case pg_Chain => k_is)
    (case hd_Chain => k_is)
    (case po_Chain => k_is)
    (case sa_Chain => k_is)
    (case mk_Chain => k_is)
    (case kc_Chain => k_is)
    (case ca_Chain => k_is)
    (case lk_Chain => k_is)
    (case mq_Chain => exact rfl)
    (case tt_Chain => k_is)
    (case ne_Chain => k_is)
    (case n_Chain_steps => k_is)
    (case a_Chain___init__ => k_is)
    (case i_Chain___init__ => k_is)
    (case l_Chain___init__ => k_is)
    (case c_Chain___init__ => k_is)
    (case k_Chain___init__ => k_is)
    (case a_Chain___eq__ => k_is)
    (case i_Chain___eq__ => k_is)
    (case l_Chain___eq__ => k_is)
    (case c_Chain___eq__ => k_is)
    (case k_Chain___eq__ => k_is)
    (case dj => decide)
    (case a_WaysError => k_is)
    (case ic_WaysError => k_is)
    (case ty_WaysError => k_is)
    (case a_InvalidStep => k_is)
    (case ic_InvalidStep => k_is)
    (case ty_InvalidStep => k_is)
    (case a_InvalidTrait => k_is)
    (case ic_InvalidTrait => k_is)
    (case ty_InvalidTrait => k_is)
    (case a_InvalidExpr => k_is)
    (case ic_InvalidExpr => k_is)
    (case ty_InvalidExpr => k_is)
    (case a_InvalidRow => k_is)
    (case ic_InvalidRow => k_is)
    (case ty_InvalidRow => k_is)
    (case a_InvalidText => k_is)
    (case ic_InvalidText => k_is)
    (case ty_InvalidText => k_is)
    (case a_InvalidWorld => k_is)
    (case ic_InvalidWorld => k_is)
    (case ty_InvalidWorld => k_is)
    (case a_InvalidStart => k_is)
    (case ic_InvalidStart => k_is)
    (case ty_InvalidStart => k_is)
    (case a_InvalidClaim => k_is)
    (case ic_InvalidClaim => k_is)
    (case ty_InvalidClaim => k_is)
    (case a_NoName => k_is)
    (case ic_NoName => k_is)
    (case ty_NoName => k_is)
    (case a_NoStep => k_is)
    (case ic_NoStep => k_is)
    (case ty_NoStep => k_is)
    (case a_NoRow => k_is)
    (case ic_NoRow => k_is)
    (case ty_NoRow => k_is)
    (case a_Impossible => k_is)
    (case ic_Impossible => k_is)
    (case ty_Impossible => k_is)
    (case ex_WaysError => k_is)
    (case hd_WaysError => k_is)
    (case sg_cls => k_is)
    (case tk_cls => k_is)
    (case x_Impossible => k_is)
    (case ga_Impossible => k_is)
    (case gg_Impossible => k_is)
    (case no_Impossible => k_is)
    (case kc_Impossible => k_is)
    (case cc_Impossible => k_is)
    (case mr_Impossible => k_is)
    (case xi_Impossible => first | k_exc | exact rfl | decide +kernel)
    (case ex_Impossible => k_is)
    (case hd_Impossible => k_is)
    (case x_WaysError => k_is)
    (case ga_WaysError => k_is)
    (case gg_WaysError => k_is)
    (case no_WaysError => k_is)
    (case kc_WaysError => k_is)
    (case cc_WaysError => k_is)
    (case mr_WaysError => k_is)
    (case xi_WaysError => first | k_exc | exact rfl | decide +kernel)
    (case x_InvalidStep => k_is)
    (case sa_InvalidStep => k_is)
    (case ga_InvalidStep => k_is)
    (case gg_InvalidStep => k_is)
    (case no_InvalidStep => k_is)
    (case ex_InvalidStep => k_is)
    (case hd_InvalidStep => k_is)
    (case kc_InvalidStep => k_is)
    (case cc_InvalidStep => k_is)
    (case mr_InvalidStep => k_is)
    (case sw_InvalidStep => k_is)
    (case s_InvalidStep_InvalidStep => k_is)
    (case s_InvalidStep_InvalidTrait => k_is)
    (case s_InvalidStep_InvalidExpr => k_is)
    (case s_InvalidStep_InvalidRow => k_is)
    (case s_InvalidStep_InvalidText => k_is)
    (case s_InvalidStep_InvalidWorld => k_is)
    (case s_InvalidStep_InvalidStart => k_is)
    (case s_InvalidStep_InvalidClaim => k_is)
    (case s_InvalidStep_NoName => k_is)
    (case s_InvalidStep_NoStep => k_is)
    (case s_InvalidStep_NoRow => k_is)
    (case s_InvalidStep_Impossible => k_is)
    (case a_InvalidStep___init__ => k_is)
    (case t_InvalidStep___init__ => k_is)
    (case l_InvalidStep___init__ => k_is)
    (case c_InvalidStep___init__ => k_is)
    (case k_InvalidStep___init__ => k_is)
    (case x_InvalidTrait => k_is)
    (case sa_InvalidTrait => k_is)
    (case ga_InvalidTrait => k_is)
    (case gg_InvalidTrait => k_is)
    (case no_InvalidTrait => k_is)
    (case ex_InvalidTrait => k_is)
    (case hd_InvalidTrait => k_is)
    (case kc_InvalidTrait => k_is)
    (case cc_InvalidTrait => k_is)
    (case mr_InvalidTrait => k_is)
    (case sw_InvalidTrait => k_is)
    (case s_InvalidTrait_InvalidStep => k_is)
    (case s_InvalidTrait_InvalidTrait => k_is)
    (case s_InvalidTrait_InvalidExpr => k_is)
    (case s_InvalidTrait_InvalidRow => k_is)
    (case s_InvalidTrait_InvalidText => k_is)
    (case s_InvalidTrait_InvalidWorld => k_is)
    (case s_InvalidTrait_InvalidStart => k_is)
    (case s_InvalidTrait_InvalidClaim => k_is)
    (case s_InvalidTrait_NoName => k_is)
    (case s_InvalidTrait_NoStep => k_is)
    (case s_InvalidTrait_NoRow => k_is)
    (case s_InvalidTrait_Impossible => k_is)
    (case a_InvalidTrait___init__ => k_is)
    (case t_InvalidTrait___init__ => k_is)
    (case l_InvalidTrait___init__ => k_is)
    (case c_InvalidTrait___init__ => k_is)
    (case k_InvalidTrait___init__ => k_is)
    (case x_InvalidExpr => k_is)
    (case sa_InvalidExpr => k_is)
    (case ga_InvalidExpr => k_is)
    (case gg_InvalidExpr => k_is)
    (case no_InvalidExpr => k_is)
    (case ex_InvalidExpr => k_is)
    (case hd_InvalidExpr => k_is)
    (case kc_InvalidExpr => k_is)
    (case cc_InvalidExpr => k_is)
    (case mr_InvalidExpr => k_is)
    (case sw_InvalidExpr => k_is)
    (case s_InvalidExpr_InvalidStep => k_is)
    (case s_InvalidExpr_InvalidTrait => k_is)
    (case s_InvalidExpr_InvalidExpr => k_is)
    (case s_InvalidExpr_InvalidRow => k_is)
    (case s_InvalidExpr_InvalidText => k_is)
    (case s_InvalidExpr_InvalidWorld => k_is)
    (case s_InvalidExpr_InvalidStart => k_is)
    (case s_InvalidExpr_InvalidClaim => k_is)
    (case s_InvalidExpr_NoName => k_is)
    (case s_InvalidExpr_NoStep => k_is)
    (case s_InvalidExpr_NoRow => k_is)
    (case s_InvalidExpr_Impossible => k_is)
    (case a_InvalidExpr___init__ => k_is)
    (case t_InvalidExpr___init__ => k_is)
    (case l_InvalidExpr___init__ => k_is)
    (case c_InvalidExpr___init__ => k_is)
    (case k_InvalidExpr___init__ => k_is)
    (case x_InvalidRow => k_is)
    (case sa_InvalidRow => k_is)
    (case ga_InvalidRow => k_is)
    (case gg_InvalidRow => k_is)
    (case no_InvalidRow => k_is)
    (case ex_InvalidRow => k_is)
    (case hd_InvalidRow => k_is)
    (case kc_InvalidRow => k_is)
    (case cc_InvalidRow => k_is)
    (case mr_InvalidRow => k_is)
    (case sw_InvalidRow => k_is)
    (case s_InvalidRow_InvalidStep => k_is)
    (case s_InvalidRow_InvalidTrait => k_is)
    (case s_InvalidRow_InvalidExpr => k_is)
    (case s_InvalidRow_InvalidRow => k_is)
    (case s_InvalidRow_InvalidText => k_is)
    (case s_InvalidRow_InvalidWorld => k_is)
    (case s_InvalidRow_InvalidStart => k_is)
    (case s_InvalidRow_InvalidClaim => k_is)
    (case s_InvalidRow_NoName => k_is)
    (case s_InvalidRow_NoStep => k_is)
    (case s_InvalidRow_NoRow => k_is)
    (case s_InvalidRow_Impossible => k_is)
    (case a_InvalidRow___init__ => k_is)
    (case t_InvalidRow___init__ => k_is)
    (case l_InvalidRow___init__ => k_is)
    (case c_InvalidRow___init__ => k_is)
    (case k_InvalidRow___init__ => k_is)
    (case x_InvalidText => k_is)
    (case sa_InvalidText => k_is)
    (case ga_InvalidText => k_is)
    (case gg_InvalidText => k_is)
    (case no_InvalidText => k_is)
    (case ex_InvalidText => k_is)
    (case hd_InvalidText => k_is)
    (case kc_InvalidText => k_is)
    (case cc_InvalidText => k_is)
    (case mr_InvalidText => k_is)
    (case sw_InvalidText => k_is)
    (case s_InvalidText_InvalidStep => k_is)
    (case s_InvalidText_InvalidTrait => k_is)
    (case s_InvalidText_InvalidExpr => k_is)
    (case s_InvalidText_InvalidRow => k_is)
    (case s_InvalidText_InvalidText => k_is)
    (case s_InvalidText_InvalidWorld => k_is)
    (case s_InvalidText_InvalidStart => k_is)
    (case s_InvalidText_InvalidClaim => k_is)
    (case s_InvalidText_NoName => k_is)
    (case s_InvalidText_NoStep => k_is)
    (case s_InvalidText_NoRow => k_is)
    (case s_InvalidText_Impossible => k_is)
    (case a_InvalidText___init__ => k_is)
    (case t_InvalidText___init__ => k_is)
    (case l_InvalidText___init__ => k_is)
    (case c_InvalidText___init__ => k_is)
    (case k_InvalidText___init__ => k_is)
    (case x_InvalidWorld => k_is)
    (case sa_InvalidWorld => k_is)
    (case ga_InvalidWorld => k_is)
    (case gg_InvalidWorld => k_is)
    (case no_InvalidWorld => k_is)
    (case ex_InvalidWorld => k_is)
    (case hd_InvalidWorld => k_is)
    (case kc_InvalidWorld => k_is)
    (case cc_InvalidWorld => k_is)
    (case mr_InvalidWorld => k_is)
    (case sw_InvalidWorld => k_is)
    (case s_InvalidWorld_InvalidStep => k_is)
    (case s_InvalidWorld_InvalidTrait => k_is)
    (case s_InvalidWorld_InvalidExpr => k_is)
    (case s_InvalidWorld_InvalidRow => k_is)
    (case s_InvalidWorld_InvalidText => k_is)
    (case s_InvalidWorld_InvalidWorld => k_is)
    (case s_InvalidWorld_InvalidStart => k_is)
    (case s_InvalidWorld_InvalidClaim => k_is)
    (case s_InvalidWorld_NoName => k_is)
    (case s_InvalidWorld_NoStep => k_is)
    (case s_InvalidWorld_NoRow => k_is)
    (case s_InvalidWorld_Impossible => k_is)
    (case a_InvalidWorld___init__ => k_is)
    (case t_InvalidWorld___init__ => k_is)
    (case l_InvalidWorld___init__ => k_is)
    (case c_InvalidWorld___init__ => k_is)
    (case k_InvalidWorld___init__ => k_is)
    (case x_InvalidStart => k_is)
    (case sa_InvalidStart => k_is)
    (case ga_InvalidStart => k_is)
    (case gg_InvalidStart => k_is)
    (case no_InvalidStart => k_is)
    (case ex_InvalidStart => k_is)
    (case hd_InvalidStart => k_is)
    (case kc_InvalidStart => k_is)
    (case cc_InvalidStart => k_is)
    (case mr_InvalidStart => k_is)
    (case sw_InvalidStart => k_is)
    (case s_InvalidStart_InvalidStep => k_is)
    (case s_InvalidStart_InvalidTrait => k_is)
    (case s_InvalidStart_InvalidExpr => k_is)
    (case s_InvalidStart_InvalidRow => k_is)
    (case s_InvalidStart_InvalidText => k_is)
    (case s_InvalidStart_InvalidWorld => k_is)
    (case s_InvalidStart_InvalidStart => k_is)
    (case s_InvalidStart_InvalidClaim => k_is)
    (case s_InvalidStart_NoName => k_is)
    (case s_InvalidStart_NoStep => k_is)
    (case s_InvalidStart_NoRow => k_is)
    (case s_InvalidStart_Impossible => k_is)
    (case a_InvalidStart___init__ => k_is)
    (case t_InvalidStart___init__ => k_is)
    (case l_InvalidStart___init__ => k_is)
    (case c_InvalidStart___init__ => k_is)
    (case k_InvalidStart___init__ => k_is)
    (case x_InvalidClaim => k_is)
    (case sa_InvalidClaim => k_is)
    (case ga_InvalidClaim => k_is)
    (case gg_InvalidClaim => k_is)
    (case no_InvalidClaim => k_is)
    (case ex_InvalidClaim => k_is)
    (case hd_InvalidClaim => k_is)
    (case kc_InvalidClaim => k_is)
    (case cc_InvalidClaim => k_is)
    (case mr_InvalidClaim => k_is)
    (case sw_InvalidClaim => k_is)
    (case s_InvalidClaim_InvalidStep => k_is)
    (case s_InvalidClaim_InvalidTrait => k_is)
    (case s_InvalidClaim_InvalidExpr => k_is)
    (case s_InvalidClaim_InvalidRow => k_is)
    (case s_InvalidClaim_InvalidText => k_is)
    (case s_InvalidClaim_InvalidWorld => k_is)
    (case s_InvalidClaim_InvalidStart => k_is)
    (case s_InvalidClaim_InvalidClaim => k_is)
    (case s_InvalidClaim_NoName => k_is)
    (case s_InvalidClaim_NoStep => k_is)
    (case s_InvalidClaim_NoRow => k_is)
    (case s_InvalidClaim_Impossible => k_is)
    (case a_InvalidClaim___init__ => k_is)
    (case t_InvalidClaim___init__ => k_is)
    (case l_InvalidClaim___init__ => k_is)
    (case c_InvalidClaim___init__ => k_is)
    (case k_InvalidClaim___init__ => k_is)
    (case x_NoName => k_is)
    (case sa_NoName => k_is)
    (case ga_NoName => k_is)
    (case gg_NoName => k_is)
    (case no_NoName => k_is)
    (case ex_NoName => k_is)
    (case hd_NoName => k_is)
    (case kc_NoName => k_is)
    (case cc_NoName => k_is)
    (case mr_NoName => k_is)
    (case sw_NoName => k_is)
    (case s_NoName_InvalidStep => k_is)
    (case s_NoName_InvalidTrait => k_is)
    (case s_NoName_InvalidExpr => k_is)
    (case s_NoName_InvalidRow => k_is)
    (case s_NoName_InvalidText => k_is)
    (case s_NoName_InvalidWorld => k_is)
    (case s_NoName_InvalidStart => k_is)
    (case s_NoName_InvalidClaim => k_is)
    (case s_NoName_NoName => k_is)
    (case s_NoName_NoStep => k_is)
    (case s_NoName_NoRow => k_is)
    (case s_NoName_Impossible => k_is)
    (case a_NoName___init__ => k_is)
    (case t_NoName___init__ => k_is)
    (case l_NoName___init__ => k_is)
    (case c_NoName___init__ => k_is)
    (case k_NoName___init__ => k_is)
    (case x_NoStep => k_is)
    (case sa_NoStep => k_is)
    (case ga_NoStep => k_is)
    (case gg_NoStep => k_is)
    (case no_NoStep => k_is)
    (case ex_NoStep => k_is)
    (case hd_NoStep => k_is)
    (case kc_NoStep => k_is)
    (case cc_NoStep => k_is)
    (case mr_NoStep => k_is)
    (case sw_NoStep => k_is)
    (case s_NoStep_InvalidStep => k_is)
    (case s_NoStep_InvalidTrait => k_is)
    (case s_NoStep_InvalidExpr => k_is)
    (case s_NoStep_InvalidRow => k_is)
    (case s_NoStep_InvalidText => k_is)
    (case s_NoStep_InvalidWorld => k_is)
    (case s_NoStep_InvalidStart => k_is)
    (case s_NoStep_InvalidClaim => k_is)
    (case s_NoStep_NoName => k_is)
    (case s_NoStep_NoStep => k_is)
    (case s_NoStep_NoRow => k_is)
    (case s_NoStep_Impossible => k_is)
    (case a_NoStep___init__ => k_is)
    (case t_NoStep___init__ => k_is)
    (case l_NoStep___init__ => k_is)
    (case c_NoStep___init__ => k_is)
    (case k_NoStep___init__ => k_is)
    (case x_NoRow => k_is)
    (case sa_NoRow => k_is)
    (case ga_NoRow => k_is)
    (case gg_NoRow => k_is)
    (case no_NoRow => k_is)
    (case ex_NoRow => k_is)
    (case hd_NoRow => k_is)
    (case kc_NoRow => k_is)
    (case cc_NoRow => k_is)
    (case mr_NoRow => k_is)
    (case sw_NoRow => k_is)
    (case s_NoRow_InvalidStep => k_is)
    (case s_NoRow_InvalidTrait => k_is)
    (case s_NoRow_InvalidExpr => k_is)
    (case s_NoRow_InvalidRow => k_is)
    (case s_NoRow_InvalidText => k_is)
    (case s_NoRow_InvalidWorld => k_is)
    (case s_NoRow_InvalidStart => k_is)
    (case s_NoRow_InvalidClaim => k_is)
    (case s_NoRow_NoName => k_is)
    (case s_NoRow_NoStep => k_is)
    (case s_NoRow_NoRow => k_is)
    (case s_NoRow_Impossible => k_is)
    (case a_NoRow___init__ => k_is)
    (case t_NoRow___init__ => k_is)
    (case l_NoRow___init__ => k_is)
    (case c_NoRow___init__ => k_is)
    (case k_NoRow___init__ => k_is)
    (case dx => decide)
    (case de => decide)
    (case m_LETTERS => k_is)
    (case m_WAYS => k_is)
    (case m_KW => k_is)
    (case lk_KW => k_is)
    (case m_CO => k_is)
    (case lk_CO => k_is)
    (case kl_CO => exact ⟨⟨_, _, rfl, rfl⟩, ⟨_, _, rfl, rfl⟩, ⟨_, _, rfl, rfl⟩, ⟨_, _, rfl, rfl⟩, ⟨_, _, rfl, rfl⟩, ⟨_, _, rfl, rfl⟩, ⟨_, _, rfl, rfl⟩, trivial⟩)
    (case lo_CO => exact rfl)
    (case ea_CO => exact ⟨⟨_, rfl⟩, ⟨_, rfl⟩, ⟨⟨_, rfl⟩, ⟨_, rfl⟩, ⟨⟨_, rfl⟩, ⟨_, rfl⟩, ⟨⟨_, rfl⟩, ⟨_, rfl⟩, ⟨⟨_, rfl⟩, ⟨_, rfl⟩, ⟨⟨_, rfl⟩, ⟨_, rfl⟩, ⟨⟨_, rfl⟩, ⟨_, rfl⟩, trivial⟩⟩⟩⟩⟩⟩⟩)
    (case z_len => k_is)
    (case z_range => k_is)
    (case z_abs => k_is)
    (case z_isinstance => k_is)
    (case z_all => k_is)
    (case z_zip => k_is)
    (case z_enumerate => k_is)
    (case z_min => k_is)
    (case z_int => k_is)
    (case z_str => k_is)
    (case z_list => k_is)
    (case z_tuple => k_is)
    (case z_bool => k_is)
    (case z_sorted => k_is)
    (case z_sum => k_is)
    (case z_ValueError => k_is)
    (case a_law => k_is)
    (case l_law => k_is)
    (case c_law => k_is)
    (case k_law => k_is))
