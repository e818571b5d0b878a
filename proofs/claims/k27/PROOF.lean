import PyProof.Rows.All
import Wide.All
import OpenK.AllK
import Wide.FinOn
import HandS.ForMost
import HandS.Codes
import HandS.Defaults
import HandS.IsInst
import HandS.Flow
import HandS.Style
import HandS.Conv
import HandS.More
import HandS.Wide
import HandS.WideMore
import HandS.DictComp
import HandS.TupAny
import HandS.TupLe
import HandS.TupLen
import HandS.Zip
import HandS.Deep
import HandS.Exc
import HandS.ExcOwn
import HandS.TryOnly
import HandS.WordsExc
import HandS.ExcIs
import HandS.ExcValue
import HandS.Lambda
import HandS.Strs
import HandS.SetFor
import HandS.Walk
import KE.SortData
import KE.KDictKeyed
import KE.KDictWalk
import KE.KDictSum
import PyProof.Rows.SortStr
import PyProof.Rows.StrMeet
import PyProof.Rows.StrClose
import PyProof.Rows.StrFin3
import HandS.Head0
import HandS.Head1
import HandS.Head2
import HandS.HeadHook1
import HandS.HeadHook2
import HandS.HeadHook3
import HandS.HeadHook4
import HandS.HeadEnd
import HandS.EndTab
import HandS.HeadWalk
import PySem.Challenge.RW_goersay_k27_whole_what_some_slips_bring
set_option Elab.async false
set_option linter.all false
set_option maxRecDepth 100000
set_option maxHeartbeats 4000000
/-! the text by places, what the top has written, how a def becomes a promise -/
namespace GK
open PySem PySem.Spec PyProof.Rows L2
def topS (i : Nat) : Stmt := PySem.Challenge.pw_goersay_k27_whole_what_some_slips_bring.main.body.getD i (.Pass ⟨0, 0, 0, 0⟩)
abbrev s_is_number : Stmt := topS 13
abbrev s_is_name : Stmt := topS 14
abbrev s_is_rest : Stmt := topS 15
abbrev s_require_rest : Stmt := topS 16
abbrev s_greatest_divisor : Stmt := topS 17
abbrev s_inverse_modulo : Stmt := topS 18
abbrev s_both : Stmt := topS 19
abbrev s_by : Stmt := topS 20
abbrev s_least : Stmt := topS 21
abbrev s_are_names : Stmt := topS 26
abbrev s_need_names : Stmt := topS 27
abbrev s_Known_init : Stmt := inClass (topS 30) 0
abbrev s_Known_take_over : Stmt := inClass (topS 30) 2
abbrev s_Known_names : Stmt := inClass (topS 30) 5
abbrev s_Known_rests : Stmt := inClass (topS 30) 6
abbrev s_Known_rest : Stmt := inClass (topS 30) 7
abbrev s_of_rests : Stmt := topS 31
abbrev s_need_seats : Stmt := topS 33
abbrev s_need_begin : Stmt := topS 34
abbrev s_Ways_init : Stmt := inClass (topS 35) 0
abbrev s_Ways_seat_of : Stmt := inClass (topS 35) 1
abbrev s_Ways_sitters : Stmt := inClass (topS 35) 2
abbrev s_Ways_nexts : Stmt := inClass (topS 35) 3
abbrev s_Ways_many : Stmt := inClass (topS 35) 4
abbrev s_Ways_led : Stmt := inClass (topS 35) 5
abbrev s_next_ones : Stmt := topS 36
abbrev s_how_many : Stmt := topS 37
abbrev s_order_may : Stmt := topS 38
abbrev s_need_may : Stmt := topS 39
abbrev s_number_may : Stmt := topS 40
abbrev s_places_of : Stmt := topS 41
abbrev s_narrowed : Stmt := topS 42
abbrev s_slips_for : Stmt := topS 43
abbrev s_sure : Stmt := topS 44
abbrev s_need_order : Stmt := topS 47
abbrev s_begin_of : Stmt := topS 48
abbrev s_rests_for_two : Stmt := topS 49
abbrev s_two_may : Stmt := topS 50
abbrev s_slips_for_two : Stmt := topS 51
abbrev s_many_behind : Stmt := topS 52
abbrev s_how_many_two : Stmt := topS 53
abbrev s__law_begun : Stmt := topS 55
abbrev s__law_mixed : Stmt := topS 56
abbrev s__law_take : Stmt := topS 57
abbrev s__law_pick : Stmt := topS 58
abbrev s__law_order : Stmt := topS 59
abbrev s__law_words : Stmt := topS 60
abbrev s__law_common : Stmt := topS 61
abbrev s__law_a_rest : Stmt := topS 62
abbrev s__law_sitting : Stmt := topS 63
abbrev s__law_goes : Stmt := topS 64
abbrev s__law_all_slips : Stmt := topS 65
abbrev s__law_figures : Stmt := topS 66
abbrev s__law_one_right : Stmt := topS 67
abbrev s__law_is_refused : Stmt := topS 68
abbrev s__law_two_right : Stmt := topS 69
abbrev s_law : Stmt := topS 70

/-- what the top has written, by names -/
structure Txt (K : PySem.W.Frag) (mg : Str → Option Value) (CK CW : Addr) : Prop where
  b_isinstance : mg "isinstance" = none
  b_int : mg "int" = none
  b_bool : mg "bool" = none
  b_str : mg "str" = none
  b_tuple : mg "tuple" = none
  b_list : mg "list" = none
  b_dict : mg "dict" = none
  b_set : mg "set" = none
  b_len : mg "len" = none
  b_all : mg "all" = none
  b_range : mg "range" = none
  b_sum : mg "sum" = none
  b_zip : mg "zip" = none
  b_enumerate : mg "enumerate" = none
  b_sorted : mg "sorted" = none
  b_min : mg "min" = none
  g_LETTERS : ∃ u, mg "LETTERS" = some u ∧ RelV (.str "abcdefghijklmnopqrstuvwxyz") u
  g_MOST_LETTERS : ∃ u, mg "MOST_LETTERS" = some u ∧ RelV (.int 8) u
  g_MOST_BY : ∃ u, mg "MOST_BY" = some u ∧ RelV (.int 1000) u
  g_FEWEST : ∃ u, mg "FEWEST" = some u ∧ RelV (.int 2) u
  g_MOST : ∃ u, mg "MOST" = some u ∧ RelV (.int 12) u
  g_MOST_NAMES : ∃ u, mg "MOST_NAMES" = some u ∧ RelV (.int 6) u
  g_NOTHING : ∃ a, mg "NOTHING" = some (.ref a)
  al : mg "least_rests" = mg "least"
  cK : Cls K CK
  cW : Cls K CW
  n_own_names : NoAttr K CK "own_names"
  n_own_rests : NoAttr K CK "own_rests"
  n_own_sights : NoAttr K CK "own_sights"
  n_w_seats : NoAttr K CW "w_seats"
  n_w_rests : NoAttr K CW "w_rests"
  n_w_all : NoAttr K CW "w_all"
  n_w_many : NoAttr K CW "w_many"
theorem pe_b {X : Cx} {x : Str} {pos : Pos} (n : String) (hg : Gl X x) (hm : X.mg x = none) (hv : bootBuiltins x = some (.type n)) (hn : x ≠ "__name__" := by decide) (hd : (x == ("__debug__" : Str)) = false := by decide) : PE X (.Name x pos) (tC (.ty n)) := pe_bltn hg hm hv rfl hn hd
/-- a def of the module -/
structure DefAt (K : PySem.W.Frag) (mg : Str → Option Value) (x : Str) (st : Stmt) : Prop where
  ex : ∃ (f : Addr) (fd : FuncData), FunD K x x (defArgs st) (defBody st) (defScope st) [] [] f fd ∧ mg x = some (.ref f)
/-- a method of the class at C -/
structure MetAt (K : PySem.W.Frag) (C : Addr) (m qual : Str) (st : Stmt) : Prop where
  ex : ∃ (f : Addr) (fd : FuncData), FunD K m qual (defArgs st) (defBody st) (defScope st) [] [] f fd ∧ Meth K C m f
/-- the class's __init__ -/
structure InitAt (K : PySem.W.Frag) (mg : Str → Option Value) (C : Addr) (x qual : Str) (st : Stmt) : Prop where
  ex : ∃ (f : Addr) (fd : FuncData), FunD K "__init__" qual (defArgs st) (defBody st) (defScope st) [] [] f fd ∧ Mk K C f ∧ mg x = some (.ref C)
section
variable {P : Program} {w : World} {K : PySem.W.Frag} {mg : Str → Option Value} {base : Heap}
/-- what binds the arguments of a def without defaults -/
def BindF (x qual : Str) (st : Stmt) (ps : List Str) : Prop := ∀ (kV doc pm : Value) (an : Option Addr) (cdv ct : Value) (us : List Value), us.length = ps.length → bindArgs (PySem.W.fnOf x qual (defArgs st) (defBody st) (defScope st) .none kV doc pm an cdv ct) ⟨us, []⟩ = pure (ps.zip us)
/-- the body's walk, for a def that lets nothing out -/
def BodyOk (P : Program) (w : World) (K : PySem.W.Frag) (mg : Str → Option Value) (base : Heap) (qual : Str) (st : Stmt) (N : List Str) (k : Nat) (sp : Sp) : Prop :=
  ∀ (f : Addr) (cdv : Value) (A : Around) (outer : List Env) (s : Shared) (H : Hp) (vs : List V) (Q : VK) (E : XK), Room k (A.deeper (envOfC qual (defScope st) s.heap.objs.size f cdv)) → sp vs H Q E →
      ∃ t, PSs (cxOf C8.CX0 P w K mg base N qual (defScope st) f cdv A outer s H E).nox (defBody st) t ∧ t { nx := fun _ H' => Q .non H', rt := Q } (start N vs) H
theorem cal_of {x : Str} {st : Stmt} {N ps : List Str} {k : Nat} {sp : Sp} (D : DefAt K mg x st) (S : FnScope N ps (defScope st)) (hbind : BindF x x st ps) (len : ∀ vs H Q E, sp vs H Q E → vs.length = ps.length)
    (hbody : BodyOk P w K mg base x st N k sp) : C8.Cal P w K mg base (k + 1) x sp [] := by
  obtain ⟨f, fd, F, gm⟩ := D.ex
  refine ⟨f, fd, ps, [], F.ok S len fun cdv A outer s H vs Q E hr hsp => ?_, gm, F.kp, F.bindsN hbind, .nil⟩
  obtain ⟨t, h, q⟩ := hbody f cdv A outer s H vs Q E hr hsp
  exact ⟨t, h.nox, q⟩
theorem met_of {m qual : Str} {C : Addr} {st : Stmt} {N ps : List Str} {k : Nat} {sp : Sp} (c : Cls K C) (D : MetAt K C m qual st) (S : FnScope N ps (defScope st)) (hbind : BindF m qual st ps) (len : ∀ vs H Q E, sp vs H Q E → vs.length = ps.length)
    (hbody : BodyOk P w K mg base qual st N k sp) : C8.Met P w K mg base (k + 1) C m sp [] := by
  obtain ⟨f, fd, F, gm⟩ := D.ex
  refine ⟨f, fd, ps, [], c, gm, F.ok S len fun cdv A outer s H vs Q E hr hsp => ?_, F.bindsN hbind, .nil⟩
  obtain ⟨t, h, q⟩ := hbody f cdv A outer s H vs Q E hr hsp
  exact ⟨t, h.nox, q⟩
theorem mak_of {x qual : Str} {C : Addr} {st : Stmt} {N ps : List Str} {k : Nat} {sp : Sp} (D : InitAt K mg C x qual st) (S : FnScope N ps (defScope st)) (hbind : BindF "__init__" qual st ps) (len : ∀ vs H Q E, sp vs H Q E → vs.length = ps.length)
    (hbody : BodyOk P w K mg base qual st N k sp) : C8.Mak P w K mg base (k + 1) x C sp [] := by
  obtain ⟨f, fd, F, M, gm⟩ := D.ex
  refine ⟨f, fd, ps, [], M, F.ok S len fun cdv A outer s H vs Q E hr hsp => ?_, gm, F.bindsN hbind, .nil⟩
  obtain ⟨t, h, q⟩ := hbody f cdv A outer s H vs Q E hr hsp
  exact ⟨t, h.nox, q⟩
end
end GK
set_option Elab.async false
set_option linter.all false
set_option maxRecDepth 100000
set_option maxHeartbeats 4000000
/-! heaps that grow, comprehensions, data -/
namespace GK
open PySem PySem.Spec PyProof.Rows L2
section
variable {K : PySem.W.Frag} {H H' H1 H2 : Hp} {a p D : Addr} {xs : List V} {o : HO}
theorem same_tup (e : Same H H') (h : SqT K H a xs) : SqT K H' a xs := by
  rcases h with (h | ⟨o, h⟩) | h
  · exact .inl (.inl (e _ _ h))
  · exact .inl (.inr ⟨o, e _ _ h⟩)
  · exact .inr h
theorem same_upd (h : H p = none) : Same H (upd H p o) := fun b u e => by
  rw [upd_ne (ne_of_none e h)]
  exact e
/-- an object that H doesn't know may change -/
theorem same_mut (e : Same H H') (h : H p = none) : Same H (upd H' p o) := fun b u q => by
  rw [upd_ne (ne_of_none q h)]
  exact e b u q
theorem same_del (e : Same H H') (h : H p = none) : Same H (delH H' p) := fun b u q => by
  rw [delH_ne (ne_of_none q h)]
  exact e b u q
theorem del_same : Same (delH H p) H := fun b u q => by
  by_cases e : b = p
  · rw [e, delH_same] at q
    cases q
  · rw [delH_ne e] at q
    exact q
theorem del_upd : Same (delH H p) (upd H p o) := fun b u q => by
  by_cases e : b = p
  · rw [e, delH_same] at q
    cases q
  · rw [delH_ne e] at q
    rw [upd_ne e]
    exact q
theorem tyx_tup (h : SqT K H a xs) : TyX K H (.ref a) (.type "tuple") := by
  rcases h with (h | ⟨o, h⟩) | ⟨o, _, _, h, c, _⟩
  · exact .base (.tup h)
  · exact .fTuple h
  · exact .kTuple h c
theorem tyx_lst (h : SqL K H a xs) : TyX K H (.ref a) (.type "list") := by
  rcases h with (h | ⟨o, h⟩) | ⟨o, _, _, h, c, _⟩
  · exact .base (.lst h)
  · exact .base (.frz h)
  · exact .kList h c
theorem sz_le {n : Nat} (h : n ≤ 100000) : n ≤ sizeLine := Nat.le_trans h (by decide)
theorem sz_lt {n : Nat} (h : n < 100000) : n < sizeLine := Nat.lt_of_lt_of_le h (by decide)
end
/-! ### rules with the written part named (within a comprehension's block) -/
section
variable {X : Cx} (K : PySem.W.Frag)
theorem k_in (h : X.K = K := by rfl) : OpR X (compareOp .In) (rIn K false) := by subst h; exact op_in_seq
theorem k_nin (h : X.K = K := by rfl) : OpR X (compareOp .NotIn) (rIn K true) := by subst h; exact op_notIn_seq
theorem k_isi (h : X.K = K := by rfl) : CallR X (.builtin "isinstance") (rIsi K) := by subst h; exact call_isi
def rLenQ (K : PySem.W.Frag) : List V → Hp → VK → Prop := fun xs H Q => ∃ p ys, xs = [.ref p] ∧ (SqL K H p ys ∨ SqT K H p ys) ∧ Q (.int ys.length) H
theorem k_len (h : X.K = K := by rfl) : CallR X (.builtin "len") (rLenQ K) := by subst h; exact call_len_seq
theorem k_ixl (h : X.K = K := by rfl) : IxR X (rIxL K) := by subst h; exact ix_list
theorem k_ixt (h : X.K = K := by rfl) : IxR X (rIxT K) := by subst h; exact ix_tup
theorem k_slA (h : X.K = K := by rfl) : SlR X (rSlA K) := by subst h; exact sl_tupA
theorem k_eqD (hu : X.A.units + 64 < cLine) (h : X.K = K := by rfl) : OpR X (compareOp .Eq) (rEqD K) := by subst h; exact op_eqD hu
theorem k_fld {e : Expr} {f : Str} {pos : Pos} {ta : TE} (he : PE X e ta) (h : X.K = K := by rfl) (hb : attributeBase e f X.env (eval e X.env) = eval e X.env := by rfl) : PE X (.Attribute e f pos) (tFld K ta f) := by subst h; exact pe_fld he hb
theorem k_index (h : X.K = K := by rfl) : MtR X "list.index" (rIndex K) := by subst h; exact mt_index
theorem k_bm {T : String} {name : Str} {id : String} {r : V → List V → Hp → VK → Prop} {o e : Expr} {es : List Expr} {to : TE} {t : TA} {apos cpos : Pos} (pa : PlainAttrs T) (slot : Slot T name id) (hty : typeOf (.builtin id) = pure (.type "method_descriptor")) (hm : MtR X id r)
    (ho : PE X o to) (ha : PA X (e :: es) t) (h : X.K = K := by rfl) (p : PE X (.Call (.Attribute o name apos) (e :: es) [] cpos) (tBM X.K T r to t) := by exact pe_bm (by assumption) (by assumption) (by assumption) (by assumption) (by assumption) (by assumption)) :
    PE X (.Call (.Attribute o name apos) (e :: es) [] cpos) (tBM K T r to t) := by subst h; exact p
end
/-! ### comprehensions -/
/-- the new list at D holds what is told beforehand -/
structure Told (H1 : Hp) (D : Addr) (out : Nat → List V) (i : Nat) (H : Hp) : Prop where
  same : Same H1 H
  at_ : H D = some (.lst (out i))
section
variable {H1 H H3 H4 : Hp} {D : Addr} {out : Nat → List V} {i : Nat} {y : V}
theorem Told.start (hD : H1 D = none) (h0 : out 0 = []) : Told H1 D out 0 (upd H1 D (.lst [])) := ⟨same_upd hD, by rw [h0]; exact upd_same⟩
theorem Told.put (p : Told H1 D out i H) (hD : H1 D = none) (e : Same H H4) (ho : out (i + 1) = out i ++ [y]) (hl : (out i).length < 100000) :
    ∃ acc, H4 D = some (.lst acc) ∧ acc.length < sizeLine ∧ Told H1 D out (i + 1) (upd H4 D (.lst (acc ++ [y]))) :=
  ⟨out i, e _ _ p.at_, sz_lt hl, same_mut (p.same.trans e) hD, by rw [ho]; exact upd_same⟩
theorem Told.skip (p : Told H1 D out i H) (e : Same H H3) (ho : out (i + 1) = out i) : Told H1 D out (i + 1) H3 := ⟨p.same.trans e, by rw [ho]; exact e _ _ p.at_⟩
end
/-- the new list at D holds some acc of which R is true, R speaking of other objects -/
structure Held (H1 : Hp) (D : Addr) (R : Nat → List V → Hp → Prop) (i : Nat) (H : Hp) : Prop where
  ex : ∃ acc H0, H D = some (.lst acc) ∧ Same H1 H0 ∧ H0 D = none ∧ Same H0 H ∧ R i acc H0
section
variable {H1 H H3 H4 : Hp} {D : Addr} {R : Nat → List V → Hp → Prop} {i : Nat} {y : V}
theorem Held.start (hD : H1 D = none) (h0 : R 0 [] H1) : Held H1 D R 0 (upd H1 D (.lst [])) := ⟨⟨[], H1, upd_same, Same.refl _, hD, same_upd hD, h0⟩⟩
theorem Held.same (p : Held H1 D R i H) : Same H1 H := let ⟨_, _, _, a, _, b, _⟩ := p.ex; a.trans b
theorem Held.put (p : Held H1 D R i H) (e : Same H H4) (hR : ∀ acc H0, H D = some (.lst acc) → Same H1 H0 → Same H0 H → H0 D = none → R i acc H0 → R (i + 1) (acc ++ [y]) (delH H4 D) ∧ acc.length < 100000) :
    ∃ acc, H4 D = some (.lst acc) ∧ acc.length < sizeLine ∧ Held H1 D R (i + 1) (upd H4 D (.lst (acc ++ [y]))) := by
  obtain ⟨acc, H0, h1, h2, h3, h4, h5⟩ := p.ex
  obtain ⟨r1, r2⟩ := hR acc H0 h1 h2 h4 h3 h5
  exact ⟨acc, e _ _ h1, sz_lt r2, ⟨⟨_, delH H4 D, upd_same, (h2.trans (same_del (h4.trans e) h3)), delH_same, del_upd, r1⟩⟩⟩
theorem Held.skip (p : Held H1 D R i H) (e : Same H H3) (hR : ∀ acc H0, Same H1 H0 → Same H0 H → R i acc H0 → R (i + 1) acc H0) : Held H1 D R (i + 1) H3 := by
  obtain ⟨acc, H0, h1, h2, h3, h4, h5⟩ := p.ex
  exact ⟨⟨acc, H0, e _ _ h1, h2, h3, h4.trans e, hR acc H0 h2 h4 h5⟩⟩
end
theorem two_at {α : Type} {a b x : α} {i : Nat} (h : [a, b][i]? = some x) : x = a ∨ x = b := by
  match i, h with
  | 0, h => exact Or.inl (Option.some.inj h).symm
  | 1, h => exact Or.inr (Option.some.inj h).symm
  | i + 2, h => simp at h
theorem rep_succ {α : Type} (i : Nat) (x : α) : List.replicate (i + 1) x = List.replicate i x ++ [x] := List.replicate_succ'
theorem all_rep (n : Nat) : (List.replicate n true).all id = true := by simp
theorem map_rep (n : Nat) : List.replicate n (V.bl true) = (List.replicate n true).map V.bl := by simp
theorem bl_t {p : Prop} [Decidable p] (h : p) : V.bl (decide p) = V.bl true := by rw [decide_eq_true h]
theorem bl_f {p : Prop} [Decidable p] (h : ¬ p) : V.bl (decide p) = V.bl false := by rw [decide_eq_false h]
/-- a comprehension without a test -/
theorem yes_in {σ : L2.St} {H : Hp} {A B : Hp → Prop} (h : A H) : tYes σ H (fun b H3 => if b = true then A H3 else B H3) := by
  show (if true = true then A H else B H)
  rw [if_pos rfl]
  exact h
section
variable {J : It} {n : Nat} {G : Hp → Prop} {Y : Nat → Hp → V → Hp → Prop}
/-- a dict comprehension over a walk -/
theorem dc_it (w : Walk J n G Y) {g : TG} {tt : TT} {tk tv : TE} {vs : List Nat} {σ : L2.St} {H1 : Hp} {D : Addr} {Qd : Hp → Prop} (Pv : Nat → Hp → Prop) (h0 : Pv 0 (upd H1 D (.dK []))) (hG : ∀ i H, i ≤ n → Pv i H → G H)
    (hs : ∀ i x H H', i < n → Pv i H → Y i H x H' → g x (wipe σ vs) H' fun σ2 H2 => wipe σ2 vs = wipe σ vs ∧ tt σ2 H2 fun b H3 =>
      if b = true then tk σ2 H3 fun y H4 => tv σ2 H4 fun z H5 => ∃ kvs k, y = kV k ∧ H5 D = some (.dK kvs) ∧ kvs.length < sizeLine ∧ Pv (i + 1) (upd H5 D (.dK (putK kvs k z))) else Pv (i + 1) H3) (hd : ∀ H, Pv n H → Qd H) :
    ∃ W : Nat → Nat → Hp → Prop, (∃ m, W 0 m (upd H1 D (.dK []))) ∧ ∀ i m H, W i m H →
      (J.stop i H ∧ Qd H) ∨ (J.go i H ∧ ∃ Nx : Hp → Prop, (∀ H', Nx H' → ∃ m', m' < m ∧ W (i + 1) m' H') ∧ ∀ x H', J.yld i H x H' → g x (wipe σ vs) H' fun σ2 H2 => wipe σ2 vs = wipe σ vs ∧ tt σ2 H2 fun b H3 =>
        if b = true then tk σ2 H3 fun y H4 => tv σ2 H4 fun z H5 => ∃ kvs k, y = kV k ∧ H5 D = some (.dK kvs) ∧ kvs.length < sizeLine ∧ Nx (upd H5 D (.dK (putK kvs k z))) else Nx H3) := by
  refine ⟨fun i m H => m = n - i ∧ i ≤ n ∧ Pv i H, ⟨n, rfl, Nat.zero_le _, h0⟩, ?_⟩
  rintro i m H ⟨hm, hi, p⟩
  subst hm
  by_cases hlt : i < n
  · exact .inr ⟨w.goes i H hlt (hG i H hi p), Pv (i + 1), fun H' p' => ⟨n - (i + 1), by omega, rfl, hlt, p'⟩, fun x H' y => hs i x H H' hlt p (w.yields i H x H' hlt (hG i H hi p) y)⟩
  · obtain rfl : i = n := by omega
    exact .inl ⟨w.stops H (hG _ H hi p), hd H p⟩
end
/-! ### data -/
/-- a rest: a tuple of its number and its modulus -/
def RestAt (K : PySem.W.Frag) (H : Hp) (v : V) (r : Nat × Nat) : Prop := ∃ a, v = .ref a ∧ SqT K H a [.int (r.1 : Nat), .int (r.2 : Nat)]
theorem RestAt.same {K : PySem.W.Frag} {H H' : Hp} {v : V} {r : Nat × Nat} (e : Same H H') (h : RestAt K H v r) : RestAt K H' v r := let ⟨a, e1, e2⟩ := h; ⟨a, e1, same_tup e e2⟩

/-- the pairs of a dict: for each of these names, in order, a rest -/
structure RestsD (K : PySem.W.Frag) (H : Hp) (kvs : List (Key × V)) (xs : List Str) (ρ : Str → Nat × Nat) : Prop where
  keys : kvs.map (·.1) = xs.map Sum.inr
  val : ∀ x ∈ xs, ∃ v, valV kvs (Sum.inr x) = some v ∧ RestAt K H v (ρ x)
section
variable {K : PySem.W.Frag} {H H' : Hp} {kvs : List (Key × V)} {xs : List Str} {ρ : Str → Nat × Nat} {CK : Addr} {p : Addr}
theorem RestsD.same (e : Same H H') (h : RestsD K H kvs xs ρ) : RestsD K H' kvs xs ρ := ⟨h.keys, fun x hx => let ⟨v, a, b⟩ := h.val x hx; ⟨v, a, b.same e⟩⟩
theorem RestsD.len (h : RestsD K H kvs xs ρ) : kvs.length = xs.length := by
  have := congrArg List.length h.keys
  rw [List.length_map, List.length_map] at this
  exact this
theorem valV_mem {κ : Type} [DecidableEq κ] : ∀ {kvs : List (κ × V)} {k : κ} {v : V}, (kvs.map (·.1)).Nodup → (k, v) ∈ kvs → valV kvs k = some v
  | [], _, _, _, h => nomatch h
  | (k', v') :: r, k, v, hn, h => by
    have hn : (k' :: r.map (·.1)).Nodup := hn
    obtain ⟨h1, h2⟩ := List.nodup_cons.mp hn
    unfold valV
    rcases List.mem_cons.mp h with e | h
    · cases e
      simp
    · have : k' ≠ k := fun e => h1 (e ▸ List.mem_map.mpr ⟨(k, v), h, rfl⟩)
      rw [List.find?_cons_of_neg (by simpa using this)]
      exact valV_mem h2 h
theorem nodup_inr {xs : List Str} (h : xs.Nodup) : (xs.map (Sum.inr : Str → Key)).Nodup := by
  rw [List.nodup_iff_pairwise_ne, List.pairwise_map]
  exact (List.nodup_iff_pairwise_ne.mp h).imp fun hne e => hne (Sum.inr.inj e)
/-- an entry by its place -/
theorem RestsD.at_ (h : RestsD K H kvs xs ρ) (hn : xs.Nodup) {i : Nat} {kv : Key × V} (hi : kvs[i]? = some kv) : ∃ x, xs[i]? = some x ∧ kv.1 = Sum.inr x ∧ RestAt K H kv.2 (ρ x) := by
  have e : (kvs.map (·.1))[i]? = (xs.map (Sum.inr : Str → Key))[i]? := by rw [h.keys]
  rw [List.getElem?_map, List.getElem?_map, hi] at e
  obtain ⟨x, hx, e2⟩ := Option.map_eq_some_iff.mp e.symm
  refine ⟨x, hx, e2.symm, ?_⟩
  obtain ⟨v, hv, hr⟩ := h.val x (List.mem_of_getElem? hx)
  have e3 : valV kvs (Sum.inr x) = some kv.2 := valV_mem (by rw [h.keys]; exact nodup_inr hn) (by
    have := List.mem_of_getElem? hi
    rw [← e2.symm] at *
    obtain ⟨k, v⟩ := kv
    exact this)
  rw [hv] at e3
  rw [← Option.some.inj e3]
  exact hr
/-- the fields of a Known -/
def kf (t d s : V) : List (Str × V) := [("own_names", t), ("own_rests", d), ("own_sights", s)]
/-- a Known of these names and rests stands at p -/
def KnownAt (K : PySem.W.Frag) (CK : Addr) (H : Hp) (p : Addr) (xs : List Str) (ρ : Str → Nat × Nat) : Prop :=
  ∃ (dx t d s : Addr) (kvs : List (Key × V)), H p = some (.ins CK dx (kf (.ref t) (.ref d) (.ref s))) ∧ SqT K H t (xs.map V.str) ∧ H d = some (.dK kvs) ∧ RestsD K H kvs xs ρ
theorem KnownAt.same (e : Same H H') (h : KnownAt K CK H p xs ρ) : KnownAt K CK H' p xs ρ :=
  let ⟨dx, t, d, s, kvs, a, b, c, r⟩ := h
  ⟨dx, t, d, s, kvs, e _ _ a, same_tup e b, e _ _ c, r.same e⟩
end
theorem kf_names (t d s : V) : (kf t d s).lookup ("own_names" : Str) = some t := by simp [kf, List.lookup]
theorem kf_rests (t d s : V) : (kf t d s).lookup ("own_rests" : Str) = some d := by
  have : (("own_rests" : Str) == ("own_names" : Str)) = false := by decide +kernel
  simp [kf, List.lookup, this]
theorem kf_none (t d s : V) {m : Str} (h1 : (m == ("own_names" : Str)) = false) (h2 : (m == ("own_rests" : Str)) = false) (h3 : (m == ("own_sights" : Str)) = false) : (kf t d s).lookup m = none := by
  simp [kf, List.lookup, h1, h2, h3]
theorem rn_ : ¬ (("own_names" : Str) = "own_rests") := by decide +kernel
theorem sn_ : ¬ (("own_names" : Str) = "own_sights") := by decide +kernel
theorem sr_ : ¬ (("own_rests" : Str) = "own_sights") := by decide +kernel
theorem kf_put_rests (t d s v : V) : putF "own_rests" v (kf t d s) = kf t v s := by
  unfold kf putF
  rw [if_neg rn_]
  unfold putF
  rw [if_pos rfl]
theorem kf_put_sights (t d s v : V) : putF "own_sights" v (kf t d s) = kf t d v := by
  unfold kf putF
  rw [if_neg sn_]
  unfold putF
  rw [if_neg sr_]
  unfold putF
  rw [if_pos rfl]
theorem kf_made (t d s : V) : putF "own_sights" s (putF "own_rests" d (putF "own_names" t [])) = kf t d s := by
  have e1 : putF "own_names" t [] = ([("own_names", t)] : List (Str × V)) := rfl
  have e2 : putF "own_rests" d ([("own_names", t)] : List (Str × V)) = ([("own_names", t), ("own_rests", d)] : List (Str × V)) := by
    unfold putF
    rw [if_neg rn_]
    rfl
  rw [e1, e2]
  unfold putF
  rw [if_neg sn_]
  unfold putF
  rw [if_neg sr_]
  rfl

theorem kf_two (t d : V) : (putF "own_rests" d (putF "own_names" t [])).length = 2 := by
  have e1 : putF "own_names" t [] = ([("own_names", t)] : List (Str × V)) := rfl
  rw [e1]
  unfold putF
  rw [if_neg rn_]
  rfl
section
variable {K : PySem.W.Frag} {H : Hp} {a p : Addr} {xs : List V} {o : HO} {C dx : Addr} {fs : List (Str × V)}
/-- an instance changes: the lists, the tuples stay -/
theorem sql_ins (h : SqL K H a xs) (hp : H p = some (.ins C dx fs)) : SqL K (upd H p o) a xs := by
  rcases h with (h | ⟨u, h⟩) | h
  · exact .inl (.inl (by rw [upd_ne (ne_of h hp (by intro z; cases z))]; exact h))
  · exact .inl (.inr ⟨u, by rw [upd_ne (ne_of h hp (by intro z; cases z))]; exact h⟩)
  · exact .inr h
theorem sqt_ins (h : SqT K H a xs) (hp : H p = some (.ins C dx fs)) : SqT K (upd H p o) a xs := by
  rcases h with (h | ⟨u, h⟩) | h
  · exact .inl (.inl (by rw [upd_ne (ne_of h hp (by intro z; cases z))]; exact h))
  · exact .inl (.inr ⟨u, by rw [upd_ne (ne_of h hp (by intro z; cases z))]; exact h⟩)
  · exact .inr h
/-- the dict at p changes -/
theorem sqt_dK {kvs : List (Key × V)} (h : SqT K H a xs) (hp : H p = some (.dK kvs)) : SqT K (upd H p o) a xs := by
  rcases h with (h | ⟨u, h⟩) | h
  · exact .inl (.inl (by rw [upd_ne (ne_of h hp (by intro z; cases z))]; exact h))
  · exact .inl (.inr ⟨u, by rw [upd_ne (ne_of h hp (by intro z; cases z))]; exact h⟩)
  · exact .inr h
theorem sql_dK {kvs : List (Key × V)} (h : SqL K H a xs) (hp : H p = some (.dK kvs)) : SqL K (upd H p o) a xs := by
  rcases h with (h | ⟨u, h⟩) | h
  · exact .inl (.inl (by rw [upd_ne (ne_of h hp (by intro z; cases z))]; exact h))
  · exact .inl (.inr ⟨u, by rw [upd_ne (ne_of h hp (by intro z; cases z))]; exact h⟩)
  · exact .inr h
end
section
variable {K : PySem.W.Frag} {H H' : Hp} {kvs : List (Key × V)} {xs : List Str} {ρ : Str → Nat × Nat} {a : Addr} {v : V} {x : Str}
theorem putK_snoc {kvs : List (Key × V)} {xs : List Str} {x : Str} (v : V) (hk : kvs.map (·.1) = xs.map Sum.inr) (hx : x ∉ xs) : putK kvs (Sum.inr x) v = kvs ++ [(Sum.inr x, v)] := by
  refine putK_new v ?_
  cases e : valV kvs (Sum.inr x : Key) with
  | none => rfl
  | some u =>
    have := valV_in e
    rw [hk] at this
    obtain ⟨y, hy, e2⟩ := List.mem_map.mp this
    exact absurd (Sum.inr.inj e2 ▸ hy) hx
theorem take_snoc {α : Type} {l : List α} {i : Nat} {x : α} (h : l[i]? = some x) : l.take (i + 1) = l.take i ++ [x] := by
  rw [List.take_add_one, h]
  rfl
theorem nd_take {l : List Str} {i : Nat} {x : Str} (hn : l.Nodup) (h : l[i]? = some x) : x ∉ l.take i := fun m => by
  obtain ⟨j, hj, e⟩ := List.mem_iff_getElem.mp m
  rw [List.getElem_take] at e
  have hj' : j < i := by rw [List.length_take] at hj; omega
  obtain ⟨h1, e2⟩ := List.getElem?_eq_some_iff.mp h
  have := (List.getElem_inj hn).mp (e.trans e2.symm)
  omega
theorem dget_str (e : H a = some (.dK kvs)) (h : valV kvs (Sum.inr x : Key) = some v) : DGet H a (.str x) (some v) := .inl ⟨kvs, Sum.inr x, .inl e, rfl, h.symm⟩
theorem dget_int {i : Int} (e : H a = some (.dK kvs)) (h : valV kvs (Sum.inl i : Key) = some v) : DGet H a (.int i) (some v) := .inl ⟨kvs, Sum.inl i, .inl e, rfl, h.symm⟩
theorem restsD_nil : RestsD K H [] [] ρ := ⟨rfl, fun x hx => nomatch hx⟩
theorem RestsD.snoc (h : RestsD K H kvs xs ρ) (hx : x ∉ xs) (hv : RestAt K H v (ρ x)) : RestsD K H (putK kvs (Sum.inr x) v) (xs ++ [x]) ρ := by
  refine ⟨?_, fun y hy => ?_⟩
  · rw [putK_snoc v h.keys hx, List.map_append, h.keys, List.map_append]
    rfl
  · rw [valV_put]
    by_cases e : y = x
    · subst e
      exact ⟨v, if_pos rfl, hv⟩
    · rw [if_neg fun z => e (Sum.inr.inj z)]
      rcases List.mem_append.mp hy with m | m
      · exact h.val y m
      · exact absurd (List.mem_singleton.mp m) e
theorem RestsD.back (e : Same H' H) (h : RestsD K H' kvs xs ρ) : RestsD K H kvs xs ρ := h.same e
end
end GK
/-! the numbers: common divisors, numbers that have two rests, places -/
namespace G

theorem bezout : ∀ (n a b : Nat), b ≤ n → ∃ x y : Int, ((Nat.gcd a b : Nat) : Int) = a * x + b * y
  | 0, a, b, h => by
    have : b = 0 := Nat.le_zero.mp h
    subst this
    exact ⟨1, 0, by simp⟩
  | n + 1, a, b, h => by
    by_cases hb : b = 0
    · subst hb
      exact ⟨1, 0, by simp⟩
    · have hl : a % b < b := Nat.mod_lt _ (Nat.pos_of_ne_zero hb)
      obtain ⟨x, y, e⟩ := bezout n b (a % b) (by omega)
      refine ⟨y, x - (a / b : Nat) * y, ?_⟩
      have e1 : Nat.gcd a b = Nat.gcd b (a % b) := by
        rw [Nat.gcd_comm a b, Nat.gcd_rec b a, Nat.gcd_comm]
      rw [e1, e]
      have e2 : (a : Int) = b * ((a / b : Nat) : Int) + ((a % b : Nat) : Int) := by
        exact_mod_cast (Nat.div_add_mod a b).symm
      have e3 : (a : Int) * y = b * ((a / b : Nat) : Int) * y + ((a % b : Nat) : Int) * y := by
        rw [← Int.add_mul, ← e2]
      rw [e3, Int.mul_sub]
      have e4 : (b : Int) * ((a / b : Nat) : Int) * y = b * (((a / b : Nat) : Int) * y) := Int.mul_assoc _ _ _
      omega

/-- two rests that agree by the common divisor: a number has both -/
theorem crt {r m p k : Nat} (hm : 0 < m) (hk : 0 < k) (h : p % Nat.gcd m k = r % Nat.gcd m k) : ∃ x : Nat, x % m = r % m ∧ x % k = p % k := by
  obtain ⟨u, v, e⟩ := bezout k m k (Nat.le_refl _)
  have hd : ((Nat.gcd m k : Nat) : Int) ∣ (p : Int) - r := by
    have h1 : (p : Int) % (Nat.gcd m k : Nat) = (r : Int) % (Nat.gcd m k : Nat) := by exact_mod_cast h
    exact Int.dvd_of_emod_eq_zero (by rw [Int.sub_emod, h1]; simp)
  obtain ⟨q, hq⟩ := hd
  -- z = r + m * u * q
  let z : Int := (r : Int) + m * (u * q)
  let M : Int := (m : Int) * k
  have hM : 0 < M := Int.mul_pos (by exact_mod_cast hm) (by exact_mod_cast hk)
  have z0 : 0 ≤ z % M := Int.emod_nonneg _ (Int.ne_of_gt hM)
  refine ⟨(z % M).toNat, ?_, ?_⟩
  · have e1 : (((z % M).toNat % m : Nat) : Int) = ((r % m : Nat) : Int) := by
      rw [Int.natCast_emod, Int.toNat_of_nonneg z0, Int.natCast_emod, Int.emod_emod_of_dvd _ (Int.dvd_mul_right _ _)]
      exact Int.add_mul_emod_self_left _ _ _
    exact_mod_cast e1
  · have e1 : (((z % M).toNat % k : Nat) : Int) = ((p % k : Nat) : Int) := by
      rw [Int.natCast_emod, Int.toNat_of_nonneg z0, Int.natCast_emod, Int.emod_emod_of_dvd _ (Int.dvd_mul_left _ _)]
      have e2 : z = (p : Int) + k * (-(v * q)) := by
        have e3 : (p : Int) = r + (m * u + k * v) * q := by rw [← e]; omega
        have e4 : ((m : Int) * u + k * v) * q = m * (u * q) + k * (v * q) := by rw [Int.add_mul, Int.mul_assoc, Int.mul_assoc]
        show (r : Int) + m * (u * q) = p + k * (-(v * q))
        rw [Int.mul_neg]
        omega
      rw [e2]
      exact Int.add_mul_emod_self_left _ _ _
    exact_mod_cast e1

/-- what by tells -/
def byN (r m k : Nat) : List Nat := (List.range k).filter fun p => decide (p % Nat.gcd m k = r % Nat.gcd m k)
theorem mem_byN {r m k p : Nat} (hr : r < m) : p ∈ byN r m k ↔ p < k ∧ ∃ x, x % m = r ∧ x % k = p := by
  unfold byN
  rw [List.mem_filter, List.mem_range]
  constructor
  · rintro ⟨h1, h2⟩
    refine ⟨h1, ?_⟩
    obtain ⟨x, e1, e2⟩ := crt (Nat.lt_of_le_of_lt (Nat.zero_le _) hr) (Nat.lt_of_le_of_lt (Nat.zero_le _) h1) (of_decide_eq_true h2)
    exact ⟨x, by rw [e1, Nat.mod_eq_of_lt hr], by rw [e2, Nat.mod_eq_of_lt h1]⟩
  · rintro ⟨h1, x, e1, e2⟩
    refine ⟨h1, decide_eq_true ?_⟩
    rw [← e1, ← e2, Nat.mod_mod_of_dvd _ (Nat.gcd_dvd_right _ _), Nat.mod_mod_of_dvd _ (Nat.gcd_dvd_left _ _)]
theorem byN_lt {r m k p : Nat} (h : p ∈ byN r m k) : p < k := List.mem_range.mp (List.mem_filter.mp h).1
theorem byN_mem_mod {r m k x : Nat} (hk : 0 < k) (hr : x % m = r) : x % k ∈ byN r m k := by
  unfold byN
  refine List.mem_filter.mpr ⟨List.mem_range.mpr (Nat.mod_lt _ hk), decide_eq_true ?_⟩
  rw [← hr, Nat.mod_mod_of_dvd _ (Nat.gcd_dvd_right _ _), Nat.mod_mod_of_dvd _ (Nat.gcd_dvd_left _ _)]
theorem byN_ne {r m k : Nat} (hk : 0 < k) (hr : r < m) : byN r m k ≠ [] := fun e => by
  have h : r % k ∈ byN r m k := byN_mem_mod hk (Nat.mod_eq_of_lt hr)
  rw [e] at h
  cases h
theorem range_lt (n : Nat) : (List.range n).Pairwise (· < ·) := List.pairwise_lt_range
theorem byN_lts (r m k : Nat) : (byN r m k).Pairwise (· < ·) := (range_lt k).filter _
theorem lts_ext {a b : List Nat} (ha : a.Pairwise (· < ·)) (hb : b.Pairwise (· < ·)) (h : ∀ x, x ∈ a ↔ x ∈ b) : a = b := by
  have na : a.Nodup := ha.imp fun h => Nat.ne_of_lt h
  have nb : b.Nodup := hb.imp fun h => Nat.ne_of_lt h
  have p : a.Perm b := (List.perm_ext_iff_of_nodup na nb).mpr h
  exact List.Perm.eq_of_pairwise (le := (· < ·)) (fun x y _ _ h1 h2 => absurd (Nat.lt_trans h1 h2) (Nat.lt_irrefl _)) ha hb p
/-- list(range(r % g, k, g)) -/
theorem byN_steps {r m k g : Nat} (hk : 0 < k) (hg : g = Nat.gcd m k) : byN r m k = (List.range (k / g)).map fun i => r % g + i * g := by
  subst hg
  have g0 : 0 < Nat.gcd m k := Nat.gcd_pos_of_pos_right _ hk
  obtain ⟨q, hq⟩ : Nat.gcd m k ∣ k := Nat.gcd_dvd_right _ _
  have hd : k / Nat.gcd m k = q := by
    conv => lhs; lhs; rw [hq]
    exact Nat.mul_div_cancel_left _ g0
  rw [hd]
  generalize hG : Nat.gcd m k = g at *
  have rl : r % g < g := Nat.mod_lt _ g0
  refine lts_ext (byN_lts _ _ _) ?_ fun x => ?_
  · rw [List.pairwise_map]
    refine (range_lt q).imp fun {a b} h => ?_
    have : a * g < b * g := Nat.mul_lt_mul_of_pos_right h g0
    omega
  · unfold byN
    rw [hG, List.mem_filter, List.mem_range, List.mem_map]
    constructor
    · rintro ⟨h1, h2⟩
      have h2 := of_decide_eq_true h2
      refine ⟨x / g, List.mem_range.mpr ?_, ?_⟩
      · exact Nat.div_lt_of_lt_mul (by rw [← hq]; exact h1)
      · have := Nat.div_add_mod x g
        rw [Nat.mul_comm] at this
        omega
    · rintro ⟨i, hi, rfl⟩
      have hi := List.mem_range.mp hi
      refine ⟨?_, decide_eq_true ?_⟩
      · have : (i + 1) * g ≤ q * g := Nat.mul_le_mul_right _ hi
        rw [Nat.succ_mul] at this
        rw [hq, Nat.mul_comm g q]
        omega
      · rw [Nat.add_mul_mod_self_right, Nat.mod_mod]

/-- what both tells: the least number that has both rests, by the least common multiple -/
def bothN (a b : Nat × Nat) : Option (Nat × Nat) := ((List.range (Nat.lcm a.2 b.2)).find? fun x => decide (x % a.2 = a.1 ∧ x % b.2 = b.1)).map fun x => (x, Nat.lcm a.2 b.2)
theorem lcm_pos' {a b : Nat} (ha : 0 < a) (hb : 0 < b) : 0 < Nat.lcm a b := Nat.lcm_pos ha hb
theorem bothN_some {a b c : Nat × Nat} (h : bothN a b = some c) : c.1 < c.2 ∧ c.2 = Nat.lcm a.2 b.2 ∧ c.1 % a.2 = a.1 ∧ c.1 % b.2 = b.1 ∧ ∀ x, x % c.2 = c.1 ↔ x % a.2 = a.1 ∧ x % b.2 = b.1 := by
  unfold bothN at h
  obtain ⟨y, hy, e⟩ := Option.map_eq_some_iff.mp h
  have h1 := List.find?_some hy
  have h2 := List.mem_range.mp (List.mem_of_find?_eq_some hy)
  obtain ⟨h3, h4⟩ := of_decide_eq_true h1
  subst e
  refine ⟨h2, rfl, h3, h4, fun x => ⟨fun e => ?_, fun ⟨e1, e2⟩ => ?_⟩⟩
  · have e : x % Nat.lcm a.2 b.2 = y := e
    constructor
    · rw [← h3, ← e, Nat.mod_mod_of_dvd _ (Nat.dvd_lcm_left _ _)]
    · rw [← h4, ← e, Nat.mod_mod_of_dvd _ (Nat.dvd_lcm_right _ _)]
  · show x % Nat.lcm a.2 b.2 = y
    have d1 : (a.2 : Int) ∣ (x : Int) - y := Int.dvd_of_emod_eq_zero (by
      rw [Int.sub_emod]
      have : (x : Int) % a.2 = (y : Int) % a.2 := by exact_mod_cast e1.trans h3.symm
      rw [this]; simp)
    have d2 : (b.2 : Int) ∣ (x : Int) - y := Int.dvd_of_emod_eq_zero (by
      rw [Int.sub_emod]
      have : (x : Int) % b.2 = (y : Int) % b.2 := by exact_mod_cast e2.trans h4.symm
      rw [this]; simp)
    have d3 : ((Nat.lcm a.2 b.2 : Nat) : Int) ∣ (x : Int) - y := by
      rw [Int.ofNat_dvd_left] at d1 d2 ⊢
      exact Nat.lcm_dvd d1 d2
    have e3 : (x : Int) % (Nat.lcm a.2 b.2 : Nat) = (y : Int) % (Nat.lcm a.2 b.2 : Nat) := Int.emod_eq_emod_iff_emod_sub_eq_zero.mpr (Int.emod_eq_zero_of_dvd d3)
    have e4 : x % Nat.lcm a.2 b.2 = y % Nat.lcm a.2 b.2 := by exact_mod_cast e3
    rw [e4, Nat.mod_eq_of_lt h2]
end G
namespace G
theorem bothN_none {a b : Nat × Nat} (ha : 0 < a.2) (hb : 0 < b.2) (h : bothN a b = none) : ¬ ∃ x, x % a.2 = a.1 ∧ x % b.2 = b.1 := fun ⟨x, e1, e2⟩ => by
  unfold bothN at h
  have h1 := List.find?_eq_none.mp (Option.map_eq_none_iff.mp h) (x % Nat.lcm a.2 b.2) (List.mem_range.mpr (Nat.mod_lt _ (lcm_pos' ha hb)))
  apply h1
  refine decide_eq_true ⟨?_, ?_⟩
  · rw [Nat.mod_mod_of_dvd _ (Nat.dvd_lcm_left _ _)]; exact e1
  · rw [Nat.mod_mod_of_dvd _ (Nat.dvd_lcm_right _ _)]; exact e2
/-- a number below the least common multiple that has both rests is what both tells -/
theorem bothN_is {a b : Nat × Nat} {x : Nat} (ha : 0 < a.2) (hb : 0 < b.2) (hx : x < Nat.lcm a.2 b.2) (e1 : x % a.2 = a.1) (e2 : x % b.2 = b.1) : bothN a b = some (x, Nat.lcm a.2 b.2) := by
  cases h : bothN a b with
  | none => exact absurd ⟨x, e1, e2⟩ (bothN_none ha hb h)
  | some c =>
    obtain ⟨h1, h2, _, _, h5⟩ := bothN_some h
    have := (h5 x).mpr ⟨e1, e2⟩
    rw [h2, Nat.mod_eq_of_lt hx] at this
    rw [this, ← h2]
theorem bothN_isNone {a b : Nat × Nat} (h : ¬ ∃ x, x % a.2 = a.1 ∧ x % b.2 = b.1) : bothN a b = none := by
  cases e : bothN a b with
  | none => rfl
  | some c =>
    obtain ⟨_, _, h3, h4, _⟩ := bothN_some e
    exact absurd ⟨c.1, h3, h4⟩ h

/-- the extended Euclid's turn keeps its word -/
structure Bez (n m a b s t : Int) : Prop where
  a0 : 0 ≤ a
  b0 : 0 ≤ b
  ha : m ∣ a - n * s
  hb : m ∣ b - n * t
theorem Bez.turn {n m a b s t : Int} (h : Bez n m a b s t) (hb : 0 < b) : Bez n m b (a - a / b * b) t (s - a / b * t) := by
  refine ⟨h.b0, ?_, h.hb, ?_⟩
  · have := Int.emod_nonneg a (Int.ne_of_gt hb)
    have e := Int.mul_ediv_add_emod a b
    rw [Int.mul_comm] at e
    omega
  · have e : a - a / b * b - n * (s - a / b * t) = (a - n * s) - (a / b) * (b - n * t) := by
      rw [Int.mul_sub, Int.mul_sub, ← Int.mul_assoc n, Int.mul_comm n (a / b), Int.mul_assoc]
      omega
    rw [e]
    exact Int.dvd_sub h.ha (Int.dvd_mul_of_dvd_right h.hb)
theorem turn_gcd {a b : Int} (h : 0 ≤ a) (hb : 0 < b) : Int.gcd b (a - a / b * b) = Int.gcd a b := by
  have e := Int.mul_ediv_add_emod a b
  have : a - a / b * b = a % b := by rw [Int.mul_comm] at e; omega
  rw [this]
  obtain ⟨A, rfl⟩ := Int.eq_ofNat_of_zero_le h
  obtain ⟨B, rfl⟩ := Int.eq_ofNat_of_zero_le (Int.le_of_lt hb)
  rw [← Int.natCast_emod, Int.gcd_natCast_natCast, Int.gcd_natCast_natCast, Nat.gcd_comm A B, Nat.gcd_rec B A, Nat.gcd_comm]

/-- the formula of both -/
theorem both_formula {r1 m1 r2 m2 : Nat} {inv : Int} (h1 : r1 < m1) (h2 : r2 < m2) (hd : ((Nat.gcd m1 m2 : Nat) : Int) ∣ (r2 : Int) - r1)
    (hi : ((m2 / Nat.gcd m1 m2 : Nat) : Int) ∣ 1 - ((m1 / Nat.gcd m1 m2 : Nat) : Int) * inv) :
    bothN (r1, m1) (r2, m2) = some ((((r1 : Int) + m1 * ((((r2 : Int) - r1) / (Nat.gcd m1 m2 : Nat)) * inv)) % ((m1 / Nat.gcd m1 m2 * m2 : Nat) : Int)).toNat, m1 / Nat.gcd m1 m2 * m2) := by
  have p1 : 0 < m1 := by omega
  have p2 : 0 < m2 := by omega
  have g0 : 0 < Nat.gcd m1 m2 := Nat.gcd_pos_of_pos_left _ p1
  obtain ⟨a, ea⟩ : Nat.gcd m1 m2 ∣ m1 := Nat.gcd_dvd_left _ _
  obtain ⟨b, eb⟩ : Nat.gcd m1 m2 ∣ m2 := Nat.gcd_dvd_right _ _
  have da : m1 / Nat.gcd m1 m2 = a := by
    conv => lhs; lhs; rw [ea]
    exact Nat.mul_div_cancel_left _ g0
  have db : m2 / Nat.gcd m1 m2 = b := by
    conv => lhs; lhs; rw [eb]
    exact Nat.mul_div_cancel_left _ g0
  have eL : Nat.lcm m1 m2 = a * m2 := by
    have := Nat.gcd_mul_lcm m1 m2
    have e2 : Nat.gcd m1 m2 * (a * m2) = m1 * m2 := by rw [← Nat.mul_assoc, ← ea]
    exact Nat.eq_of_mul_eq_mul_left g0 (this.trans e2.symm)
  have a0 : 0 < a := Nat.pos_of_ne_zero fun z => by rw [z, Nat.mul_zero] at ea; omega
  rw [da]
  rw [da, db] at hi
  have M0 : (0 : Int) < ((a * m2 : Nat) : Int) := by exact_mod_cast Nat.mul_pos a0 p2
  obtain ⟨f, hf⟩ := hd
  have ef : ((r2 : Int) - r1) / (Nat.gcd m1 m2 : Nat) = f := by
    rw [hf]
    exact Int.mul_ediv_cancel_left _ (by exact_mod_cast Nat.ne_of_gt g0)
  rw [ef]
  generalize hz : (r1 : Int) + m1 * (f * inv) = z
  have z0 : 0 ≤ z % ((a * m2 : Nat) : Int) := Int.emod_nonneg _ (Int.ne_of_gt M0)
  have zl : z % ((a * m2 : Nat) : Int) < ((a * m2 : Nat) : Int) := Int.emod_lt_of_pos _ M0
  have dm1 : (m1 : Int) ∣ ((a * m2 : Nat) : Int) := by
    exact_mod_cast (show m1 ∣ a * m2 from ⟨b, by conv => lhs; rw [eb]
                                                 conv => rhs; rw [ea]
                                                 rw [Nat.mul_left_comm, ← Nat.mul_assoc]⟩)
  have dm2 : (m2 : Int) ∣ ((a * m2 : Nat) : Int) := by exact_mod_cast Nat.dvd_mul_left m2 a
  have c1 : (z % ((a * m2 : Nat) : Int)).toNat % m1 = r1 := by
    have e1 : (((z % ((a * m2 : Nat) : Int)).toNat % m1 : Nat) : Int) = (r1 : Int) := by
      rw [Int.natCast_emod, Int.toNat_of_nonneg z0, Int.emod_emod_of_dvd _ dm1, ← hz, Int.add_mul_emod_self_left]
      exact Int.emod_eq_of_lt (by omega) (by omega)
    exact_mod_cast e1
  have c2 : (z % ((a * m2 : Nat) : Int)).toNat % m2 = r2 := by
    have e1 : (((z % ((a * m2 : Nat) : Int)).toNat % m2 : Nat) : Int) = (r2 : Int) := by
      rw [Int.natCast_emod, Int.toNat_of_nonneg z0, Int.emod_emod_of_dvd _ dm2]
      obtain ⟨w, hw⟩ := hi
      have e3 : z = (r2 : Int) + m2 * (-(f * w)) := by
        have e5 : (m1 : Int) = (Nat.gcd m1 m2 : Nat) * a := by exact_mod_cast ea
        have e6 : (m2 : Int) = (Nat.gcd m1 m2 : Nat) * b := by exact_mod_cast eb
        have e7 : (a : Int) * inv = 1 - b * w := by omega
        have e8 : (m1 : Int) * (f * inv) = (Nat.gcd m1 m2 : Nat) * f - m2 * (f * w) := by
          have e9 : (m1 : Int) * (f * inv) = (Nat.gcd m1 m2 : Nat) * (f * ((a : Int) * inv)) := by
            rw [e5, Int.mul_assoc, Int.mul_left_comm (a : Int) f inv]
          have e10 : (m2 : Int) * (f * w) = (Nat.gcd m1 m2 : Nat) * (f * ((b : Int) * w)) := by
            rw [e6, Int.mul_assoc, Int.mul_left_comm (b : Int) f w]
          rw [e9, e10, e7, Int.mul_sub, Int.mul_sub, Int.mul_one]
        rw [Int.mul_neg, ← hz, e8]
        omega
      rw [e3, Int.add_mul_emod_self_left]
      exact Int.emod_eq_of_lt (by omega) (by omega)
    exact_mod_cast e1
  have lt : (z % ((a * m2 : Nat) : Int)).toNat < Nat.lcm m1 m2 := by
    rw [eL]
    omega
  rw [bothN_is (a := (r1, m1)) (b := (r2, m2)) p1 p2 lt c1 c2, eL]
end G
set_option linter.all false
/-! the line of seats: who sits, who may go next, all orders, what slips bring -/
namespace G
variable {α : Type} [DecidableEq α]
abbrev Rest := Nat × Nat

def turned (line : List α) (x : α) : List α := line.drop (line.idxOf x + 1) ++ line.take (line.idxOf x)
def sit (line gone : List α) (x : α) : List α := (turned line x).filter fun y => decide (y ∉ gone)
def nexts (ρ : α → Rest) (line gone : List α) (x : α) : List α := (byN (ρ x).1 (ρ x).2 (sit line gone x).length).map fun p => (sit line gone x).getD p x
def tails (ρ : α → Rest) (line : List α) : Nat → List α → α → List (List α)
  | 0, _, _ => [[]]
  | k + 1, gone, x => (nexts ρ line gone x).flatMap fun y => (tails ρ line k (gone ++ [y]) y).map (y :: ·)
def go (s : α → Nat) (line : List α) : Nat → List α → α → List α
  | 0, _, _ => []
  | k + 1, gone, x => (sit line gone x).getD (s x % (sit line gone x).length) x :: go s line k (gone ++ [(sit line gone x).getD (s x % (sit line gone x).length) x]) ((sit line gone x).getD (s x % (sit line gone x).length) x)

theorem split_at {line : List α} {x : α} (h : x ∈ line) : line = line.take (line.idxOf x) ++ x :: line.drop (line.idxOf x + 1) := by
  have hl := List.idxOf_lt_length_iff.mpr h
  have e : line.drop (line.idxOf x) = x :: line.drop (line.idxOf x + 1) := by
    rw [List.drop_eq_getElem_cons hl, List.getElem_idxOf hl]
  rw [← e, List.take_append_drop]
theorem turned_perm {line : List α} {x : α} (h : x ∈ line) : (x :: turned line x).Perm line := by
  conv => rhs; rw [split_at h]
  unfold turned
  refine List.Perm.trans ?_ List.perm_append_comm
  exact List.Perm.refl _
theorem mem_turned {line : List α} {x y : α} (hn : line.Nodup) (h : x ∈ line) : y ∈ turned line x ↔ y ∈ line ∧ y ≠ x := by
  have p := turned_perm h
  have hn' : (x :: turned line x).Nodup := p.nodup_iff.mpr hn
  have hm : y ∈ line ↔ y ∈ x :: turned line x := p.mem_iff.symm
  rw [hm, List.mem_cons]
  constructor
  · intro h1
    refine ⟨Or.inr h1, fun e => ?_⟩
    subst e
    exact (List.nodup_cons.mp hn').1 h1
  · rintro ⟨h1 | h1, h2⟩
    · exact absurd h1 h2
    · exact h1
theorem turned_nodup {line : List α} {x : α} (hn : line.Nodup) (h : x ∈ line) : (turned line x).Nodup := (List.nodup_cons.mp ((turned_perm h).nodup_iff.mpr hn)).2
theorem turned_length {line : List α} {x : α} (h : x ∈ line) : (turned line x).length + 1 = line.length := by
  have := (turned_perm h).length_eq
  simpa using this

structure At (line gone : List α) (x : α) (k : Nat) : Prop where
  nd : line.Nodup
  gn : gone.Nodup
  sub : ∀ y ∈ gone, y ∈ line
  xin : x ∈ gone
  len : gone.length + k = line.length

theorem getD_at {l : List α} {p : Nat} {d : α} (h : p < l.length) : l.getD p d = l[p] := by
  rw [List.getD_eq_getElem?_getD, List.getElem?_eq_getElem h, Option.getD_some]
theorem nodup_snoc {l : List α} {y : α} (h : l.Nodup) (hy : y ∉ l) : (l ++ [y]).Nodup := by
  rw [List.nodup_append]
  refine ⟨h, by simp, fun a ha b hb e => ?_⟩
  rw [List.mem_singleton.mp hb] at e
  subst e
  exact hy ha
theorem split_len {line gone : List α} (hn : line.Nodup) (gn : gone.Nodup) (sub : ∀ y ∈ gone, y ∈ line) : gone.length + (line.filter fun y => decide (y ∉ gone)).length = line.length := by
  have p : (line.filter fun y => decide (y ∈ gone)).Perm gone := by
    refine (List.perm_ext_iff_of_nodup (hn.filter _) gn).mpr fun a => ?_
    rw [List.mem_filter, decide_eq_true_eq]
    exact ⟨fun h => h.2, fun h => ⟨sub a h, h⟩⟩
  rw [← p.length_eq, ← List.countP_eq_length_filter, ← List.countP_eq_length_filter]
  have := List.length_eq_countP_add_countP (fun y => decide (y ∈ gone)) (l := line)
  rw [this]
  congr 1
  refine List.countP_congr fun a _ => ?_
  simp

namespace At
variable {line gone : List α} {x y : α} {k : Nat}
theorem xl (h : At line gone x k) : x ∈ line := h.sub x h.xin
theorem mem (h : At line gone x k) : y ∈ sit line gone x ↔ y ∈ line ∧ y ∉ gone := by
  unfold sit
  rw [List.mem_filter, mem_turned h.nd h.xl, decide_eq_true_eq]
  refine ⟨fun ⟨⟨a, _⟩, b⟩ => ⟨a, b⟩, fun ⟨a, b⟩ => ⟨⟨a, fun e => ?_⟩, b⟩⟩
  subst e
  exact b h.xin
theorem nodup (h : At line gone x k) : (sit line gone x).Nodup := (turned_nodup h.nd h.xl).filter _
theorem length (h : At line gone x k) : (sit line gone x).length = k := by
  have p : (sit line gone x).Perm (line.filter fun y => decide (y ∉ gone)) := by
    refine (List.perm_ext_iff_of_nodup h.nodup (h.nd.filter _)).mpr fun a => ?_
    rw [h.mem, List.mem_filter, decide_eq_true_eq]
  rw [p.length_eq]
  have := split_len h.nd h.gn h.sub
  have := h.len
  omega
theorem step (h : At line gone x (k + 1)) (hy : y ∈ sit line gone x) : At line (gone ++ [y]) y k := by
  obtain ⟨h1, h2⟩ := h.mem.mp hy
  refine ⟨h.nd, nodup_snoc h.gn h2, fun z hz => ?_, by simp, ?_⟩
  · rcases List.mem_append.mp hz with q | q
    · exact h.sub z q
    · rw [List.mem_singleton.mp q]; exact h1
  · rw [List.length_append]
    have := h.len
    simp
    omega
theorem getD_mem (h : At line gone x (k + 1)) {p : Nat} (hp : p < k + 1) : (sit line gone x).getD p x ∈ sit line gone x := by
  have hl : p < (sit line gone x).length := by rw [h.length]; exact hp
  rw [getD_at hl]
  exact List.getElem_mem hl
end At

/-- the first one -/
theorem At.first {line : List α} {b : α} {k : Nat} (hn : line.Nodup) (hb : b ∈ line) (hk : k + 1 = line.length) : At line [b] b k :=
  ⟨hn, by simp, fun y hy => by rw [List.mem_singleton.mp hy]; exact hb, by simp, by simp; omega⟩

theorem getD_inj {l : List α} {x : α} {p q : Nat} (hn : l.Nodup) (hp : p < l.length) (hq : q < l.length) (h : l.getD p x = l.getD q x) : p = q := by
  rw [getD_at hp, getD_at hq] at h
  exact (List.getElem_inj hn).mp h

section
variable {ρ : α → Rest} {line gone : List α} {x y : α} {k : Nat}
def WF (ρ : α → Rest) (line : List α) : Prop := ∀ x ∈ line, (ρ x).1 < (ρ x).2
def Fits (ρ : α → Rest) (line : List α) (s : α → Nat) : Prop := ∀ x ∈ line, s x % (ρ x).2 = (ρ x).1

theorem nexts_sub (h : At line gone x (k + 1)) (hy : y ∈ nexts ρ line gone x) : y ∈ sit line gone x := by
  obtain ⟨p, hp, rfl⟩ := List.mem_map.mp hy
  have := byN_lt hp
  rw [h.length] at this
  exact h.getD_mem this
theorem nexts_nodup (h : At line gone x (k + 1)) : (nexts ρ line gone x).Nodup := by
  unfold nexts
  rw [List.nodup_iff_pairwise_ne, List.pairwise_map]
  refine List.Pairwise.imp_of_mem ?_ (byN_lts _ _ _)
  intro p q hp hq hlt e
  exact absurd (getD_inj h.nodup (byN_lt hp) (byN_lt hq) e) (Nat.ne_of_lt hlt)
theorem nexts_ne (w : WF ρ line) (h : At line gone x (k + 1)) : nexts ρ line gone x ≠ [] := fun e => by
  have := List.map_eq_nil_iff.mp e
  exact byN_ne (by rw [h.length]; exact Nat.succ_pos k) (w x h.xl) this
theorem mem_nexts (w : WF ρ line) (h : At line gone x (k + 1)) : y ∈ nexts ρ line gone x ↔ ∃ v, v % (ρ x).2 = (ρ x).1 ∧ (sit line gone x).getD (v % (sit line gone x).length) x = y := by
  unfold nexts
  rw [List.mem_map]
  constructor
  · rintro ⟨p, hp, rfl⟩
    obtain ⟨h1, v, h2, h3⟩ := (mem_byN (w x h.xl)).mp hp
    exact ⟨v, h2, by rw [h3]⟩
  · rintro ⟨v, h2, rfl⟩
    exact ⟨_, byN_mem_mod (by rw [h.length]; exact Nat.succ_pos k) h2, rfl⟩

/-- go asks the slips of x and of those who sit -/
theorem go_congr {s s' : α → Nat} : ∀ {k : Nat} {gone : List α} {x : α}, At line gone x k → (∀ z, (z = x ∨ (z ∈ line ∧ z ∉ gone)) → s z = s' z) → go s line k gone x = go s' line k gone x
  | 0, _, _, _, _ => rfl
  | k + 1, gone, x, h, e => by
    have e0 : s x = s' x := e x (Or.inl rfl)
    have hm : (sit line gone x).getD (s x % (sit line gone x).length) x ∈ sit line gone x := h.getD_mem (by rw [h.length]; exact Nat.mod_lt _ (Nat.succ_pos k))
    unfold go
    rw [← e0]
    congr 1
    refine go_congr (h.step hm) fun z hz => e z ?_
    obtain ⟨m1, m2⟩ := h.mem.mp hm
    rcases hz with rfl | ⟨q1, q2⟩
    · exact Or.inr ⟨m1, m2⟩
    · exact Or.inr ⟨q1, fun q => q2 (List.mem_append_left _ q)⟩

/-- the orders that may come are those that some slips that fit bring -/
theorem mem_tails (w : WF ρ line) : ∀ {k : Nat} {gone : List α} {x : α} {t : List α}, At line gone x k → (t ∈ tails ρ line k gone x ↔ ∃ s, Fits ρ line s ∧ go s line k gone x = t)
  | 0, gone, x, t, h => by
    unfold tails go
    rw [List.mem_singleton]
    refine ⟨fun e => ⟨fun z => (ρ z).1, fun z hz => Nat.mod_eq_of_lt (w z hz), e.symm⟩, fun ⟨_, _, e⟩ => e.symm⟩
  | k + 1, gone, x, t, h => by
    unfold tails
    rw [List.mem_flatMap]
    constructor
    · rintro ⟨y, hy, ht⟩
      obtain ⟨t', ht', rfl⟩ := List.mem_map.mp ht
      have hs := nexts_sub h hy
      have h' := h.step hs
      obtain ⟨s, hf, hg⟩ := (mem_tails w h').mp ht'
      obtain ⟨v, hv, e⟩ := (mem_nexts w h).mp hy
      refine ⟨fun z => if z = x then v else s z, fun z hz => ?_, ?_⟩
      · by_cases q : z = x
        · subst q; simpa using hv
        · simpa [q] using hf z hz
      · unfold go
        have e1 : (if x = x then v else s x) = v := if_pos rfl
        rw [e1, e]
        congr 1
        rw [← hg]
        refine go_congr h' fun z hz => ?_
        have q : z ≠ x := by
          rintro rfl
          rcases hz with rfl | ⟨_, q2⟩
          · exact (h.mem.mp hs).2 h.xin
          · exact q2 (List.mem_append_left _ h.xin)
        exact if_neg q
    · rintro ⟨s, hf, rfl⟩
      have hy : (sit line gone x).getD (s x % (sit line gone x).length) x ∈ nexts ρ line gone x := (mem_nexts w h).mpr ⟨s x, hf x h.xl, rfl⟩
      refine ⟨_, hy, ?_⟩
      unfold go
      refine List.mem_map.mpr ⟨_, (mem_tails w (h.step (nexts_sub h hy))).mpr ⟨s, hf, rfl⟩, rfl⟩

theorem tails_length : ∀ {k : Nat} {gone : List α} {x : α} {t : List α}, t ∈ tails ρ line k gone x → t.length = k
  | 0, _, _, t, h => by rw [List.mem_singleton.mp h]; rfl
  | k + 1, gone, x, t, h => by
    unfold tails at h
    obtain ⟨y, _, ht⟩ := List.mem_flatMap.mp h
    obtain ⟨t', ht', rfl⟩ := List.mem_map.mp ht
    rw [List.length_cons, tails_length ht']
/-- those who go later are those who sit -/
theorem tails_mem : ∀ {k : Nat} {gone : List α} {x : α} {t : List α}, At line gone x k → t ∈ tails ρ line k gone x → (t.Nodup ∧ ∀ z ∈ t, z ∈ line ∧ z ∉ gone)
  | 0, _, _, t, _, h => by rw [List.mem_singleton.mp h]; exact ⟨List.nodup_nil, fun z hz => nomatch hz⟩
  | k + 1, gone, x, t, a, h => by
    unfold tails at h
    obtain ⟨y, hy, ht⟩ := List.mem_flatMap.mp h
    obtain ⟨t', ht', rfl⟩ := List.mem_map.mp ht
    have hs := nexts_sub a hy
    obtain ⟨h1, h2⟩ := tails_mem (a.step hs) ht'
    refine ⟨List.nodup_cons.mpr ⟨fun m => (h2 y m).2 (by simp), h1⟩, fun z hz => ?_⟩
    rcases List.mem_cons.mp hz with rfl | hz
    · exact a.mem.mp hs
    · exact ⟨(h2 z hz).1, fun q => (h2 z hz).2 (List.mem_append_left _ q)⟩
theorem tails_ne (w : WF ρ line) (h : At line gone x k) : tails ρ line k gone x ≠ [] := fun e => by
  have : go (fun z => (ρ z).1) line k gone x ∈ tails ρ line k gone x := (mem_tails w h).mpr ⟨_, fun z hz => Nat.mod_eq_of_lt (w z hz), rfl⟩
  rw [e] at this
  cases this
theorem nodup_flatMap {β γ : Type} {l : List β} {f : β → List γ} (hl : l.Nodup) (h1 : ∀ x ∈ l, (f x).Nodup) (h2 : ∀ x ∈ l, ∀ y ∈ l, ∀ z, z ∈ f x → z ∈ f y → x = y) : (l.flatMap f).Nodup := by
  induction l with
  | nil => exact List.nodup_nil
  | cons a r ih =>
    obtain ⟨ha, hr⟩ := List.nodup_cons.mp hl
    rw [List.flatMap_cons, List.nodup_append]
    refine ⟨h1 a (by simp), ih hr (fun x hx => h1 x (List.mem_cons_of_mem _ hx)) (fun x hx y hy z => h2 x (List.mem_cons_of_mem _ hx) y (List.mem_cons_of_mem _ hy) z), fun u hu v hv e => ?_⟩
    subst e
    obtain ⟨y, hy, hv⟩ := List.mem_flatMap.mp hv
    have := h2 a (by simp) y (List.mem_cons_of_mem _ hy) u hu hv
    subst this
    exact ha hy
theorem nodup_map {β γ : Type} {l : List β} {f : β → γ} (hl : l.Nodup) (h : ∀ a ∈ l, ∀ b ∈ l, f a = f b → a = b) : (l.map f).Nodup := by
  rw [List.nodup_iff_pairwise_ne, List.pairwise_map]
  exact List.Pairwise.imp_of_mem (fun {a b} ha hb hne e => hne (h a ha b hb e)) (List.nodup_iff_pairwise_ne.mp hl)
theorem tails_nodup : ∀ {k : Nat} {gone : List α} {x : α}, At line gone x k → (tails ρ line k gone x).Nodup
  | 0, _, _, _ => by unfold tails; simp
  | k + 1, gone, x, h => by
    unfold tails
    refine nodup_flatMap (nexts_nodup h) (fun y hy => ?_) fun y _ z _ t ht hz => ?_
    · exact nodup_map (tails_nodup (h.step (nexts_sub h hy))) fun a _ b _ e => (List.cons.inj e).2
    · obtain ⟨_, _, rfl⟩ := List.mem_map.mp ht
      obtain ⟨_, _, e⟩ := List.mem_map.mp hz
      exact ((List.cons.inj e).1).symm
end
end G
set_option linter.all false
/-! sets of hands as numbers; the turned line by places -/
namespace G
variable {α : Type} [DecidableEq α]
def mask : List α → List α → Nat
  | [], _ => 0
  | y :: r, gone => (if y ∈ gone then 1 else 0) + 2 * mask r gone
theorem mask_lt : ∀ (line gone : List α), mask line gone < 2 ^ line.length
  | [], _ => by simp [mask]
  | y :: r, gone => by
    have ih := mask_lt r gone
    have e : (2 : Nat) ^ (y :: r).length = 2 * 2 ^ r.length := by rw [List.length_cons, Nat.pow_succ, Nat.mul_comm]
    unfold mask
    rw [e]
    split <;> omega
theorem mask_bit : ∀ (line gone : List α) (k : Nat), mask line gone / 2 ^ k % 2 = if ∃ y, line[k]? = some y ∧ y ∈ gone then 1 else 0
  | [], gone, k => by simp [mask]
  | y :: r, gone, 0 => by
    unfold mask
    by_cases h : y ∈ gone
    · rw [if_pos h, if_pos ⟨y, rfl, h⟩]; omega
    · rw [if_neg h, if_neg (fun ⟨z, hz, hg⟩ => h (by have : y = z := Option.some.inj hz; rw [this]; exact hg))]; omega
  | y :: r, gone, k + 1 => by
    have ih := mask_bit r gone k
    have e : mask (y :: r) gone / 2 ^ (k + 1) = mask r gone / 2 ^ k := by
      rw [Nat.pow_succ, Nat.mul_comm, ← Nat.div_div_eq_div_mul]
      congr 1
      show ((if y ∈ gone then 1 else 0) + 2 * mask r gone) / 2 = mask r gone
      split <;> omega
    rw [e, ih]
    simp
theorem mask_nil : ∀ line : List α, mask line [] = 0
  | [] => rfl
  | y :: r => by
    unfold mask
    rw [if_neg (by simp), mask_nil r]
theorem mask_snoc : ∀ {line gone : List α} {t : Nat} {y : α}, line.Nodup → line[t]? = some y → y ∉ gone → mask line (gone ++ [y]) = mask line gone + 2 ^ t
  | [], _, _, _, _, h, _ => by simp at h
  | z :: r, gone, 0, y, hn, h, hy => by
    obtain rfl : z = y := Option.some.inj h
    obtain ⟨h1, h2⟩ := List.nodup_cons.mp hn
    have e : ∀ (r : List α), z ∉ r → mask r (gone ++ [z]) = mask r gone := by
      intro r
      induction r with
      | nil => intro _; rfl
      | cons a r ih =>
        intro hz
        have h3 : z ≠ a := fun e => hz (by rw [e]; simp)
        have h4 : z ∉ r := fun m => hz (List.mem_cons_of_mem _ m)
        unfold mask
        rw [ih h4]
        have : (a ∈ gone ++ [z]) ↔ a ∈ gone := by
          rw [List.mem_append, List.mem_singleton]
          exact ⟨fun h => h.resolve_right fun e => h3 e.symm, Or.inl⟩
        simp only [this]
    unfold mask
    rw [e r h1, if_pos (by simp), if_neg hy]
    omega
  | z :: r, gone, t + 1, y, hn, h, hy => by
    obtain ⟨h1, h2⟩ := List.nodup_cons.mp hn
    have h' : r[t]? = some y := h
    have ih := mask_snoc h2 h' hy
    have hz : z ≠ y := fun e => h1 (e ▸ List.mem_of_getElem? h')
    have : (z ∈ gone ++ [y]) ↔ z ∈ gone := by
      rw [List.mem_append, List.mem_singleton]
      exact ⟨fun h => h.resolve_right hz, Or.inl⟩
    unfold mask
    rw [ih, Nat.pow_succ]
    simp only [this]
    omega
theorem mask_inj : ∀ {line g g' : List α}, mask line g = mask line g' → ∀ y ∈ line, (y ∈ g ↔ y ∈ g')
  | [], _, _, _, y, hy => nomatch hy
  | z :: r, g, g', e, y, hy => by
    unfold mask at e
    have h1 : (z ∈ g ↔ z ∈ g') ∧ mask r g = mask r g' := by
      by_cases a : z ∈ g <;> by_cases b : z ∈ g'
      · rw [if_pos a, if_pos b] at e; exact ⟨by simp [a, b], by omega⟩
      · rw [if_pos a, if_neg b] at e; omega
      · rw [if_neg a, if_pos b] at e; omega
      · rw [if_neg a, if_neg b] at e; exact ⟨by simp [a, b], by omega⟩
    rcases List.mem_cons.mp hy with rfl | hy
    · exact h1.1
    · exact mask_inj h1.2 y hy
theorem mask_full : ∀ (line gone : List α), mask line gone = 2 ^ line.length - 1 ↔ ∀ y ∈ line, y ∈ gone
  | [], gone => by simp [mask]
  | z :: r, gone => by
    have ih := mask_full r gone
    have l := mask_lt r gone
    have p : 0 < 2 ^ r.length := Nat.pow_pos (by decide)
    have e : (2 : Nat) ^ (z :: r).length = 2 * 2 ^ r.length := by rw [List.length_cons, Nat.pow_succ, Nat.mul_comm]
    rw [e]
    unfold mask
    constructor
    · intro h
      have h1 : z ∈ gone := by
        by_cases a : z ∈ gone
        · exact a
        · rw [if_neg a] at h; omega
      rw [if_pos h1] at h
      intro y hy
      rcases List.mem_cons.mp hy with rfl | hy
      · exact h1
      · exact ih.mp (by omega) y hy
    · intro h
      rw [if_pos (h z (by simp)), ih.mpr fun y hy => h y (List.mem_cons_of_mem _ hy)]
      omega
/-- nobody sits where all are gone -/
theorem At.full {line gone : List α} {x : α} {k : Nat} (h : At line gone x k) : mask line gone = 2 ^ line.length - 1 ↔ k = 0 := by
  rw [mask_full]
  constructor
  · intro ha
    have : sit line gone x = [] := by
      apply List.eq_nil_iff_forall_not_mem.mpr
      intro y hy
      obtain ⟨h1, h2⟩ := h.mem.mp hy
      exact h2 (ha y h1)
    rw [← h.length, this]
    rfl
  · intro hk y hy
    have : sit line gone x = [] := List.eq_nil_of_length_eq_zero (by rw [h.length, hk])
    by_cases hg : y ∈ gone
    · exact hg
    · have := h.mem.mpr ⟨hy, hg⟩
      rw [show sit line gone x = [] by assumption] at this
      cases this

/-- the line's places -/
theorem idx_get {line : List α} {x : α} (h : x ∈ line) : line[line.idxOf x]? = some x := by
  have hl := List.idxOf_lt_length_iff.mpr h
  rw [List.getElem?_eq_getElem hl, List.getElem_idxOf hl]
theorem idx_of {line : List α} {x : α} {i : Nat} (hn : line.Nodup) (h : line[i]? = some x) : line.idxOf x = i := by
  obtain ⟨hl, e⟩ := List.getElem?_eq_some_iff.mp h
  have hm : x ∈ line := e ▸ List.getElem_mem hl
  have hl2 := List.idxOf_lt_length_iff.mpr hm
  exact (List.getElem_inj hn).mp ((List.getElem_idxOf hl2).trans e.symm)
theorem turned_at {line : List α} {x : α} (h : x ∈ line) {i : Nat} (hi : i + 1 < line.length) : (turned line x)[i]? = line[(line.idxOf x + 1 + i) % line.length]? := by
  have hl := List.idxOf_lt_length_iff.mpr h
  unfold turned
  by_cases c : line.idxOf x + 1 + i < line.length
  · rw [List.getElem?_append_left (by rw [List.length_drop]; omega), List.getElem?_drop, Nat.mod_eq_of_lt c]
  · rw [List.getElem?_append_right (by rw [List.length_drop]; omega), List.length_drop, List.getElem?_take_of_lt (by omega)]
    congr 1
    have : line.idxOf x + 1 + i = (line.idxOf x + 1 + i - line.length) + line.length := by omega
    rw [this, Nat.add_mod_right, Nat.mod_eq_of_lt (by omega)]
    omega
/-- the places of those who sit behind x, as the loop goes -/
def sitIdx (line gone : List α) (x : α) (m : Nat) : List Nat := ((List.range m).map fun i => (line.idxOf x + 1 + i) % line.length).filter fun j => match line[j]? with
  | some y => decide (y ∉ gone)
  | none => false
theorem sitIdx_succ (line gone : List α) (x : α) (m : Nat) : sitIdx line gone x (m + 1) = sitIdx line gone x m ++ (match line[(line.idxOf x + 1 + m) % line.length]? with
  | some y => if y ∉ gone then [(line.idxOf x + 1 + m) % line.length] else []
  | none => []) := by
  unfold sitIdx
  rw [List.range_succ, List.map_append, List.filter_append]
  congr 1
  simp only [List.map_cons, List.map_nil, List.filter_cons, List.filter_nil]
  cases line[(line.idxOf x + 1 + m) % line.length]? with
  | none => simp
  | some y => by_cases h : y ∈ gone <;> simp [h]
theorem sitIdx_eq {line gone : List α} {x : α} (hn : line.Nodup) (h : x ∈ line) : sitIdx line gone x (line.length - 1) = (sit line gone x).map line.idxOf := by
  have e : ((List.range (line.length - 1)).map fun i => (line.idxOf x + 1 + i) % line.length) = (turned line x).map line.idxOf := by
    apply List.ext_getElem?
    intro i
    rw [List.getElem?_map, List.getElem?_map]
    by_cases hi : i < line.length - 1
    · rw [List.getElem?_range hi, turned_at h (by omega)]
      have hl : (line.idxOf x + 1 + i) % line.length < line.length := Nat.mod_lt _ (by omega)
      rw [List.getElem?_eq_getElem hl]
      simp only [Option.map_some]
      rw [idx_of hn (List.getElem?_eq_getElem hl)]
    · have h1 := turned_length h
      rw [List.getElem?_eq_none (by rw [List.length_range]; omega), List.getElem?_eq_none (by omega)]
      rfl
  unfold sitIdx sit
  rw [e, List.filter_map]
  congr 1
  apply List.filter_congr
  intro y hy
  have := (mem_turned hn h).mp hy
  simp [idx_get this.1]
/-- tails asks of gone only who is in -/
theorem sit_congr {line g g' : List α} {x : α} (h : ∀ y ∈ line, (y ∈ g ↔ y ∈ g')) (hx : x ∈ line) (hn : line.Nodup) : sit line g x = sit line g' x := by
  unfold sit
  apply List.filter_congr
  intro y hy
  have := ((mem_turned hn hx).mp hy).1
  simp [h y this]
theorem tails_congr {ρ : α → Rest} {line : List α} (hn : line.Nodup) : ∀ {k : Nat} {g g' : List α} {x : α}, x ∈ line → (∀ y ∈ line, (y ∈ g ↔ y ∈ g')) → tails ρ line k g x = tails ρ line k g' x
  | 0, _, _, _, _, _ => rfl
  | k + 1, g, g', x, hx, h => by
    have e := sit_congr h hx hn
    unfold tails nexts
    rw [e]
    rw [List.flatMap_def, List.flatMap_def]
    congr 1
    apply List.map_congr_left
    intro y hy
    obtain ⟨p, hp, rfl⟩ := List.mem_map.mp hy
    have hl := byN_lt hp
    rw [getD_at hl]
    have hm : (sit line g' x)[p] ∈ line := by
      have h1 : (sit line g' x)[p] ∈ sit line g' x := List.getElem_mem hl
      unfold sit at h1
      exact ((mem_turned hn hx).mp (List.mem_filter.mp h1).1).1
    congr 1
    refine tails_congr hn hm fun y hy => ?_
    rw [List.mem_append, List.mem_append, h y hy]
end G
set_option linter.all false
/-! starts of orders: each who goes is one of those who may go next -/
namespace G
variable {α : Type} [DecidableEq α]
structure Path (ρ : α → Rest) (line goers : List α) : Prop where
  nd : line.Nodup
  first : ∃ b, goers[0]? = some b ∧ b ∈ line
  few : goers.length ≤ line.length
  step : ∀ (i : Nat) (u v : α), goers[i]? = some u → goers[i + 1]? = some v → v ∈ nexts ρ line (goers.take (i + 1)) u
section
variable {ρ : α → Rest} {line goers : List α} {b x y : α} {k : Nat}
theorem take_one {l : List α} {i : Nat} {x : α} (h : l[i]? = some x) : l.take (i + 1) = l.take i ++ [x] := by
  rw [List.take_add_one, h]
  rfl
theorem Path.at_ (h : Path ρ line goers) : ∀ {i : Nat} {u : α}, goers[i]? = some u → At line (goers.take (i + 1)) u (line.length - (i + 1))
  | 0, u, hu => by
    obtain ⟨b, hb, hl⟩ := h.first
    rw [hu] at hb
    obtain rfl := Option.some.inj hb
    have e : goers.take 1 = [u] := by
      rw [take_one (i := 0) hu]
      simp
    have hp : 0 < line.length := List.length_pos_of_mem hl
    rw [e]
    exact At.first h.nd hl (by omega)
  | i + 1, v, hv => by
    have hi : i + 1 < goers.length := (List.getElem?_eq_some_iff.mp hv).1
    have hf := h.few
    have hu : goers[i]? = some goers[i] := List.getElem?_eq_getElem (by omega)
    have a := h.at_ hu
    have m := h.step i _ v hu hv
    rw [take_one hv]
    have e : line.length - (i + 1) = line.length - (i + 1 + 1) + 1 := by omega
    rw [e] at a
    exact a.step (nexts_sub a m)
theorem Path.mem (h : Path ρ line goers) {u : α} (hu : u ∈ goers) : u ∈ line := by
  obtain ⟨i, hi, e⟩ := List.mem_iff_getElem.mp hu
  have hi' : goers[i]? = some u := by rw [List.getElem?_eq_getElem hi, e]
  exact (h.at_ hi').xl
theorem Path.take (h : Path ρ line goers) {i : Nat} (hi : 0 < i) : Path ρ line (goers.take i) := by
  refine ⟨h.nd, ?_, ?_, fun j u v hu hv => ?_⟩
  · obtain ⟨b, hb, hl⟩ := h.first
    exact ⟨b, by rw [List.getElem?_take_of_lt hi]; exact hb, hl⟩
  · have := h.few
    rw [List.length_take]
    omega
  · have hj : j + 1 < i := by
      have := (List.getElem?_eq_some_iff.mp hv).1
      rw [List.length_take] at this
      omega
    rw [List.getElem?_take_of_lt (by omega)] at hu hv
    rw [List.take_take, show min (j + 1) i = j + 1 by omega]
    exact h.step j u v hu hv
theorem Path.nodup (h : Path ρ line goers) : goers.Nodup := by
  obtain ⟨b, hb, hl⟩ := h.first
  have hp := (List.getElem?_eq_some_iff.mp hb).1
  have hlast : goers[goers.length - 1]? = some goers[goers.length - 1] := List.getElem?_eq_getElem (by omega)
  have a := (h.at_ hlast).gn
  rwa [List.take_of_length_le (by omega)] at a
theorem Path.snoc (h : Path ρ line goers) {u : α} (hu : goers[goers.length - 1]? = some u) (hy : y ∈ nexts ρ line goers u) (hl : goers.length < line.length) : Path ρ line (goers ++ [y]) := by
  obtain ⟨b, hb, hbl⟩ := h.first
  have hp := (List.getElem?_eq_some_iff.mp hb).1
  refine ⟨h.nd, ⟨b, by rw [List.getElem?_append_left hp]; exact hb, hbl⟩, by rw [List.length_append]; simp; omega, fun i a v ha hv => ?_⟩
  rcases Nat.lt_or_ge (i + 1) goers.length with c | c
  · rw [List.getElem?_append_left (by omega)] at ha
    rw [List.getElem?_append_left c] at hv
    rw [List.take_append_of_le_length (by omega)]
    exact h.step i a v ha hv
  · have hv2 := (List.getElem?_eq_some_iff.mp hv).1
    rw [List.length_append] at hv2
    simp at hv2
    obtain rfl : i = goers.length - 1 := by omega
    rw [List.getElem?_append_left (by omega), hu] at ha
    obtain rfl := Option.some.inj ha
    rw [show goers.length - 1 + 1 = goers.length by omega] at hv ⊢
    rw [List.getElem?_append_right (Nat.le_refl _), Nat.sub_self] at hv
    obtain rfl : y = v := Option.some.inj hv
    rw [List.take_append_of_le_length (Nat.le_refl _), List.take_length]
    exact hy
/-- the tails go from one to the next -/
theorem tails_step : ∀ {k : Nat} {gone : List α} {x : α} {t : List α}, t ∈ tails ρ line k gone x → ∀ (i : Nat) (u v : α), (x :: t)[i]? = some u → t[i]? = some v → v ∈ nexts ρ line (gone ++ t.take i) u
  | 0, _, _, t, h, i, u, v, _, hv => by
    rw [List.mem_singleton.mp h] at hv
    simp at hv
  | k + 1, gone, x, t, h, i, u, v, hu, hv => by
    unfold tails at h
    obtain ⟨y, hy, ht⟩ := List.mem_flatMap.mp h
    obtain ⟨t', ht', rfl⟩ := List.mem_map.mp ht
    cases i with
    | zero =>
      obtain rfl : x = u := Option.some.inj hu
      obtain rfl : y = v := Option.some.inj hv
      simpa using hy
    | succ i =>
      have := tails_step ht' i u v hu hv
      rw [List.append_assoc] at this
      exact this
theorem path_tails (hn : line.Nodup) (hb : b ∈ line) (hk : k + 1 = line.length) {t : List α} (h : t ∈ tails ρ line k [b] b) : Path ρ line (b :: t) := by
  refine ⟨hn, ⟨b, rfl, hb⟩, ?_, fun i u v hu hv => ?_⟩
  · rw [List.length_cons, tails_length h]
    omega
  · have := tails_step h i u v hu hv
    rw [List.take_succ_cons]
    exact this
/-- .. and what goes from one to the next is one of them -/
theorem tails_of : ∀ {k : Nat} {gone : List α} {x : α} {t : List α}, t.length = k → (∀ (i : Nat) (u v : α), (x :: t)[i]? = some u → t[i]? = some v → v ∈ nexts ρ line (gone ++ t.take i) u) → t ∈ tails ρ line k gone x
  | 0, gone, x, t, hl, h => by
    rw [List.eq_nil_of_length_eq_zero hl]
    unfold tails
    simp
  | k + 1, gone, x, [], hl, h => by simp at hl
  | k + 1, gone, x, y :: t, hl, h => by
    unfold tails
    refine List.mem_flatMap.mpr ⟨y, ?_, List.mem_map.mpr ⟨t, tails_of (by simpa using hl) fun i u v hu hv => ?_, rfl⟩⟩
    · have := h 0 x y rfl rfl
      simpa using this
    · have := h (i + 1) u v hu hv
      rw [List.append_assoc]
      exact this
theorem tails_path {t : List α} (h : Path ρ line (b :: t)) (hk : t.length = k) : t ∈ tails ρ line k [b] b := by
  refine tails_of hk fun i u v hu hv => ?_
  have := h.step i u v hu hv
  rwa [List.take_succ_cons] at this
end
end G
set_option linter.all false
/-! the orders by number; what is sure -/
namespace G
variable {α : Type} [DecidableEq α]
section
variable {β γ : Type} {l : List β} {f : β → List γ} {i n : Nat} {y : β}
theorem drop_flat (h : l[i]? = some y) : (l.drop i).flatMap f = f y ++ (l.drop (i + 1)).flatMap f := by
  obtain ⟨hi, e⟩ := List.getElem?_eq_some_iff.mp h
  rw [List.drop_eq_getElem_cons hi, e, List.flatMap_cons]
theorem flat_here (h : l[i]? = some y) (hn : n < (f y).length) : ((l.drop i).flatMap f)[n]? = (f y)[n]? := by
  rw [drop_flat h, List.getElem?_append_left hn]
theorem flat_later (h : l[i]? = some y) (hn : (f y).length ≤ n) : ((l.drop i).flatMap f)[n]? = ((l.drop (i + 1)).flatMap f)[n - (f y).length]? := by
  rw [drop_flat h, List.getElem?_append_right hn]
theorem flat_add (h : l[i]? = some y) (m : Nat) : ((l.drop i).flatMap f)[(f y).length + m]? = ((l.drop (i + 1)).flatMap f)[m]? := by
  rw [flat_later h (by omega)]
  congr 1
  omega
end
/-- the orders behind, first those with this one next -/
def ahead (ρ : α → Rest) (line : List α) (k : Nat) (gone : List α) (l : List α) : List (List α) := l.flatMap fun y => (tails ρ line k (gone ++ [y]) y).map (y :: ·)
theorem tails_ahead (ρ : α → Rest) (line : List α) (k : Nat) (gone : List α) (x : α) : tails ρ line (k + 1) gone x = ahead ρ line k gone (nexts ρ line gone x) := rfl
section
variable {ρ : α → Rest} {line gone : List α} {x y : α} {k i n : Nat} {l : List α} {t : List α}
theorem ahead_here (h : l[i]? = some y) (hn : n < (tails ρ line k (gone ++ [y]) y).length) (ht : (ahead ρ line k gone (l.drop i))[n]? = some t) : ∃ t', t = y :: t' ∧ (tails ρ line k (gone ++ [y]) y)[n]? = some t' := by
  unfold ahead at ht
  rw [flat_here h (by rw [List.length_map]; exact hn), List.getElem?_map] at ht
  obtain ⟨t', h1, h2⟩ := Option.map_eq_some_iff.mp ht
  exact ⟨t', h2.symm, h1⟩
theorem ahead_later (h : l[i]? = some y) (hn : (tails ρ line k (gone ++ [y]) y).length ≤ n) (ht : (ahead ρ line k gone (l.drop i))[n]? = some t) : (ahead ρ line k gone (l.drop (i + 1)))[n - (tails ρ line k (gone ++ [y]) y).length]? = some t := by
  unfold ahead at ht ⊢
  rw [flat_later h (by rw [List.length_map]; exact hn), List.length_map] at ht
  exact ht
theorem ahead_mk (h : l[i]? = some y) (ht : (tails ρ line k (gone ++ [y]) y)[n]? = some t) : (ahead ρ line k gone (l.drop i))[n]? = some (y :: t) := by
  have hn := (List.getElem?_eq_some_iff.mp ht).1
  unfold ahead
  rw [flat_here h (by rw [List.length_map]; exact hn), List.getElem?_map, ht]
  rfl
theorem ahead_add (h : l[i]? = some y) (ht : (ahead ρ line k gone (l.drop (i + 1)))[n]? = some t) : (ahead ρ line k gone (l.drop i))[(tails ρ line k (gone ++ [y]) y).length + n]? = some t := by
  unfold ahead at ht ⊢
  have := flat_add (f := fun y => (tails ρ line k (gone ++ [y]) y).map (y :: ·)) h n
  rw [List.length_map] at this
  rw [this]
  exact ht
end
/-- who goes next while only one may -/
def surely (ρ : α → Rest) (line : List α) : Nat → List α → α → List α
  | 0, _, _ => []
  | k + 1, gone, x => match nexts ρ line gone x with
    | [y] => y :: surely ρ line k (gone ++ [y]) y
    | _ => []
section
variable {ρ : α → Rest} {line gone : List α} {x y : α} {k : Nat}
theorem surely_one (h : nexts ρ line gone x = [y]) : surely ρ line (k + 1) gone x = y :: surely ρ line k (gone ++ [y]) y := by
  rw [surely, h]
theorem surely_many (h : (nexts ρ line gone x).length ≠ 1) : surely ρ line (k + 1) gone x = [] := by
  rw [surely]
  split
  · rename_i y e
    rw [e] at h
    exact absurd rfl h
  · rfl
/-- all orders begin so -/
theorem surely_pre : ∀ {k : Nat} {gone : List α} {x : α} {t : List α}, t ∈ tails ρ line k gone x → t.take (surely ρ line k gone x).length = surely ρ line k gone x
  | 0, _, _, t, _ => by
    simp [surely]
  | k + 1, gone, x, t, h => by
    unfold tails at h
    obtain ⟨y, hy, ht⟩ := List.mem_flatMap.mp h
    obtain ⟨t', ht', rfl⟩ := List.mem_map.mp ht
    by_cases c : (nexts ρ line gone x).length = 1
    · obtain ⟨z, e⟩ := List.length_eq_one_iff.mp c
      rw [e] at hy
      obtain rfl := List.mem_singleton.mp hy
      rw [surely_one e, List.length_cons, List.take_succ_cons, surely_pre ht']
    · rw [surely_many c]
      simp
theorem surely_le : ∀ {k : Nat} {gone : List α} {x : α}, (surely ρ line k gone x).length ≤ k
  | 0, _, _ => by simp [surely]
  | k + 1, gone, x => by
    by_cases c : (nexts ρ line gone x).length = 1
    · obtain ⟨z, e⟩ := List.length_eq_one_iff.mp c
      rw [surely_one e, List.length_cons]
      have := @surely_le k (gone ++ [z]) z
      omega
    · rw [surely_many c]
      simp
/-- .. and go apart there -/
theorem surely_end (w : WF ρ line) : ∀ {k : Nat} {gone : List α} {x : α}, At line gone x k → (surely ρ line k gone x).length < k → ∃ t ∈ tails ρ line k gone x, ∃ t' ∈ tails ρ line k gone x, t[(surely ρ line k gone x).length]? ≠ t'[(surely ρ line k gone x).length]?
  | 0, _, _, _, h => by omega
  | k + 1, gone, x, a, h => by
    by_cases c : (nexts ρ line gone x).length = 1
    · obtain ⟨z, e⟩ := List.length_eq_one_iff.mp c
      have hz : z ∈ nexts ρ line gone x := by rw [e]; simp
      rw [surely_one e, List.length_cons] at h ⊢
      obtain ⟨t, h1, t', h2, h3⟩ := surely_end w (a.step (nexts_sub a hz)) (by omega)
      refine ⟨z :: t, ?_, z :: t', ?_, by simpa using h3⟩
      · unfold tails
        exact List.mem_flatMap.mpr ⟨z, hz, List.mem_map.mpr ⟨t, h1, rfl⟩⟩
      · unfold tails
        exact List.mem_flatMap.mpr ⟨z, hz, List.mem_map.mpr ⟨t', h2, rfl⟩⟩
    · rw [surely_many c]
      have hn := nexts_nodup (ρ := ρ) a
      have hne := nexts_ne w a
      have mk : ∀ y ∈ nexts ρ line gone x, ∃ t ∈ tails ρ line (k + 1) gone x, t[0]? = some y := fun y hy => by
        obtain ⟨t, ht⟩ := List.exists_mem_of_ne_nil _ (tails_ne w (a.step (nexts_sub a hy)))
        refine ⟨y :: t, ?_, rfl⟩
        unfold tails
        exact List.mem_flatMap.mpr ⟨y, hy, List.mem_map.mpr ⟨t, ht, rfl⟩⟩
      match e : nexts ρ line gone x, c, hn, hne, mk with
      | [], _, _, hne, _ => exact absurd rfl hne
      | [_], c, _, _, _ => exact absurd rfl c
      | y :: z :: r, _, hn, _, mk =>
        obtain ⟨t, h1, h2⟩ := mk y (by simp)
        obtain ⟨t', h3, h4⟩ := mk z (by simp)
        refine ⟨t, h1, t', h3, ?_⟩
        show t[0]? ≠ t'[0]?
        rw [h2, h4]
        intro q
        obtain rfl := Option.some.inj q
        simp at hn
end
end G
set_option linter.all false
/-! what an order tells of the slips; rests made narrower -/
namespace G
variable {α : Type} [DecidableEq α]
/-- who chose which place of how many -/
def places (line : List α) : List α → α → List α → List (α × Rest)
  | _, _, [] => []
  | gone, x, y :: r => (x, ((sit line gone x).idxOf y, (sit line gone x).length)) :: places line (gone ++ [y]) y r
/-- the slips keep what is told -/
def Keeps (s : α → Nat) (T : List (α × Rest)) : Prop := ∀ c ∈ T, s c.1 % c.2.2 = c.2.1
section
variable {line gone : List α} {x y z : α} {k : Nat} {s : α → Nat}
theorem places_snoc : ∀ {t gone : List α} {x u z : α}, (x :: t)[t.length]? = some u → places line gone x (t ++ [z]) = places line gone x t ++ [(u, ((sit line (gone ++ t) u).idxOf z, (sit line (gone ++ t) u).length))]
  | [], gone, x, u, z, h => by
    obtain rfl : x = u := Option.some.inj h
    rw [List.append_nil]
    rfl
  | y :: r, gone, x, u, z, h => by
    have h' : (y :: r)[r.length]? = some u := h
    rw [List.cons_append, places, places_snoc h', places, List.cons_append, List.append_assoc]
    rfl
theorem places_length : ∀ {t gone : List α} {x : α}, (places line gone x t).length = t.length
  | [], _, _ => rfl
  | _ :: _, _, _ => by rw [places, List.length_cons, List.length_cons, places_length]
theorem getD_idx {l : List α} {d : α} (h : y ∈ l) : l.getD (l.idxOf y) d = y := by
  rw [List.getD_eq_getElem?_getD, idx_get h, Option.getD_some]
/-- the slips bring this order if and only if they keep what it tells -/
theorem go_iff : ∀ {k : Nat} {gone : List α} {x : α} {t : List α}, At line gone x k → t.length = k → t.Nodup → (∀ y ∈ t, y ∈ line ∧ y ∉ gone) → (go s line k gone x = t ↔ Keeps s (places line gone x t))
  | 0, gone, x, t, _, hl, _, _ => by
    rw [List.eq_nil_of_length_eq_zero hl]
    exact Iff.intro (fun _ c (hc : c ∈ []) => nomatch hc) fun _ => rfl
  | k + 1, gone, x, [], _, hl, _, _ => by simp at hl
  | k + 1, gone, x, y :: t, a, hl, hn, hm => by
    obtain ⟨n1, n2⟩ := List.nodup_cons.mp hn
    have hy : y ∈ sit line gone x := a.mem.mpr (hm y (by simp))
    have hlen := a.length
    have hyl := List.idxOf_lt_length_iff.mpr hy
    have lt : s x % (sit line gone x).length < (sit line gone x).length := Nat.mod_lt _ (by omega)
    have ih := go_iff (a.step hy) (by simpa using hl) n2 fun z hz => ⟨(hm z (List.mem_cons_of_mem _ hz)).1, fun q => by
      rcases List.mem_append.mp q with q | q
      · exact (hm z (List.mem_cons_of_mem _ hz)).2 q
      · exact n1 (List.mem_singleton.mp q ▸ hz)⟩
    unfold go
    rw [places]
    unfold Keeps
    rw [List.forall_mem_cons]
    show _ ↔ s x % (sit line gone x).length = (sit line gone x).idxOf y ∧ Keeps s _
    rw [← ih]
    constructor
    · intro e
      obtain ⟨e1, e2⟩ := List.cons.inj e
      rw [e1] at e2
      refine ⟨getD_inj (x := x) a.nodup lt hyl ?_, e2⟩
      rw [e1, getD_idx hy]
    · rintro ⟨e1, e2⟩
      rw [e1, getD_idx hy, e2]
theorem places_wf : ∀ {k : Nat} {gone : List α} {x : α} {t : List α}, At line gone x k → t.length = k → t.Nodup → (∀ y ∈ t, y ∈ line ∧ y ∉ gone) → ∀ c ∈ places line gone x t, c.1 ∈ line ∧ c.2.1 < c.2.2 ∧ c.2.2 ≤ line.length
  | 0, gone, x, t, _, hl, _, _, c, hc => by
    rw [List.eq_nil_of_length_eq_zero hl] at hc
    cases hc
  | k + 1, gone, x, [], _, hl, _, _, c, hc => nomatch hc
  | k + 1, gone, x, y :: t, a, hl, hn, hm, c, hc => by
    obtain ⟨n1, n2⟩ := List.nodup_cons.mp hn
    have hy : y ∈ sit line gone x := a.mem.mpr (hm y (by simp))
    rw [places] at hc
    rcases List.mem_cons.mp hc with rfl | hc
    · refine ⟨a.xl, List.idxOf_lt_length_iff.mpr hy, ?_⟩
      show (sit line gone x).length ≤ line.length
      have := a.length
      have := a.len
      omega
    · exact places_wf (a.step hy) (by simpa using hl) n2 (fun z hz => ⟨(hm z (List.mem_cons_of_mem _ hz)).1, fun q => by
        rcases List.mem_append.mp q with q | q
        · exact (hm z (List.mem_cons_of_mem _ hz)).2 q
        · exact n1 (List.mem_singleton.mp q ▸ hz)⟩) c hc
end
/-- the rests with what is told -/
def narrow : (α → Rest) → List (α × Rest) → Option (α → Rest)
  | ρ, [] => some ρ
  | ρ, (x, r) :: T => match bothN (ρ x) r with
    | none => none
    | some c => narrow (fun y => if y = x then c else ρ y) T
section
variable {ρ ρ' : α → Rest} {line : List α} {T : List (α × Rest)} {x : α} {r c : Rest}
theorem narrow_none (h : bothN (ρ x) r = none) : narrow ρ ((x, r) :: T) = none := by
  rw [narrow, h]
theorem narrow_some (h : bothN (ρ x) r = some c) : narrow ρ ((x, r) :: T) = narrow (fun y => if y = x then c else ρ y) T := by
  rw [narrow, h]
theorem wf_put (w : WF ρ line) (h : bothN (ρ x) r = some c) : WF (fun y => if y = x then c else ρ y) line := fun y hy => by
  show (if y = x then c else ρ y).1 < (if y = x then c else ρ y).2
  split
  · exact (bothN_some h).1
  · exact w y hy
theorem fits_put {s : α → Nat} (hx : x ∈ line) (h : bothN (ρ x) r = some c) : Fits (fun y => if y = x then c else ρ y) line s ↔ Fits ρ line s ∧ s x % r.2 = r.1 := by
  have e := (bothN_some h).2.2.2.2 (s x)
  constructor
  · intro f
    have f1 : s x % (if x = x then c else ρ x).2 = (if x = x then c else ρ x).1 := f x hx
    rw [if_pos rfl] at f1
    obtain ⟨h1, h2⟩ := e.mp f1
    refine ⟨fun y hy => ?_, h2⟩
    by_cases q : y = x
    · rw [q]; exact h1
    · have f2 : s y % (if y = x then c else ρ y).2 = (if y = x then c else ρ y).1 := f y hy
      rwa [if_neg q] at f2
  · rintro ⟨f, h2⟩ y hy
    show s y % (if y = x then c else ρ y).2 = (if y = x then c else ρ y).1
    by_cases q : y = x
    · rw [if_pos q, q]
      exact e.mpr ⟨f x hx, h2⟩
    · rw [if_neg q]
      exact f y hy
theorem narrow_fits : ∀ {T : List (α × Rest)} {ρ ρ' : α → Rest}, (∀ c ∈ T, c.1 ∈ line) → narrow ρ T = some ρ' → ∀ s, Fits ρ' line s ↔ Fits ρ line s ∧ Keeps s T
  | [], ρ, ρ', _, h, s => by
    obtain rfl := Option.some.inj h
    exact ⟨fun f => ⟨f, fun c hc => nomatch hc⟩, fun f => f.1⟩
  | (x, r) :: T, ρ, ρ', hx, h, s => by
    cases e : bothN (ρ x) r with
    | none =>
      rw [narrow_none e] at h
      cases h
    | some c =>
      rw [narrow_some e] at h
      rw [narrow_fits (fun c hc => hx c (List.mem_cons_of_mem _ hc)) h s, fits_put (hx (x, r) (by simp)) e]
      unfold Keeps
      rw [List.forall_mem_cons]
      exact ⟨fun ⟨⟨a, b⟩, d⟩ => ⟨a, b, d⟩, fun ⟨a, b, d⟩ => ⟨⟨a, b⟩, d⟩⟩
theorem narrow_wf : ∀ {T : List (α × Rest)} {ρ ρ' : α → Rest}, WF ρ line → narrow ρ T = some ρ' → WF ρ' line
  | [], ρ, ρ', w, h => by
    obtain rfl := Option.some.inj h
    exact w
  | (x, r) :: T, ρ, ρ', w, h => by
    cases e : bothN (ρ x) r with
    | none =>
      rw [narrow_none e] at h
      cases h
    | some c =>
      rw [narrow_some e] at h
      exact narrow_wf (wf_put w e) h
/-- none: no slips fit and keep what is told -/
theorem narrow_not : ∀ {T : List (α × Rest)} {ρ : α → Rest}, WF ρ line → (∀ c ∈ T, c.1 ∈ line ∧ c.2.1 < c.2.2) → narrow ρ T = none → ¬ ∃ s, Fits ρ line s ∧ Keeps s T
  | [], ρ, _, _, h, _ => nomatch h
  | (x, r) :: T, ρ, w, hx, h, ⟨s, f, k⟩ => by
    unfold Keeps at k
    rw [List.forall_mem_cons] at k
    have hx0 := hx (x, r) (by simp)
    cases e : bothN (ρ x) r with
    | none =>
      have a : 0 < (ρ x).2 := Nat.lt_of_le_of_lt (Nat.zero_le _) (w x hx0.1)
      have b : 0 < r.2 := Nat.lt_of_le_of_lt (Nat.zero_le _) hx0.2
      exact bothN_none a b e ⟨s x, f x hx0.1, k.1⟩
    | some c =>
      rw [narrow_some e] at h
      exact narrow_not (wf_put w e) (fun c hc => hx c (List.mem_cons_of_mem _ hc)) h ⟨s, (fits_put hx0.1 e).mpr ⟨f, k.1⟩, k.2⟩
/-- the least slips fit -/
theorem fits_least (w : WF ρ line) : Fits ρ line fun y => (ρ y).1 := fun y hy => Nat.mod_eq_of_lt (w y hy)
theorem narrow_append : ∀ {T : List (α × Rest)} {T' : List (α × Rest)} {ρ : α → Rest}, narrow ρ (T ++ T') = (narrow ρ T).bind fun ρ' => narrow ρ' T'
  | [], _, _ => rfl
  | (x, r) :: T, T', ρ => by
    rw [List.cons_append]
    cases e : bothN (ρ x) r with
    | none => rw [narrow_none e, narrow_none e]; rfl
    | some c => rw [narrow_some e, narrow_some e, narrow_append]
theorem keeps_append {s : α → Nat} {T T' : List (α × Rest)} : Keeps s (T ++ T') ↔ Keeps s T ∧ Keeps s T' := by
  unfold Keeps
  constructor
  · exact fun h => ⟨fun c hc => h c (List.mem_append_left _ hc), fun c hc => h c (List.mem_append_right _ hc)⟩
  · rintro ⟨h1, h2⟩ c hc
    rcases List.mem_append.mp hc with q | q
    · exact h1 c q
    · exact h2 c q
/-- the moduli stay small -/
theorem narrow_mods {b n : Nat} : ∀ {T : List (α × Rest)} {ρ ρ' : α → Rest}, (∀ x ∈ line, (ρ x).2 ≤ b) → (∀ c ∈ T, c.2.2 ≤ 2 ^ n) → (∀ c ∈ T, c.1 ∈ line) → 0 < b → narrow ρ T = some ρ' → ∀ x ∈ line, (ρ' x).2 ≤ b * 2 ^ (n * T.length)
  | [], ρ, ρ', h, _, _, _, e, x, hx => by
    obtain rfl := Option.some.inj e
    simpa using h x hx
  | (y, r) :: T, ρ, ρ', h, ht, hl, hb, e, x, hx => by
    cases q : bothN (ρ y) r with
    | none =>
      rw [narrow_none q] at e
      cases e
    | some c =>
      rw [narrow_some q] at e
      have hr : r.2 ≤ 2 ^ n := ht (y, r) (by simp)
      have hc : c.2 ≤ b * 2 ^ n := by
        rw [(bothN_some q).2.1]
        rcases Nat.eq_zero_or_pos (ρ y).2 with z | z
        · rw [z, Nat.lcm_zero_left]
          exact Nat.zero_le _
        · rcases Nat.eq_zero_or_pos r.2 with z' | z'
          · rw [z', Nat.lcm_zero_right]
            exact Nat.zero_le _
          · refine Nat.le_trans (Nat.le_of_dvd (Nat.mul_pos z z') (Nat.lcm_dvd_mul _ _)) (Nat.mul_le_mul (h y (hl (y, r) (by simp))) hr)
      have := narrow_mods (b := b * 2 ^ n) (n := n) (T := T) (fun z hz => ?_) (fun c hc => ht c (List.mem_cons_of_mem _ hc)) (fun c hc => hl c (List.mem_cons_of_mem _ hc)) (Nat.mul_pos hb (Nat.pow_pos (by decide))) e x hx
      · rw [List.length_cons, Nat.mul_add, Nat.pow_add, Nat.mul_one, Nat.mul_comm (2 ^ (n * T.length)), ← Nat.mul_assoc]
        exact this
      · show (if z = y then c else ρ z).2 ≤ _
        split
        · exact hc
        · exact Nat.le_trans (h z hz) (Nat.le_mul_of_pos_right _ (Nat.pow_pos (by decide)))
end
end G
namespace G
variable {α : Type} [DecidableEq α]
/-- the whole line, the one behind x first, x last -/
def round (line : List α) (x : α) : List α := turned line x ++ [x]
theorem round_eq {line : List α} {x : α} (h : x ∈ line) : round line x = line.drop (line.idxOf x + 1) ++ line.take (line.idxOf x + 1) := by
  unfold round turned
  rw [take_one (idx_get h), List.append_assoc]
theorem round_perm {line : List α} {x : α} (h : x ∈ line) : (round line x).Perm line := by
  unfold round
  exact (List.perm_append_comm.trans (turned_perm h))
theorem round_mem {line : List α} {x y : α} (h : x ∈ line) : y ∈ round line x ↔ y ∈ line := (round_perm h).mem_iff
theorem round_len {line : List α} {x : α} (h : x ∈ line) : (round line x).length = line.length := (round_perm h).length_eq
theorem round_nodup {line : List α} {x : α} (h : x ∈ line) (hn : line.Nodup) : (round line x).Nodup := (round_perm h).nodup_iff.mpr hn
end G
set_option linter.all false
/-! two rounds in a row, counted -/
namespace G
variable {α : Type} [DecidableEq α]
def endOf (b : α) (t : List α) : α := (b :: t).getLast (by simp)
/-- the rests behind a choice of the next begin -/
def after (ρ : α → Rest) (line : List α) (last : α) (p : Nat) : α → Rest := (narrow ρ [(last, (p, line.length))]).getD ρ
def nextBegin (line : List α) (last : α) (p : Nat) : α := (round line last).getD p last
def behind (ρ : α → Rest) (line : List α) (last : α) : Nat :=
  ((byN (ρ last).1 (ρ last).2 line.length).map fun p => (tails (after ρ line last p) line (line.length - 1) [nextBegin line last p] (nextBegin line last p)).length).sum
/-- the rests behind an order -/
def lead (ρ : α → Rest) (line : List α) (b : α) (t : List α) : α → Rest := (narrow ρ (places line [b] b t)).getD ρ
def many2 (ρ : α → Rest) (line : List α) (b : α) : Nat := ((tails ρ line (line.length - 1) [b] b).map fun t => behind (lead ρ line b t) line (endOf b t)).sum
/-- .. of those that begin so -/
def wt (ρ : α → Rest) (line : List α) (b : α) (t : List α) : Nat := ((tails ρ line (line.length - 1 - t.length) (b :: t) (endOf b t)).map fun s => behind (lead ρ line b (t ++ s)) line (endOf b (t ++ s))).sum
/-- how many starts begin so -/
def nodes (ρ : α → Rest) (line : List α) : Nat → List α → α → Nat
  | 0, _, _ => 1
  | k + 1, gone, x => 1 + ((nexts ρ line gone x).map fun y => nodes ρ line k (gone ++ [y]) y).sum
def nds (ρ : α → Rest) (line : List α) (b : α) (t : List α) : Nat := nodes ρ line (line.length - 1 - t.length) (b :: t) (endOf b t)
section
variable {ρ : α → Rest} {line : List α} {b y : α} {t : List α} {k : Nat}
theorem endOf_snoc : endOf b (t ++ [y]) = y := by
  unfold endOf
  rw [List.getLast_cons (by simp), List.getLast_append_of_ne_nil _ (by simp)]
  rfl
theorem endOf_get : (b :: t)[t.length]? = some (endOf b t) := by
  unfold endOf
  rw [List.getLast_eq_getElem]
  exact List.getElem?_eq_getElem (by simp)
theorem sum_flatMap {β γ : Type} (f : γ → Nat) (g : β → List γ) : ∀ l : List β, ((l.flatMap g).map f).sum = (l.map fun a => ((g a).map f).sum).sum
  | [] => rfl
  | a :: r => by
    rw [List.flatMap_cons, List.map_append, List.sum_append, List.map_cons, List.sum_cons, sum_flatMap f g r]
theorem wt_full (h : t.length = line.length - 1) : wt ρ line b t = behind (lead ρ line b t) line (endOf b t) := by
  unfold wt
  rw [h, Nat.sub_self]
  unfold tails
  simp
theorem wt_more (h : t.length < line.length - 1) : wt ρ line b t = ((nexts ρ line (b :: t) (endOf b t)).map fun y => wt ρ line b (t ++ [y])).sum := by
  unfold wt
  obtain ⟨k, hk⟩ : ∃ k, line.length - 1 - t.length = k + 1 := ⟨line.length - 1 - t.length - 1, by omega⟩
  rw [hk, tails, sum_flatMap]
  congr 1
  apply List.map_congr_left
  intro y _
  rw [List.map_map]
  have e : line.length - 1 - (t ++ [y]).length = k := by
    rw [List.length_append, List.length_cons, List.length_nil]
    omega
  rw [e, endOf_snoc]
  congr 1
  apply List.map_congr_left
  intro s _
  show behind (lead ρ line b (t ++ y :: s)) line (endOf b (t ++ y :: s)) = behind (lead ρ line b (t ++ [y] ++ s)) line (endOf b (t ++ [y] ++ s))
  rw [List.append_assoc]
  rfl
theorem nds_full (h : t.length = line.length - 1) : nds ρ line b t = 1 := by
  unfold nds
  rw [h, Nat.sub_self]
  rfl
theorem nds_more (h : t.length < line.length - 1) : nds ρ line b t = 1 + ((nexts ρ line (b :: t) (endOf b t)).map fun y => nds ρ line b (t ++ [y])).sum := by
  unfold nds
  obtain ⟨k, hk⟩ : ∃ k, line.length - 1 - t.length = k + 1 := ⟨line.length - 1 - t.length - 1, by omega⟩
  rw [hk, nodes]
  congr 2
  apply List.map_congr_left
  intro y _
  have e : line.length - 1 - (t ++ [y]).length = k := by
    rw [List.length_append, List.length_cons, List.length_nil]
    omega
  rw [e, endOf_snoc]
  rfl
def most : Nat → Nat
  | 0 => 1
  | k + 1 => 1 + (k + 1) * most k
theorem sum_le {β : Type} {f : β → Nat} {m : Nat} : ∀ {l : List β}, (∀ a ∈ l, f a ≤ m) → (l.map f).sum ≤ l.length * m
  | [], _ => by simp
  | a :: r, h => by
    have := sum_le (l := r) fun b hb => h b (List.mem_cons_of_mem _ hb)
    have h1 := h a (by simp)
    rw [List.map_cons, List.sum_cons, List.length_cons, Nat.add_mul, Nat.one_mul]
    omega
theorem nodes_le : ∀ {k : Nat} {gone : List α} {x : α}, At line gone x k → nodes ρ line k gone x ≤ most k
  | 0, _, _, _ => Nat.le_refl _
  | k + 1, gone, x, a => by
    rw [nodes, most]
    have h1 : (nexts ρ line gone x).length ≤ k + 1 := by
      unfold nexts
      rw [List.length_map, a.length, byN_steps (Nat.succ_pos k) rfl, List.length_map, List.length_range]
      exact Nat.div_le_self _ _
    have h2 := sum_le (f := fun y => nodes ρ line k (gone ++ [y]) y) (m := most k) (l := nexts ρ line gone x) fun y hy => nodes_le (a.step (nexts_sub a hy))
    have h3 := Nat.mul_le_mul_right (most k) h1
    omega
theorem nodes_pos : ∀ {k : Nat} {gone : List α} {x : α}, 0 < nodes ρ line k gone x
  | 0, _, _ => by rw [nodes]; omega
  | k + 1, _, _ => by rw [nodes]; omega
theorem sum_pos {β : Type} {f : β → Nat} : ∀ {l : List β}, (∀ a, 0 < f a) → l.length ≤ (l.map f).sum
  | [], _ => by simp
  | a :: r, h => by
    have := sum_pos (l := r) h
    have := h a
    rw [List.map_cons, List.sum_cons, List.length_cons]
    omega
theorem wt_nil : wt ρ line b [] = many2 ρ line b := by
  unfold wt many2
  rfl
end
end G
set_option linter.all false
/-! all slips below a bound that fit -/
namespace G
variable {α : Type} [DecidableEq α]
def someL (r : Rest) (W : Nat) : List Nat := (List.range W).filter fun v => decide (((v : Nat) - (r.1 : Nat) : Int) % (Nat.gcd r.2 W : Nat) = 0)
def grow (r : Rest) (W : Nat) (acc : List (List Nat)) : List (List Nat) := acc.flatMap fun vs => (someL r W).map fun v => vs ++ [v]
def allP (ρ : α → Rest) (W : Nat) (xs : List α) : List (List Nat) := xs.foldl (fun acc x => grow (ρ x) W acc) [[]]
section
variable {ρ : α → Rest} {W : Nat} {xs : List α} {x : α} {r : Rest}
theorem allP_snoc : allP ρ W (xs ++ [x]) = grow (ρ x) W (allP ρ W xs) := by
  unfold allP
  rw [List.foldl_append]
  rfl
theorem someL_len : (someL r W).length ≤ W := by
  unfold someL
  refine Nat.le_trans (List.length_filter_le ..) ?_
  rw [List.length_range]
  exact Nat.le_refl _
theorem grow_len : ∀ acc : List (List Nat), (grow r W acc).length ≤ acc.length * W
  | [] => by simp [grow]
  | a :: t => by
    have h1 := grow_len t
    have h2 := someL_len (r := r) (W := W)
    unfold grow at h1 ⊢
    rw [List.flatMap_cons, List.length_append, List.length_map, List.length_cons, Nat.add_mul, Nat.one_mul]
    omega
theorem allP_len : ∀ n (xs : List α), xs.length = n → (allP ρ W xs).length ≤ W ^ n
  | 0, xs, h => by
    rw [List.eq_nil_of_length_eq_zero h]
    exact Nat.le_refl _
  | n + 1, xs, h => by
    have hne : xs ≠ [] := fun e => by rw [e] at h; simp at h
    have e := List.dropLast_concat_getLast hne
    have hl : xs.dropLast.length = n := by rw [List.length_dropLast]; omega
    rw [← e, allP_snoc]
    refine Nat.le_trans (grow_len _) ?_
    rw [Nat.pow_succ]
    exact Nat.mul_le_mul_right _ (allP_len n _ hl)
theorem allP_mem_len : ∀ n (xs : List α), xs.length = n → ∀ vs ∈ allP ρ W xs, vs.length = n
  | 0, xs, h, vs, hv => by
    rw [List.eq_nil_of_length_eq_zero h] at hv
    rw [List.mem_singleton.mp hv]
    rfl
  | n + 1, xs, h, vs, hv => by
    have hne : xs ≠ [] := fun e => by rw [e] at h; simp at h
    have e := List.dropLast_concat_getLast hne
    have hl : xs.dropLast.length = n := by rw [List.length_dropLast]; omega
    rw [← e, allP_snoc] at hv
    unfold grow at hv
    obtain ⟨us, h1, h2⟩ := List.mem_flatMap.mp hv
    obtain ⟨v, _, rfl⟩ := List.mem_map.mp h2
    rw [List.length_append, allP_mem_len n _ hl us h1]
    rfl
/-- one of them: each name's number is one of its own -/
theorem mem_allP : ∀ n (xs : List α), xs.length = n → ∀ vs : List Nat, vs ∈ allP ρ W xs ↔ vs.length = n ∧ ∀ (i : Nat) (x : α) (v : Nat), xs[i]? = some x → vs[i]? = some v → v ∈ someL (ρ x) W
  | 0, xs, h, vs => by
    rw [List.eq_nil_of_length_eq_zero h]
    unfold allP
    rw [List.foldl_nil, List.mem_singleton]
    refine ⟨fun e => ⟨by rw [e]; rfl, fun i x v hx => by simp at hx⟩, fun ⟨e, _⟩ => List.eq_nil_of_length_eq_zero e⟩
  | n + 1, xs, h, vs => by
    have hne : xs ≠ [] := fun e => by rw [e] at h; simp at h
    have e := List.dropLast_concat_getLast hne
    have hl : xs.dropLast.length = n := by rw [List.length_dropLast]; omega
    have hlast : xs[n]? = some (xs.getLast hne) := by
      rw [List.getLast_eq_getElem, List.getElem?_eq_getElem (by omega)]
      congr 1
      simp [h]
    have hpre : ∀ i, i < n → xs.dropLast[i]? = xs[i]? := fun i hi => by
      rw [List.getElem?_dropLast, if_pos (by omega)]
    have ih := mem_allP n xs.dropLast hl
    rw [show allP ρ W xs = grow (ρ (xs.getLast hne)) W (allP ρ W xs.dropLast) by rw [← allP_snoc, e]]
    unfold grow
    rw [List.mem_flatMap]
    constructor
    · rintro ⟨us, h1, h2⟩
      obtain ⟨v, hv, rfl⟩ := List.mem_map.mp h2
      obtain ⟨i1, i2⟩ := (ih us).mp h1
      refine ⟨by rw [List.length_append, i1]; rfl, fun i x u hx hu => ?_⟩
      rcases Nat.lt_or_ge i n with c | c
      · rw [List.getElem?_append_left (by omega)] at hu
        exact i2 i x u (by rw [hpre i c]; exact hx) hu
      · have hi := (List.getElem?_eq_some_iff.mp hx).1
        obtain rfl : i = n := by omega
        rw [hlast] at hx
        rw [List.getElem?_append_right (by omega), i1, Nat.sub_self] at hu
        rw [← Option.some.inj hx, ← Option.some.inj hu]
        exact hv
    · rintro ⟨h1, h2⟩
      have vne : vs ≠ [] := fun e => by rw [e] at h1; simp at h1
      have ve := List.dropLast_concat_getLast vne
      have vl : vs.dropLast.length = n := by rw [List.length_dropLast]; omega
      refine ⟨vs.dropLast, (ih _).mpr ⟨vl, fun i x u hx hu => ?_⟩, List.mem_map.mpr ⟨vs.getLast vne, ?_, ve⟩⟩
      · have hi := (List.getElem?_eq_some_iff.mp hx).1
        rw [hl] at hi
        rw [hpre i hi] at hx
        rw [List.getElem?_dropLast, if_pos (by omega)] at hu
        exact h2 i x u hx hu
      · refine h2 n _ _ hlast ?_
        rw [List.getLast_eq_getElem, List.getElem?_eq_getElem (by omega)]
        congr 1
        simp [h1]
end
end G
set_option linter.all false
/-! the orders in the order of their figures; who may go next -/
namespace G
variable {α : Type} [DecidableEq α]
def figN (line gone : List α) (x : α) (t : List α) : List Int := (places line gone x t).map fun c => ((c.2.1 : Nat) : Int)
section
variable {ρ : α → Rest} {line gone : List α} {x y b : α} {k : Nat} {t : List α}
theorem figN_cons : figN line gone x (y :: t) = (((sit line gone x).idxOf y : Nat) : Int) :: figN line (gone ++ [y]) y t := rfl
theorem nexts_idx (a : At line gone x (k + 1)) : (nexts ρ line gone x).Pairwise fun y z => (sit line gone x).idxOf y < (sit line gone x).idxOf z := by
  unfold nexts
  rw [List.pairwise_map]
  refine List.Pairwise.imp_of_mem ?_ (byN_lts _ _ _)
  intro p q hp hq h
  have lp : p < (sit line gone x).length := byN_lt hp
  have lq : q < (sit line gone x).length := byN_lt hq
  have e : ∀ {p : Nat}, p < (sit line gone x).length → (sit line gone x).idxOf ((sit line gone x).getD p x) = p := fun {p} hp => by
    rw [getD_at hp]
    exact idx_of a.nodup (List.getElem?_eq_getElem hp)
  rw [e lp, e lq]
  exact h
theorem pairwise_flat {β γ : Type} {R : γ → γ → Prop} {f : β → List γ} : ∀ {l : List β}, (∀ a ∈ l, (f a).Pairwise R) → l.Pairwise (fun a b => ∀ x ∈ f a, ∀ y ∈ f b, R x y) → (l.flatMap f).Pairwise R
  | [], _, _ => List.Pairwise.nil
  | a :: r, h1, h2 => by
    obtain ⟨h3, h4⟩ := List.pairwise_cons.mp h2
    rw [List.flatMap_cons, List.pairwise_append]
    refine ⟨h1 a (by simp), pairwise_flat (fun c hc => h1 c (List.mem_cons_of_mem _ hc)) h4, fun u hu v hv => ?_⟩
    obtain ⟨c, hc, hv⟩ := List.mem_flatMap.mp hv
    exact h3 c hc u hu v hv
/-- the orders stand by their figures -/
theorem tails_figs : ∀ {k : Nat} {gone : List α} {x : α}, At line gone x k → (tails ρ line k gone x).Pairwise fun t u => figN line gone x t < figN line gone x u
  | 0, _, _, _ => by
    unfold tails
    exact List.pairwise_singleton _ _
  | k + 1, gone, x, a => by
    unfold tails
    refine pairwise_flat (fun y hy => ?_) ?_
    · rw [List.pairwise_map]
      refine (tails_figs (a.step (nexts_sub a hy))).imp fun {t u} h => ?_
      rw [figN_cons, figN_cons, List.cons_lt_cons_iff]
      exact Or.inr ⟨rfl, h⟩
    · refine (nexts_idx a).imp fun {y z} h t ht u hu => ?_
      obtain ⟨t, _, rfl⟩ := List.mem_map.mp ht
      obtain ⟨u, _, rfl⟩ := List.mem_map.mp hu
      rw [figN_cons, figN_cons, List.cons_lt_cons_iff]
      exact Or.inl (by omega)
/-- who may go next behind a start: who stands there in some order that begins so -/
theorem tails_next (w : WF ρ line) : ∀ {k : Nat} {gone : List α} {x : α} {g : List α} {u : α}, At line gone x k → (∀ (i : Nat) (u v : α), (x :: g)[i]? = some u → g[i]? = some v → v ∈ nexts ρ line (gone ++ g.take i) u) → g.length < k → (x :: g)[g.length]? = some u →
    ∀ y, (y ∈ nexts ρ line (gone ++ g) u ↔ ∃ t ∈ tails ρ line k gone x, t.take g.length = g ∧ t[g.length]? = some y)
  | 0, gone, x, g, u, a, hp, hl, hu, y => by omega
  | k + 1, gone, x, [], u, a, hp, hl, hu, y => by
    obtain rfl : x = u := Option.some.inj hu
    rw [List.append_nil]
    constructor
    · intro hy
      obtain ⟨t, ht⟩ := List.exists_mem_of_ne_nil _ (tails_ne w (a.step (nexts_sub a hy)))
      refine ⟨y :: t, ?_, rfl, rfl⟩
      unfold tails
      exact List.mem_flatMap.mpr ⟨y, hy, List.mem_map.mpr ⟨t, ht, rfl⟩⟩
    · rintro ⟨t, ht, _, h2⟩
      unfold tails at ht
      obtain ⟨z, hz, ht⟩ := List.mem_flatMap.mp ht
      obtain ⟨t', _, rfl⟩ := List.mem_map.mp ht
      obtain rfl : z = y := Option.some.inj h2
      exact hz
  | k + 1, gone, x, z :: g, u, a, hp, hl, hu, y => by
    have hz : z ∈ nexts ρ line gone x := by simpa using hp 0 x z rfl rfl
    have ih := tails_next w (a.step (nexts_sub a hz)) (g := g) (u := u) (fun i u v hu hv => by
      have := hp (i + 1) u v hu hv
      rw [List.append_assoc]
      exact this) (by simpa using hl) hu y
    have e : gone ++ z :: g = gone ++ [z] ++ g := by rw [List.append_assoc]; rfl
    rw [e, ih]
    constructor
    · rintro ⟨t, ht, h1, h2⟩
      refine ⟨z :: t, ?_, by rw [List.length_cons, List.take_succ_cons, h1], h2⟩
      unfold tails
      exact List.mem_flatMap.mpr ⟨z, hz, List.mem_map.mpr ⟨t, ht, rfl⟩⟩
    · rintro ⟨t, ht, h1, h2⟩
      unfold tails at ht
      obtain ⟨z', hz', ht⟩ := List.mem_flatMap.mp ht
      obtain ⟨t', ht', rfl⟩ := List.mem_map.mp ht
      rw [List.length_cons, List.take_succ_cons] at h1
      obtain ⟨e1, e2⟩ := List.cons.inj h1
      subst e1
      exact ⟨t', ht', e2, h2⟩
end
end G
namespace G
variable {α : Type} [DecidableEq α]
def fct : Nat → Nat
  | 0 => 1
  | k + 1 => (k + 1) * fct k
theorem tails_few {ρ : α → Rest} {line : List α} : ∀ {k : Nat} {gone : List α} {x : α}, At line gone x k → (tails ρ line k gone x).length ≤ fct k
  | 0, _, _, _ => Nat.le_refl _
  | k + 1, gone, x, a => by
    rw [tails, fct, List.length_flatMap]
    have h1 : (nexts ρ line gone x).length ≤ k + 1 := by
      unfold nexts
      rw [List.length_map, a.length, byN_steps (Nat.succ_pos k) rfl, List.length_map, List.length_range]
      exact Nat.div_le_self _ _
    have h2 := sum_le (f := fun y => ((tails ρ line k (gone ++ [y]) y).map (y :: ·)).length) (m := fct k) (l := nexts ρ line gone x) fun y hy => by
      rw [List.length_map]
      exact tails_few (a.step (nexts_sub a hy))
    exact Nat.le_trans h2 (Nat.mul_le_mul_right _ h1)
end G
set_option linter.all false
/-! slips modulo a number that all counts divide; pairs of rounds -/
namespace G
variable {α : Type} [DecidableEq α]
theorem someL_eq (r : Rest) (W : Nat) : someL r W = byN r.1 r.2 W := by
  unfold someL byN
  apply List.filter_congr
  intro v _
  apply decide_eq_decide.mpr
  constructor
  · intro h
    have h2 : ((v : Nat) : Int) % (Nat.gcd r.2 W : Nat) = ((r.1 : Nat) : Int) % (Nat.gcd r.2 W : Nat) := Int.emod_eq_emod_iff_emod_sub_eq_zero.mpr h
    exact_mod_cast h2
  · intro h
    have h2 : ((v : Nat) : Int) % (Nat.gcd r.2 W : Nat) = ((r.1 : Nat) : Int) % (Nat.gcd r.2 W : Nat) := by exact_mod_cast h
    rw [Int.sub_emod, h2]
    simp
section
variable {ρ : α → Rest} {line gone : List α} {x b : α} {k W : Nat} {s s' : α → Nat}
/-- all counts up to n divide W -/
def Divs (n W : Nat) : Prop := ∀ k, 0 < k → k ≤ n → k ∣ W
theorem mod_same {a c k : Nat} (h : a % W = c % W) (hk : k ∣ W) : a % k = c % k := by
  rw [← Nat.mod_mod_of_dvd a hk, ← Nat.mod_mod_of_dvd c hk, h]
theorem go_mod (hd : Divs line.length W) : ∀ {k : Nat} {gone : List α} {x : α}, At line gone x k → (∀ z ∈ line, s z % W = s' z % W) → go s line k gone x = go s' line k gone x
  | 0, _, _, _, _ => rfl
  | k + 1, gone, x, a, h => by
    have hl := a.length
    have hal := a.len
    have e : s x % (sit line gone x).length = s' x % (sit line gone x).length := mod_same (h x a.xl) (hd _ (by omega) (by omega))
    have hm : (sit line gone x).getD (s' x % (sit line gone x).length) x ∈ sit line gone x := a.getD_mem (by rw [hl]; exact Nat.mod_lt _ (Nat.succ_pos k))
    unfold go
    rw [e]
    congr 1
    exact go_mod hd (a.step hm) h
/-- the slips of a row of numbers -/
def slipOf (line : List α) (vs : List Nat) (x : α) : Nat := vs.getD (line.idxOf x) 0
theorem slipOf_get {vs : List Nat} {i v : Nat} (hn : line.Nodup) (hx : line[i]? = some x) (hv : vs[i]? = some v) : slipOf line vs x = v := by
  unfold slipOf
  rw [idx_of hn hx, List.getD_eq_getElem?_getD, hv]
  rfl
/-- modulo W the rows are the slips that fit -/
theorem allP_fits (hn : line.Nodup) (w : WF ρ line) (hW : 0 < W) : (∀ vs ∈ allP ρ W line, ∃ s, Fits ρ line s ∧ ∀ x ∈ line, s x % W = slipOf line vs x % W) ∧ ∀ s, Fits ρ line s → ∃ vs ∈ allP ρ W line, ∀ x ∈ line, s x % W = slipOf line vs x % W := by
  have hm := mem_allP (ρ := ρ) (W := W) _ line rfl
  constructor
  · intro vs hv
    obtain ⟨h1, h2⟩ := (hm vs).mp hv
    have h3 : ∀ x, ∃ u, x ∈ line → u % (ρ x).2 = (ρ x).1 ∧ u % W = slipOf line vs x % W := fun x => by
      by_cases hx : x ∈ line
      · have hi := idx_get hx
        have hil := List.idxOf_lt_length_iff.mpr hx
        have hvi : vs[line.idxOf x]? = some vs[line.idxOf x] := List.getElem?_eq_getElem (by omega)
        have h4 := h2 _ _ _ hi hvi
        rw [someL_eq] at h4
        obtain ⟨h5, u, h6, h7⟩ := (mem_byN (w x hx)).mp h4
        refine ⟨u, fun _ => ⟨h6, ?_⟩⟩
        rw [slipOf_get hn hi hvi, h7, Nat.mod_eq_of_lt h5]
      · exact ⟨0, fun h => absurd h hx⟩
    refine ⟨fun x => (h3 x).choose, fun x hx => ((h3 x).choose_spec hx).1, fun x hx => ((h3 x).choose_spec hx).2⟩
  · intro s hs
    refine ⟨line.map fun x => s x % W, (hm _).mpr ⟨List.length_map .., fun i x v hx hv => ?_⟩, fun x hx => ?_⟩
    · rw [List.getElem?_map, hx] at hv
      have hxl := List.mem_of_getElem? hx
      rw [someL_eq, ← Option.some.inj hv]
      exact byN_mem_mod hW (hs x hxl)
    · have hi := idx_get hx
      rw [slipOf_get hn hi (v := s x % W) (by rw [List.getElem?_map, hi]; rfl), Nat.mod_mod]
/-- a pair of rounds in a row: what slips bring -/
def nextAt (line : List α) (s : α → Nat) (last : α) : α := (round line last).getD (s last % line.length) last
def pairOf (s : α → Nat) (line : List α) (b : α) : List α × List α :=
  let t := go s line (line.length - 1) [b] b
  let c := nextAt line s (endOf b t)
  (b :: t, c :: go s line (line.length - 1) [c] c)
theorem nextAt_mem (h : x ∈ line) : nextAt line s x ∈ line := by
  have hp : 0 < line.length := List.length_pos_of_mem h
  have hl : s x % line.length < (round line x).length := by
    rw [round_len h]
    exact Nat.mod_lt _ hp
  unfold nextAt
  rw [getD_at hl]
  exact (round_mem h).mp (List.getElem_mem hl)
theorem go_path (hn : line.Nodup) (hb : b ∈ line) : go s line (line.length - 1) [b] b ∈ tails (fun x => (s x, s x + 1)) line (line.length - 1) [b] b := by
  have hp : 0 < line.length := List.length_pos_of_mem hb
  refine (mem_tails (fun x _ => Nat.lt_succ_self _) (At.first hn hb (by omega))).mpr ⟨s, fun x _ => ?_, rfl⟩
  exact Nat.mod_eq_of_lt (Nat.lt_succ_self _)
theorem go_full (hn : line.Nodup) (hb : b ∈ line) : (b :: go s line (line.length - 1) [b] b).Nodup ∧ (∀ x ∈ b :: go s line (line.length - 1) [b] b, x ∈ line) ∧ (go s line (line.length - 1) [b] b).length = line.length - 1 := by
  have hp : 0 < line.length := List.length_pos_of_mem hb
  have h := go_path (s := s) hn hb
  have hP := path_tails hn hb (by omega) h
  exact ⟨hP.nodup, fun x hx => hP.mem hx, tails_length h⟩
theorem pair_mod (hd : Divs line.length W) (hn : line.Nodup) (hb : b ∈ line) (h : ∀ z ∈ line, s z % W = s' z % W) : pairOf s line b = pairOf s' line b := by
  have hp : 0 < line.length := List.length_pos_of_mem hb
  have e1 := go_mod hd (At.first hn hb (k := line.length - 1) (by omega)) h
  have hla : endOf b (go s' line (line.length - 1) [b] b) ∈ line := (go_full hn hb).2.1 _ (List.getLast_mem _)
  have e2 : nextAt line s (endOf b (go s' line (line.length - 1) [b] b)) = nextAt line s' (endOf b (go s' line (line.length - 1) [b] b)) := by
    unfold nextAt
    rw [mod_same (h _ hla) (hd _ hp (Nat.le_refl _))]
  have hc := nextAt_mem (s := s') hla
  have e3 := go_mod hd (At.first hn hc (k := line.length - 1) (by omega)) h
  unfold pairOf
  simp only [e1, e2, e3]
end
end G
set_option linter.all false
/-! all pairs of rounds in a row -/
namespace G
variable {α : Type} [DecidableEq α]
def prs (ρ : α → Rest) (line : List α) (b : α) : List (List α × List α) :=
  (tails ρ line (line.length - 1) [b] b).flatMap fun t => (byN (lead ρ line b t (endOf b t)).1 (lead ρ line b t (endOf b t)).2 line.length).flatMap fun p =>
    (tails (after (lead ρ line b t) line (endOf b t) p) line (line.length - 1) [nextBegin line (endOf b t) p] (nextBegin line (endOf b t) p)).map fun t2 => (b :: t, nextBegin line (endOf b t) p :: t2)
section
variable {ρ : α → Rest} {line : List α} {b : α}
theorem prs_len : (prs ρ line b).length = many2 ρ line b := by
  unfold prs many2 behind
  rw [List.length_flatMap]
  congr 1
  apply List.map_congr_left
  intro t _
  rw [List.length_flatMap]
  congr 1
  apply List.map_congr_left
  intro p _
  rw [List.length_map]
/-- behind an order that may come: the rests made narrower -/
theorem lead_ok (hn : line.Nodup) (hb : b ∈ line) (w : WF ρ line) {t : List α} (ht : t ∈ tails ρ line (line.length - 1) [b] b) :
    WF (lead ρ line b t) line ∧ ∀ s, Fits (lead ρ line b t) line s ↔ Fits ρ line s ∧ go s line (line.length - 1) [b] b = t := by
  have hp : 0 < line.length := List.length_pos_of_mem hb
  have a := At.first hn hb (k := line.length - 1) (by omega)
  have hl := tails_length ht
  obtain ⟨tn, tm⟩ := tails_mem a ht
  have hpw := places_wf a hl tn tm
  cases h : narrow ρ (places line [b] b t) with
  | none =>
    obtain ⟨s, f1, f2⟩ := (mem_tails w a).mp ht
    exact absurd ⟨s, f1, (go_iff a hl tn tm).mp f2⟩ (narrow_not w (fun c hc => ⟨(hpw c hc).1, (hpw c hc).2.1⟩) h)
  | some ρ' =>
    have e : lead ρ line b t = ρ' := by
      unfold lead
      rw [h]
      rfl
    rw [e]
    refine ⟨narrow_wf w h, fun s => ?_⟩
    rw [narrow_fits (fun c hc => (hpw c hc).1) h, go_iff a hl tn tm]
theorem after_ok {last : α} {p : Nat} (hla : last ∈ line) (w : WF ρ line) (hp : p ∈ byN (ρ last).1 (ρ last).2 line.length) :
    WF (after ρ line last p) line ∧ ∀ s, Fits (after ρ line last p) line s ↔ Fits ρ line s ∧ s last % line.length = p := by
  obtain ⟨hpl, u, u1, u2⟩ := (mem_byN (w last hla)).mp hp
  cases h : narrow ρ [(last, (p, line.length))] with
  | none =>
    exfalso
    refine narrow_not (line := line) w (fun c hc => ?_) h ⟨fun x => if x = last then u else (ρ x).1, fun x hx => ?_, fun c hc => ?_⟩
    · rw [List.mem_singleton.mp hc]
      exact ⟨hla, hpl⟩
    · by_cases c : x = last
      · subst c
        simp [u1]
      · simp [c]
        exact Nat.mod_eq_of_lt (w x hx)
    · rw [List.mem_singleton.mp hc]
      simp [u2]
  | some ρ' =>
    have e : after ρ line last p = ρ' := by
      unfold after
      rw [h]
      rfl
    rw [e]
    refine ⟨narrow_wf w h, fun s => ?_⟩
    rw [narrow_fits (line := line) (fun c hc => by rw [List.mem_singleton.mp hc]; exact hla) h]
    unfold Keeps
    simp
theorem mem_prs (hn : line.Nodup) (hb : b ∈ line) (w : WF ρ line) {o : List α × List α} : o ∈ prs ρ line b ↔ ∃ s, Fits ρ line s ∧ pairOf s line b = o := by
  have hp : 0 < line.length := List.length_pos_of_mem hb
  have a := At.first hn hb (k := line.length - 1) (by omega)
  unfold prs
  rw [List.mem_flatMap]
  constructor
  · rintro ⟨t, ht, h⟩
    obtain ⟨p, hpm, h⟩ := List.mem_flatMap.mp h
    obtain ⟨t2, ht2, rfl⟩ := List.mem_map.mp h
    have hla : endOf b t ∈ line := (path_tails hn hb (by omega) ht).mem (List.getLast_mem _)
    obtain ⟨w1, f1⟩ := lead_ok hn hb w ht
    obtain ⟨w2, f2⟩ := after_ok hla w1 hpm
    have hpl : p < (round line (endOf b t)).length := by
      rw [round_len hla]
      exact byN_lt hpm
    have hnb : nextBegin line (endOf b t) p ∈ line := by
      unfold nextBegin
      rw [getD_at hpl]
      exact (round_mem hla).mp (List.getElem_mem hpl)
    obtain ⟨s, g1, g2⟩ := (mem_tails w2 (At.first hn hnb (k := line.length - 1) (by omega))).mp ht2
    obtain ⟨g3, g4⟩ := (f2 s).mp g1
    obtain ⟨g5, g6⟩ := (f1 s).mp g3
    refine ⟨s, g5, ?_⟩
    have e : nextAt line s (endOf b t) = nextBegin line (endOf b t) p := by
      unfold nextAt nextBegin
      rw [g4]
    unfold pairOf
    simp only [g6, e, g2]
  · rintro ⟨s, f, rfl⟩
    have ht : go s line (line.length - 1) [b] b ∈ tails ρ line (line.length - 1) [b] b := (mem_tails w a).mpr ⟨s, f, rfl⟩
    refine ⟨_, ht, ?_⟩
    have hla : endOf b (go s line (line.length - 1) [b] b) ∈ line := (path_tails hn hb (by omega) ht).mem (List.getLast_mem _)
    obtain ⟨w1, f1⟩ := lead_ok hn hb w ht
    have g1 := (f1 s).mpr ⟨f, rfl⟩
    have hpm : s (endOf b (go s line (line.length - 1) [b] b)) % line.length ∈ byN (lead ρ line b (go s line (line.length - 1) [b] b) (endOf b (go s line (line.length - 1) [b] b))).1 (lead ρ line b (go s line (line.length - 1) [b] b) (endOf b (go s line (line.length - 1) [b] b))).2 line.length := byN_mem_mod hp (g1 _ hla)
    refine List.mem_flatMap.mpr ⟨_, hpm, ?_⟩
    obtain ⟨w2, f2⟩ := after_ok hla w1 hpm
    have g2 := (f2 s).mpr ⟨g1, rfl⟩
    have hnb := nextAt_mem (s := s) hla
    refine List.mem_map.mpr ⟨go s line (line.length - 1) [nextAt line s (endOf b (go s line (line.length - 1) [b] b))] (nextAt line s (endOf b (go s line (line.length - 1) [b] b))), ?_, rfl⟩
    exact (mem_tails w2 (At.first hn hnb (k := line.length - 1) (by omega))).mpr ⟨s, g2, rfl⟩
theorem prs_nodup (hn : line.Nodup) (hb : b ∈ line) (w : WF ρ line) : (prs ρ line b).Nodup := by
  have hp : 0 < line.length := List.length_pos_of_mem hb
  have a := At.first hn hb (k := line.length - 1) (by omega)
  unfold prs
  refine nodup_flatMap (tails_nodup a) (fun t ht => ?_) fun t ht t' ht' z hz hz' => ?_
  · have hla : endOf b t ∈ line := (path_tails hn hb (by omega) ht).mem (List.getLast_mem _)
    obtain ⟨w1, _⟩ := lead_ok hn hb w ht
    have hpl : ∀ p ∈ byN (lead ρ line b t (endOf b t)).1 (lead ρ line b t (endOf b t)).2 line.length, p < (round line (endOf b t)).length := fun p hpm => by
      rw [round_len hla]
      exact byN_lt hpm
    refine nodup_flatMap ((byN_lts _ _ _).imp fun h => Nat.ne_of_lt h) (fun p hpm => ?_) fun p hpm p' hpm' z hz hz' => ?_
    · have hnb : nextBegin line (endOf b t) p ∈ line := by
        unfold nextBegin
        rw [getD_at (hpl p hpm)]
        exact (round_mem hla).mp (List.getElem_mem _)
      exact nodup_map (tails_nodup (At.first hn hnb (k := line.length - 1) (by omega))) fun t2 _ t3 _ e => (List.cons.inj (Prod.mk.inj e).2).2
    · obtain ⟨t2, _, rfl⟩ := List.mem_map.mp hz
      obtain ⟨t3, _, e⟩ := List.mem_map.mp hz'
      have e2 := (List.cons.inj (Prod.mk.inj e).2).1
      unfold nextBegin at e2
      exact (getD_inj (x := endOf b t) (round_nodup hla hn) (hpl p' hpm') (hpl p hpm) e2).symm
  · obtain ⟨p, _, hz⟩ := List.mem_flatMap.mp hz
    obtain ⟨t2, _, rfl⟩ := List.mem_map.mp hz
    obtain ⟨p', _, hz'⟩ := List.mem_flatMap.mp hz'
    obtain ⟨t3, _, e⟩ := List.mem_map.mp hz'
    exact (List.cons.inj (Prod.mk.inj e).1).2.symm
/-- how many pairs: as many as any list of them, each once -/
theorem many2_eq (hn : line.Nodup) (hb : b ∈ line) (w : WF ρ line) {l : List (List α × List α)} (hl : l.Nodup) (hm : ∀ o, o ∈ l ↔ ∃ s, Fits ρ line s ∧ pairOf s line b = o) : l.length = many2 ρ line b := by
  rw [← prs_len]
  exact ((List.perm_ext_iff_of_nodup hl (prs_nodup hn hb w)).mpr fun o => by rw [hm o, mem_prs hn hb w]).length_eq
end
end G
set_option Elab.async false
set_option linter.all false
set_option maxRecDepth 100000
set_option maxHeartbeats 4000000
/-! seats, ways -/
namespace GK
open PySem PySem.Spec PyProof.Rows L2
/-- seats: the names, each once, in another order -/
structure SeatsOk (seats xs : List Str) : Prop where
  nd : seats.Nodup
  mem : ∀ x, x ∈ seats ↔ x ∈ xs
  few : 2 ≤ xs.length
  most : xs.length ≤ 12
  ndx : xs.Nodup
theorem SeatsOk.len {seats xs : List Str} (h : SeatsOk seats xs) : seats.length = xs.length := ((List.perm_ext_iff_of_nodup h.nd h.ndx).mpr h.mem).length_eq
theorem flat_strs (xs : List Str) : (xs.map V.str).all flatV = true := by
  rw [List.all_eq_true]
  intro v hv
  obtain ⟨x, _, rfl⟩ := List.mem_map.mp hv
  rfl
theorem eqV_str (x y : Str) : eqV (.str x) (.str y) = decide (x = y) := by
  show (x == y) = decide (x = y)
  by_cases h : x = y
  · subst h
    simp
  · rw [decide_eq_false h]
    exact beq_eq_false_iff_ne.mpr h
theorem inV_strs (x : Str) (xs : List Str) : inV (.str x) (xs.map V.str) = decide (x ∈ xs) := by
  unfold inV
  rw [List.any_map]
  induction xs with
  | nil => simp
  | cons y r ih =>
    rw [List.any_cons, ih]
    show (eqV (.str y) (.str x) || decide (x ∈ r)) = decide (x ∈ y :: r)
    rw [eqV_str]
    by_cases h : y = x
    · subst h
      simp
    · rw [decide_eq_false h, Bool.false_or]
      have : (x ∈ y :: r) ↔ x ∈ r := by
        rw [List.mem_cons]
        exact ⟨fun z => z.resolve_left fun e => h e.symm, Or.inr⟩
      simp only [this]
theorem str_at {xs : List Str} {i : Nat} {v : V} (h : (xs.map V.str)[i]? = some v) : ∃ x, xs[i]? = some x ∧ v = .str x := by
  rw [List.getElem?_map] at h
  obtain ⟨x, hx, e⟩ := Option.map_eq_some_iff.mp h
  exact ⟨x, hx, e.symm⟩
/-- list.index of a text that stands there once -/
theorem index_ok {K : PySem.W.Frag} {H : Hp} {a : Addr} {xs : List Str} {x : Str} {Q : VK} (hs : SqL K H a (xs.map V.str)) (hx : x ∈ xs) (q : Q (.int (xs.idxOf x : Nat)) H) : rIndex K (.ref a) [.str x] H Q := by
  have hl := List.idxOf_lt_length_iff.mpr hx
  refine ⟨a, xs.map V.str, .str x, xs.idxOf x, .str x, rfl, rfl, hs, rfl, flat_strs xs, ?_, ?_, fun m z hm hz => ?_, q⟩
  · rw [List.getElem?_map, G.idx_get hx]
    rfl
  · rw [eqV_str]
    simp
  · obtain ⟨y, hy, rfl⟩ := str_at hz
    rw [eqV_str]
    refine decide_eq_false fun e => ?_
    subst e
    obtain ⟨h1, h2⟩ := List.getElem?_eq_some_iff.mp hy
    have h3 := List.not_of_lt_findIdx hm
    rw [h2] at h3
    simp at h3
/-! ### the fields of a Ways -/
def wf (a r m : Addr) (all : Int) : List (Str × V) := [("w_seats", .ref a), ("w_rests", .ref r), ("w_all", .int all), ("w_many", .ref m)]
theorem w12 : ¬ (("w_seats" : Str) = "w_rests") := by decide +kernel
theorem w13 : ¬ (("w_seats" : Str) = "w_all") := by decide +kernel
theorem w14 : ¬ (("w_seats" : Str) = "w_many") := by decide +kernel
theorem w23 : ¬ (("w_rests" : Str) = "w_all") := by decide +kernel
theorem w24 : ¬ (("w_rests" : Str) = "w_many") := by decide +kernel
theorem w34 : ¬ (("w_all" : Str) = "w_many") := by decide +kernel
theorem wf1 (a : V) : putF "w_seats" a [] = ([("w_seats", a)] : List (Str × V)) := rfl
theorem wf2 (a r : V) : putF "w_rests" r ([("w_seats", a)] : List (Str × V)) = ([("w_seats", a), ("w_rests", r)] : List (Str × V)) := by
  unfold putF
  rw [if_neg w12]
  rfl
theorem wf3 (a r l : V) : putF "w_all" l ([("w_seats", a), ("w_rests", r)] : List (Str × V)) = ([("w_seats", a), ("w_rests", r), ("w_all", l)] : List (Str × V)) := by
  unfold putF
  rw [if_neg w13]
  unfold putF
  rw [if_neg w23]
  rfl
theorem wf4 (a r l m : V) : putF "w_many" m ([("w_seats", a), ("w_rests", r), ("w_all", l)] : List (Str × V)) = ([("w_seats", a), ("w_rests", r), ("w_all", l), ("w_many", m)] : List (Str × V)) := by
  unfold putF
  rw [if_neg w14]
  unfold putF
  rw [if_neg w24]
  unfold putF
  rw [if_neg w34]
  rfl
theorem b12 : (("w_rests" : Str) == ("w_seats" : Str)) = false := by decide +kernel
theorem b13 : (("w_all" : Str) == ("w_seats" : Str)) = false := by decide +kernel
theorem b14 : (("w_many" : Str) == ("w_seats" : Str)) = false := by decide +kernel
theorem b23 : (("w_all" : Str) == ("w_rests" : Str)) = false := by decide +kernel
theorem b24 : (("w_many" : Str) == ("w_rests" : Str)) = false := by decide +kernel
theorem b34 : (("w_many" : Str) == ("w_all" : Str)) = false := by decide +kernel
theorem wf_seats (a r m : Addr) (l : Int) : (wf a r m l).lookup ("w_seats" : Str) = some (.ref a) := by simp [wf, List.lookup]
theorem wf_rests (a r m : Addr) (l : Int) : (wf a r m l).lookup ("w_rests" : Str) = some (.ref r) := by simp [wf, List.lookup, b12]
theorem wf_all (a r m : Addr) (l : Int) : (wf a r m l).lookup ("w_all" : Str) = some (.int l) := by simp [wf, List.lookup, b13, b23]
theorem wf_many (a r m : Addr) (l : Int) : (wf a r m l).lookup ("w_many" : Str) = some (.ref m) := by simp [wf, List.lookup, b14, b24, b34]
theorem wf_none (a r m : Addr) (l : Int) {x : Str} (h1 : (x == ("w_seats" : Str)) = false) (h2 : (x == ("w_rests" : Str)) = false) (h3 : (x == ("w_all" : Str)) = false) (h4 : (x == ("w_many" : Str)) = false) : (wf a r m l).lookup x = none := by
  simp [wf, List.lookup, h1, h2, h3, h4]
/-! ### how many ways, by what is held already -/
section
variable (ρ : Str → Nat × Nat) (seats : List Str)
def keyW (gone : List Str) (x : Str) : Nat := G.mask seats gone * seats.length + seats.idxOf x
def cntW (k : Nat) (gone : List Str) (x : Str) : Nat := (G.tails ρ seats k gone x).length
/-- what is held is right -/
structure MemoOk (kvs : List (Key × V)) : Prop where
  nd : (kvs.map (·.1)).Nodup
  keys : ∀ k ∈ kvs.map (·.1), ∃ n : Nat, k = Sum.inl ((n : Nat) : Int) ∧ n < 2 ^ seats.length * seats.length
  val : ∀ (gone : List Str) (x : Str) (k : Nat) (v : V), G.At seats gone x k → valV kvs (Sum.inl (keyW seats gone x : Nat)) = some v → v = .int (cntW ρ seats k gone x : Nat)
end
/-- what stays of a Ways: its own object, its lists -/
structure WaysFix (K : PySem.W.Frag) (CW : Addr) (H : Hp) (p m : Addr) (seats : List Str) (ρ : Str → Nat × Nat) : Prop where
  ex : ∃ (dx a r : Addr) (rs : List V), H p = some (.ins CW dx (wf a r m (2 ^ seats.length - 1))) ∧ H a = some (.lst (seats.map V.str)) ∧ H r = some (.lst rs) ∧ rs.length = seats.length ∧ ∀ (i : Nat) (x : Str) (v : V), seats[i]? = some x → rs[i]? = some v → RestAt K H v (ρ x)
structure WaysAt (K : PySem.W.Frag) (CW : Addr) (H : Hp) (p m : Addr) (seats : List Str) (ρ : Str → Nat × Nat) : Prop where
  fix : WaysFix K CW H p m seats ρ
  memo : ∃ kvs, H m = some (.dK kvs) ∧ MemoOk ρ seats kvs
section
variable {K : PySem.W.Frag} {CW : Addr} {H H' : Hp} {p m : Addr} {seats : List Str} {ρ : Str → Nat × Nat}
theorem WaysFix.same (e : Same H H') (h : WaysFix K CW H p m seats ρ) : WaysFix K CW H' p m seats ρ :=
  let ⟨dx, a, r, rs, h1, h2, h3, h4, h5⟩ := h.ex
  ⟨⟨dx, a, r, rs, e _ _ h1, e _ _ h2, e _ _ h3, h4, fun i x v a b => (h5 i x v a b).same e⟩⟩
theorem WaysAt.same (e : Same H H') (h : WaysAt K CW H p m seats ρ) : WaysAt K CW H' p m seats ρ :=
  ⟨h.fix.same e, let ⟨kvs, h1, h2⟩ := h.memo; ⟨kvs, e _ _ h1, h2⟩⟩
/-- all but the object at m is as it was -/
def But (m : Addr) (H H' : Hp) : Prop := ∀ b o, b ≠ m → H b = some o → H' b = some o
theorem But.refl : But m H H := fun _ _ _ h => h
theorem But.trans {H2 : Hp} (a : But m H H') (b : But m H' H2) : But m H H2 := fun c o n h => b c o n (a c o n h)
theorem But.of (e : Same H H') : But m H H' := fun b o _ h => e b o h
theorem But.mut {o : HO} (a : But m H H') : But m H (upd H' m o) := fun b u n h => by
  rw [upd_ne n]
  exact a b u n h
theorem But.tup {a : Addr} {xs : List V} {kvs : List (Key × V)} (e : But m H H') (hm : H m = some (.dK kvs)) (h : SqT K H a xs) : SqT K H' a xs := by
  rcases h with (h | ⟨u, h⟩) | h
  · exact .inl (.inl (e _ _ (ne_of h hm (by intro z; cases z)) h))
  · exact .inl (.inr ⟨u, e _ _ (ne_of h hm (by intro z; cases z)) h⟩)
  · exact .inr h
theorem But.seq {a : Addr} {xs : List V} {kvs : List (Key × V)} (e : But m H H') (hm : H m = some (.dK kvs)) (h : SqL K H a xs) : SqL K H' a xs := by
  rcases h with (h | ⟨u, h⟩) | h
  · exact .inl (.inl (e _ _ (ne_of h hm (by intro z; cases z)) h))
  · exact .inl (.inr ⟨u, e _ _ (ne_of h hm (by intro z; cases z)) h⟩)
  · exact .inr h
theorem But.rest {v : V} {r : Nat × Nat} {kvs : List (Key × V)} (e : But m H H') (hm : H m = some (.dK kvs)) (h : RestAt K H v r) : RestAt K H' v r :=
  let ⟨a, h1, h2⟩ := h
  ⟨a, h1, e.tup hm h2⟩
theorem But.fix {kvs : List (Key × V)} (e : But m H H') (hm : H m = some (.dK kvs)) (h : WaysFix K CW H p m seats ρ) : WaysFix K CW H' p m seats ρ :=
  let ⟨dx, a, r, rs, h1, h2, h3, h4, h5⟩ := h.ex
  ⟨⟨dx, a, r, rs, e _ _ (ne_of h1 hm (by intro z; cases z)) h1, e _ _ (ne_of h2 hm (by intro z; cases z)) h2, e _ _ (ne_of h3 hm (by intro z; cases z)) h3, h4, fun i x v a b => (h5 i x v a b).imp fun c ⟨d1, d2⟩ => ⟨d1, e.tup hm d2⟩⟩⟩
end
end GK
set_option Elab.async false
set_option linter.all false
set_option maxRecDepth 100000
set_option maxHeartbeats 4000000
/-! data: lists of numbers, of texts, of tuples of texts -/
namespace GK
open PySem PySem.Spec PyProof.Rows L2
theorem shaped_of {d : PyData} (h1 : d.canLay0 = true) (h2 : d.depth ≤ 64) : SeqAt.shaped d = true := by
  show (d.canLay0 && decide (d.depth ≤ 64)) = true
  rw [h1, decide_eq_true h2]
  rfl
theorem all_lay {α : Type} (f : α → PyData) : ∀ l : List α, (∀ a ∈ l, (f a).canLay0 = true) → PyData.canLayAll0 (l.map f) = true
  | [], _ => by simp [PyData.canLayAll0]
  | a :: r, h => by simp [PyData.canLayAll0, h a (by simp), all_lay f r fun b hb => h b (List.mem_cons_of_mem _ hb)]
theorem all_depth {α : Type} (f : α → PyData) (n : Nat) : ∀ l : List α, (∀ a ∈ l, (f a).depth ≤ n) → PyData.depthAll (l.map f) ≤ n
  | [], _ => by simp [PyData.depthAll]
  | a :: r, h => by
    have h1 := all_depth f n r fun b hb => h b (List.mem_cons_of_mem _ hb)
    have h2 := h a (by simp)
    simp only [List.map_cons, PyData.depthAll]
    omega
theorem shaped_list {α : Type} {f : α → PyData} {l : List α} (n : Nat) (hn : n ≤ 60) (h1 : ∀ a ∈ l, (f a).canLay0 = true) (h2 : ∀ a ∈ l, (f a).depth ≤ n) : SeqAt.shaped (.list (l.map f)) = true := by
  refine shaped_of (by simp only [PyData.canLay0]; exact all_lay f l h1) ?_
  have := all_depth f n l h2
  simp only [PyData.depth]
  omega
theorem shaped_tuple {α : Type} {f : α → PyData} {l : List α} (n : Nat) (hn : n ≤ 60) (h1 : ∀ a ∈ l, (f a).canLay0 = true) (h2 : ∀ a ∈ l, (f a).depth ≤ n) : SeqAt.shaped (.tuple (l.map f)) = true := by
  refine shaped_of (by simp only [PyData.canLay0]; exact all_lay f l h1) ?_
  have := all_depth f n l h2
  simp only [PyData.depth]
  omega
theorem int_lay (i : Int) : (PyData.int i).canLay0 = true := by simp [PyData.canLay0]
theorem int_depth (i : Int) : (PyData.int i).depth ≤ 0 := by simp [PyData.depth]
theorem str_depth (x : Str) : (PyData.str x).depth ≤ 0 := by simp [PyData.depth]
theorem tup_depth (xs : List Str) : (PyData.tuple (xs.map PyData.str)).depth ≤ 1 := by
  have := all_depth PyData.str 0 xs fun a _ => str_depth a
  simp only [PyData.depth]
  omega
/-- a text whose signs are signs -/
def TOk (x : Str) : Prop := (PyData.str x).canLay0 = true
theorem tup_lay {xs : List Str} (h : ∀ x ∈ xs, TOk x) : (PyData.tuple (xs.map PyData.str)).canLay0 = true := by
  simp only [PyData.canLay0]
  exact all_lay _ xs h
theorem shaped_ints (l : List Nat) : SeqAt.shaped (.list (l.map fun n => PyData.int (n : Nat))) = true := shaped_list 0 (by omega) (fun _ _ => int_lay _) fun _ _ => int_depth _
theorem shaped_strL {l : List Str} (h : ∀ x ∈ l, TOk x) : SeqAt.shaped (.list (l.map PyData.str)) = true := shaped_list 0 (by omega) h fun _ _ => str_depth _
theorem shaped_strT {l : List Str} (h : ∀ x ∈ l, TOk x) : SeqAt.shaped (.tuple (l.map PyData.str)) = true := shaped_tuple 0 (by omega) h fun _ _ => str_depth _
theorem shaped_tupL {l : List (List Str)} (h : ∀ xs ∈ l, ∀ x ∈ xs, TOk x) : SeqAt.shaped (.list (l.map fun xs => PyData.tuple (xs.map PyData.str))) = true :=
  shaped_list 1 (by omega) (fun xs hx => tup_lay (h xs hx)) fun xs _ => tup_depth xs
theorem eqvAll_map {α : Type} {f : α → PyData} [DecidableEq α] (h : ∀ a b, PyData.eqv (f a) (f b) = decide (a = b)) : ∀ l m : List α, PyData.eqvAll (l.map f) (m.map f) = decide (l = m)
  | [], [] => by simp [PyData.eqvAll]
  | [], _ :: _ => by simp [PyData.eqvAll]
  | _ :: _, [] => by simp [PyData.eqvAll]
  | a :: r, b :: t => by
    simp only [List.map_cons, PyData.eqvAll]
    rw [h, eqvAll_map h r t]
    by_cases e : a = b
    · subst e
      simp
    · simp [e]
theorem eqv_str (x y : Str) : PyData.eqv (.str x) (.str y) = decide (x = y) := by
  simp only [PyData.eqv]
  by_cases h : x = y
  · subst h
    simp
  · rw [decide_eq_false h]
    exact beq_eq_false_iff_ne.mpr h
theorem eqv_nat (x y : Nat) : PyData.eqv (.int x) (.int y) = decide (x = y) := by
  simp only [PyData.eqv]
  by_cases h : x = y
  · subst h
    simp
  · rw [decide_eq_false h]
    exact beq_eq_false_iff_ne.mpr (by omega)
theorem eqv_strT (l m : List Str) : PyData.eqv (.tuple (l.map PyData.str)) (.tuple (m.map PyData.str)) = decide (l = m) := by
  simp only [PyData.eqv]
  exact eqvAll_map eqv_str l m
theorem eqv_strL (l m : List Str) : PyData.eqv (.list (l.map PyData.str)) (.list (m.map PyData.str)) = decide (l = m) := by
  simp only [PyData.eqv]
  exact eqvAll_map eqv_str l m
theorem eqv_ints (l m : List Nat) : PyData.eqv (.list (l.map fun n => PyData.int (n : Nat))) (.list (m.map fun n => PyData.int (n : Nat))) = decide (l = m) := by
  simp only [PyData.eqv]
  exact eqvAll_map (f := fun n : Nat => PyData.int (n : Nat)) eqv_nat l m
theorem eqv_nil (l : List PyData) : PyData.eqv (.list l) (.list []) = l.isEmpty := by
  cases l <;> simp [PyData.eqv, PyData.eqvAll]
theorem dp_strs {K : PySem.W.Frag} {H : Hp} : ∀ l : List Str, DpAll K H (l.map V.str) (l.map PyData.str)
  | [] => .nil
  | x :: r => .cons (.str _) (dp_strs r)
theorem dp_strT {K : PySem.W.Frag} {H : Hp} {a : Addr} {l : List Str} (h : SqT K H a (l.map V.str)) : Dp K H (.ref a) (.tuple (l.map PyData.str)) := .tup h (dp_strs l)
theorem dp_strL {K : PySem.W.Frag} {H : Hp} {a : Addr} {l : List Str} (h : SqL K H a (l.map V.str)) : Dp K H (.ref a) (.list (l.map PyData.str)) := .lst h (dp_strs l)
end GK
set_option Elab.async false
set_option linter.all false
set_option maxRecDepth 100000
set_option maxHeartbeats 4000000
/-! the memo of a Ways -/
namespace G
variable {α : Type} [DecidableEq α]
theorem nd_sub : ∀ {l m : List α}, l.Nodup → (∀ a ∈ l, a ∈ m) → l.length ≤ m.length
  | [], _, _, _ => Nat.zero_le _
  | a :: r, m, hn, h => by
    obtain ⟨h1, h2⟩ := List.nodup_cons.mp hn
    have ha : a ∈ m := h a (by simp)
    have ih := nd_sub (l := r) (m := m.erase a) h2 fun b hb => (List.mem_erase_of_ne (by rintro rfl; exact h1 hb)).mpr (h b (List.mem_cons_of_mem _ hb))
    have e := List.length_erase_of_mem ha
    have p : 0 < m.length := List.length_pos_of_mem ha
    rw [List.length_cons]
    omega
end G
namespace GK
open PySem PySem.Spec PyProof.Rows L2
/-- or, where the bit isn't there -/
theorem bor_pow {a t : Nat} (h : a / 2 ^ t % 2 = 0) : Builtin.bitOr (a : Nat) ((2 ^ t : Nat) : Int) = ((a + 2 ^ t : Nat) : Int) := by
  have e : a &&& 2 ^ t = 0 := by
    have h1 : a.testBit t = false := by
      rw [Nat.testBit_eq_decide_div_mod_eq, h]
      rfl
    apply Nat.eq_of_testBit_eq
    intro i
    rw [Nat.testBit_and, Nat.testBit_two_pow, Nat.zero_testBit]
    by_cases q : t = i
    · subst q
      rw [h1, Bool.false_and]
    · rw [decide_eq_false q, Bool.and_false]
  have n0 : (0 : Int) ≤ ((2 ^ t : Nat) : Int) := Int.natCast_nonneg _
  rw [bitOr_and, bitAnd_pp (by omega) n0, Int.toNat_natCast, Int.toNat_natCast, e]
  generalize 2 ^ t = u
  omega
section
variable {ρ : Str → Nat × Nat} {seats gone gone' : List Str} {x x' y : Str} {k k' : Nat}
/-- gone | 1 << to -/
theorem bor_snoc (hn : seats.Nodup) (h1 : y ∈ seats) (h2 : y ∉ gone) : Builtin.bitOr (G.mask seats gone : Nat) (1 * 2 ^ ((seats.idxOf y : Nat) : Int).toNat) = (G.mask seats (gone ++ [y]) : Nat) := by
  have hg := G.idx_get h1
  rw [Int.toNat_natCast, Int.one_mul, ← PySem.W.kbt_cast, G.mask_snoc hn hg h2]
  refine bor_pow ?_
  rw [G.mask_bit, if_neg]
  rintro ⟨z, hz, hz2⟩
  rw [hg] at hz
  obtain rfl := Option.some.inj hz
  exact h2 hz2
theorem bor_seat (h : G.At seats gone x (k + 1)) (hy : y ∈ G.sit seats gone x) : Builtin.bitOr (G.mask seats gone : Nat) (1 * 2 ^ ((seats.idxOf y : Nat) : Int).toNat) = (G.mask seats (gone ++ [y]) : Nat) :=
  bor_snoc h.nd (h.mem.mp hy).1 (h.mem.mp hy).2
theorem mask_one (hn : seats.Nodup) (hx : x ∈ seats) : (1 : Int) * 2 ^ ((seats.idxOf x : Nat) : Int).toNat = (G.mask seats [x] : Nat) := by
  have := G.mask_snoc (gone := []) hn (G.idx_get hx) (by simp)
  rw [List.nil_append, G.mask_nil, Nat.zero_add] at this
  rw [Int.toNat_natCast, Int.one_mul, ← PySem.W.kbt_cast, this]
theorem keyW_lt (h : G.At seats gone x k) : keyW seats gone x < 2 ^ seats.length * seats.length := by
  have h1 := G.mask_lt seats gone
  have h2 := List.idxOf_lt_length_iff.mpr h.xl
  unfold keyW
  have h3 : (G.mask seats gone + 1) * seats.length ≤ 2 ^ seats.length * seats.length := Nat.mul_le_mul_right _ h1
  rw [Nat.add_mul] at h3
  omega
theorem keyW_cnt (h : G.At seats gone x k) (h' : G.At seats gone' x' k') (e : keyW seats gone x = keyW seats gone' x') : cntW ρ seats k gone x = cntW ρ seats k' gone' x' := by
  have h2 := List.idxOf_lt_length_iff.mpr h.xl
  have h3 := List.idxOf_lt_length_iff.mpr h'.xl
  unfold keyW at e
  have lp : 0 < seats.length := by omega
  have e1 : G.mask seats gone = G.mask seats gone' := by
    have a := congrArg (· / seats.length) e
    simp only [Nat.mul_comm _ seats.length] at a
    rwa [Nat.mul_add_div lp, Nat.mul_add_div lp, Nat.div_eq_of_lt h2, Nat.div_eq_of_lt h3] at a
  have e2 : seats.idxOf x = seats.idxOf x' := by rw [e1] at e; omega
  have e3 : x = x' := by
    have a := G.idx_get h.xl
    rw [e2, G.idx_get h'.xl] at a
    exact (Option.some.inj a).symm
  subst e3
  have hm := G.mask_inj e1
  have hp : gone.length = gone'.length := ((List.perm_ext_iff_of_nodup h.gn h'.gn).mpr fun a => ⟨fun ha => (hm a (h.sub a ha)).mp ha, fun ha => (hm a (h'.sub a ha)).mpr ha⟩).length_eq
  have hk : k = k' := by
    have a := h.len
    have b := h'.len
    omega
  subst hk
  unfold cntW
  rw [G.tails_congr h.nd h.xl hm]
variable {kvs : List (Key × V)}
theorem MemoOk.len (h : MemoOk ρ seats kvs) (hl : seats.length ≤ 12) : kvs.length < 100000 := by
  have e : kvs.length = (kvs.map (·.1)).length := (List.length_map ..).symm
  have h1 := G.nd_sub (m := (List.range (2 ^ seats.length * seats.length)).map fun n : Nat => (Sum.inl ((n : Nat) : Int) : Key)) h.nd fun k hk => by
    obtain ⟨n, rfl, hn⟩ := h.keys k hk
    exact List.mem_map.mpr ⟨n, List.mem_range.mpr hn, rfl⟩
  rw [List.length_map, List.length_map, List.length_range] at h1
  have h2 : 2 ^ seats.length ≤ 2 ^ 12 := Nat.pow_le_pow_right (by omega) hl
  have h3 : 2 ^ seats.length * seats.length ≤ 2 ^ 12 * 12 := Nat.mul_le_mul h2 hl
  have h4 : 2 ^ 12 * 12 < 100000 := by decide
  omega
theorem MemoOk.put (h : MemoOk ρ seats kvs) (a : G.At seats gone x k) (hv : valV kvs (Sum.inl (keyW seats gone x : Nat)) = none) : MemoOk ρ seats (putK kvs (Sum.inl (keyW seats gone x : Nat)) (.int (cntW ρ seats k gone x : Nat))) := by
  refine ⟨nd_putK _ h.nd hv, fun j hj => ?_, fun g z l v az hz => ?_⟩
  · rw [putK_new _ hv, List.map_append] at hj
    rcases List.mem_append.mp hj with hj | hj
    · exact h.keys j hj
    · exact ⟨_, List.mem_singleton.mp hj, keyW_lt a⟩
  · rw [valV_put] at hz
    by_cases e : (Sum.inl ((keyW seats g z : Nat) : Int) : Key) = Sum.inl ((keyW seats gone x : Nat) : Int)
    · rw [if_pos e] at hz
      rw [← Option.some.inj hz, keyW_cnt az a (by have := Sum.inl.inj e; omega)]
    · rw [if_neg e] at hz
      exact h.val g z l v az hz
/-- the many behind, one by one -/
theorem cnt_succ : cntW ρ seats (k + 1) gone x = ((G.nexts ρ seats gone x).map fun y => cntW ρ seats k (gone ++ [y]) y).sum := by
  unfold cntW
  rw [show G.tails ρ seats (k + 1) gone x = (G.nexts ρ seats gone x).flatMap fun y => (G.tails ρ seats k (gone ++ [y]) y).map (y :: ·) from rfl]
  rw [List.length_flatMap]
  congr 1
  apply List.map_congr_left
  intro y _
  rw [List.length_map]
end
theorem sum_cast : ∀ l : List Nat, (l.map fun n : Nat => (n : Int)).sum = ((l.sum : Nat) : Int)
  | [] => rfl
  | n :: r => by
    rw [List.map_cons, List.sum_cons, List.sum_cons, sum_cast r]
    omega
end GK
set_option Elab.async false
set_option linter.all false
set_option maxRecDepth 100000
set_option maxHeartbeats 4000000
/-! slices -/
namespace GK
open PySem PySem.Spec PyProof.Rows L2
theorem cut_from (xs : List V) (k : Nat) : cutV xs (some (k : Int)) none = xs.drop k := by
  unfold cutV
  rw [HT.sIx_nat, HT.sIx_none]
  by_cases h : k ≤ xs.length
  · rw [Nat.min_eq_left h, List.take_of_length_le (by rw [List.length_drop]; omega)]
  · rw [Nat.min_eq_right (by omega), List.drop_eq_nil_of_le (Nat.le_refl _), List.drop_eq_nil_of_le (by omega)]
    simp
theorem cut_to (xs : List V) (k : Nat) : cutV xs none (some (k : Int)) = xs.take k := by
  unfold cutV
  rw [HT.sIx_nat, HT.sIx_none, List.drop_zero, Nat.sub_zero]
  by_cases h : k ≤ xs.length
  · rw [Nat.min_eq_left h]
  · rw [Nat.min_eq_right (by omega), List.take_length, List.take_of_length_le (by omega)]
section
variable {K : PySem.W.Frag} {H : Hp} {a : Addr} {xs : List V} {Q : VK} {k : Nat}
theorem filt_out {α : Type} [DecidableEq α] {l : List α} {u : α} (h : u ∈ l) : [u].filter (fun u => decide (u ∉ l)) = [] := by
  rw [List.filter_cons, if_neg (by simpa using h), List.filter_nil]
theorem filt_in {α : Type} [DecidableEq α] {l : List α} {u : α} (h : u ∉ l) : [u].filter (fun u => decide (u ∉ l)) = [u] := by
  rw [List.filter_cons, if_pos (by simpa using h), List.filter_nil]
theorem no_part {σ : L2.St} {F : Option Int → Hp → Prop} (h : F none H) : tNoPart σ H F := h
theorem no_args {σ : L2.St} {F : List V → Hp → Prop} (h : F [] H) : tNil σ H F := h
/-- a tuple's part -/
theorem slt_from (h : SqT K H a xs) (q : ∀ p H', Same H H' → SqT K H' p (xs.drop k) → Q (.ref p) H') : rSlA K (.ref a) (some (k : Int)) none H Q := by
  refine ⟨a, xs, rfl, h, fun ⟨e, _⟩ => ?_, fun _ p hp => ?_⟩
  · refine q a H (Same.refl _) ?_
    rw [HT.sIx_nat] at e
    have : xs.drop k = xs := by
      rcases Nat.eq_zero_or_pos k with z | z
      · rw [z, List.drop_zero]
      · have : xs.length = 0 := by omega
        rw [List.eq_nil_of_length_eq_zero this]
        simp
    rw [this]
    exact h
  · refine q p _ (same_upd hp) (SqT.of ?_)
    rw [upd_same, cut_from]
theorem slt_to (h : SqT K H a xs) (q : ∀ p H', Same H H' → SqT K H' p (xs.take k) → Q (.ref p) H') : rSlA K (.ref a) none (some (k : Int)) H Q := by
  refine ⟨a, xs, rfl, h, fun ⟨_, e⟩ => ?_, fun _ p hp => ?_⟩
  · refine q a H (Same.refl _) ?_
    rw [HT.sIx_nat] at e
    rw [List.take_of_length_le (by omega)]
    exact h
  · refine q p _ (same_upd hp) (SqT.of ?_)
    rw [upd_same, cut_to]
/-- a list's part -/
theorem sll_from (h : SqL K H a xs) (q : ∀ p H', Same H H' → H p = none → H' p = some (.lst (xs.drop k)) → Q (.ref p) H') : rSlL K (.ref a) (some (k : Int)) none H Q :=
  ⟨a, xs, rfl, h, fun p hp => q p _ (same_upd hp) hp (by rw [upd_same, cut_from])⟩
theorem sll_to (h : SqL K H a xs) (q : ∀ p H', Same H H' → H p = none → H' p = some (.lst (xs.take k)) → Q (.ref p) H') : rSlL K (.ref a) none (some (k : Int)) H Q :=
  ⟨a, xs, rfl, h, fun p hp => q p _ (same_upd hp) hp (by rw [upd_same, cut_to])⟩
end
end GK
set_option Elab.async false
set_option linter.all false
set_option maxRecDepth 100000
set_option maxHeartbeats 4000000
/-! tuples stay where lists and dicts change; what is told -/
namespace GK
open PySem PySem.Spec PyProof.Rows L2
/-- the tuples stay -/
structure Tk (H H' : Hp) : Prop where
  tup : ∀ b xs, H b = some (.tup xs) → H' b = some (.tup xs)
  frz : ∀ b u xs, H b = some (.frz u (.tup xs)) → H' b = some (.frz u (.tup xs))
section
variable {K : PySem.W.Frag} {H H' H2 : Hp} {a p : Addr} {xs : List V} {o : HO}
theorem Tk.of (e : Same H H') : Tk H H' := ⟨fun b xs h => e b _ h, fun b u xs h => e b _ h⟩
theorem Tk.refl : Tk H H := Tk.of (Same.refl _)
theorem Tk.trans (e : Tk H H') (e2 : Tk H' H2) : Tk H H2 := ⟨fun b xs h => e2.tup b xs (e.tup b xs h), fun b u xs h => e2.frz b u xs (e.frz b u xs h)⟩
theorem Tk.lst {ys : List V} (h : H p = some (.lst ys)) : Tk H (upd H p o) :=
  ⟨fun b xs q => by rw [upd_ne (ne_of q h (by intro z; cases z))]; exact q, fun b u xs q => by rw [upd_ne (ne_of q h (by intro z; cases z))]; exact q⟩
theorem Tk.dK {kvs : List (Key × V)} (h : H p = some (.dK kvs)) : Tk H (upd H p o) :=
  ⟨fun b xs q => by rw [upd_ne (ne_of q h (by intro z; cases z))]; exact q, fun b u xs q => by rw [upd_ne (ne_of q h (by intro z; cases z))]; exact q⟩
theorem Tk.sq (e : Tk H H') (h : SqT K H a xs) : SqT K H' a xs := by
  rcases h with (h | ⟨u, h⟩) | h
  · exact .inl (.inl (e.tup _ _ h))
  · exact .inl (.inr ⟨u, e.frz _ _ _ h⟩)
  · exact .inr h
theorem Tk.rest {v : V} {r : Nat × Nat} (e : Tk H H') (h : RestAt K H v r) : RestAt K H' v r := let ⟨a, e1, e2⟩ := h; ⟨a, e1, e.sq e2⟩
end
/-- a name and a rest, told -/
def ToldAt (K : PySem.W.Frag) (H : Hp) (v : V) (c : Str × (Nat × Nat)) : Prop := ∃ a u, v = .ref a ∧ SqT K H a [.str c.1, u] ∧ RestAt K H u c.2
structure ToldL (K : PySem.W.Frag) (H : Hp) (vs : List V) (T : List (Str × (Nat × Nat))) : Prop where
  len : vs.length = T.length
  at_ : ∀ (i : Nat) (v : V) (c : Str × (Nat × Nat)), vs[i]? = some v → T[i]? = some c → ToldAt K H v c
section
variable {K : PySem.W.Frag} {H H' : Hp} {vs us : List V} {T U : List (Str × (Nat × Nat))} {v : V} {c : Str × (Nat × Nat)}
theorem ToldAt.tk (e : Tk H H') (h : ToldAt K H v c) : ToldAt K H' v c := let ⟨a, u, h1, h2, h3⟩ := h; ⟨a, u, h1, e.sq h2, e.rest h3⟩
theorem ToldL.tk (e : Tk H H') (h : ToldL K H vs T) : ToldL K H' vs T := ⟨h.len, fun i v c a b => (h.at_ i v c a b).tk e⟩
theorem ToldL.nil : ToldL K H [] [] := ⟨rfl, fun i v c a _ => by simp at a⟩
theorem ToldL.append (h : ToldL K H vs T) (h2 : ToldL K H us U) : ToldL K H (vs ++ us) (T ++ U) := by
  refine ⟨by rw [List.length_append, List.length_append, h.len, h2.len], fun i v c a b => ?_⟩
  by_cases q : i < vs.length
  · rw [List.getElem?_append_left q] at a
    rw [List.getElem?_append_left (by rw [← h.len]; exact q)] at b
    exact h.at_ i v c a b
  · rw [List.getElem?_append_right (by omega)] at a
    rw [List.getElem?_append_right (by rw [← h.len]; omega), ← h.len] at b
    exact h2.at_ _ v c a b
theorem ToldL.one (h : ToldAt K H v c) : ToldL K H [v] [c] := ⟨rfl, fun i u d a b => by
  cases i with
  | zero =>
    rw [← Option.some.inj a, ← Option.some.inj b]
    exact h
  | succ i => simp at a⟩
end
theorem walk_zipT {K : PySem.W.Frag} {a b : Addr} {xs ys : List V} {n : Nat} (hn : n = min xs.length ys.length) : Walk (RZ.ItzT K a b) n (fun H => SqT K H a xs ∧ SqT K H b ys) (YPair (fun i => xs[i]?) (fun i => ys[i]?)) := by
  subst hn
  refine ⟨fun i _ hi q => ?_, fun _ q => ⟨xs, ys, q.1, q.2, by omega⟩, fun i H v H' _ q y => ?_⟩
  · have h1 : i < xs.length := by omega
    have h2 : i < ys.length := by omega
    exact ⟨xs, ys, xs[i], ys[i], q.1, q.2, by simp [h1], by simp [h2]⟩
  · obtain ⟨T, x, z, h1, h2, h3, h4, h5⟩ := y
    exact ⟨T, x, z, h1, h2, h3, h4 xs q.1, h5 ys q.2⟩
theorem k_catA {X : Cx} (K : PySem.W.Frag) (h : X.K = K := by rfl) : OpR X (binaryOp .Add) (rCatA K) := by
  subst h
  exact op_catA
theorem k_bm2 {X : Cx} {T : String} {name : Str} {id : String} {r : V → List V → Hp → VK → Prop} {o e : Expr} {es : List Expr} {to : TE} {t : TA} {apos cpos : Pos} (K : PySem.W.Frag) (pa : PlainAttrs T) (slot : Slot T name id) (hty : typeOf (.builtin id) = pure (.type "method_descriptor")) (hm : MtR X id r) (ho : PE X o to) (ha : PA X (e :: es) t) (hK : X.K = K := by rfl)
    (hbase : attributeBase o name X.env (eval o X.env) = eval o X.env := by rfl)
    (hfew : ((backTo cpos (starEach (e :: es) X.env)).all (fun x => !x.1) && (backToKw cpos (keywordEach [] X.env)).all (fun x => x.1.isSome)
      && decide ((e :: es).length + ([] : List Keyword).length + (if ([] : List Keyword).isEmpty then 0 else 1) < 30)) = true := by rfl)
    (hline : (apos.endLine == cpos.line) = true := by rfl) (hs : starEach (e :: es) X.env = (false, eval e X.env) :: starEach es X.env := by rfl) (hplain : (backTo cpos (starEach es X.env)).any (·.1) = false := by rfl) :
    PE X (.Call (.Attribute o name apos) (e :: es) [] cpos) (tBM K T r to t) := by
  subst hK
  exact pe_bm pa slot hty hm ho ha hbase hfew hline hs hplain
/-- a list of tuples of texts -/
structure TupL (K : PySem.W.Frag) (H : Hp) (us : List V) (S : List (List Str)) : Prop where
  len : us.length = S.length
  at_ : ∀ (i : Nat) (v : V) (g : List Str), us[i]? = some v → S[i]? = some g → ∃ a, v = .ref a ∧ SqT K H a (g.map V.str)
section
variable {K : PySem.W.Frag} {H H' : Hp} {us vs : List V} {S R : List (List Str)} {a : Addr} {g : List Str}
theorem TupL.tk (e : Tk H H') (h : TupL K H us S) : TupL K H' us S := ⟨h.len, fun i v g x y => let ⟨a, e1, e2⟩ := h.at_ i v g x y; ⟨a, e1, e.sq e2⟩⟩
theorem TupL.nil : TupL K H [] [] := ⟨rfl, fun i v g x _ => by simp at x⟩
theorem TupL.one (h : SqT K H a (g.map V.str)) : TupL K H [.ref a] [g] := ⟨rfl, fun i v g' x y => by
  cases i with
  | zero =>
    rw [← Option.some.inj x, ← Option.some.inj y]
    exact ⟨a, rfl, h⟩
  | succ i => simp at x⟩
theorem TupL.append (h : TupL K H us S) (h2 : TupL K H vs R) : TupL K H (us ++ vs) (S ++ R) := by
  refine ⟨by rw [List.length_append, List.length_append, h.len, h2.len], fun i v c a b => ?_⟩
  by_cases q : i < us.length
  · rw [List.getElem?_append_left q] at a
    rw [List.getElem?_append_left (by rw [← h.len]; exact q)] at b
    exact h.at_ i v c a b
  · rw [List.getElem?_append_right (by omega)] at a
    rw [List.getElem?_append_right (by rw [← h.len]; omega), ← h.len] at b
    exact h2.at_ _ v c a b
theorem TupL.dp : ∀ {us : List V} {S : List (List Str)}, TupL K H us S → DpAll K H us (S.map fun g => PyData.tuple (g.map PyData.str))
  | [], [], _ => .nil
  | [], _ :: _, h => by have := h.len; simp at this
  | _ :: _, [], h => by have := h.len; simp at this
  | v :: us, g :: S, h => by
    obtain ⟨a, e, ha⟩ := h.at_ 0 v g rfl rfl
    subst e
    exact .cons (dp_strT ha) (TupL.dp ⟨by have := h.len; simpa using this, fun i v g x y => h.at_ (i + 1) v g x y⟩)
end
/-- a tuple of names, within a comprehension -/
theorem k_gtup {X : Cx} {es : List Expr} {k : Nat} {pos : Pos} {t : TGs} (K : PySem.W.Frag) (n : Nat) (h : PGs X es t) (hc : X.calm = true := by rfl) (hK : X.K = K := by rfl)
    (hn : (assignEach es X.env).length = n := by rfl) (hst : (assignEach es X.env).findIdx? (·.1) = none := by rfl) : PG X (.Tuple es k pos) (gTup K n t) := by
  subst hK
  exact pg_tup hc h hn hst
/-- a new object, locked behind its making -/
def tLockR (t : TE) : TE := fun σ H Q => t σ H fun x H1 => ∃ d u, x = .ref d ∧ H1 d = some u ∧ Mut (some u) ∧ ∀ od, Q x (upd H1 d (.frz od u))
theorem pe_lockR {X : Cx} {e : Expr} {t : TE} (h : PE X e t) : PE X e (tLockR t) := by
  refine ⟨fun pins s σ H Q I hw => ?_⟩
  refine thn (h.run pins s σ _ _ I hw) fun v s1 ⟨x, H1, I1, r, d, u, ex, hd, mu, q⟩ => ?_
  obtain ⟨od, I2⟩ := I1.lock hd mu
  exact ⟨x, _, I2, r, q od⟩
end GK
set_option Elab.async false
set_option linter.all false
set_option maxRecDepth 100000
set_option maxHeartbeats 4000000
/-! list(range(a, b, c)) -/
namespace GK
open PySem PySem.Spec PyProof.Rows L2
/-- the ints i, i + c, .. -/
def stepV (i c : Int) (n : Nat) : List V := (List.range n).map fun t => V.int (i + (t : Nat) * c)
theorem vals_step {i c : Int} {n : Nat} {acc : Array Value} (h : ItemsOf (fun t v => ∃ u, v = .int (i + t * c) u) acc n) : Vals (stepV i c n) acc.toList := by
  have e : acc.toList.length = n := by rw [Array.length_toList]; exact h.1
  unfold stepV
  rw [← e]
  refine vals_of_get acc.toList _ fun j u hj => ?_
  obtain ⟨t, rfl⟩ := h.2 j u (by rw [← hj, Array.getElem?_toList])
  exact ⟨t, rfl⟩
def tListRg3 (ta : TA) : TE := fun σ H Q => ta σ H fun vs H1 => ∃ (i j c : Int) (n : Nat), vs = [.int i, .int j, .int c] ∧ RgC i j c n ∧ n ≤ 2 ^ 24 ∧ ∀ q, H1 q = none → Q (.ref q) (upd H1 q (.lst (stepV i c n)))
theorem pe_listRg3 {X : Cx} {a b c : Expr} {ta : TA} {p pos p2 pos2 : Pos} (hc : X.calm = true) (hgl : Gl X "list") (hml : X.mg "list" = none) (hg : Gl X "range") (hm : X.mg "range" = none) (ha : PA X [a, b, c] ta)
    (na : starEach [Expr.Call (.Name "range" p2) [a, b, c] [] pos2] X.env = (false, eval (.Call (.Name "range" p2) [a, b, c] [] pos2) X.env) :: starEach [] X.env := by rfl)
    (hs : starEach [a, b, c] X.env = (false, eval a X.env) :: starEach [b, c] X.env := by rfl) (hpl : (backTo pos2 (starEach [b, c] X.env)).any (·.1) = false := by rfl) :
    PE X (.Call (.Name "list" p) [.Call (.Name "range" p2) [a, b, c] [] pos2] [] pos) (tListRg3 ta) := by
  refine ⟨fun pins s σ H Q I h => ?_⟩
  refine Call_ (ld_blt I hgl hml boot_list (PyProof.Rows.callWith_type1 (args_cons ?_ na) na))
  refine Call_ (ld_blt I hg hm boot_range (PyProof.Rows.callWith_type1 (thn (ha.run pos2 pins s σ H _ I h) fun us s1 ⟨vs, H1, I1, r1, q1⟩ => ?_) hs hpl))
  obtain ⟨i, j, k, n, e, ⟨c0, c1, c2, c3⟩, hn, q⟩ := q1
  subst e
  cases r1 with
  | cons r rr =>
    cases rr with
    | cons r' rr =>
      cases rr with
      | cons r'' rr =>
        cases rr
        obtain ⟨t, rfl⟩ := r
        obtain ⟨t', rfl⟩ := r'
        obtain ⟨t'', rfl⟩ := r''
        refine call_range_3 c0 ?_ (.inl (PyProof.noPylong_small c1))
        have I2 : Inv X pins σ H1 { s1 with heap := s1.heap.push { cls := .type "range", data := .fields #[.int i t, .int j t', .int k t''] } } := I1.kept (t' := s1.toks) fun b o e => Heap.get?_push_of_some _ e
        refine args_nil ?_
        refine call_list_range (n := n) (I2.ok.hd hc) (IsRange.new _ _ _ _ _ _ _) c2 c3 hn fun h' tk acc c' hk e' hi => ?_
        refine ⟨.ref _, _, I2.laid hk (Nat.le_refl _) (show ObjOk X.prog X.w _ _ _ (.lst (stepV i k n)) from ⟨?_, acc.toList, c', vals_step hi, ?_⟩), rfl, q _ (I2.hok.fresh (Nat.le_refl _))⟩
        · unfold stepV
          rw [List.length_map, List.length_range, sizeLine_eq]
          omega
        · rw [Array.toArray_toList]
          exact e'
end GK
set_option Elab.async false
set_option linter.all false
set_option maxRecDepth 100000
set_option maxHeartbeats 4000000
/-! sets of texts: set(xs) of a list or a tuple of texts, len, sorted -/
namespace GK
open PySem PySem.Spec PyProof.Rows L2
theorem tx_is {P : Program} {w : World} (x : Str) (t : Tok) : (strKind P w).is x (.str x t) = true := by simp [PySem.strKind, Value.isStrOf]
/-- an element of a set of texts -/
def IsTx (w : World) (e : Int × Value) : Prop := ∃ x tk, e.2 = Value.str x tk ∧ e.1 = hashStr w x
def txOf (e : Int × Value) : Str := match e.2 with | .str x _ => x | _ => Str.empty
/-- the set at a: its members are those of S, their number is n; it can be walked -/
structure TxSet (w : World) (h : Heap) (a : Addr) (S : Str → Bool) (n : Nat) (o : Obj) (es : Array (Int × Value)) (ep : Nat) (t : SetTable) : Prop where
  ob : h.get? a = some o
  ex : o.ExactSet
  dat : o.data = .set es ep t
  good : ∀ e ∈ es.toList, IsTx w e
  nodup : (es.toList.map txOf).Nodup
  mem : ∀ x, S x = true ↔ x ∈ es.toList.map txOf
  few : es.size < scanBound
  fits : t.fits es.size = true
  num : es.size = n
  ris : Ris t.place.toList
  led : w.params.followText "set-order" = true ∨ t.led = true
def TxS (w : World) (h : Heap) (a : Addr) (S : Str → Bool) (n : Nat) : Prop := ∃ o es ep t, TxSet w h a S n o es ep t
section
variable {P : Program} {w : World} {A : Around} {E : Value → Shared → Prop} {s : Shared} {h h' : Heap} {a : Addr} {S : Str → Bool} {n : Nat}
theorem TxS.move (R : TxS w h a S n) (k : ∀ o, h.get? a = some o → h'.get? a = some o) : TxS w h' a S n :=
  let ⟨o, es, ep, t, r⟩ := R
  ⟨o, es, ep, t, { r with ob := k o r.ob }⟩
theorem TxS.to {S' : Str → Bool} {n' : Nat} (R : TxS w h a S n) (e : ∀ x, S' x = S x) (en : n = n') : TxS w h a S' n' := by
  obtain rfl : S' = S := funext e
  rw [← en]
  exact R
theorem isTx_elems {l : List (Int × Value)} (g : ∀ e ∈ l, IsTx w e) : ElemsOf (strKind P w) l := fun e he => by
  obtain ⟨x, tk, h1, h2⟩ := g e he
  refine ⟨⟨x, ?_, h2⟩, by rw [h1] <;> rfl⟩
  rw [h1]
  exact tx_is x tk
theorem isTx_is {e : Int × Value} (g : IsTx w e) (x : Str) : (strKind P w).is x e.2 = true ↔ txOf e = x := by
  obtain ⟨y, tk, h1, _⟩ := g
  unfold txOf
  rw [h1]
  constructor
  · intro q
    obtain ⟨t, q2⟩ := Value.isStrOf_shape (x := x) (v := Value.str y tk) q
    injection q2
  · intro q
    subst q
    exact tx_is _ _
theorem isTx_mem {l : List (Int × Value)} (g : ∀ e ∈ l, IsTx w e) (x : Str) : x ∈ l.map txOf ↔ ∃ e ∈ l, (strKind P w).is x e.2 = true := by
  rw [List.mem_map]
  exact ⟨fun ⟨e, he, q⟩ => ⟨e, he, (isTx_is (g e he) x).mpr q⟩, fun ⟨e, he, q⟩ => ⟨e, he, (isTx_is (g e he) x).mp q⟩⟩
theorem TxS.len_of (R : TxS w h a S n) : h.SetOf (strKind P w) a S n := by
  obtain ⟨o, es, ep, t, r⟩ := R
  exact ⟨o, es, ep, t, r.ob, r.ex, r.dat, isTx_elems r.good, fun k => (r.mem k).trans (isTx_mem r.good k), r.few, r.fits, r.num⟩
/-- behind the storing, laid anew where the table is too full -/
theorem tx_store {g : Bool → Sem Unit} (hg : ∀ (b : Bool) (s₁ : Shared) (Q' : Unit → Shared → Prop), Q' () s₁ → wpAny (model P w) A (g b) Q' E s₁)
    {o : Obj} {es : Array (Int × Value)} {ep : Nat} {t : SetTable} (ho : s.heap.get? a = some o) (hex : o.ExactSet) (hd : o.data = .set es ep t)
    {es1 : Array (Int × Value)} {t2 : SetTable} (N : ∀ (h' : Heap) (o' : Obj) (ep' : Nat), h'.get? a = some o' → o'.ExactSet → o'.data = .set es1 ep' t2 → TxSet w h' a S es1.size o' es1 ep' t2)
    {dm : Bool} {R : Option Bool → Shared → Prop} (hR : ∀ h', Heap.SameBut a s.heap h' → TxS w h' a S es1.size → R (some true) { s with heap := h' }) :
    wpAny (model P w) A (do
        storeSet a es1 t2
        if (!dm && t2.tooFull) = true then do
            g (relayAll t2 es1 (SetTable.grown es1.size)).2.2
            storeSet a (relayAll t2 es1 (SetTable.grown es1.size)).1 (relayAll t2 es1 (SetTable.grown es1.size)).2.1
            pure (some true)
          else pure (some true)) R E s := by
  have ho1 := store_at (es' := es1) (t' := t2) ho hd
  have F := N _ _ _ ho1 hex rfl
  refine wpAny_bind (wpAny_storeSet_of ho hd ?_ (fits_of_scanBound F.few))
  have sb1 := Heap.SameBut.update s.heap a (Obj.putSet es1 t2)
  by_cases c : (!dm && t2.tooFull) = true
  · rw [if_pos c]
    have pm := relayAll_perm t2 es1 (SetTable.grown es1.size)
    have f3 := relayAll_fits t2 es1 (SetTable.grown es1.size)
    have r3 := relayAll_ris t2 es1 (SetTable.grown es1.size)
    have l3 := relayAll_led t2 es1 (SetTable.grown es1.size)
    generalize relayAll t2 es1 (SetTable.grown es1.size) = Z at pm f3 r3 l3 ⊢
    have hsz : Z.1.size = es1.size := by rw [← Array.length_toList, pm.length_eq, Array.length_toList]
    refine wpAny_bind (hg _ _ _ ?_)
    refine wpAny_bind (wpAny_storeSet_of ho1 rfl ?_ (fits_of_scanBound (by rw [hsz]; exact F.few)))
    have ho2 := store_at (es' := Z.1) (t' := Z.2.1) ho1 rfl
    refine wpAny_pure (hR _ (sb1.trans (Heap.SameBut.update _ a _)) ⟨{ o with data := .set Z.1 (ep + 1 + 1) Z.2.1 }, Z.1, ep + 1 + 1, Z.2.1, ?_⟩)
    exact ⟨ho2, hex, rfl, fun e he => F.good e (pm.mem_iff.mp he), (pm.map txOf).nodup_iff.mpr F.nodup, fun k => (F.mem k).trans (pm.map txOf).mem_iff.symm, by rw [hsz]; exact F.few, f3, hsz, r3, F.led.imp id fun z => by rw [l3]; exact z⟩
  · rw [if_neg c]
    exact wpAny_pure (hR _ sb1 ⟨_, _, _, _, F⟩)
theorem tx_add {x : Str} {tk : Tok} {Q : Bool → Shared → Prop} (R : TxS w s.heap a S n) (room : n + 1 < scanBound)
    (hQ : ∀ h', Heap.SameBut a s.heap h' → TxS w h' a (fun j => S j || decide (j = x)) (if S x = true then n else n + 1) → Q (!S x) { s with heap := h' }) :
    wpAny (model P w) A (setAddHashed a (.str x tk) ((strKind P w).hash x)) Q E s := by
  obtain ⟨o, es, ep, t, r⟩ := R
  have hkey : (strKind P w).is x (.str x tk) = true := tx_is x tk
  have hsc : (Value.str x tk).scannable = true := rfl
  have hel : ElemsOf (strKind P w) es.toList := isTx_elems r.good
  unfold setAddHashed setAddHashedIn
  refine wpAny_holding (wpAny_bind (wpAny_setState_of r.ob r.dat r.fits ?_))
  dsimp only
  rw [byScan_of hsc r.few hel]
  simp only [↓reduceIte]
  unfold setAddByScan
  refine wpAny_bind (wpAny_bind (wpAny_rule (wpAny_bind (wpAny_setScan_of hkey r.ob r.dat r.fits hel ?_))))
  cases hfi : List.findIdx? (fun e => (strKind P w).is x e.2) es.toList with
  | some j =>
    obtain ⟨hj, pj, _⟩ := List.findIdx?_eq_some_iff_getElem.mp hfi
    have hSx : S x = true := (r.mem x).mpr ((isTx_mem (P := P) r.good x).mpr ⟨es.toList[j], List.getElem_mem hj, pj⟩)
    refine wpAny_pure (wpAny_pure ?_)
    have q := hQ s.heap (Heap.SameBut.refl a s.heap) (TxS.to ⟨o, es, ep, t, r⟩ (fun y => ?_) (by rw [if_pos hSx]))
    · rw [hSx] at q
      exact q
    · by_cases e : y = x
      · rw [e, hSx, Bool.true_or]
      · rw [decide_eq_false e, Bool.or_false]
  | none =>
    have hnx : x ∉ es.toList.map txOf := fun z => by
      obtain ⟨e, he, q⟩ := (isTx_mem (P := P) r.good x).mp z
      have c := List.findIdx?_eq_none_iff.mp hfi e he
      rw [q] at c
      cases c
    have hSx : S x = false := by
      cases q : S x with
      | false => rfl
      | true => exact absurd ((r.mem x).mp q) hnx
    have hgw : ∀ (b : Bool) {s₁ : Shared} {Q' : Unit → Shared → Prop}, Q' () s₁ → wpAny (model P w) A (match b with | true => rule "set.scan.the-table-gave-way" | false => pure ()) Q' E s₁ :=
      fun b s₁ Q' q => by cases b <;> first | exact wpAny_pure q | exact wpAny_rule q
    have pm := layNew_perm t es ((strKind P w).hash x) (.str x tk)
    have f1 := layNew_fits t es ((strKind P w).hash x) (.str x tk)
    have r1 := layNew_ris t es ((strKind P w).hash x) (.str x tk) r.ris
    have l1 := layNew_led t es ((strKind P w).hash x) (.str x tk)
    generalize layNew t es ((strKind P w).hash x) (.str x tk) = Z at pm f1 r1 l1 ⊢
    obtain ⟨es1, t1, dm, gave⟩ := Z
    dsimp only at pm f1 r1 l1 ⊢
    rw [Array.toList_push] at pm
    have pc : es1.toList.Perm (((strKind P w).hash x, Value.str x tk) :: es.toList) := pm.trans (List.perm_append_singleton _ _)
    have pk : (es1.toList.map txOf).Perm (x :: es.toList.map txOf) := pc.map txOf
    have hsz : es1.size = n + 1 := by rw [← Array.length_toList, pc.length_eq, List.length_cons, Array.length_toList, r.num]
    have N : ∀ t2 : SetTable, t2.fits es1.size = true → Ris t2.place.toList → t2.led = t1.led → ∀ (h' : Heap) (o' : Obj) (ep' : Nat), h'.get? a = some o' → o'.ExactSet → o'.data = .set es1 ep' t2 →
        TxSet w h' a (fun j => S j || decide (j = x)) es1.size o' es1 ep' t2 := fun t2 f2 r2 l2 h' o' ep' a1 a2 a3 =>
      ⟨a1, a2, a3, fun e he => by
        rcases List.mem_cons.mp (pc.mem_iff.mp he) with z | z
        · rw [z]; exact ⟨x, tk, rfl, rfl⟩
        · exact r.good e z, pk.nodup_iff.mpr (List.nodup_cons.mpr ⟨hnx, r.nodup⟩), fun y => by
        rw [Bool.or_eq_true, decide_eq_true_eq, r.mem y, pk.mem_iff, List.mem_cons]
        exact Or.comm, by rw [hsz]; exact room, f2, rfl, r2, r.led.imp id fun z => by rw [l2, l1]; exact z⟩
    have fin : ∀ h', Heap.SameBut a s.heap h' → TxS w h' a (fun j => S j || decide (j = x)) es1.size → Q true { s with heap := h' } := fun h' sb z => by
      have q := hQ h' sb
      rw [hSx] at q
      rw [hsz] at z
      exact q z
    have go : ∀ t2 : SetTable, t2.fits es1.size = true → Ris t2.place.toList → t2.led = t1.led → wpAny (model P w) A (do
        storeSet a es1 t2
        if (!dm && t2.tooFull) = true then do
            (match (relayAll t2 es1 (SetTable.grown es1.size)).2.2 with | true => rule "set.scan.the-table-gave-way" | false => pure ())
            storeSet a (relayAll t2 es1 (SetTable.grown es1.size)).1 (relayAll t2 es1 (SetTable.grown es1.size)).2.1
            pure (some true)
          else pure (some true)) (fun r s' => r = some true ∧ Q true s') E s := fun t2 f2 r2 l2 =>
      tx_store (g := fun b => match b with | true => rule "set.scan.the-table-gave-way" | false => pure ()) (fun b s₁ Q' q => hgw b q) r.ob r.ex r.dat (N t2 f2 r2 l2) fun h' sb z => ⟨rfl, fin h' sb z⟩
    refine wpAny_bind (hgw _ ?_)
    split
    · refine wpAny_bind ?_
      rw [hashByValue_scannable 8 hsc]
      refine wpAny_pure ?_
      refine wpAny_mono (go { t1 with plain := false } (SetTable.fits_plain_off f1) r1 rfl) (fun z s' hz => ?_) fun _ _ z => z
      obtain ⟨rfl, hz⟩ := hz
      exact wpAny_pure hz
    · refine wpAny_bind (wpAny_pure ?_)
      simp only [↓reduceIte]
      refine wpAny_mono (go t1 f1 r1 rfl) (fun z s' hz => ?_) fun _ _ z => z
      obtain ⟨rfl, hz⟩ := hz
      exact wpAny_pure hz
end
end GK
set_option Elab.async false
set_option linter.all false
set_option maxRecDepth 100000
set_option maxHeartbeats 4000000
/-! set(xs) of a list or a tuple of texts, len, sorted -/
namespace GK
open PySem PySem.Spec PyProof.Rows L2
/-- texts as values -/
def TxAre (vs : List Value) (xs : List Str) : Prop := Paired (fun (v : Value) (x : Str) => ∃ t, v = .str x t) vs xs
theorem TxAre.length {vs : List Value} {xs : List Str} (h : TxAre vs xs) : vs.length = xs.length := Paired.length h
theorem TxAre.at_ : ∀ {vs : List Value} {xs : List Str}, TxAre vs xs → ∀ (i : Nat) (v : Value), vs[i]? = some v → ∃ x t, xs[i]? = some x ∧ v = .str x t
  | _, _, .nil, i, v, h => by simp at h
  | _, _, .cons ⟨t, e⟩ r, 0, v, h => by
    simp at h
    subst h
    exact ⟨_, t, rfl, e⟩
  | _, _, .cons _ r, i + 1, v, h => TxAre.at_ r i v (by simpa using h)
theorem txAre_of : ∀ {xs : List Str} {vs : List Value}, Vals (xs.map V.str) vs → TxAre vs xs
  | [], _, h => by cases h; exact .nil
  | x :: xs, _, h => by
    have h' : Vals (V.str x :: xs.map V.str) _ := h
    cases h' with
    | cons r t => exact .cons r (txAre_of t)
theorem vals_of_tx : ∀ {vs : List Value} {xs : List Str}, TxAre vs xs → Vals (xs.map V.str) vs
  | _, _, .nil => .nil
  | _, _, .cons r t => .cons r (vals_of_tx t)
theorem txS_empty {w : World} {h : Heap} {a : Addr} (ho : h.get? a = some { cls := .type "set", dict := none, data := .set #[] 0 (.fresh 0 0 (!w.params.followText "set-order")) }) : TxS w h a (fun _ => false) 0 := by
  refine ⟨_, #[], 0, _, ho, ⟨rfl, rfl, rfl⟩, rfl, (fun e he => by simp at he), (by simp), (fun k => by simp), (by decide), (by rfl), rfl, List.Pairwise.nil, ?_⟩
  show _ ∨ (!w.params.followText "set-order") = true
  cases w.params.followText "set-order"
  · exact .inr rfl
  · exact .inl rfl
section
variable {P : Program} {w : World} {A : Around} {E : Value → Shared → Prop} {s : Shared}
theorem tx_update {I : Addr} {fp wr : List Addr} {G : Array GenState → Array GenState → Prop} {n : Nat} {Pv : Nat → Value → Prop} {St : Nat → Shared → Prop} {R : Result → Shared → Prop}
    (W : WalksS P w A.in1 I fp wr G n Pv St) (S : Addr) (hS : S ∉ fp) (xs : List Str) (hn : n = xs.length) (hb : xs.length + 1 < scanBound) (hval : ∀ i v, Pv i v → ∃ x t, xs[i]? = some x ∧ v = .str x t)
    (hR : ∀ (s₀ s' : Shared) (c : Nat), Moved (S :: wr) G s₀ s' → c ≤ n → TxS w s'.heap S (fun j => decide (j ∈ xs)) c → s₀ = s → R (.ok (.ret .none)) s') :
    ∀ (k i : Nat) (s₁ : Shared), n - i = k → i ≤ n → St i s₁ → (∃ c, c ≤ i ∧ TxS w s₁.heap S (fun j => decide (j ∈ xs.take i)) c) → Moved (S :: wr) G s s₁ →
      codeAny (model P w) A (.builtin "set.update.loop" ⟨[.ref S, .ref I], []⟩) R s₁ := by
  have sw : S ∉ wr := fun h => hS (W.sub _ h)
  have sub : ∀ b ∈ wr, b ∈ S :: wr := fun b hb => List.mem_cons_of_mem _ hb
  intro k
  induction k with
  | zero =>
    intro i s₁ hk hi st ⟨c, hc, T⟩ mv
    obtain rfl : i = n := by omega
    refine codeAny_builtin F.entry_set_update_loop ?_
    rw [Around.under_plainId F.plain_set_update_loop _]
    show wpAny _ A.in1 (pyNext (.ref I) >>= _) _ _ s₁
    refine wpAny_bind (W.done s₁ _ _ st fun s' m => ?_)
    show wpAny _ A.in1 (ret Value.none) _ _ s'
    rw [List.take_of_length_le (by omega)] at T
    exact wpAny_pure (hR s s' c (Moved.trans W.gtrans mv (m.mono sub)) hc (T.move fun o e => m.heap S o sw e) rfl)
  | succ k ih =>
    intro i s₁ hk hi st ⟨c, hc, T⟩ mv
    have hlt : i < n := by omega
    refine codeAny_builtin F.entry_set_update_loop ?_
    rw [Around.under_plainId F.plain_set_update_loop _]
    show wpAny _ A.in1 (pyNext (.ref I) >>= _) _ _ s₁
    refine wpAny_bind (W.item i s₁ _ _ hlt st fun v s' hP st' m => ?_)
    obtain ⟨x, t, hx, rfl⟩ := hval i v hP
    have T' := T.move (h' := s'.heap) fun o e => m.heap S o sw e
    show wpAny _ A.in1 (holding [Value.str x t] (setAdd S (.str x t)) >>= _) _ _ s'
    refine wpAny_bind (wpAny_holding ?_)
    unfold setAdd
    refine wpAny_holding ?_
    refine wpAny_bind ((PySem.strKind P w).pyHash (k := x) (tx_is x t) ?_)
    refine tx_add (P := P) (s := { s' with toks := s'.toks + 1 }) T' (by omega) fun h' sb T2 => ?_
    have T3 : TxS w h' S (fun j => decide (j ∈ xs.take (i + 1))) (if decide (x ∈ xs.take i) = true then c else c + 1) := T2.to (fun j => by
      rw [List.take_add_one, hx]
      simp [List.mem_append]) rfl
    have hc3 : (if decide (x ∈ xs.take i) = true then c else c + 1) ≤ i + 1 := by split <;> omega
    refine wpAny_pure ⟨plainId_quiet F.plain_set_update_loop _, ih (i + 1) _ (by omega) hlt (W.frame _ s' _ _ st' (Nat.le_succ _) fun b hb o e => ?_) ⟨_, hc3, T3⟩ (Moved.trans W.gtrans mv ((m.mono sub).then_heap (Nat.le_succ _) fun b o hb e => ?_))⟩
    · rw [sb.2 b fun h : b = S => hS (by rw [← h]; exact hb)]
      exact e
    · rw [sb.2 b fun h : b = S => hb (by rw [h]; exact List.mem_cons_self)]
      exact e
set_option maxRecDepth 100000 in
set_option maxHeartbeats 6400000 in
theorem call_set_tx {l : Addr} {items : Array Value} (xs : List Str) {Q : Value → Shared → Prop} (hh : A.handled = none) (hl : s.heap.IsList l items ∨ s.heap.IsTuple l items) (hit : TxAre items.toList xs) (hb : xs.length + 1 < scanBound)
    (h : ∀ (h' : Heap) (tk c : Nat), TxS w h' s.heap.objs.size (fun j => decide (j ∈ xs)) c → c ≤ xs.length → (∀ b o, s.heap.get? b = some o → h'.get? b = some o) → Q (.ref s.heap.objs.size) { s with heap := h', toks := tk }) :
    wpAny (model P w) A (call (.type "set") [.ref l]) Q E s := by
  have hisz : items.size = xs.length := by
    have q := TxAre.length hit
    rw [Array.length_toList] at q
    exact q
  obtain ⟨c, tl, hmro⟩ := F.called_set.mro
  have hmade := F.called_set.made
  have hsub := F.called_set.sub
  refine wpAny_call (codeAny_of_tree ?_)
  show wpAny _ _ (callAny (.type "set") _) _ _ _
  refine wpAny_pure ⟨Code.quiet_builtin _ (by decide +kernel), codeAny_builtin F.entry_type_call ?_⟩
  rw [Around.under_plain (weight_type_call_type "set" [.ref l] []) rfl]
  have h1 := F.called_set.notType
  have h2 := F.called_set.canCreate
  have hct := F.typeCall_set_1 (.ref l)
  repeat (any_goals (first | assumption | wp_step))
  refine codeAny_mono (code_set_led1 (.ref l) (E := E) (Q₁ := fun obj s₁ => obj = .ref s.heap.objs.size ∧ s₁ = { s with heap := s.heap.push ({ cls := .type "set", dict := none, data := .set #[] 0 (.fresh 0 0 (!w.params.followText "set-order")) } : Obj) }) ⟨rfl, rfl⟩) fun r s₁ hr => ?_
  cases r with
  | error e => exact hr
  | ok fl =>
    cases fl with
    | ret obj =>
      obtain ⟨rfl, rfl⟩ := hr
      have hS : (s.heap.push ({ cls := .type "set", dict := none, data := .set #[] 0 (.fresh 0 0 (!w.params.followText "set-order")) } : Obj)).get? s.heap.objs.size = some ({ cls := .type "set", dict := none, data := .set #[] 0 (.fresh 0 0 (!w.params.followText "set-order")) } : Obj) := Heap.get?_push_size _ rfl
      have hT : Shared.TypeIs { s with heap := s.heap.push ({ cls := .type "set", dict := none, data := .set #[] 0 (.fresh 0 0 (!w.params.followText "set-order")) } : Obj) } (.ref s.heap.objs.size) "set" := ⟨_, hS, rfl⟩
      have hli := F.called_set.init.lookup
      have hbi := F.called_set.init.bind (.ref s.heap.objs.size)
      repeat (any_goals (first | assumption | wp_step))
      refine codeAny_mono (codeAny_call_builtin (R := wants (fun r s₂ => r = .none ∧ ∃ h' tk c, s₂ = { s with heap := h', toks := tk } ∧ TxS w h' s.heap.objs.size (fun j => decide (j ∈ xs)) c ∧ c ≤ xs.length ∧
          (∀ b o, s.heap.get? b = some o → h'.get? b = some o)) E) F.called_set.init.plain F.entry_set_init (check_set_init_1 hT ?_)) fun r₂ s₂ hr₂ => ?_
      · have nI : ∀ b o, s.heap.get? b = some o → b ≠ (s.heap.push ({ cls := .type "set", dict := none, data := .set #[] 0 (.fresh 0 0 (!w.params.followText "set-order")) } : Obj)).objs.size := fun b o e => by
          rw [Heap.size_push]
          exact Nat.ne_of_lt (Nat.lt_succ_of_lt (Heap.lt_size e))
        have hh3 : A.in1.in1.in1.handled = none := by simp [hh]
        have hval : ∀ (i : Nat) (v : Value), items[i]? = some v → ∃ x t, xs[i]? = some x ∧ v = .str x t := fun i v hv => hit.at_ i v (by rw [Array.getElem?_toList]; exact hv)
        have hSf : ∀ o, s.heap.get? l = some o → s.heap.objs.size ∉ [(s.heap.push ({ cls := .type "set", dict := none, data := .set #[] 0 (.fresh 0 0 (!w.params.followText "set-order")) } : Obj)).objs.size, l] := fun o e => by
          rw [Heap.size_push]
          simp only [List.mem_cons, List.mem_singleton, List.not_mem_nil, or_false, not_or]
          exact ⟨Nat.ne_of_lt (Nat.lt_succ_self _), Nat.ne_of_gt (Heap.lt_size e)⟩
        have fin : ∀ (s₀ s' : Shared) (io : Obj) (c' : Nat), Moved (s.heap.objs.size :: [(s.heap.push ({ cls := .type "set", dict := none, data := .set #[] 0 (.fresh 0 0 (!w.params.followText "set-order")) } : Obj)).objs.size]) (fun a b => b = a) { s with heap := (s.heap.push ({ cls := .type "set", dict := none, data := .set #[] 0 (.fresh 0 0 (!w.params.followText "set-order")) } : Obj)).push io } s' → c' ≤ items.size → TxS w s'.heap s.heap.objs.size (fun j => decide (j ∈ xs)) c' →
            ∃ h' tk c, s' = { s with heap := h', toks := tk } ∧ TxS w h' s.heap.objs.size (fun j => decide (j ∈ xs)) c ∧ c ≤ xs.length ∧ (∀ b o, s.heap.get? b = some o → h'.get? b = some o) := fun s₀ s' io c' m hc T => by
          obtain ⟨h', g2, d', tk', os'⟩ := s'
          have eg : g2 = s.gens := m.gens
          have ed : d' = s.drawn := m.drawn
          have eq3 : os' = s.os := m.os
          subst eg; subst ed; subst eq3
          refine ⟨h', tk', c', rfl, T, by rw [← hisz]; exact hc, fun b o e => ?_⟩
          exact m.heap b o (by
            simp only [List.mem_cons, List.mem_singleton, List.not_mem_nil, or_false, not_or]
            exact ⟨Nat.ne_of_lt (Heap.lt_size e), nI b o e⟩) (Heap.get?_push_of_some _ (Heap.get?_push_of_some _ e))
        rcases hl with hl | hl
        · obtain ⟨ol, hol, hcl, nl, hdl⟩ := hl
          obtain ⟨ocls, odict, odata, oslots⟩ := ol
          simp only at hcl hdl
          subst hcl; subst hdl
          have hol' := Heap.get?_push_of_some ({ cls := .type "set", dict := none, data := .set #[] 0 (.fresh 0 0 (!w.params.followText "set-order")) } : Obj) hol
          have hsls := F.sub_list_set
          have hslf := F.sub_list_frozenset
          have hne : (Value.type "list" == Value.type "dict") = false := by decide
          have hl1 : (s.heap.push ({ cls := .type "set", dict := none, data := .set #[] 0 (.fresh 0 0 (!w.params.followText "set-order")) } : Obj)).IsList l items := ⟨_, hol', rfl, nl, rfl⟩
          unfold Builtin.«set.__init__» noKeywords Builtin.Frozenset.updateFrom
          generalize hPI : pyIter = PI
          wp_walk
          subst hPI
          refine wpAny_pyIter_list (s := { s with heap := s.heap.push ({ cls := .type "set", dict := none, data := .set #[] 0 (.fresh 0 0 (!w.params.followText "set-order")) } : Obj) }) hl1 ?_
          refine wpAny_bind (wpAny_runValue ?_)
          refine tx_update ((Walks.list hh3 _ l (nI _ _ hol) items).toS) s.heap.objs.size (hSf _ hol) xs hisz hb hval (s := { s with heap := (s.heap.push ({ cls := .type "set", dict := none, data := .set #[] 0 (.fresh 0 0 (!w.params.followText "set-order")) } : Obj)).push { cls := .type "list_iterator", data := .fields #[.ref l, .int 0 0] } }) (fun s₀ s' c' m hc T e0 => ?_) (items.size - 0) 0 _ (by omega) (Nat.zero_le _)
            ⟨⟨_, Heap.get?_push_size _ rfl, rfl, rfl⟩, (hl1.push _)⟩ ⟨0, Nat.le_refl 0, (txS_empty (Heap.get?_push_of_some _ hS)).to (fun x => by simp) rfl⟩ ⟨fun _ _ _ e => e, rfl, rfl, rfl, Nat.le_refl _⟩
          subst e0
          refine wpAny_pure ?_
          show wpAny _ _ (ret Value.none) _ _ _
          exact wpAny_pure ⟨rfl, fin s s' _ c' m hc T⟩
        · obtain ⟨ol, hol, hcl, nl, hdl⟩ := hl
          obtain ⟨ocls, odict, odata, oslots⟩ := ol
          simp only at hcl hdl
          subst hcl; subst hdl
          have hol' := Heap.get?_push_of_some ({ cls := .type "set", dict := none, data := .set #[] 0 (.fresh 0 0 (!w.params.followText "set-order")) } : Obj) hol
          have hsls := F.sub_tuple_set
          have hslf := F.sub_tuple_frozenset
          have hne : (Value.type "tuple" == Value.type "dict") = false := by decide
          have hl1 : (s.heap.push ({ cls := .type "set", dict := none, data := .set #[] 0 (.fresh 0 0 (!w.params.followText "set-order")) } : Obj)).IsTuple l items := ⟨_, hol', rfl, nl, rfl⟩
          unfold Builtin.«set.__init__» noKeywords Builtin.Frozenset.updateFrom
          generalize hPI : pyIter = PI
          wp_walk
          subst hPI
          refine wpAny_pyIter_tuple (s := { s with heap := s.heap.push ({ cls := .type "set", dict := none, data := .set #[] 0 (.fresh 0 0 (!w.params.followText "set-order")) } : Obj) }) hl1 ?_
          refine wpAny_bind (wpAny_runValue ?_)
          refine tx_update ((Walks.tuple hh3 _ l (nI _ _ hol) items).toS) s.heap.objs.size (hSf _ hol) xs hisz hb hval (s := { s with heap := (s.heap.push ({ cls := .type "set", dict := none, data := .set #[] 0 (.fresh 0 0 (!w.params.followText "set-order")) } : Obj)).push { cls := .type "tuple_iterator", data := .fields #[.ref l, .int 0 0] } }) (fun s₀ s' c' m hc T e0 => ?_) (items.size - 0) 0 _ (by omega) (Nat.zero_le _)
            ⟨⟨_, Heap.get?_push_size _ rfl, rfl, rfl⟩, (hl1.push _)⟩ ⟨0, Nat.le_refl 0, (txS_empty (Heap.get?_push_of_some _ hS)).to (fun x => by simp) rfl⟩ ⟨fun _ _ _ e => e, rfl, rfl, rfl, Nat.le_refl _⟩
          subst e0
          refine wpAny_pure ?_
          show wpAny _ _ (ret Value.none) _ _ _
          exact wpAny_pure ⟨rfl, fin s s' _ c' m hc T⟩
      · cases r₂ with
        | error e => exact hr₂
        | ok fl₂ =>
          cases fl₂ with
          | ret r =>
            obtain ⟨rfl, h', tk, c', rfl, hS', hc', hk'⟩ := hr₂
            repeat (any_goals (first | assumption | wp_step))
            exact h _ _ _ hS' hc' hk'
          | _ => exact hr₂.elim
    | _ => exact hr.elim
end
end GK
set_option Elab.async false
set_option linter.all false
set_option maxRecDepth 100000
set_option maxHeartbeats 4000000
/-! sets of texts over the layer: set(xs), len, sorted -/
namespace GK
open PySem PySem.Spec PyProof.Rows L2
theorem strsAre_of : ∀ (l : List Value), (∀ v ∈ l, ∃ x tk, v = Value.str x tk) → ∃ xs, StrsAre l xs
  | [], _ => ⟨[], .nil⟩
  | v :: l, h => by
    obtain ⟨x, tk, rfl⟩ := h v List.mem_cons_self
    obtain ⟨xs, r⟩ := strsAre_of l fun u hu => h u (List.mem_cons_of_mem _ hu)
    exact ⟨x :: xs, .cons x tk r⟩
def txV (v : Value) : Str := match v with | .str x _ => x | _ => Str.empty
theorem strsAre_tx : ∀ {l : List Value} {xs : List Str}, StrsAre l xs → xs = l.map txV
  | _, _, .nil => rfl
  | _, _, .cons y t r => by
    rw [strsAre_tx r] <;> rfl
section
variable {P : Program} {w : World} {A : Around} {E : Value → Shared → Prop} {s : Shared} {a : Addr}
theorem sorted_tx {S : Str → Bool} {n : Nat} {Q : Value → Shared → Prop} (R : TxS w s.heap a S n) (hh : A.handled = none) (h64 : n < 64)
    (hQ : ∀ s' p (out : Array Value) (c : Nat) (ys : List Str), (∀ b o, s.heap.get? b = some o → s'.heap.get? b = some o) → s'.gens = s.gens → s'.os = s.os → s.heap.objs.size ≤ p →
      s'.heap.get? p = some (seqObj "list" out c) → StrsAre out.toList ys → ys.Nodup → sortedS ys = true → (∀ x, x ∈ ys ↔ S x = true) → ys.length = n → Q (.ref p) s') :
    wpAny (model P w) A (call (.builtin "sorted") [.ref a]) Q E s := by
  obtain ⟨o, es, ep, t, r⟩ := R
  refine Calls.call_function_entry kind_sorted plain_sorted entry_sorted (args_sorted1 _) ?_
  unfold Builtin.«sorted»
  refine wpAny_bind (m := checkCount "sorted" 1 1 _) (wpAny_pure ?_)
  refine wpAny_bind (collect_set (A := A.in1) hh ⟨o, r.ob, r.ex.1, r.dat⟩ r.fits r.few r.ris r.led fun s1 vs k1 hz g1 o1 pm => ?_)
  have hvl : vs.length = n := by rw [pm.length_eq, List.length_map, Array.length_toList]; exact r.num
  obtain ⟨xs, hS⟩ := strsAre_of vs fun v hv => by
    obtain ⟨e, he, q⟩ := List.mem_map.mp (pm.mem_iff.mp hv)
    obtain ⟨x, tk, h1, _⟩ := r.good e he
    exact ⟨x, tk, by rw [← q]; exact h1⟩
  have pk : xs.Perm (es.toList.map txOf) := by
    have q := pm.map txV
    rw [List.map_map] at q
    rw [strsAre_tx hS]
    exact q
  refine wpAny_bind (wpAny_newList ?_ (by rw [hvl, sizeLine_eq]; omega))
  have hoL : (s1.heap.push (seqObj "list" vs.toArray 0)).get? s1.heap.objs.size = some (seqObj "list" vs.toArray 0) := Heap.get?_push_size _ rfl
  refine wpAny_bind (wpAny_holding (wpAny_call_entry slot_list_sort ⟨_, hoL, rfl⟩ entry_list_sort
    (list_sort_treeK strKind_oneLt hoL hS.keysOf (fun v₁ v₂ rest e => keyKind_strs (by rw [← e]; exact hS)) (by rw [hvl]; exact h64) fun st' a1 a2 => ⟨_, rfl, ?_⟩) (args_list_sort _)))
  obtain ⟨ys, b1, b2, b3⟩ := sorted_out_str hS a1 a2
  obtain ⟨c, hc⟩ := sortedHeap_at (vs := vs) (out := (arrOf st').map (·.2)) hoL
  have pn : ys.Perm (es.toList.map txOf) := b2.trans pk
  refine wpAny_pure ⟨_, rfl, hQ _ s1.heap.objs.size _ c ys (fun b u e => ?_) g1 o1 hz hc b1 (pn.nodup_iff.mpr r.nodup) b3 (fun x => by rw [pn.mem_iff, ← r.mem x]) ?_⟩
  · have q := k1 b u e
    have hlt := Heap.lt_size q
    show (sortedHeap (s1.heap.push (seqObj "list" vs.toArray 0)) s1.heap.objs.size vs _).get? b = some u
    rw [sortedHeap_old (Nat.ne_of_lt hlt) (by rw [size_push']; exact Nat.lt_succ_of_lt hlt)]
    exact Heap.get?_push_of_some _ q
  · rw [pn.length_eq, List.length_map, Array.length_toList]
    exact r.num
end
/-- the set of these texts at a -/
def TxO (w : World) (a : Addr) (xs : List Str) : HO := .ext fun h => ∃ n, n ≤ xs.length ∧ TxS w h a (fun j => decide (j ∈ xs)) n
section
variable {X : Cx}
theorem txO_ok {P : Program} {w : World} {H : Hp} {h : Heap} {a : Addr} {xs : List Str} {n : Nat} (hn : n ≤ xs.length) (R : TxS w h a (fun j => decide (j ∈ xs)) n) : ObjOk P w H h a (TxO w a xs) := by
  have ⟨o, _, _, _, r⟩ := R
  exact ⟨⟨n, hn, R⟩, ⟨o, r.ob⟩, fun h1 h2 ⟨m, hm, q⟩ k => ⟨m, hm, q.move k⟩⟩
/-- set(xs): a list or a tuple of texts, fewer than 1000 -/
def rSetTx (K : PySem.W.Frag) (w : World) : List V → Hp → VK → Prop := fun vs H Q => ∃ (a : Addr) (xs : List Str), vs = [V.ref a] ∧ (SqL K H a (xs.map V.str) ∨ SqT K H a (xs.map V.str)) ∧ xs.length < 1000 ∧ ∀ p, H p = none → Q (.ref p) (upd H p (TxO w p xs))
theorem cr_setTx (hc : X.calm = true) : CallR X (.type "set") (rSetTx X.K X.w) := by
  intro pins s σ H vs us Q I r h
  obtain ⟨a, xs, rfl, hs, hl, q⟩ := h
  rw [Vals.ref1 r]
  obtain ⟨items, hit, hT⟩ : ∃ items : Array Value, (s.heap.IsList a items ∨ s.heap.IsTuple a items) ∧ TxAre items.toList xs := by
    rcases hs with hs | hs
    · obtain ⟨its, rv, pl, _⟩ := I.list hs
      exact ⟨its.toArray, .inl pl.isList, txAre_of rv⟩
    · obtain ⟨its, rv, pl, _⟩ := I.tuple hs
      exact ⟨its.toArray, .inr pl, txAre_of rv⟩
  refine call_set_tx xs (I.ok.hd hc) hit hT (by unfold scanBound; omega) fun h' tk c T hcl k => ?_
  exact ⟨.ref _, upd H s.heap.objs.size (TxO X.w s.heap.objs.size xs), I.laid k (Nat.le_refl _) (txO_ok hcl T), rfl, q _ (I.hok.fresh (Nat.le_refl _))⟩
/-- len(s) -/
def rLenTx (w : World) : List V → Hp → VK → Prop := fun vs H Q => ∃ (a : Addr) (xs : List Str), vs = [V.ref a] ∧ H a = some (TxO w a xs) ∧ ∀ ys : List Str, ys.Nodup → (∀ x, x ∈ ys ↔ x ∈ xs) → Q (.int ys.length) H
theorem cr_lenTx : CallR X (.builtin "len") (rLenTx X.w) := by
  intro pins s σ H vs us Q I r h
  obtain ⟨a, xs, rfl, ha, q⟩ := h
  rw [Vals.ref1 r]
  obtain ⟨n, hn, o, es, ep, t, R⟩ := (I.hok a _ ha).1
  have few := R.few
  refine call_len_set R.ob R.ex R.dat R.fits (by unfold scanBound at few; omega) ?_
  refine ⟨.int es.size, H, I.tok _, ⟨_, rfl⟩, ?_⟩
  have e := q (es.toList.map txOf) R.nodup fun x => by rw [← R.mem x, decide_eq_true_eq]
  rw [List.length_map, Array.length_toList] at e
  exact e
/-- sorted(s) -/
def rSortedTx (w : World) : List V → Hp → VK → Prop := fun vs H Q => ∃ (a : Addr) (xs : List Str), vs = [V.ref a] ∧ H a = some (TxO w a xs) ∧ xs.length < 64 ∧
  ∀ (ys : List Str) (p : Addr), ys.Nodup → sortedS ys = true → (∀ x, x ∈ ys ↔ x ∈ xs) → H p = none → Q (.ref p) (upd H p (.lst (ys.map V.str)))
theorem cr_sortedTx (hc : X.calm = true) : CallR X (.builtin "sorted") (rSortedTx X.w) := by
  intro pins s σ H vs us Q I r h
  obtain ⟨a, xs, rfl, ha, h64, q⟩ := h
  rw [Vals.ref1 r]
  obtain ⟨n, hn, R⟩ := (I.hok a _ ha).1
  refine sorted_tx R (I.ok.hd hc) (Nat.lt_of_le_of_lt hn h64) fun s' p out c ys k g o hp hg hi hnd hs hm hl => ?_
  have hlen : (ys.map V.str).length ≤ sizeLine := by rw [List.length_map, hl, sizeLine_eq]; omega
  have hnew : H p = none := I.hok.fresh hp
  have J : Inv X pins σ (upd H p (.lst (ys.map V.str))) { s with heap := s'.heap, gens := s'.gens, drawn := s'.drawn, toks := s'.toks } :=
    I.call (ch := []) (Un.laid k hp hnew) (I.hok.laid k hp ⟨hlen, out.toList, c, vals_of_strs hi, hg⟩) (by rw [g]; exact I.bare) (fun _ z => nomatch z)
  have e : s' = { s with heap := s'.heap, gens := s'.gens, drawn := s'.drawn, toks := s'.toks } := by
    cases s'
    cases s
    cases o
    rfl
  rw [e]
  exact ⟨.ref p, _, J, rfl, q ys p hnd hs (fun x => by rw [hm x, decide_eq_true_eq]) hnew⟩
end
end GK
set_option Elab.async false
set_option linter.all false
set_option maxRecDepth 100000
set_option maxHeartbeats 4000000
/-! sorted of a list that reads as data -/
namespace GK
open PySem PySem.Spec PySem.W PyProof.Rows L2
def rSortedD (K : PySem.W.Frag) : List V → Hp → VK → Prop := fun vs H Q => ∃ (a : Addr) (bs : List (V × PyData)), vs = [V.ref a] ∧ SqL K H a (bs.map (·.1)) ∧ (∀ b ∈ bs, Dp K H b.1 b.2) ∧ AllAlike (bs.map (·.2)) ∧ Sortable (bs.map (·.2)) ∧ (∀ b ∈ bs, b.2.depth ≤ 60) ∧
  ∀ p, H p = none → Q (.ref p) (upd H p (.lst ((bs.mergeSort (dataLe false (·.2))).map (·.1))))
section
variable {X : Cx} {pins : List (Addr × Obj)} {σ : L2.St} {H : Hp} {s : Shared}
theorem each_rel : ∀ {bs : List (V × PyData)} {its : List Value}, Vals (bs.map (·.1)) its → EachIs (fun v b => RelV b.1 v) its bs
  | [], _, h => by
    cases h
    exact .nil
  | b :: bs, _, h => by
    cases h with
    | cons r t => exact .cons r (each_rel t)
theorem each_reads (I : Inv X pins σ H s) : ∀ {bs : List (V × PyData)} {its : List Value}, Vals (bs.map (·.1)) its → (∀ b ∈ bs, Dp X.K H b.1 b.2) → EachIs (fun v b => ∃ as, Reads s.heap v b.2 as) its bs
  | [], _, h, _ => by
    cases h
    exact .nil
  | b :: bs, _, h, hd => by
    cases h with
    | cons r t => exact .cons (Dp.reads I b.2 b.1 _ (hd b (by simp)) r) (each_reads I t fun c hc => hd c (List.mem_cons_of_mem _ hc))
theorem rel_vals : ∀ {out : List Value} {bs : List (V × PyData)}, EachIs (fun v b => RelV b.1 v) out bs → Vals (bs.map (·.1)) out
  | _, _, .nil => .nil
  | _, _, .cons r t => .cons r (rel_vals t)
theorem cr_sortedD (hu : X.A.units + 64 < cLine) : CallR X (.builtin "sorted") (rSortedD X.K) := by
  intro pins s σ H vs us Q I r h
  obtain ⟨a, bs, rfl, hs, hd, hal, hk, hdp, q⟩ := h
  obtain ⟨its, rv, hl, hz⟩ := I.list hs
  obtain ⟨u, rfl, ru⟩ := vals1 r
  obtain rfl : u = Value.ref a := ru
  rw [List.length_map] at hz
  have hlen : bs.length = its.length := by
    have := rv.length
    rwa [List.length_map] at this
  refine sorted_data (enc := (·.2)) hl.isList (each_rel rv) (each_reads I rv hd) hal hk hz (fun b hb => by have := hdp b hb; omega) fun out ho eo => ?_
  obtain ⟨c, hc⟩ := sortedAll_at s.heap its out.toArray
  refine ⟨.ref (s.heap.objs.size + 1), upd H (s.heap.objs.size + 1) (.lst ((bs.mergeSort (dataLe false (·.2))).map (·.1))), I.laid (t' := s.toks) (fun b o e => sortedAll_old e) (Nat.le_succ _) ⟨?_, out, c, rel_vals eo, hc⟩, rfl, q _ (I.hok.fresh (Nat.le_succ _))⟩
  rw [List.length_map, List.length_mergeSort]
  exact hz
theorem k_neD (K : PySem.W.Frag) (hu : X.A.units + 64 < cLine) (h : X.K = K := by rfl) : OpR X (compareOp .NotEq) (rNeD K) := by
  subst h
  exact op_neD hu
end
end GK
set_option Elab.async false
set_option linter.all false
set_option maxRecDepth 100000
set_option maxHeartbeats 4000000
/-! a dict whose keys are pairs of tuples of texts -/
namespace GK
open PySem PySem.Spec PySem.W PyProof.Rows L2
/-- a pair of orders -/
abbrev PK := List Str × List Str
def keyNk (k : PK) : NestedKey := .tup [.tup (k.1.map .text), .tup (k.2.map .text)]
theorem map_text_inj : ∀ {a b : List Str}, a.map NestedKey.text = b.map NestedKey.text → a = b
  | [], [], _ => rfl
  | [], _ :: _, h => by simp at h
  | _ :: _, [], h => by simp at h
  | x :: a, y :: b, h => by
    rw [List.map_cons, List.map_cons] at h
    injection h with h1 h2
    injection h1 with h1
    rw [h1, map_text_inj h2]
theorem keyNk_inj {a b : PK} (h : keyNk a = keyNk b) : a = b := by
  unfold keyNk at h
  injection h with h
  injection h with h1 h2
  injection h2 with h2 _
  injection h1 with h1
  injection h2 with h2
  exact Prod.ext (map_text_inj h1) (map_text_inj h2)
theorem depth_texts : ∀ l : List Str, NestedKey.depthAll (l.map .text) = 0
  | [] => by simp [NestedKey.depthAll]
  | x :: r => by
    rw [List.map_cons]
    simp only [NestedKey.depthAll, NestedKey.depth]
    rw [depth_texts r]
    rfl
theorem depth_keyNk (k : PK) : (keyNk k).depth ≤ 8 := by
  unfold keyNk
  simp only [NestedKey.depth, NestedKey.depthAll]
  rw [depth_texts, depth_texts]
  decide
/-- the key stands at q -/
def KeyAt (H : Hp) (k : PK) (q : Addr) : Prop := ∃ u v, H q = some (.tup [.ref u, .ref v]) ∧ H u = some (.tup (k.1.map V.str)) ∧ H v = some (.tup (k.2.map V.str))
theorem nested_texts {h : Heap} : ∀ {l : List Str} {us : List Value}, Vals (l.map V.str) us → NestedAll h (l.map .text) us
  | [], _, r => by
    cases r
    exact .nil
  | x :: l, _, r => by
    cases r with
    | cons r t =>
      obtain ⟨tk, rfl⟩ := r
      exact .cons (.text x tk) (nested_texts t)
section
variable {P : Program} {w : World} {H H' : Hp} {h : Heap} {k : PK} {q a : Addr}
theorem nk_is (ok : HOk P w H h) (e : KeyAt H k q) : (nestedKind P w).is h (keyNk k) q := by
  obtain ⟨u, v, e1, e2, e3⟩ := e
  refine ⟨?_, depth_keyNk k⟩
  obtain ⟨_, its1, r1, o1, g1, c1, n1, d1⟩ := ok _ _ e1
  obtain ⟨_, its2, r2, o2, g2, c2, n2, d2⟩ := ok _ _ e2
  obtain ⟨_, its3, r3, o3, g3, c3, n3, d3⟩ := ok _ _ e3
  obtain ⟨a1, a2, rfl, ra1, ra2⟩ := vals2 r1
  obtain rfl : a1 = Value.ref u := ra1
  obtain rfl : a2 = Value.ref v := ra2
  exact .tup g1 c1 d1 (.cons (.tup g2 c2 d2 (nested_texts r2)) (.cons (.tup g3 c3 d3 (nested_texts r3)) .nil))
theorem KeyAt.tk (h1 : ∀ b xs, H b = some (.tup xs) → H' b = some (.tup xs)) (e : KeyAt H k q) : KeyAt H' k q :=
  let ⟨u, v, e1, e2, e3⟩ := e
  ⟨u, v, h1 _ _ e1, h1 _ _ e2, h1 _ _ e3⟩
/-- the dict of these pairs at a, the keys' own tuples where they stand -/
def entN (P : Program) (w : World) (x : PK × Addr) : NestedKey × Addr × Value := (keyNk x.1, x.2, .bool true)
def PO (P : Program) (w : World) (a : Addr) (xs : List (PK × Addr)) : HO := .ext fun h => (a == sysModules) = false ∧ ∃ es ep, h.DictRaw a es ep ∧ es.toList = (xs.map (entN P w)).map (entryOfKey (nestedKind P w))
structure KeysAt (H : Hp) (xs : List (PK × Addr)) : Prop where
  at_ : ∀ x ∈ xs, KeyAt H x.1 x.2
  nd : (xs.map (·.1)).Nodup
theorem ent_nodup {xs : List (PK × Addr)} (h : (xs.map (·.1)).Nodup) : ((xs.map (entN P w)).map (·.1)).Nodup := by
  have e : (xs.map (entN P w)).map (·.1) = (xs.map (·.1)).map keyNk := by
    rw [List.map_map, List.map_map]
    rfl
  rw [e, List.nodup_iff_pairwise_ne, List.pairwise_map]
  exact (List.nodup_iff_pairwise_ne.mp h).imp fun hne e => hne (keyNk_inj e)
theorem po_of {xs : List (PK × Addr)} (ok : HOk P w H h) (e : H a = some (PO P w a xs)) (ks : KeysAt H xs) : (a == sysModules) = false ∧ h.DictOfH (nestedKind P w) a (xs.map (entN P w)) := by
  obtain ⟨⟨lo, es, ep, ⟨o, ho, hx, hd⟩, he⟩, _⟩ := ok _ _ e
  refine ⟨lo, o, es, ep, ho, hx, hd, he, fun x hx => ?_, ent_nodup ks.nd⟩
  obtain ⟨y, hy, rfl⟩ := List.mem_map.mp hx
  exact nk_is ok (ks.at_ y hy)
theorem po_stays {xs : List (PK × Addr)} : ∀ h1 h2 : Heap, ((a == sysModules) = false ∧ ∃ es ep, h1.DictRaw a es ep ∧ es.toList = (xs.map (entN P w)).map (entryOfKey (nestedKind P w))) → (∀ o, h1.get? a = some o → h2.get? a = some o) → ((a == sysModules) = false ∧ ∃ es ep, h2.DictRaw a es ep ∧ es.toList = (xs.map (entN P w)).map (entryOfKey (nestedKind P w))) :=
  fun h1 h2 ⟨lo, es, ep, x, e⟩ k => ⟨lo, es, ep, x.at k, e⟩
end
/-- .. with one more -/
def putN (xs : List (PK × Addr)) (k : PK) (q : Addr) : List (PK × Addr) := if k ∈ xs.map (·.1) then xs else xs ++ [(k, q)]
section
variable {P : Program} {w : World} {xs : List (PK × Addr)} {k : PK} {q : Addr}
theorem at_ent : (atKey (xs.map (entN P w)) (keyNk k)).isSome = decide (k ∈ xs.map (·.1)) := by
  induction xs with
  | nil => rfl
  | cons x r ih =>
    by_cases h : x.1 = k
    · have : (entN P w x).1 = keyNk k := by rw [← h]; rfl
      unfold atKey
      rw [List.map_cons, List.find?_cons_of_pos (by simpa using this)]
      simp [h]
    · have hn : ¬ (entN P w x).1 = keyNk k := fun e => h (keyNk_inj e)
      unfold atKey at ih ⊢
      rw [List.map_cons, List.find?_cons_of_neg (by simpa using hn), ih, List.map_cons]
      have : (k ∈ x.1 :: r.map (·.1)) ↔ k ∈ r.map (·.1) := by
        rw [List.mem_cons]
        exact ⟨fun z => z.resolve_left fun e => h e.symm, Or.inr⟩
      simp only [this]
theorem stored_ent : storedH (xs.map (entN P w)) (keyNk k) q (.bool true) = (putN xs k q).map (entN P w) := by
  unfold storedH putN
  rw [at_ent]
  by_cases h : k ∈ xs.map (·.1)
  · rw [decide_eq_true h, if_pos rfl, if_pos h, List.map_map]
    apply List.map_congr_left
    intro x _
    show putAt (keyNk k) (.bool true) (entN P w x) = entN P w x
    unfold putAt
    split <;> rfl
  · rw [decide_eq_false h, if_neg (by decide), if_neg h, List.map_append]
    rfl
theorem putN_len : (putN xs k q).length ≤ xs.length + 1 := by
  unfold putN
  split
  · omega
  · rw [List.length_append]
    exact Nat.le_refl _
theorem putN_mem {k' : PK} : k' ∈ (putN xs k q).map (·.1) ↔ k' ∈ xs.map (·.1) ∨ k' = k := by
  unfold putN
  split
  · rename_i h
    exact ⟨Or.inl, fun z => z.elim id fun e => by rw [e]; exact h⟩
  · rw [List.map_append, List.mem_append]
    simp
theorem KeysAt.put {H : Hp} (h : KeysAt H xs) (hk : KeyAt H k q) : KeysAt H (putN xs k q) := by
  unfold putN
  split
  · exact h
  · rename_i hn
    refine ⟨fun x hx => ?_, ?_⟩
    · rcases List.mem_append.mp hx with z | z
      · exact h.at_ x z
      · rw [List.mem_singleton.mp z]
        exact hk
    · rw [List.map_append]
      exact G.nodup_snoc h.nd hn
theorem KeysAt.tk {H H' : Hp} (h1 : ∀ b ys, H b = some (.tup ys) → H' b = some (.tup ys)) (h : KeysAt H xs) : KeysAt H' xs := ⟨fun x hx => (h.at_ x hx).tk h1, h.nd⟩
end
section
variable {X : Cx} {td ty tv : TE} {o i value : Expr} {pos pos' : Pos}
theorem room_n {P : Program} {w : World} {A : Around} (hu : A.units + 64 < cLine) : (nestedKind P w).room A.in1 := by
  show A.in1.units + 8 < cLine
  rw [A.in1_units]
  omega
/-- d[one, other] = True -/
def sNPut (P : Program) (w : World) (td ty tv : TE) : TS := fun D σ H => tv σ H fun v H1 => td σ H1 fun x H2 => ty σ H2 fun y H3 => ∃ (a : Addr) (xs : List (PK × Addr)) (k : PK) (q : Addr), v = .bl true ∧ x = .ref a ∧ y = .ref q ∧
  H3 a = some (PO P w a xs) ∧ KeysAt H3 xs ∧ KeyAt H3 k q ∧ xs.length < 100000 ∧ D.nx σ (upd H3 a (PO P w a (putN xs k q)))
theorem ps_nput (hu : X.A.units + 64 < cLine) (ho : PE X o td) (hi : PE X i ty) (hv : PE X value tv) (hs : swapsWith value (some (.Subscript o i pos')) pos.line X.env = pure false) :
    PS X (.Assign [.Subscript o i pos'] value pos) (sNPut X.prog X.w td ty tv) := by
  refine ⟨fun pins s σ H D I h => ?_⟩
  refine wpAny_Assign_Subscript (thn (hv.run pins s σ H _ I h) fun r s1 ⟨v, H1, I1, rv, q1⟩ => thn (ho.run pins s1 σ H1 _ I1 q1) fun u s2 ⟨x, H2, I2, rx, q2⟩ => thn (hi.run pins s2 σ H2 _ I2 q2) fun iv s3 ⟨y, H3, I3, ry, a, xs, k, q, ev, ex, ey, ha, ks, hk, hl, q3⟩ => ?_) hs
  subst ev ex ey
  obtain rfl : u = Value.ref a := rx
  obtain rfl : iv = Value.ref q := ry
  obtain rfl : r = Value.bool true := rv
  obtain ⟨lo, dd⟩ := po_of I3.hok ha ks
  refine wpAny_setItem_heap (hsz := by rw [List.length_map]; exact Nat.le_of_lt (sz_lt hl)) (room_n hu) (nk_is I3.hok hk) dd fun h' dd' hs => ?_
  rw [stored_ent] at dd'
  obtain ⟨q', es, ep, hq, h2, h3, h4, _, h5⟩ := dd'
  have new : ObjOk X.prog X.w (upd H3 a (PO X.prog X.w a (putN xs k q))) h' a (PO X.prog X.w a (putN xs k q)) := ⟨⟨lo, es, ep, ⟨q', hq, h2, h3⟩, h4⟩, ⟨q', hq⟩, po_stays⟩
  exact ⟨σ, _, d_write I3 (by rw [ha]; exact True.intro) hs ⟨q', hq⟩ new, q3⟩
/-- pair in d, pair not in d -/
def rInN (P : Program) (w : World) (neg : Bool) : R2 := fun x y H Q => ∃ (a : Addr) (xs : List (PK × Addr)) (k : PK) (q : Addr), x = .ref q ∧ y = .ref a ∧ H a = some (PO P w a xs) ∧ KeysAt H xs ∧ KeyAt H k q ∧ Q (.bl (if neg then !decide (k ∈ xs.map (·.1)) else decide (k ∈ xs.map (·.1)))) H
theorem op_inN (hu : X.A.units + 64 < cLine) : OpR X (compareOp .In) (rInN X.prog X.w false) := by
  intro pins s σ H x y v u Q I rx ry h
  obtain ⟨a, xs, k, q, rfl, rfl, ha, ks, hk, q1⟩ := h
  obtain rfl : v = Value.ref q := rx
  obtain rfl : u = Value.ref a := ry
  obtain ⟨lo, dd⟩ := po_of I.hok ha ks
  refine wpAny_in_heap (room_n hu) (nk_is I.hok hk) lo dd ?_
  rw [at_ent]
  exact ⟨.bl _, H, I.tok _, rfl, q1⟩
theorem op_notInN (hu : X.A.units + 64 < cLine) : OpR X (compareOp .NotIn) (rInN X.prog X.w true) := by
  intro pins s σ H x y v u Q I rx ry h
  obtain ⟨a, xs, k, q, rfl, rfl, ha, ks, hk, q1⟩ := h
  obtain rfl : v = Value.ref q := rx
  obtain rfl : u = Value.ref a := ry
  obtain ⟨lo, dd⟩ := po_of I.hok ha ks
  refine wpAny_notIn_heap (room_n hu) (nk_is I.hok hk) lo dd ?_
  rw [at_ent]
  exact ⟨.bl _, H, I.tok _, rfl, q1⟩
/-- {} -/
def tDNewN (P : Program) (w : World) : TE := fun _ H Q => ∀ p, H p = none → Q (.ref p) (upd H p (PO P w p []))
theorem pe_dnewN : PE X (.Dict [] [] pos) (tDNewN X.prog X.w) := by
  refine ⟨fun pins s σ H Q I h => ?_⟩
  have dd : (s.heap.push { cls := .type "dict", data := .dict #[] }).DictOfH (nestedKind X.prog X.w) s.heap.objs.size [] := Heap.DictOfH.new s.heap
  obtain ⟨_, lo, _⟩ := dk_empty (P := X.prog) (w := X.w) (H := upd H s.heap.objs.size (.dK [])) s.heap I.big
  obtain ⟨q', es, ep, hq, h2, h3, h4, _, h5⟩ := dd
  have new : ObjOk X.prog X.w (upd H s.heap.objs.size (PO X.prog X.w s.heap.objs.size [])) (s.heap.push { cls := .type "dict", data := .dict #[] }) s.heap.objs.size (PO X.prog X.w s.heap.objs.size []) := ⟨⟨lo, es, ep, ⟨q', hq, h2, h3⟩, h4⟩, ⟨q', hq⟩, po_stays⟩
  exact wpAny_Dict_empty ⟨.ref s.heap.objs.size, _, I.laid (a := s.heap.objs.size) (t' := s.toks) (fun _ _ q => Heap.get?_push_of_some _ q) (Nat.le_refl _) new, rfl, h _ (I.hok.fresh (Nat.le_refl _))⟩
/-- len(d) -/
theorem call_lenN : CallR X (.builtin "len") (fun xs H Q => ∃ (a : Addr) (ys : List (PK × Addr)), xs = [V.ref a] ∧ H a = some (PO X.prog X.w a ys) ∧ KeysAt H ys ∧ ys.length < 100000 ∧ Q (.int ys.length) H) := by
  intro pins s σ H xs us Q I r h
  obtain ⟨a, ys, rfl, ha, ks, hl, q⟩ := h
  obtain ⟨u, rfl, ru⟩ := vals1 r
  cases ru
  obtain ⟨lo, dd⟩ := po_of I.hok ha ks
  refine call_len_dictH lo dd (by rw [List.length_map]; omega) ?_
  rw [List.length_map]
  exact ⟨.int ((ys.length : Nat) : Int), H, I.tok _, ⟨_, rfl⟩, q⟩
end
/-- a dict, walked, whatever its keys -/
theorem src_raw {prog : Program} {w : World} {d : Addr} {es : Array DictEntry} {ep : Nat} (lo : (d == sysModules) = false) : KdlSrc prog w "dict" d d es.size (fun i v => ∃ hi : i < es.size, v = es[i].key) (fun h => h.DictRaw d es ep) where
  type := fun _ hm => hm.typeIs
  there := fun _ hm => let ⟨_, ho, _⟩ := hm; ⟨Heap.lt_size ho, Heap.lt_size ho⟩
  keep := fun _ _ hm hk => hm.at fun o e => hk d (.inl rfl) o e
  notList := by decide
  notTuple := by decide
  hint := fun _ _ _ _ hm hq => kdl_hint_dict hm.typeIs hq
  iter := fun _ s hh hm => ⟨_, _, (fun _ _ hq => wpAny_pyIter_dict_raw lo hm hq), Walks.rawKeys hh _ d (let ⟨_, ho, _⟩ := hm; Nat.ne_of_lt (Heap.lt_size ho)) es ep, ⟨⟨_, Heap.get?_push_size _ rfl, rfl, rfl⟩, hm.at fun o e => Heap.get?_push_of_some _ e⟩⟩
section
variable {X : Cx}
/-- the pair's data -/
def pkD (k : PK) : PyData := .tuple [.tuple (k.1.map .str), .tuple (k.2.map .str)]
theorem alike_strs : ∀ a b : List Str, alikeAll (a.map .str) (b.map .str) = true
  | [], _ => by simp [alikeAll]
  | _ :: _, [] => by simp [alikeAll]
  | x :: xs, y :: ys => by
    rw [List.map_cons, List.map_cons, alikeAll, alike_strs xs ys]
    simp [alike]
theorem alike_pkD (a b : PK) : alike (pkD a) (pkD b) = true := by
  unfold pkD
  simp [alike, alikeAll, alike_strs]
theorem depth_strs0 : ∀ l : List Str, PyData.depthAll (l.map .str) = 0
  | [] => by simp [PyData.depthAll]
  | x :: r => by
    rw [List.map_cons]
    simp only [PyData.depthAll, PyData.depth]
    rw [depth_strs0 r]
    rfl
theorem depth_pkD (k : PK) : (pkD k).depth ≤ 60 := by
  unfold pkD
  simp only [PyData.depth, PyData.depthAll]
  rw [depth_strs0, depth_strs0]
  decide
theorem dp_strs' {K : PySem.W.Frag} {H : Hp} : ∀ l : List Str, DpAll K H (l.map V.str) (l.map PyData.str)
  | [] => .nil
  | x :: r => .cons (.str _) (dp_strs' r)
theorem KeyAt.dp {K : PySem.W.Frag} {H : Hp} {k : PK} {q : Addr} (h : KeyAt H k q) : Dp K H (.ref q) (pkD k) := by
  obtain ⟨u, v, h1, h2, h3⟩ := h
  exact .tup (SqT.of h1) (.cons (.tup (SqT.of h2) (dp_strs' _)) (.cons (.tup (SqT.of h3) (dp_strs' _)) .nil))
theorem reads_strs {h : Heap} : ∀ {l : List Str} {us : List Value} {as : List Addr}, ReadsAll h us (l.map .str) as → as = []
  | [], _, _, r => by
    cases r
    rfl
  | x :: l, _, _, r => by
    cases r with
    | cons r1 r2 =>
      cases r1
      rw [reads_strs r2]
      rfl
theorem reads_two {h : Heap} {d1 d2 : PyData} : ∀ {l : List Value} {as : List Addr}, ReadsAll h l [d1, d2] as → ∃ v1 v2 as1 as2, Reads h v1 d1 as1 ∧ Reads h v2 d2 as2 ∧ as = as1 ++ (as2 ++ [])
  | _, _, .cons r1 (.cons r2 .nil) => ⟨_, _, _, _, r1, r2, rfl⟩
theorem reads_tup {h : Heap} {l : List Str} {v : Value} {as : List Addr} (r : Reads h v (.tuple (l.map .str)) as) : as = [] := by
  cases r with
  | tuple h1 h2 h3 h4 => exact reads_strs h4
theorem reads_pk {h : Heap} {k : PK} {v : Value} {as : List Addr} (r : Reads h v (pkD k) as) : as = [] := by
  unfold pkD at r
  cases r with
  | tuple h1 h2 h3 h4 =>
    obtain ⟨v1, v2, as1, as2, r1, r2, e⟩ := reads_two h4
    rw [e, reads_tup r1, reads_tup r2]
    rfl
theorem each_refs : ∀ {ys : List (PK × Addr)} {vs : List Value}, vs = ys.map (fun x => Value.ref x.2) → EachIs (fun v x => v = Value.ref x.2) vs ys
  | [], _, e => by
    subst e
    exact .nil
  | y :: ys, _, e => by
    subst e
    exact .cons rfl (each_refs rfl)
theorem each_reads2 {h : Heap} {a : Addr} : ∀ {ys : List (PK × Addr)} {vs : List Value}, vs = ys.map (fun x => Value.ref x.2) → (∀ x ∈ ys, ∃ as, Reads h (.ref x.2) (pkD x.1) as ∧ a ∉ as) → EachIs (fun v x => ∃ as, Reads h v (pkD x.1) as ∧ a ∉ as) vs ys
  | [], _, e, _ => by
    subst e
    exact .nil
  | y :: ys, _, e, hy => by
    subst e
    exact .cons (hy y (by simp)) (each_reads2 rfl fun x hx => hy x (List.mem_cons_of_mem _ hx))
theorem vals_refs : ∀ {out : List Value} {bs : List (PK × Addr)}, EachIs (fun v x => v = Value.ref x.2) out bs → Vals (bs.map fun x => V.ref x.2) out
  | _, _, .nil => .nil
  | _, _, .cons r t => .cons r (vals_refs t)
/-- sorted(d): its keys, in some order -/
theorem cr_sortedN (hcalm : X.calm = true) (hu : X.A.units + 64 < cLine) : CallR X (.builtin "sorted") (fun xs H Q => ∃ (a : Addr) (ys : List (PK × Addr)), xs = [V.ref a] ∧ H a = some (PO X.prog X.w a ys) ∧ KeysAt H ys ∧ ys.length < 100000 ∧
    ∀ (zs : List (PK × Addr)) (p : Addr), zs.Perm ys → H p = none → Q (.ref p) (upd H p (.lst (zs.map fun x => V.ref x.2)))) := by
  intro pins s σ H xs us Q I r h
  obtain ⟨a, ys, rfl, ha, ks, hl, q⟩ := h
  obtain ⟨u, rfl, ru⟩ := vals1 r
  cases ru
  obtain ⟨lo, dd⟩ := po_of I.hok ha ks
  obtain ⟨o, es, ep, ho, hx, hd, he, _, _⟩ := dd
  have hes : es.size = ys.length := by rw [← Array.length_toList, he, List.length_map, List.length_map]
  refine Calls.call_function_entry PyProof.Rows.kind_sorted PyProof.Rows.plain_sorted PyProof.Rows.entry_sorted (PyProof.Rows.args_sorted1 _) ?_
  unfold Builtin.«sorted»
  refine wpAny_bind (m := checkCount "sorted" 1 1 _) (wpAny_pure ?_)
  refine wpAny_bind (kdu_collect (A := X.A.in1) (src_raw (es := es) (ep := ep) lo) (I.ok.hd hcalm) ⟨o, ho, hx, hd⟩ (by rw [hes]; exact Nat.le_of_lt (sz_lt hl)) fun h' tk acc hk hacc => ?_)
  have hal : acc.toList.length = ys.length := by rw [Array.length_toList, hacc.1, hes]
  have hA : acc.toList = ys.map fun x => Value.ref x.2 := by
    apply List.ext_getElem?
    intro i
    rw [List.getElem?_map]
    by_cases hi : i < ys.length
    · have hi' : i < acc.toList.length := by rw [hal]; exact hi
      have hi2 : i < es.size := by rw [hes]; exact hi
      obtain ⟨hi3, e1⟩ := hacc.2 i acc.toList[i] (by rw [← Array.getElem?_toList]; exact List.getElem?_eq_getElem hi')
      have e2 : es.toList[i]? = ((ys.map (entN X.prog X.w)).map (entryOfKey (nestedKind X.prog X.w)))[i]? := by rw [he]
      rw [List.getElem?_map, List.getElem?_map, List.getElem?_eq_getElem hi, List.getElem?_eq_getElem (by rw [Array.length_toList]; exact hi2)] at e2
      have e3 := Option.some.inj e2
      rw [List.getElem?_eq_getElem hi', List.getElem?_eq_getElem hi, e1]
      show some es[i].key = some _
      rw [show es[i] = es.toList[i]'(by rw [Array.length_toList]; exact hi2) from (Array.getElem_toList ..).symm, e3]
      rfl
    · rw [List.getElem?_eq_none (by rw [hal]; omega), List.getElem?_eq_none (by omega)]
      rfl
  have I1 : Inv X pins σ H { s with heap := h', toks := tk } := I.kept hk
  refine wpAny_bind (wpAny_newList ?_ (by rw [hal]; exact Nat.le_of_lt (sz_lt hl)))
  have hoL : (h'.push (seqObj "list" acc.toList.toArray 0)).get? h'.objs.size = some (seqObj "list" acc.toList.toArray 0) := Heap.get?_push_size _ rfl
  show wpAny _ _ _ _ _ { s with heap := h'.push (seqObj "list" acc.toList.toArray 0), toks := tk }
  have hrd : ∀ x ∈ ys, ∃ as, Reads (h'.push (seqObj "list" acc.toList.toArray 0)) (.ref x.2) (pkD x.1) as ∧ h'.objs.size ∉ as := fun x hx => by
    obtain ⟨as, r1⟩ := Dp.reads I1 (pkD x.1) (.ref x.2) (.ref x.2) ((ks.at_ x hx).dp) rfl
    refine ⟨as, PyProof.Rows.Reads.keeps (fun _ _ e => Heap.get?_push_of_some _ e) r1, ?_⟩
    rw [reads_pk r1]
    exact fun h => nomatch h
  refine wpAny_bind (wpAny_holding (list_sort_data (s := { s with heap := h'.push (seqObj "list" acc.toList.toArray 0), toks := tk }) (bs := ys) (enc := fun x => pkD x.1) (R := fun v x => v = Value.ref x.2) hoL (each_refs hA) (each_reads2 hA hrd) (AllAlike.of fun a b => alike_pkD a.1 b.1) (Sortable.tuples fun b => ⟨_, _, rfl⟩) (Nat.le_of_lt (sz_lt hl))
    (fun b _ => by have := depth_pkD b.1; show X.A.in1.units + 1 + _ < cLine; rw [Around.in1_units]; omega) fun out ho2 eo => ?_))
  obtain ⟨e', he'⟩ := PyProof.Rows.sortedHeap_at (vs := acc.toList) (out := out.toArray) hoL
  have hp := List.mergeSort_perm ys (dataLe false fun x : PK × Addr => pkD x.1)
  refine wpAny_pure ⟨_, rfl, .ref h'.objs.size, upd H h'.objs.size (.lst ((ys.mergeSort (dataLe false fun x => pkD x.1)).map fun x => V.ref x.2)), I1.laid (t' := tk) (fun b u e => ?_) (Nat.le_refl _)
    (show ObjOk X.prog X.w _ _ _ (.lst _) from ⟨by rw [List.length_map, hp.length_eq]; exact Nat.le_of_lt (sz_lt hl), out, e', vals_refs eo, he'⟩), rfl, q _ _ hp (I1.hok.fresh (Nat.le_refl _))⟩
  have hb : b < h'.objs.size := Heap.lt_size e
  rw [PyProof.Rows.sortedHeap_old (Nat.ne_of_lt hb) (by rw [size_push']; exact Nat.lt_succ_of_lt hb)]
  exact Heap.get?_push_of_some _ e
end
end GK
set_option Elab.async false
set_option linter.all false
set_option maxRecDepth 100000
set_option maxHeartbeats 4000000
/-! rows of figures and orders, sorted -/
namespace GK
open PySem PySem.Spec PySem.W PyProof.Rows L2
def rowD (line : List Str) (b : Str) (t : List Str) : PyData := .tuple [.list ((G.figN line [b] b t).map .int), .tuple ((b :: t).map .str)]
theorem pairwise_or {α : Type} {R : α → α → Prop} : ∀ {l : List α}, l.Pairwise R → ∀ {a b : α}, a ∈ l → b ∈ l → a ≠ b → R a b ∨ R b a
  | [], _, _, _, h, _, _ => nomatch h
  | x :: r, h, a, b, ha, hb, hne => by
    obtain ⟨h1, h2⟩ := List.pairwise_cons.mp h
    rcases List.mem_cons.mp ha with ea | ha2
    · rcases List.mem_cons.mp hb with eb | hb2
      · exact absurd (ea.trans eb.symm) hne
      · rw [ea]
        exact Or.inl (h1 b hb2)
    · rcases List.mem_cons.mp hb with eb | hb2
      · rw [eb]
        exact Or.inr (h1 a ha2)
      · exact pairwise_or h2 ha2 hb2 hne
section
variable {line : List Str} {b : Str} {t u : List Str}
theorem alike_row : alike (rowD line b t) (rowD line b u) = true := by
  unfold rowD
  simp [alike, alikeAll, alike_ints, alike_strs]
theorem depth_row : (rowD line b t).depth ≤ 60 := by
  unfold rowD
  simp only [PyData.depth, PyData.depthAll]
  rw [depth_ints, depth_strs0]
  decide
theorem alike_tup (x y : List Str) : alike (.tuple (x.map .str)) (.tuple (y.map .str)) = true := by
  simp only [alike]
  exact alike_strs x y
theorem lt_row (h : G.figN line [b] b t < G.figN line [b] b u) : dataLt (rowD line b t) (rowD line b u) = true ∧ dataLt (rowD line b u) (rowD line b t) = false := by
  have hne : G.figN line [b] b t ≠ G.figN line [b] b u := fun e => by
    rw [e] at h
    exact absurd h (List.lt_irrefl _)
  have hna : ¬ G.figN line [b] b u < G.figN line [b] b t := fun e => absurd (List.lt_trans h e) (List.lt_irrefl _)
  have ev : ∀ x y : List Int, x ≠ y → PyData.eqv (.list (x.map .int)) (.list (y.map .int)) = false := fun x y hxy => by
    simp only [PyData.eqv]
    have hi : ∀ a b : Int, PyData.eqv (.int a) (.int b) = decide (a = b) := fun a b => by
      simp only [PyData.eqv]
      by_cases e : a = b
      · subst e
        simp
      · rw [decide_eq_false e]
        exact beq_eq_false_iff_ne.mpr e
    rw [eqvAll_map hi, decide_eq_false hxy]
  have dl : ∀ x y : List Int, dataLt (.list (x.map .int)) (.list (y.map .int)) = decide (x < y) := fun x y => by
    rw [dataLt_list]
    exact dataLt_ints x y
  unfold rowD
  rw [dataLt_pair (by simp [alike, alike_ints]) (alike_tup _ _), dataLt_pair (by simp [alike, alike_ints]) (alike_tup _ _), ev _ _ hne, ev _ _ hne.symm]
  simp only [Bool.false_eq_true, if_false]
  rw [dl, dl, decide_eq_true h, decide_eq_false hna]
  exact ⟨rfl, rfl⟩
theorem rows_sorted {bs : List (V × PyData)} {TS : List (List Str)} (hs : TS.Pairwise fun t u => G.figN line [b] b t < G.figN line [b] b u) (hp : (bs.map (·.2)).Perm (TS.map (rowD line b))) :
    (bs.mergeSort (dataLe false (·.2))).map (·.2) = TS.map (rowD line b) := by
  have tl := sortLe_total (listOrd itemOrd) false fun p : V × PyData => keyToks p.2
  have h1 := List.pairwise_mergeSort (le := dataLe false fun p : V × PyData => p.2) tl.trans (fun a c => by rcases tl.total a c with q | q <;> simp [dataLe, q]) bs
  have h2 : ((bs.mergeSort (dataLe false (·.2))).map (·.2)).Pairwise fun d e => (!dataLt e d) = true := by
    rw [List.pairwise_map]
    exact h1
  have hp2 : ((bs.mergeSort (dataLe false (·.2))).map (·.2)).Perm (TS.map (rowD line b)) := ((List.mergeSort_perm bs _).map _).trans hp
  refine List.Perm.eq_of_pairwise (le := fun d e => (!dataLt e d) = true) (fun d e hd he l1 l2 => ?_) h2 ?_ hp2
  · obtain ⟨t, ht, rfl⟩ := List.mem_map.mp (hp2.mem_iff.mp hd)
    obtain ⟨u, hu, rfl⟩ := List.mem_map.mp he
    by_cases q : t = u
    · rw [q]
    · exfalso
      rcases pairwise_or hs ht hu q with r | r
      · rw [(lt_row r).1] at l2
        cases l2
      · rw [(lt_row r).1] at l1
        cases l1
  · rw [List.pairwise_map]
    exact hs.imp fun {t u} r => by rw [(lt_row r).2]; rfl
/-- what reads as a row is a tuple of its figures and its order -/
theorem dp_strs_inv {K : PySem.W.Frag} {H : Hp} : ∀ {l : List Str} {xs : List V}, DpAll K H xs (l.map .str) → xs = l.map V.str
  | [], _, h => by
    cases h
    rfl
  | x :: l, _, h => by
    cases h with
    | cons h1 h2 =>
      cases h1
      rw [dp_strs_inv h2]
      rfl
theorem dp_row {K : PySem.W.Frag} {H : Hp} {v : V} (h : Dp K H v (rowD line b t)) : ∃ r vf o, v = .ref r ∧ SqT K H r [vf, .ref o] ∧ SqT K H o ((b :: t).map V.str) := by
  unfold rowD at h
  cases h with
  | @tup r xs ds h1 h2 =>
    cases h2 with
    | cons h3 h4 =>
      cases h4 with
      | cons h5 h6 =>
        cases h6
        cases h5 with
        | tup h7 h8 =>
          rw [dp_strs_inv h8] at h7
          exact ⟨_, _, _, rfl, h1, h7⟩
end
theorem rising_pw : ∀ {l : List Str} {p : Str}, risingS p l = true → (p :: l).Pairwise fun a b => a.cps.toList ≤ b.cps.toList
  | [], p, _ => List.pairwise_singleton _ _
  | x :: r, p, h => by
    have h' : (!ltCps x.cps.toList p.cps.toList && risingS x r) = true := h
    rw [Bool.and_eq_true, ltCps_eq] at h'
    have ih := rising_pw h'.2
    have hpx : p.cps.toList ≤ x.cps.toList := by
      have : ¬ x.cps.toList < p.cps.toList := by simpa using h'.1
      exact List.not_lt.mp this
    refine List.pairwise_cons.mpr ⟨fun y hy => ?_, ih⟩
    rcases List.mem_cons.mp hy with e | hy2
    · rw [e]
      exact hpx
    · exact List.le_trans hpx ((List.pairwise_cons.mp ih).1 y hy2)
theorem sorted_pw {l : List Str} (h : sortedS l = true) : l.Pairwise fun a b => a.cps.toList ≤ b.cps.toList := by
  cases l with
  | nil => exact List.Pairwise.nil
  | cons x r => exact rising_pw h
/-- two sorted lists of the same texts -/
theorem sortedS_uniq {xs ys : List Str} (h1 : sortedS xs = true) (h2 : sortedS ys = true) (hx : xs.Nodup) (hy : ys.Nodup) (hm : ∀ x, x ∈ xs ↔ x ∈ ys) : xs = ys := by
  refine List.Perm.eq_of_pairwise (le := fun a b => a.cps.toList ≤ b.cps.toList) (fun a b _ _ l1 l2 => ?_) (sorted_pw h1) (sorted_pw h2) ((List.perm_ext_iff_of_nodup hx hy).mpr hm)
  have e := List.le_antisymm l1 l2
  cases a with
  | mk a =>
    cases b with
    | mk b =>
      congr 1
      exact Array.toList_inj.mp e
end GK
set_option Elab.async false
set_option linter.all false
set_option maxRecDepth 100000
set_option maxHeartbeats 4000000
namespace GK
open PySem PySem.Spec PyProof.Rows L2
section
variable {P : Program} {w : World} {K : PySem.W.Frag} {mg : Str → Option Value} {base : Heap} {CK CW : Addr}
def spIsNumber : Sp := fun vs H Q _ => ∃ (i : Int), vs = [.int i] ∧ Q (.bl true) H
theorem sc_is_number : FnScope ["thing"] ["thing"] (defScope s_is_number) := ⟨rfl, rfl, rfl, by decide +kernel, rfl, by decide +kernel, by decide +kernel⟩
theorem ok_is_number (D : DefAt K mg "is_number" s_is_number) (T : Txt K mg CK CW) : C8.Cal P w K mg base 1 "is_number" spIsNumber [] := by
  refine cal_of D sc_is_number (ps := ["thing"]) (fun _ _ _ _ _ _ us hl => match us, hl with | [_], _ => rfl) (fun vs H Q E h => ?_) fun f cdv A outer s H vs Q E hr h => ?_
  · obtain ⟨i, rfl, _⟩ := h
    rfl
  · obtain ⟨i, rfl, q⟩ := h
    refine ⟨_, pss_one (ps_ret (pe_and (pe_callB call_isi (by rfl) T.b_isinstance (by decide +kernel) (pa_cons (pv 0) (pa_cons (pe_b "int" (by rfl) T.b_int (by decide +kernel)) pa_nil)))
       (pe_one (pe_not (pe_callB call_isi (by rfl) T.b_isinstance (by decide +kernel) (pa_cons (pv 0) (pa_cons (pe_b "bool" (by rfl) T.b_bool (by decide +kernel)) pa_nil))))))), ?_⟩
    refine ⟨_, rfl, _, _, _, _, true, rfl, .ty _, .base (.int i), kit_ty (by decide +kernel), true, rfl, ?_⟩
    refine iteT ⟨_, rfl, _, _, _, _, false, rfl, .ty _, .base (.int i), kit_ty (by decide +kernel), _, rfl, q⟩
end
end GK
set_option Elab.async false
set_option linter.all false
set_option maxRecDepth 100000
set_option maxHeartbeats 4000000
namespace GK
open PySem PySem.Spec PyProof.Rows L2
section
variable {P : Program} {w : World} {K : PySem.W.Frag} {mg : Str → Option Value} {base : Heap} {CK CW : Addr}
def spIsRest (K : PySem.W.Frag) : Sp := fun vs H Q _ => ∃ (v : V) (r : Nat × Nat), vs = [v] ∧ RestAt K H v r ∧ r.1 < r.2 ∧ ∀ H', Same H H' → Q (.bl true) H'
theorem sc_is_rest : FnScope ["thing", "remainder", "modulus", "part"] ["thing"] (defScope s_is_rest) := ⟨rfl, rfl, rfl, by decide +kernel, rfl, by decide +kernel, by decide +kernel⟩
theorem ok_is_rest (D : DefAt K mg "is_rest" s_is_rest) (T : Txt K mg CK CW) (c_is_number : C8.Cal P w K mg base 1 "is_number" spIsNumber []) : C8.Cal P w K mg base 2 "is_rest" (spIsRest K) [] := by
  refine cal_of D sc_is_rest (ps := ["thing"]) (fun _ _ _ _ _ _ us hl => match us, hl with | [_], _ => rfl) (fun vs H Q E h => ?_) fun f cdv A outer s H vs Q E hr h => ?_
  · obtain ⟨v, r, rfl, _⟩ := h
    rfl
  · obtain ⟨v, r, rfl, ⟨a, rfl, ha⟩, hlt, q⟩ := h
    refine ⟨_, (pss_cons (ps_if (PW.pt (pw_or (pt_not (pt_val (pe_callB call_isi (by rfl) T.b_isinstance (by decide +kernel) (pa_cons (pv 0) (pa_cons (pe_b "tuple" (by rfl) T.b_tuple (by decide +kernel)) pa_nil))))) (pw_or (pt_cmpR op_ne (pe_callB call_len_seq (by rfl) T.b_len (by decide +kernel) (pa_cons (pv 0) pa_nil)) pe_int (nomark _)) (pw_or1 (pt_not (pt_val (pe_callB (cr_all rfl) (by rfl) T.b_all (by decide +kernel) (pa_cons (pe_lc (own := [("part", 3)]) rfl sc_is_rest.nd (pi_tup (pv 0)) (blkOk_by (own := [("part", 3)]) (N := ["thing", "remainder", "modulus", "part"]) (sc := defScope s_is_rest) (by decide +kernel)) (fun _ _ _ _ _ => pg_name (i := 3) sc_is_rest.nd rfl (Or.inl rfl)) (fun _ _ _ _ _ => pts_nil) (fun _ _ _ _ _ => (C8.pe_c c_is_number hr (by decide) rfl (pa_cons (pv 3) pa_nil)))) pa_nil)))))))) 
      (pss_one (ps_ret pe_bl)) pss_nil)
    (pss_cons (ps_asg (pv 0) (pg_tup (by rfl) (pgs_cons (pg_name (i := 1) sc_is_rest.nd rfl (Or.inl rfl)) (pgs_cons (pg_name (i := 2) sc_is_rest.nd rfl (Or.inl rfl)) pgs_nil))))
    (pss_one (ps_ret (pe_chain op_le op_lt pe_int (pv 1) (pv 2)))))), ?_⟩
    refine ⟨_, rfl, _, _, _, _, true, rfl, .ty _, tyx_tup ha, kit_ty (by decide +kernel), true, rfl, ?_⟩
    refine iteF ?_
    refine ⟨_, rfl, a, _, rfl, .inr ha, rfl, _, rfl, ?_⟩
    refine iteF ?_
    refine ⟨_, rfl, a, rfl, ⟨_, ha⟩, fun L hL => ?_⟩
    refine lc_it walk_tup (Told H L fun i => (List.replicate i (V.bl true))) (Told.start hL rfl) (fun i H' _ p => same_tup p.same ha) (fun i x H' H'' hi p y => ?_) fun H' p => ?_
    · obtain ⟨rfl, hx⟩ := y
      have hi : i < 2 := hi
      rcases two_at hx with rfl | rfl
      all_goals
        refine ⟨rfl, yes_in ?_⟩
        exact ⟨_, rfl, _, rfl, p.put hL (Same.refl _) (rep_succ _ _) (by simp; omega)⟩
    · refine ⟨L, List.replicate 2 true, rfl, SqL.of p.at_, _, rfl, ?_⟩
      refine iteF ?_
      refine ⟨_, rfl, a, _, rfl, same_tup p.same ha, rfl, _, _, rfl, _, _, rfl, rfl, ?_⟩
      refine ⟨_, rfl, _, _, rfl, rfl, true, decide_eq_true (Int.natCast_nonneg _) ▸ rfl, ?_⟩
      refine iteT ⟨_, rfl, _, _, rfl, rfl, ?_⟩
      show Q (.bl (decide ((r.1 : Int) < (r.2 : Int)))) _
      rw [decide_eq_true (show (r.1 : Int) < (r.2 : Int) by omega)]
      exact q _ p.same
def spReqRest (K : PySem.W.Frag) : Sp := fun vs H Q _ => ∃ (v : V) (r : Nat × Nat), vs = [v] ∧ RestAt K H v r ∧ r.1 < r.2 ∧ ∀ H', Same H H' → Q .non H'
theorem sc_require_rest : FnScope ["thing"] ["thing"] (defScope s_require_rest) := ⟨rfl, rfl, rfl, by decide +kernel, rfl, by decide +kernel, by decide +kernel⟩
theorem ok_require_rest (D : DefAt K mg "require_rest" s_require_rest) (c_is_rest : C8.Cal P w K mg base 2 "is_rest" (spIsRest K) []) : C8.Cal P w K mg base 3 "require_rest" (spReqRest K) [] := by
  refine cal_of D sc_require_rest (ps := ["thing"]) (fun _ _ _ _ _ _ us hl => match us, hl with | [_], _ => rfl) (fun vs H Q E h => ?_) fun f cdv A outer s H vs Q E hr h => ?_
  · obtain ⟨v, r, rfl, _⟩ := h
    rfl
  · obtain ⟨v, r, rfl, ha, hlt, q⟩ := h
    refine ⟨_, (pss_one (ps_if (pt_not (pt_val (C8.pe_c c_is_rest hr (by decide) rfl (pa_cons (pv 0) pa_nil)))) 
      (pss_one ps_never) pss_nil)), ?_⟩
    refine ⟨_, rfl, v, r, rfl, ha, hlt, fun H' e => ⟨_, rfl, ?_⟩⟩
    refine iteF ?_
    exact q _ e
def spGcd : Sp := fun vs H Q _ => ∃ (a b : Nat), vs = [.int a, .int b] ∧ Q (.int (Nat.gcd a b : Nat)) H
theorem sc_greatest_divisor : FnScope ["one", "other"] ["one", "other"] (defScope s_greatest_divisor) := ⟨rfl, rfl, rfl, by decide +kernel, rfl, by decide +kernel, by decide +kernel⟩
theorem ok_greatest_divisor (D : DefAt K mg "greatest_divisor" s_greatest_divisor) : C8.Cal P w K mg base 1 "greatest_divisor" spGcd [] := by
  refine cal_of D sc_greatest_divisor (ps := ["one", "other"]) (fun _ _ _ _ _ _ us hl => match us, hl with | [_, _], _ => rfl) (fun vs H Q E h => ?_) fun f cdv A outer s H vs Q E hr h => ?_
  · obtain ⟨a, b, rfl, _⟩ := h
    rfl
  · obtain ⟨a, b, rfl, q⟩ := h
    refine ⟨_, (pss_cons (ps_while PassesOwn.never (pt_cmpR op_ne (pv 1) pe_int (nomark _)) 
      (pss_one (ps_par (i := 0) (j := 1) rfl sc_greatest_divisor.nd rfl rfl (by decide) rfl rfl (pa_cons (pv 1) (pa_cons (pe_op op_mod (pv 0) (pv 1)) pa_nil)) (by rfl))))
    (pss_one (ps_ret (pv 0)))), ?_⟩
    refine ⟨fun m σ H' => ∃ x y : Nat, σ = [some (.int x), some (.int y)] ∧ m = y ∧ H' = H ∧ Nat.gcd x y = Nat.gcd a b, ⟨b, a, b, rfl, rfl, rfl, rfl⟩, ?_⟩
    rintro m σ H' ⟨x, y, rfl, hm, rfl, e⟩
    subst hm
    refine ⟨_, rfl, rfl, _, rfl, ?_⟩
    by_cases hy : m = 0
    · subst hy
      refine iteF ?_
      refine ⟨_, rfl, ?_⟩
      rw [Nat.gcd_zero_right] at e
      rw [e]
      exact q
    · have hy0 : (V.int (m : Int)) ≠ V.int 0 := fun z => hy (by have := V.int.inj z; omega)
      rw [decide_eq_false hy0]
      refine iteT ?_
      refine ⟨_, fun σ' H2 n => n, ?_⟩
      refine ⟨_, rfl, _, rfl, _, rfl, _, _, rfl, rfl, (by show (0 : Int) < m; omega), _, _, rfl, ?_⟩
      exact ⟨x % m, Nat.mod_lt _ (Nat.pos_of_ne_zero hy), m, x % m, rfl, rfl, rfl, by rw [← e, Nat.gcd_comm x m, Nat.gcd_rec m x, Nat.gcd_comm]⟩
end
end GK
set_option Elab.async false
set_option linter.all false
set_option maxRecDepth 100000
set_option maxHeartbeats 4000000
namespace GK
open PySem PySem.Spec PyProof.Rows L2
section
variable {P : Program} {w : World} {K : PySem.W.Frag} {mg : Str → Option Value} {base : Heap} {CK CW : Addr}
def spInv : Sp := fun vs H Q _ => ∃ (a b : Nat), vs = [.int a, .int b] ∧ 0 < b ∧ b < 2 ^ 20 ∧ ∀ (inv : Int) (H' : Hp), 0 ≤ inv → inv < b → (b : Int) ∣ (Nat.gcd a b : Nat) - a * inv → Same H H' → Q (.int inv) H'
theorem sc_inverse_modulo : FnScope ["number", "modulus", "old_r", "r", "old_s", "s", "quotient"] ["number", "modulus"] (defScope s_inverse_modulo) := ⟨rfl, rfl, rfl, by decide +kernel, rfl, by decide +kernel, by decide +kernel⟩
theorem ok_inverse_modulo (D : DefAt K mg "inverse_modulo" s_inverse_modulo) (T : Txt K mg CK CW)   : C8.Cal P w K mg base 1 "inverse_modulo" spInv [] := by
  refine cal_of D sc_inverse_modulo (ps := ["number", "modulus"]) (fun _ _ _ _ _ _ us hl => match us, hl with | [_, _], _ => rfl) (fun vs H Q E h => ?_) fun f cdv A outer s H vs Q E hr h => ?_
  · obtain ⟨a, b, rfl, hb0, hb, q⟩ := h
    rfl
  · obtain ⟨a, b, rfl, hb0, hb, q⟩ := h
    refine ⟨_, (pss_cons (ps_asg (pe_tup (pa_cons (pe_op op_mod (pv 0) (pv 1)) (pa_cons (pv 1) (pa_cons pe_int (pa_cons pe_int pa_nil))))) (pg_tup (by rfl) (pgs_cons (pg_name (i := 2) sc_inverse_modulo.nd rfl (Or.inl rfl)) (pgs_cons (pg_name (i := 3) sc_inverse_modulo.nd rfl (Or.inl rfl)) (pgs_cons (pg_name (i := 4) sc_inverse_modulo.nd rfl (Or.inl rfl)) (pgs_cons (pg_name (i := 5) sc_inverse_modulo.nd rfl (Or.inl rfl)) pgs_nil))))))
    (pss_cons (ps_while PassesOwn.never (pt_cmpR op_ne (pv 3) pe_int (nomark _)) 
      (pss_cons (ps_set (i := 6) sc_inverse_modulo.nd rfl (Or.inl rfl) (pe_op op_fdiv (pv 2) (pv 3)))
      (pss_cons (ps_par (i := 2) (j := 3) rfl sc_inverse_modulo.nd rfl rfl (by decide) rfl rfl (pa_cons (pv 3) (pa_cons (pe_op op_sub (pv 2) (pe_op op_mul (pv 6) (pv 3))) pa_nil)) (by rfl))
      (pss_one (ps_par (i := 4) (j := 5) rfl sc_inverse_modulo.nd rfl rfl (by decide) rfl rfl (pa_cons (pv 5) (pa_cons (pe_op op_sub (pv 4) (pe_op op_mul (pv 6) (pv 5))) pa_nil)) (by rfl))))))
    (pss_one (ps_ret (pe_op op_mod (pv 4) (pv 1)))))), ?_⟩
    -- slots: number 0, modulus 1, old_r 2, r 3, old_s 4, s 5, quotient 6
    have hm0 : (0 : Int) < b := by omega
    refine ⟨_, rfl, _, rfl, _, _, rfl, rfl, hm0, _, rfl, by show 4 ≤ sizeLine; decide, fun t ht => ?_⟩
    refine ⟨t, _, rfl, SqT.of upd_same, rfl, _, _, rfl, _, _, rfl, _, _, rfl, _, _, rfl, rfl, ?_⟩
    refine ⟨fun m σ H' => ∃ (x y s t : Int) (v : Option V), σ = [some (.int a), some (.int b), some (.int x), some (.int y), some (.int s), some (.int t), v] ∧ m = y.toNat ∧ Same H H' ∧ G.Bez a b x y s t ∧ x ≤ b ∧ y ≤ b ∧ Int.gcd x y = Nat.gcd a b, ?_, ?_⟩
    · refine ⟨b, (a : Int) % b, b, 1, 0, none, rfl, rfl, same_upd ht, ⟨Int.emod_nonneg _ (Int.ne_of_gt hm0), Int.le_of_lt hm0, ?_, ?_⟩, Int.le_of_lt (Int.emod_lt_of_pos _ hm0), Int.le_refl _, ?_⟩
      · rw [Int.mul_one]
        refine ⟨-((a : Int) / b), ?_⟩
        have := Int.mul_ediv_add_emod a b
        rw [Int.mul_neg]
        omega
      · rw [Int.mul_zero, Int.sub_zero]
        exact Int.dvd_refl _
      · rw [← Int.natCast_emod, Int.gcd_natCast_natCast, Nat.gcd_comm a b, Nat.gcd_rec b a]
    rintro m σ H' ⟨x, y, s, t, v, rfl, hm, e, hB, hx, hy, hg⟩
    subst hm
    refine ⟨_, rfl, rfl, _, rfl, ?_⟩
    by_cases y0 : y = 0
    · subst y0
      refine iteF ?_
      refine ⟨_, rfl, _, rfl, _, _, rfl, rfl, hm0, ?_⟩
      rw [Int.gcd_zero_right] at hg
      have ex : x = (Nat.gcd a b : Nat) := by have := hB.a0; omega
      refine q _ _ (Int.emod_nonneg _ (Int.ne_of_gt hm0)) (Int.emod_lt_of_pos _ hm0) ?_ e
      have h1 := hB.ha
      rw [ex] at h1
      have h2 : ((Nat.gcd a b : Nat) : Int) - a * (s % b) = ((Nat.gcd a b : Nat) - a * s) + b * (a * (s / b)) := by
        have := Int.mul_ediv_add_emod s b
        have e3 : (a : Int) * s = a * (b * (s / b)) + a * (s % b) := by rw [← Int.mul_add, this]
        have e4 : (a : Int) * (b * (s / b)) = b * (a * (s / b)) := Int.mul_left_comm _ _ _
        omega
      rw [h2]
      exact Int.dvd_add h1 (Int.dvd_mul_right _ _)
    · have hy0 : V.int y ≠ V.int 0 := fun z => y0 (V.int.inj z)
      have yp : 0 < y := by have := hB.b0; omega
      rw [decide_eq_false hy0]
      refine iteT ?_
      refine ⟨_, fun σ' H2 n => n, ?_⟩
      have q0 : 0 ≤ x / y := Int.ediv_nonneg hB.a0 hB.b0
      have q1 : x / y ≤ x := Int.ediv_le_self _ hB.a0
      have qb : -(2 ^ 64) < x / y ∧ x / y < 2 ^ 64 := ⟨by omega, by omega⟩
      refine ⟨_, rfl, _, rfl, _, _, rfl, rfl, ⟨yp, by omega⟩, ?_⟩
      refine ⟨_, rfl, _, rfl, _, rfl, _, rfl, _, _, rfl, rfl, .inl qb, _, _, rfl, rfl, _, _, rfl, ?_⟩
      refine ⟨_, rfl, _, rfl, _, rfl, _, rfl, _, _, rfl, rfl, .inl qb, _, _, rfl, rfl, _, _, rfl, ?_⟩
      have hB' := hB.turn yp
      have hl : x - x / y * y < y := by
        have h1 := Int.emod_lt_of_pos x yp
        have h2 := Int.mul_ediv_add_emod x y
        rw [Int.mul_comm] at h2
        omega
      refine ⟨_, ?_, y, x - x / y * y, t, s - x / y * t, some (.int (x / y)), rfl, rfl, e, hB', hy, ?_, ?_⟩
      · have := hB'.b0
        omega
      · omega
      · rw [G.turn_gcd hB.a0 yp, hg]
end
end GK
set_option Elab.async false
set_option linter.all false
set_option maxRecDepth 100000
set_option maxHeartbeats 4000000
namespace GK
open PySem PySem.Spec PyProof.Rows L2
section
variable {P : Program} {w : World} {K : PySem.W.Frag} {mg : Str → Option Value} {base : Heap} {CK CW : Addr}
/-- none, or a rest -/
def OptRest (K : PySem.W.Frag) (H : Hp) (x : V) : Option (Nat × Nat) → Prop
  | none => x = .non
  | some c => RestAt K H x c
def spBoth (K : PySem.W.Frag) : Sp := fun vs H Q _ => ∃ (v u : V) (a b : Nat × Nat), vs = [v, u] ∧ RestAt K H v a ∧ RestAt K H u b ∧ a.1 < a.2 ∧ b.1 < b.2 ∧ a.2 < 2 ^ 1000 ∧ b.2 ≤ 1000 ∧ ∀ (x : V) (H' : Hp), Same H H' → OptRest K H' x (G.bothN a b) → Q x H'
theorem sc_both : FnScope ["one", "other", "remainder", "modulus", "other_remainder", "other_modulus", "divisor", "factor", "steps", "multiple"] ["one", "other"] (defScope s_both) := ⟨rfl, rfl, rfl, by decide +kernel, rfl, by decide +kernel, by decide +kernel⟩
theorem ok_both (D : DefAt K mg "both" s_both) (T : Txt K mg CK CW)  (c_inverse_modulo : C8.Cal P w K mg base 1 "inverse_modulo" spInv []) (c_greatest_divisor : C8.Cal P w K mg base 1 "greatest_divisor" spGcd []) (c_require_rest : C8.Cal P w K mg base 3 "require_rest" (spReqRest K) []) : C8.Cal P w K mg base 4 "both" (spBoth K) [] := by
  refine cal_of D sc_both (ps := ["one", "other"]) (fun _ _ _ _ _ _ us hl => match us, hl with | [_, _], _ => rfl) (fun vs H Q E h => ?_) fun f cdv A outer s H vs Q E hr h => ?_
  · obtain ⟨v, u, ⟨r1, m1⟩, ⟨r2, m2⟩, rfl, hv, hu', h1, h2, hm1, hm2, q⟩ := h
    rfl
  · obtain ⟨v, u, ⟨r1, m1⟩, ⟨r2, m2⟩, rfl, hv, hu', h1, h2, hm1, hm2, q⟩ := h
    refine ⟨_, (pss_cons (ps_expr (C8.pe_c c_require_rest hr (by omega) rfl (pa_cons (pv 0) pa_nil)))
    (pss_cons (ps_expr (C8.pe_c c_require_rest hr (by omega) rfl (pa_cons (pv 1) pa_nil)))
    (pss_cons (ps_asg (pv 0) (pg_tup (by rfl) (pgs_cons (pg_name (i := 2) sc_both.nd rfl (Or.inl rfl)) (pgs_cons (pg_name (i := 3) sc_both.nd rfl (Or.inl rfl)) pgs_nil))))
    (pss_cons (ps_asg (pv 1) (pg_tup (by rfl) (pgs_cons (pg_name (i := 4) sc_both.nd rfl (Or.inl rfl)) (pgs_cons (pg_name (i := 5) sc_both.nd rfl (Or.inl rfl)) pgs_nil))))
    (pss_cons (ps_set (i := 6) sc_both.nd rfl (Or.inl rfl) (C8.pe_c c_greatest_divisor hr (by omega) rfl (pa_cons (pv 3) (pa_cons (pv 5) pa_nil))))
    (pss_cons (ps_if (pt_cmpR op_ne (pe_op op_mod (pe_op op_sub (pv 4) (pv 2)) (pv 6)) pe_int (nomark _)) 
      (pss_one (ps_ret pe_non)) pss_nil)
    (pss_cons (ps_set (i := 7) sc_both.nd rfl (Or.inl rfl) (pe_op op_fdiv (pe_op op_sub (pv 4) (pv 2)) (pv 6)))
    (pss_cons (ps_set (i := 8) sc_both.nd rfl (Or.inl rfl) (pe_op op_mul (pv 7) (C8.pe_c c_inverse_modulo hr (by omega) rfl (pa_cons (pe_op op_fdiv (pv 3) (pv 6)) (pa_cons (pe_op op_fdiv (pv 5) (pv 6)) pa_nil)))))
    (pss_cons (ps_set (i := 9) sc_both.nd rfl (Or.inl rfl) (pe_op op_mul (pe_op op_fdiv (pv 3) (pv 6)) (pv 5)))
    (pss_one (ps_ret (pe_tup (pa_cons (pe_op op_mod (pe_op op_add (pv 2) (pe_op op_mulW (pv 3) (pv 8))) (pv 9)) (pa_cons (pv 9) pa_nil)))))))))))))), ?_⟩
    -- slots: one 0, other 1, remainder 2, modulus 3, other_remainder 4, other_modulus 5, divisor 6, factor 7, steps 8, multiple 9
    have h1 : r1 < m1 := h1
    have h2 : r2 < m2 := h2
    have hm1 : m1 < 2 ^ 1000 := hm1
    have hm2 : m2 ≤ 1000 := hm2
    have p1 : 0 < m1 := by omega
    have p2 : 0 < m2 := by omega
    have g0 : 0 < Nat.gcd m1 m2 := Nat.gcd_pos_of_pos_left _ p1
    have gl : Nat.gcd m1 m2 ≤ m2 := Nat.gcd_le_right _ p2
    have gz : (0 : Int) < (Nat.gcd m1 m2 : Nat) := by omega
    refine ⟨_, rfl, v, (r1, m1), rfl, hv, h1, fun H1 e1 => ?_⟩
    refine ⟨_, rfl, u, (r2, m2), rfl, hu'.same e1, h2, fun H2 e2 => ?_⟩
    have e02 := e1.trans e2
    obtain ⟨a1, rfl, t1⟩ := hv
    obtain ⟨a2, rfl, t2⟩ := hu'
    refine ⟨_, rfl, a1, _, rfl, same_tup e02 t1, rfl, _, _, rfl, _, _, rfl, rfl, ?_⟩
    refine ⟨_, rfl, a2, _, rfl, same_tup e02 t2, rfl, _, _, rfl, _, _, rfl, rfl, ?_⟩
    refine ⟨_, rfl, _, rfl, m1, m2, rfl, ?_⟩
    refine ⟨_, rfl, _, rfl, _, _, rfl, rfl, _, rfl, _, _, rfl, rfl, gz, rfl, _, rfl, ?_⟩
    by_cases hd : ((r2 : Int) - r1) % (Nat.gcd m1 m2 : Nat) = 0
    · refine iteNS (by show V.int (((r2 : Int) - r1) % (Nat.gcd m1 m2 : Nat)) = V.int 0; rw [hd]) ?_
      have hdd := Int.dvd_of_emod_eq_zero hd
      refine ⟨_, rfl, _, rfl, _, _, rfl, rfl, _, rfl, _, _, rfl, rfl, ⟨gz, by omega⟩, ?_⟩
      refine ⟨_, rfl, _, rfl, _, rfl, _, _, rfl, rfl, ⟨gz, by omega⟩, _, rfl, _, rfl, _, _, rfl, rfl, ⟨gz, by omega⟩, ?_⟩
      have dv : m2 / Nat.gcd m1 m2 ≤ m2 := Nat.div_le_self _ _
      have dp : 0 < m2 / Nat.gcd m1 m2 := Nat.div_pos gl g0
      refine ⟨m1 / Nat.gcd m1 m2, m2 / Nat.gcd m1 m2, rfl, dp, Nat.lt_of_le_of_lt (Nat.le_trans dv hm2) (by decide), fun inv H3 i0 i1 i2 e3 => ?_⟩
      have i1' : inv < 1000 := by omega
      refine ⟨_, _, rfl, rfl, .inr ⟨by omega, by omega⟩, ?_⟩
      refine ⟨_, rfl, _, rfl, _, _, rfl, rfl, ⟨gz, by omega⟩, _, rfl, _, _, rfl, rfl, .inr ⟨by omega, by omega⟩, ?_⟩
      have hf : ((((r2 : Int) - r1) / (Nat.gcd m1 m2 : Nat))).natAbs < 2 ^ 1001 := by
        obtain ⟨f, ef⟩ := hdd
        have e5 : ((r2 : Int) - r1) / (Nat.gcd m1 m2 : Nat) = f := by
          rw [ef]
          exact Int.mul_ediv_cancel_left _ (by omega)
        rw [e5]
        have e6 : ((r2 : Int) - r1).natAbs = Nat.gcd m1 m2 * f.natAbs := by rw [ef, Int.natAbs_mul, Int.natAbs_natCast]
        have e7 : f.natAbs ≤ Nat.gcd m1 m2 * f.natAbs := Nat.le_mul_of_pos_left _ g0
        have e8 : ((r2 : Int) - r1).natAbs < 2 ^ 1000 + 1000 := by omega
        have e9 : (2 : Nat) ^ 1000 + 1000 ≤ 2 ^ 1001 := by decide +kernel
        omega
      have hs := wide_lt (i := ((r2 : Int) - r1) / (Nat.gcd m1 m2 : Nat)) (j := inv) (a := 1001) (b := 20) hf (by omega)
      have hM : (0 : Int) < ((m1 / Nat.gcd m1 m2 * m2 : Nat) : Int) := by
        have := Nat.mul_pos (Nat.div_pos (Nat.gcd_le_left _ p1) g0) p2
        omega
      refine ⟨_, rfl, _, rfl, _, rfl, _, _, rfl, rfl, wide_mul (a := 1000) (b := 1021) (by rw [Int.natAbs_natCast]; exact hm1) hs (by decide) (by decide) (by decide), _, _, rfl, rfl, _, rfl, _, _, rfl, rfl, hM, _, rfl, by show 2 ≤ sizeLine; decide, fun p hp => ?_⟩
      refine q _ _ ((e02.trans e3).trans (same_upd hp)) ?_
      rw [G.both_formula h1 h2 hdd (inv := inv) (by
        rw [Nat.gcd_div_gcd_div_gcd_of_pos_left p1] at i2
        exact i2)]
      refine ⟨p, rfl, ?_⟩
      have e10 := Int.emod_nonneg ((r1 : Int) + m1 * ((((r2 : Int) - r1) / (Nat.gcd m1 m2 : Nat)) * inv)) (Int.ne_of_gt hM)
      show SqT K _ p [.int ((((r1 : Int) + m1 * ((((r2 : Int) - r1) / (Nat.gcd m1 m2 : Nat)) * inv)) % ((m1 / Nat.gcd m1 m2 * m2 : Nat) : Int)).toNat : Nat), .int ((m1 / Nat.gcd m1 m2 * m2 : Nat) : Int)]
      rw [Int.toNat_of_nonneg e10]
      exact SqT.of upd_same
    · rw [decide_eq_false (show ¬ V.int (((r2 : Int) - r1) % (Nat.gcd m1 m2 : Nat)) = V.int 0 from fun z => hd (V.int.inj z))]
      refine iteT ?_
      refine q _ _ e02 ?_
      rw [G.bothN_isNone]
      · rfl
      · rintro ⟨x, x1, x2⟩
        apply hd
        have x1 : x % m1 = r1 := x1
        have x2 : x % m2 = r2 := x2
        have y1 : (x : Int) % (Nat.gcd m1 m2 : Nat) = (r1 : Int) % (Nat.gcd m1 m2 : Nat) := by
          rw [← x1]
          exact_mod_cast (Nat.mod_mod_of_dvd x (Nat.gcd_dvd_left m1 m2)).symm
        have y2 : (x : Int) % (Nat.gcd m1 m2 : Nat) = (r2 : Int) % (Nat.gcd m1 m2 : Nat) := by
          rw [← x2]
          exact_mod_cast (Nat.mod_mod_of_dvd x (Nat.gcd_dvd_right m1 m2)).symm
        rw [Int.sub_emod, ← y1, ← y2]
        simp
theorem size_stp {a b c : Int} (h : a < b) (hc : 0 < c) : Builtin.Range.rangeSize a b c = (b - a - 1) / c + 1 := by
  unfold Builtin.Range.rangeSize
  rw [if_pos hc, if_pos h]
theorem small_stp {a b c : Int} (ha : 0 ≤ a) (hab : a < b) (hb : b ≤ 100000) (hc : 0 < c ∧ c ≤ 100000) : Builtin.Range.small a b c = true := by
  have h1 : (b - a - 1) / c ≤ b - a - 1 := Int.ediv_le_self _ (by omega)
  have h2 : 0 ≤ (b - a - 1) / c := Int.ediv_nonneg (by omega) (by omega)
  unfold Builtin.Range.small
  rw [size_stp hab hc.1]
  simp only [Builtin.Range.rangeFitsLong, Bool.and_eq_true, Bool.or_eq_true, decide_eq_true_eq, beq_iff_eq, if_pos hc.1]
  omega
def intL (l : List Nat) : List V := l.map fun n => V.int (n : Nat)
def spBy (K : PySem.W.Frag) : Sp := fun vs H Q _ => ∃ (v : V) (a : Nat × Nat) (k : Nat), vs = [v, .int k] ∧ RestAt K H v a ∧ a.1 < a.2 ∧ 1 ≤ k ∧ k ≤ 1000 ∧ ∀ (p : Addr) (H' : Hp), Same H H' → H p = none → H' p = some (.lst (intL (G.byN a.1 a.2 k))) → Q (.ref p) H'
theorem sc_by : FnScope ["rest", "m", "remainder", "modulus", "divisor"] ["rest", "m"] (defScope s_by) := ⟨rfl, rfl, rfl, by decide +kernel, rfl, by decide +kernel, by decide +kernel⟩
theorem ok_by (D : DefAt K mg "by" s_by) (T : Txt K mg CK CW)  (c_greatest_divisor : C8.Cal P w K mg base 1 "greatest_divisor" spGcd []) (c_is_number : C8.Cal P w K mg base 1 "is_number" spIsNumber []) (c_require_rest : C8.Cal P w K mg base 3 "require_rest" (spReqRest K) []) : C8.Cal P w K mg base 4 "by" (spBy K) [] := by
  refine cal_of D sc_by (ps := ["rest", "m"]) (fun _ _ _ _ _ _ us hl => match us, hl with | [_, _], _ => rfl) (fun vs H Q E h => ?_) fun f cdv A outer s H vs Q E hr h => ?_
  · obtain ⟨v, ⟨r, m⟩, k, rfl, hv, hlt, hk1, hk2, q⟩ := h
    rfl
  · obtain ⟨v, ⟨r, m⟩, k, rfl, hv, hlt, hk1, hk2, q⟩ := h
    refine ⟨_, (pss_cons (ps_expr (C8.pe_c c_require_rest hr (by omega) rfl (pa_cons (pv 0) pa_nil)))
    (pss_cons (ps_if (PW.pt (pw_or (pt_not (pt_val (C8.pe_c c_is_number hr (by omega) rfl (pa_cons (pv 1) pa_nil)))) (pw_or1 (pt_not (pt_chain op_le op_le pe_int (pv 1) (C8.pe_gc rfl T.g_MOST_BY)))))) 
      (pss_one ps_never) pss_nil)
    (pss_cons (ps_asg (pv 0) (pg_tup (by rfl) (pgs_cons (pg_name (i := 2) sc_by.nd rfl (Or.inl rfl)) (pgs_cons (pg_name (i := 3) sc_by.nd rfl (Or.inl rfl)) pgs_nil))))
    (pss_cons (ps_set (i := 4) sc_by.nd rfl (Or.inl rfl) (C8.pe_c c_greatest_divisor hr (by omega) rfl (pa_cons (pv 3) (pa_cons (pv 1) pa_nil))))
    (pss_one (ps_ret (pe_listRg3 rfl (by rfl) T.b_list (by rfl) T.b_range (pa_cons (pe_op op_mod (pv 2) (pv 4)) (pa_cons (pv 1) (pa_cons (pv 4) pa_nil)))))))))), ?_⟩
    -- slots: rest 0, m 1, remainder 2, modulus 3, divisor 4
    have hlt : r < m := hlt
    have g0 : 0 < Nat.gcd m k := Nat.gcd_pos_of_pos_right _ hk1
    have gl : Nat.gcd m k ≤ k := Nat.gcd_le_right _ hk1
    refine ⟨_, rfl, v, (r, m), rfl, hv, hlt, fun H1 e1 => ?_⟩
    refine ⟨_, rfl, k, rfl, _, rfl, ?_⟩
    refine iteF ?_
    refine ⟨_, rfl, _, _, rfl, rfl, true, bl_t (show (1 : Int) ≤ k by omega), ?_⟩
    refine iteT ⟨_, _, rfl, rfl, true, bl_t (show (k : Int) ≤ 1000 by omega), ?_⟩
    refine iteF ?_
    obtain ⟨a, rfl, t⟩ := hv
    refine ⟨_, rfl, a, _, rfl, same_tup e1 t, rfl, _, _, rfl, _, _, rfl, rfl, ?_⟩
    refine ⟨_, rfl, _, rfl, m, k, rfl, ?_⟩
    refine ⟨_, rfl, _, rfl, _, _, rfl, rfl, (by show (0 : Int) < (Nat.gcd m k : Nat); omega), _, rfl, _, rfl, ?_⟩
    have rl : r % Nat.gcd m k < Nat.gcd m k := Nat.mod_lt _ g0
    refine ⟨(r % Nat.gcd m k : Nat), k, (Nat.gcd m k : Nat), k / Nat.gcd m k, rfl, ⟨by omega, by omega, ?_, ?_⟩, Nat.le_trans (Nat.div_le_self _ _) (by omega), fun p hp => ?_⟩
    · refine small_stp ?_ ?_ ?_ ?_ <;> omega
    · rw [size_stp (by omega) (by omega)]
      have : ((k : Int) - (r % Nat.gcd m k : Nat) - 1) / (Nat.gcd m k : Nat) + 1 = ((k / Nat.gcd m k : Nat) : Int) := by
        obtain ⟨c, hc⟩ : Nat.gcd m k ∣ k := Nat.gcd_dvd_right _ _
        have e1 : k / Nat.gcd m k = c := by
          conv => lhs; lhs; rw [hc]
          exact Nat.mul_div_cancel_left _ g0
        rw [e1]
        have cp : 0 < c := Nat.pos_of_ne_zero fun z => by rw [z, Nat.mul_zero] at hc; omega
        have e2 : (k : Int) = (Nat.gcd m k : Nat) * c := by exact_mod_cast hc
        have e3 : ((k : Int) - (r % Nat.gcd m k : Nat) - 1) = ((Nat.gcd m k : Nat) - 1 - (r % Nat.gcd m k : Nat)) + (Nat.gcd m k : Nat) * ((c : Int) - 1) := by
          rw [Int.mul_sub, ← e2]
          omega
        rw [e3, Int.add_mul_ediv_left _ _ (by omega), Int.ediv_eq_zero_of_lt (by omega) (by omega)]
        omega
      exact this
    · refine q p _ (e1.trans (same_upd hp)) (e1.free hp) ?_
      rw [upd_same, G.byN_steps hk1 rfl]
      unfold intL stepV
      rw [List.map_map]
      rfl
def spLeast (K : PySem.W.Frag) : Sp := fun vs H Q _ => ∃ (v : V) (a : Nat × Nat), vs = [v] ∧ RestAt K H v a ∧ a.1 < a.2 ∧ ∀ (H' : Hp), Same H H' → Q (.int (a.1 : Nat)) H'
theorem sc_least : FnScope ["rest"] ["rest"] (defScope s_least) := ⟨rfl, rfl, rfl, by decide +kernel, rfl, by decide +kernel, by decide +kernel⟩
theorem ok_least (D : DefAt K mg "least" s_least) (T : Txt K mg CK CW)  (c_require_rest : C8.Cal P w K mg base 3 "require_rest" (spReqRest K) []) : C8.Cal P w K mg base 4 "least" (spLeast K) [] := by
  refine cal_of D sc_least (ps := ["rest"]) (fun _ _ _ _ _ _ us hl => match us, hl with | [_], _ => rfl) (fun vs H Q E h => ?_) fun f cdv A outer s H vs Q E hr h => ?_
  · obtain ⟨v, a, rfl, hv, hlt, q⟩ := h
    rfl
  · obtain ⟨v, a, rfl, hv, hlt, q⟩ := h
    refine ⟨_, (pss_cons (ps_expr (C8.pe_c c_require_rest hr (by omega) rfl (pa_cons (pv 0) pa_nil)))
    (pss_one (ps_ret (pe_ix ix_tup (pv 0) pe_int (fun _ _ => rfl))))), ?_⟩
    -- slots: rest 0
    refine ⟨_, rfl, v, a, rfl, hv, hlt, fun H1 e1 => ?_⟩
    obtain ⟨p, rfl, t⟩ := hv
    exact ⟨_, rfl, p, _, 0, _, rfl, rfl, same_tup e1 t, rfl, q _ e1⟩
end
end GK
set_option Elab.async false
set_option linter.all false
set_option maxRecDepth 100000
set_option maxHeartbeats 4000000
namespace GK
open PySem PySem.Spec PyProof.Rows L2
section
variable {P : Program} {w : World} {K : PySem.W.Frag} {mg : Str → Option Value} {base : Heap} {CK CW : Addr}
def letters : Str := "abcdefghijklmnopqrstuvwxyz"
/-- a name: 1 to 8 small letters -/
structure NameOk (x : Str) : Prop where
  one : 1 ≤ x.length
  most : x.length ≤ 8
  all : ∀ c ∈ x.cps.toList, c ∈ letters.cps.toList
structure NamesOk (xs : List Str) : Prop where
  few : 2 ≤ xs.length
  most : xs.length ≤ 12
  ok : ∀ x ∈ xs, NameOk x
  nd : xs.Nodup
def spIsName : Sp := fun vs H Q _ => ∃ (x : Str), vs = [.str x] ∧ NameOk x ∧ ∀ H', Same H H' → Q (.bl true) H'
theorem sc_is_name : FnScope ["thing", "letter"] ["thing"] (defScope s_is_name) := ⟨rfl, rfl, rfl, by decide +kernel, rfl, by decide +kernel, by decide +kernel⟩
theorem ok_is_name (D : DefAt K mg "is_name" s_is_name) (T : Txt K mg CK CW)   : C8.Cal P w K mg base 1 "is_name" spIsName [] := by
  refine cal_of D sc_is_name (ps := ["thing"]) (fun _ _ _ _ _ _ us hl => match us, hl with | [_], _ => rfl) (fun vs H Q E h => ?_) fun f cdv A outer s H vs Q E hr h => ?_
  · obtain ⟨x, rfl, ok, q⟩ := h
    rfl
  · obtain ⟨x, rfl, ok, q⟩ := h
    refine ⟨_, (pss_cons (ps_if (PW.pt (pw_or (pt_not (pt_val (pe_callB call_isi (by rfl) T.b_isinstance (by decide +kernel) (pa_cons (pv 0) (pa_cons (pe_b "str" (by rfl) T.b_str (by decide +kernel)) pa_nil))))) (pw_or1 (pt_not (pt_chain op_le op_le pe_int (pe_callB call_len_str (by rfl) T.b_len (by decide +kernel) (pa_cons (pv 0) pa_nil)) (C8.pe_gc rfl T.g_MOST_LETTERS)))))) 
      (pss_one (ps_ret pe_bl)) pss_nil)
    (pss_one (ps_ret (pe_callB (cr_all rfl) (by rfl) T.b_all (by decide +kernel) (pa_cons (pe_lc (own := [("letter", 1)]) rfl sc_is_name.nd (pi_str (pv 0)) (blkOk_by (own := [("letter", 1)]) (N := ["thing", "letter"]) (sc := defScope s_is_name) (by decide +kernel)) (fun _ _ _ _ _ => pg_name (i := 1) sc_is_name.nd rfl (Or.inl rfl)) (fun _ _ _ _ _ => pts_nil) (fun _ _ _ _ _ => (pe_cmpR op_in_sign (pv 1) (C8.pe_gc rfl T.g_LETTERS) (by rfl)))) pa_nil))))), ?_⟩
    -- slots: thing 0, letter 1
    have o1 := ok.one
    have o2 := ok.most
    refine ⟨_, rfl, _, _, _, _, true, rfl, .ty _, .base (.str x), kit_ty (by decide +kernel), true, rfl, ?_⟩
    refine iteF ?_
    refine ⟨_, rfl, x, rfl, sz_le (by omega), _, _, rfl, rfl, true, bl_t (show (1 : Int) ≤ (x.length : Nat) by omega), ?_⟩
    refine iteT ⟨_, _, rfl, rfl, true, bl_t (show ((x.length : Nat) : Int) ≤ 8 by omega), ?_⟩
    refine iteF ?_
    refine ⟨_, rfl, x, rfl, fun L hL => ?_⟩
    refine lc_it walk_str (Told H L fun i => List.replicate i (V.bl true)) (Told.start hL rfl) (fun _ _ _ _ => trivial) (fun i z H' H'' hi p y => ?_) fun H' p => ?_
    · obtain ⟨rfl, c, hc, rfl⟩ := y
      refine ⟨rfl, yes_in ?_⟩
      refine ⟨_, rfl, c, letters, rfl, rfl, ?_⟩
      have hm : c ∈ letters.cps.toList := ok.all c (by
        have := Array.mem_of_getElem? hc
        exact Array.mem_toList_iff.mpr this)
      rw [decide_eq_true hm]
      have hi : i < x.length := hi
      exact p.put hL (Same.refl _) (rep_succ _ _) (by simp; omega)
    · refine ⟨L, List.replicate x.cps.size true, rfl, SqL.of (by rw [← map_rep]; exact p.at_), ?_⟩
      rw [all_rep]
      exact q _ p.same
def spAreNames (K : PySem.W.Frag) : Sp := fun vs H Q _ => ∃ (a : Addr) (xs : List Str), vs = [.ref a] ∧ SqL K H a (xs.map V.str) ∧ NamesOk xs ∧ ∀ H', Same H H' → Q (.bl true) H'
theorem sc_are_names : FnScope ["thing", "name"] ["thing"] (defScope s_are_names) := ⟨rfl, rfl, rfl, by decide +kernel, rfl, by decide +kernel, by decide +kernel⟩
theorem ok_are_names (D : DefAt K mg "are_names" s_are_names) (T : Txt K mg CK CW)  (c_is_name : C8.Cal P w K mg base 1 "is_name" spIsName []) : C8.Cal P w K mg base 2 "are_names" (spAreNames K) [] := by
  refine cal_of D sc_are_names (ps := ["thing"]) (fun _ _ _ _ _ _ us hl => match us, hl with | [_], _ => rfl) (fun vs H Q E h => ?_) fun f cdv A outer s H vs Q E hr h => ?_
  · obtain ⟨a, xs, rfl, ha, ok, q⟩ := h
    rfl
  · obtain ⟨a, xs, rfl, ha, ok, q⟩ := h
    refine ⟨_, (pss_cons (ps_if (PW.pt (pw_or (pt_not (pt_val (pe_callB call_isiT (by rfl) T.b_isinstance (by decide +kernel) (pa_cons (pv 0) (pa_cons (pe_tup (pa_cons (pe_b "list" (by rfl) T.b_list (by decide +kernel)) (pa_cons (pe_b "tuple" (by rfl) T.b_tuple (by decide +kernel)) pa_nil))) pa_nil))))) (pw_or1 (pt_not (pt_chain op_le op_le (C8.pe_gc rfl T.g_FEWEST) (pe_callB call_len_seq (by rfl) T.b_len (by decide +kernel) (pa_cons (pv 0) pa_nil)) (C8.pe_gc rfl T.g_MOST)))))) 
      (pss_one (ps_ret pe_bl)) pss_nil)
    (pss_one (ps_ret (pe_and (pe_callB (cr_all rfl) (by rfl) T.b_all (by decide +kernel) (pa_cons (pe_lc (own := [("name", 1)]) rfl sc_are_names.nd (pi_list (pv 0)) (blkOk_by (own := [("name", 1)]) (N := ["thing", "name"]) (sc := defScope s_are_names) (by decide +kernel)) (fun _ _ _ _ _ => pg_name (i := 1) sc_are_names.nd rfl (Or.inl rfl)) (fun _ _ _ _ _ => pts_nil) (fun _ _ _ _ _ => (C8.pe_c c_is_name hr (by omega) rfl (pa_cons (pv 1) pa_nil)))) pa_nil)) (pe_one (pe_cmpR op_eq (pe_callB cr_lenTx (by rfl) T.b_len (by decide +kernel) (pa_cons (pe_callTy (cr_setTx rfl) (by rfl) T.b_set (by decide +kernel) (pa_cons (pv 0) pa_nil)) pa_nil)) (pe_callB call_len_seq (by rfl) T.b_len (by decide +kernel) (pa_cons (pv 0) pa_nil)) (nomark _))))))), ?_⟩
    -- slots: thing 0, name 1
    have o1 := ok.few
    have o2 := ok.most
    refine ⟨_, rfl, by show 2 ≤ sizeLine; decide, fun t ht => ?_⟩
    refine ⟨_, t, _, .type "list", [.type "list", .type "tuple"], true, rfl, upd_same, .cons (.ty _) (.cons (.ty _) .nil), tyx_lst ((same_upd ht).seq ha), rfl, true, rfl, ?_⟩
    refine iteF ?_
    have hl : (xs.map V.str).length = xs.length := List.length_map ..
    refine ⟨_, rfl, a, _, rfl, .inl ((same_upd ht).seq ha), _, _, rfl, rfl, true, bl_t (by rw [hl]; omega), ?_⟩
    refine iteT ⟨_, _, rfl, rfl, true, bl_t (by rw [hl]; omega), ?_⟩
    refine iteF ?_
    refine ⟨_, rfl, a, rfl, ⟨_, (same_upd ht).seq ha⟩, fun L hL => ?_⟩
    refine lc_it walk_list (Told _ L fun i => List.replicate i (V.bl true)) (Told.start hL rfl) (fun i H' _ p => p.same.seq ((same_upd ht).seq ha)) (fun i z H' H'' hi p y => ?_) fun H' p => ?_
    · obtain ⟨rfl, hz⟩ := y
      rw [List.getElem?_map] at hz
      obtain ⟨x, hx, rfl⟩ := Option.map_eq_some_iff.mp hz
      rw [hl] at hi
      refine ⟨rfl, yes_in ?_⟩
      exact ⟨_, rfl, x, rfl, ok.ok x (List.mem_of_getElem? hx), fun H3 e => p.put hL e (rep_succ _ _) (by simp; omega)⟩
    · refine ⟨L, List.replicate (xs.map V.str).length true, rfl, SqL.of (by rw [← map_rep]; exact p.at_), ?_⟩
      rw [all_rep]
      refine ⟨_, rfl, iteT ?_⟩
      have s1 := (same_upd ht).trans p.same
      refine ⟨_, rfl, a, xs, rfl, .inl (s1.seq ha), by omega, fun t2 ht2 => ?_⟩
      refine ⟨t2, xs, rfl, upd_same, fun ys hnd hm => ?_⟩
      refine ⟨_, rfl, a, _, rfl, .inl ((s1.trans (same_upd ht2)).seq ha), rfl, ?_⟩
      have e : ys.length = xs.length := ((List.perm_ext_iff_of_nodup hnd ok.nd).mpr hm).length_eq
      rw [decide_eq_true (by rw [hl, e])]
      exact q _ (s1.trans (same_upd ht2))
def spNeedNames (K : PySem.W.Frag) : Sp := fun vs H Q _ => ∃ (a : Addr) (xs : List Str), vs = [.ref a] ∧ SqL K H a (xs.map V.str) ∧ NamesOk xs ∧ ∀ H', Same H H' → Q .non H'
theorem sc_need_names : FnScope ["thing"] ["thing"] (defScope s_need_names) := ⟨rfl, rfl, rfl, by decide +kernel, rfl, by decide +kernel, by decide +kernel⟩
theorem ok_need_names (D : DefAt K mg "need_names" s_need_names) (T : Txt K mg CK CW)  (c_are_names : C8.Cal P w K mg base 2 "are_names" (spAreNames K) []) : C8.Cal P w K mg base 3 "need_names" (spNeedNames K) [] := by
  refine cal_of D sc_need_names (ps := ["thing"]) (fun _ _ _ _ _ _ us hl => match us, hl with | [_], _ => rfl) (fun vs H Q E h => ?_) fun f cdv A outer s H vs Q E hr h => ?_
  · obtain ⟨a, xs, rfl, ha, ok, q⟩ := h
    rfl
  · obtain ⟨a, xs, rfl, ha, ok, q⟩ := h
    refine ⟨_, (pss_one (ps_if (pt_not (pt_val (C8.pe_c c_are_names hr (by omega) rfl (pa_cons (pv 0) pa_nil)))) 
      (pss_one ps_never) pss_nil)), ?_⟩
    -- slots: thing 0
    refine ⟨_, rfl, a, xs, rfl, ha, ok, fun H' e => ⟨_, rfl, ?_⟩⟩
    refine iteF ?_
    exact q _ e
end
end GK
set_option Elab.async false
set_option linter.all false
set_option maxRecDepth 100000
set_option maxHeartbeats 4000000
namespace GK
open PySem PySem.Spec PyProof.Rows L2
section
variable {P : Program} {w : World} {K : PySem.W.Frag} {mg : Str → Option Value} {base : Heap} {CK CW : Addr}

/-- a Known whose names alone are told -/
def KnownSh (K : PySem.W.Frag) (CK : Addr) (H : Hp) (p : Addr) (xs : List Str) : Prop := ∃ (dx t : Addr) (d s : V), H p = some (.ins CK dx (kf (.ref t) d s)) ∧ SqT K H t (xs.map V.str)
def spKnownInit (K : PySem.W.Frag) (CK : Addr) : Sp := fun vs H Q _ => ∃ (H0 : Hp) (p dx a : Addr) (xs : List Str), vs = [.ref p, .ref a] ∧ Same H0 H ∧ H0 p = none ∧ H p = some (.ins CK dx []) ∧ SqL K H a (xs.map V.str) ∧ NamesOk xs ∧
  ∀ H', Same H0 H' → KnownSh K CK H' p xs → Q .non H'
theorem sc_Known_init : FnScope ["self", "names", "name"] ["self", "names"] (defScope s_Known_init) := ⟨rfl, rfl, rfl, by decide +kernel, rfl, by decide +kernel, by decide +kernel⟩
theorem ok_Known_init (D : InitAt K mg CK "Known" "Known.__init__" s_Known_init) (T : Txt K mg CK CW)  (c_need_names : C8.Cal P w K mg base 3 "need_names" (spNeedNames K) []) : C8.Mak P w K mg base 4 "Known" CK (spKnownInit K CK) [] := by
  refine mak_of D sc_Known_init (ps := ["self", "names"]) (fun _ _ _ _ _ _ us hl => match us, hl with | [_, _], _ => rfl) (fun vs H Q E h => ?_) fun f cdv A outer s H vs Q E hr h => ?_
  · obtain ⟨H0, p, dx, a, xs, rfl, s0, p0, hp, ha, ok, q⟩ := h
    rfl
  · obtain ⟨H0, p, dx, a, xs, rfl, s0, p0, hp, ha, ok, q⟩ := h
    refine ⟨_, (pss_cons (ps_expr (C8.pe_c c_need_names hr (by omega) rfl (pa_cons (pv 1) pa_nil)))
    (pss_cons (ps_fld (pv 0) (pe_callTy call_tuple_of (by rfl) T.b_tuple (by decide +kernel) (pa_cons (pv 1) pa_nil)) rfl)
    (pss_cons (ps_fld (pv 0) (pe_dc (own := [("name", 2)]) rfl sc_Known_init.nd (pi_list (pv 1)) (blkOk_by (own := [("name", 2)]) (N := ["self", "names", "name"]) (sc := defScope s_Known_init) (by decide +kernel)) (fun _ _ _ _ _ => pg_name (i := 2) sc_Known_init.nd rfl (Or.inl rfl)) (fun _ _ _ _ _ => pts_nil) (fun _ _ _ _ _ => (pv 2)) (fun _ _ _ _ _ => (C8.pe_gc (v := .ref (Exists.choose T.g_NOTHING)) rfl ⟨_, Exists.choose_spec T.g_NOTHING, rfl⟩))) rfl)
    (pss_one (ps_fld (pv 0) (pe_lst pa_nil) rfl))))), ?_⟩
    -- slots: self 0, names 1, name 2
    have o2 := ok.most
    refine ⟨_, rfl, a, xs, rfl, ha, ok, fun H1 e1 => ?_⟩
    refine ⟨_, rfl, a, _, rfl, .inl ⟨e1.seq ha, fun t ht => ?_⟩⟩
    have npt : p ≠ t := ne_of_none (e1 _ _ hp) ht
    have hp1 := e1 _ _ hp
    have hlen : (xs.map V.str).length = xs.length := List.length_map ..
    refine ⟨_, rfl, p, CK, dx, [], rfl, (upd_ne npt).trans hp1, T.cK, T.n_own_names, (by show 0 < 1000; decide), ?_⟩
    have s1 : Same H0 H1 := s0.trans e1
    have s2 : Same H0 (upd H1 t (.tup (xs.map V.str))) := s1.trans (same_upd ht)
    have s3 : Same H0 (upd (upd H1 t (.tup (xs.map V.str))) p (.ins CK dx (putF "own_names" (.ref t) []))) := same_mut s2 p0
    have ha3 : SqL K (upd (upd H1 t (.tup (xs.map V.str))) p (.ins CK dx (putF "own_names" (.ref t) []))) a (xs.map V.str) := sql_ins ((e1.trans (same_upd ht)).seq ha) ((upd_ne npt).trans hp1)
    have ht3 : SqT K (upd (upd H1 t (.tup (xs.map V.str))) p (.ins CK dx (putF "own_names" (.ref t) []))) t (xs.map V.str) := sqt_ins (SqT.of upd_same) ((upd_ne npt).trans hp1)
    refine ⟨_, rfl, a, rfl, ⟨_, ha3⟩, fun D hD => ?_⟩
    refine dc_it walk_list (fun i H' => Same (upd (upd H1 t (.tup (xs.map V.str))) p (.ins CK dx (putF "own_names" (.ref t) []))) H' ∧ ∃ kvs, H' D = some (.dK kvs) ∧ kvs.length ≤ i) ⟨same_upd hD, [], upd_same, Nat.le_refl _⟩ (fun i H' _ pv => pv.1.seq ha3) (fun i z H' H'' hi pv y => ?_) fun H' pv => ?_
    · obtain ⟨rfl, hz⟩ := y
      rw [List.getElem?_map] at hz
      obtain ⟨x, hx, rfl⟩ := Option.map_eq_some_iff.mp hz
      obtain ⟨ps, kvs, hk, hkl⟩ := pv
      refine ⟨rfl, yes_in ?_⟩
      refine ⟨_, rfl, ?_⟩
      rw [hlen] at hi
      refine ⟨kvs, Sum.inr x, rfl, hk, sz_lt (by omega), same_mut ps hD, putK kvs (Sum.inr x) _, upd_same, ?_⟩
      have := length_putK kvs (Sum.inr x : Key) (.ref (Exists.choose T.g_NOTHING))
      omega
    · obtain ⟨ps, kvs, hk, hkl⟩ := pv
      have npD : p ≠ D := ne_of_none upd_same hD
      refine ⟨_, rfl, p, CK, dx, _, rfl, ps _ _ upd_same, T.cK, T.n_own_rests, (by show 1 < 1000; decide), ?_⟩
      refine ⟨Nat.zero_le _, fun L hL => ?_⟩
      have npL : p ≠ L := ne_of_none upd_same hL
      refine ⟨_, rfl, p, CK, dx, _, rfl, (upd_ne npL).trans upd_same, T.cK, T.n_own_sights, ?_, ?_⟩
      · rw [kf_two]; decide
      · refine q _ ?_ ⟨dx, t, .ref D, .ref L, ?_, ?_⟩
        · exact same_mut ((same_mut (s3.trans ps) p0).trans (same_upd hL)) p0
        · rw [upd_same, kf_made]
        · exact sqt_ins (same_tup (same_upd hL) (sqt_ins (same_tup ps ht3) (ps _ _ upd_same))) ((upd_ne npL).trans upd_same)
end
end GK
set_option Elab.async false
set_option linter.all false
set_option maxRecDepth 100000
set_option maxHeartbeats 4000000
namespace GK
open PySem PySem.Spec PyProof.Rows L2
section
variable {P : Program} {w : World} {K : PySem.W.Frag} {mg : Str → Option Value} {base : Heap} {CK CW : Addr}
/-- take_over: the Known's own object changes, nothing else that stood -/
def spTakeOver (K : PySem.W.Frag) (CK : Addr) : Sp := fun vs H Q _ => ∃ (p d s : Addr) (xs : List Str) (ρ : Str → Nat × Nat) (kvs : List (Key × V)) (ss : List V), vs = [.ref p, .ref d, .ref s] ∧ KnownSh K CK H p xs ∧ xs.Nodup ∧ xs.length ≤ 12 ∧ H d = some (.dK kvs) ∧ RestsD K H kvs xs ρ ∧ SqL K H s ss ∧
  ∀ H', (∀ b o, b ≠ p → H b = some o → H' b = some o) → KnownAt K CK H' p xs ρ → Q .non H'
theorem sc_Known_take_over : FnScope ["self", "rests", "sights", "name"] ["self", "rests", "sights"] (defScope s_Known_take_over) := ⟨rfl, rfl, rfl, by decide +kernel, rfl, by decide +kernel, by decide +kernel⟩
theorem ok_Known_take_over (D : MetAt K CK "take_over" "Known.take_over" s_Known_take_over) (T : Txt K mg CK CW)   : C8.Met P w K mg base 1 CK "take_over" (spTakeOver K CK) [] := by
  refine met_of T.cK D sc_Known_take_over (ps := ["self", "rests", "sights"]) (fun _ _ _ _ _ _ us hl => match us, hl with | [_, _, _], _ => rfl) (fun vs H Q E h => ?_) fun f cdv A outer s H vs Q E hr h => ?_
  · obtain ⟨p, d, s, xs, ρ, kvs, ss, rfl, ⟨dx, t, d0, s0, hp, ht⟩, nd, hlen, hd, hr', hs, q⟩ := h
    rfl
  · obtain ⟨p, d, s, xs, ρ, kvs, ss, rfl, ⟨dx, t, d0, s0, hp, ht⟩, nd, hlen, hd, hr', hs, q⟩ := h
    have hu := hu_of hr
    refine ⟨_, (pss_cons (ps_fld (pv 0) (pe_dc (own := [("name", 3)]) rfl sc_Known_take_over.nd (pi_tup (pe_fld (pv 0) rfl)) (blkOk_by (own := [("name", 3)]) (N := ["self", "rests", "sights", "name"]) (sc := defScope s_Known_take_over) (by decide +kernel)) (fun _ _ _ _ _ => pg_name (i := 3) sc_Known_take_over.nd rfl (Or.inl rfl)) (fun _ _ _ _ _ => pts_nil) (fun _ _ _ _ _ => (pv 3)) (fun _ _ _ _ _ => (pe_dget hu (pv 1) (pv 3) (fun _ _ => rfl)))) rfl)
    (pss_one (ps_fld (pv 0) (pe_callTy call_list_of (by rfl) T.b_list (by decide +kernel) (pa_cons (pv 2) pa_nil)) rfl))), ?_⟩
    -- slots: self 0, rests 1, sights 2, name 3
    have hl : (xs.map V.str).length = xs.length := List.length_map ..
    refine ⟨_, rfl, p, CK, dx, _, _, rfl, hp, T.cK, T.n_own_names, kf_names _ _ _, t, rfl, ⟨_, ht⟩, fun D hD => ?_⟩
    have npD : p ≠ D := ne_of_none hp hD
    have ndD : d ≠ D := ne_of_none hd hD
    refine dc_it walk_tup (fun i H' => Same H H' ∧ ∃ ks, H' D = some (.dK ks) ∧ RestsD K H ks (xs.take i) ρ) ⟨same_upd hD, [], upd_same, restsD_nil⟩ (fun i H' _ pv => same_tup pv.1 ht) (fun i z H' H'' hi pv y => ?_) fun H' pv => ?_
    · obtain ⟨rfl, hz⟩ := y
      rw [List.getElem?_map] at hz
      obtain ⟨x, hx, rfl⟩ := Option.map_eq_some_iff.mp hz
      rw [hl] at hi
      obtain ⟨ps, ks, hk, hR⟩ := pv
      refine ⟨rfl, yes_in ?_⟩
      obtain ⟨v, hv, hvr⟩ := hr'.val x (List.mem_of_getElem? hx)
      refine ⟨_, rfl, _, rfl, _, rfl, d, v, rfl, dget_str (ps _ _ hd) hv, ?_⟩
      have hks := hR.len
      rw [List.length_take] at hks
      refine ⟨ks, Sum.inr x, rfl, hk, sz_lt (by omega), same_mut ps hD, _, upd_same, ?_⟩
      rw [take_snoc hx]
      exact hR.snoc (nd_take nd hx) hvr
    · obtain ⟨ps, ks, hk, hR⟩ := pv
      rw [hl, List.take_length] at hR
      refine ⟨_, rfl, p, CK, dx, _, rfl, ps _ _ hp, T.cK, T.n_own_rests, (by show 3 < 1000; decide), ?_⟩
      rw [kf_put_rests]
      have hs2 := sql_ins (o := .ins CK dx (kf (.ref t) (.ref D) s0)) (ps.seq hs) (ps _ _ hp)
      refine ⟨_, rfl, s, _, rfl, .inl hs2, fun L hL => ?_⟩
      have npL : p ≠ L := ne_of_none upd_same hL
      refine ⟨_, rfl, p, CK, dx, _, rfl, (upd_ne npL).trans upd_same, T.cK, T.n_own_sights, (by show 3 < 1000; decide), ?_⟩
      rw [kf_put_sights]
      have nLo : ∀ b o, H b = some o → b ≠ L := fun b o e z => by
        subst z
        by_cases e2 : b = p
        · rw [e2, upd_same] at hL; cases hL
        · rw [upd_ne e2, ps _ _ e] at hL; cases hL
      have keep : ∀ b o, b ≠ p → H b = some o → upd (upd (upd H' p (.ins CK dx (kf (.ref t) (.ref D) s0))) L (.lst ss)) p (.ins CK dx (kf (.ref t) (.ref D) (.ref L))) b = some o := fun b o hb e => by
        rw [upd_ne hb, upd_ne (nLo b o e), upd_ne hb]
        exact ps _ _ e
      have nDL : D ≠ L := fun z => by
        rw [← z, upd_ne npD.symm] at hL
        rw [hk] at hL
        cases hL
      refine q _ keep ⟨dx, t, D, L, ks, upd_same, ?_, ?_, hR.keys, fun x hx => ?_⟩
      · exact sqt_ins (same_tup (same_upd hL) (sqt_ins (same_tup ps ht) (ps _ _ hp))) ((upd_ne npL).trans upd_same)
      · rw [upd_ne npD.symm, upd_ne nDL, upd_ne npD.symm]
        exact hk
      · obtain ⟨v, h1, a, h2, h3⟩ := hR.val x hx
        exact ⟨v, h1, a, h2, sqt_ins (same_tup (same_upd hL) (sqt_ins (same_tup ps h3) (ps _ _ hp))) ((upd_ne npL).trans upd_same)⟩
def spNames (K : PySem.W.Frag) (CK : Addr) : Sp := fun vs H Q _ => ∃ (p : Addr) (xs : List Str) (ρ : Str → Nat × Nat), vs = [.ref p] ∧ KnownAt K CK H p xs ρ ∧ ∀ a H', Same H H' → H a = none → H' a = some (.lst (xs.map V.str)) → Q (.ref a) H'
theorem sc_Known_names : FnScope ["self"] ["self"] (defScope s_Known_names) := ⟨rfl, rfl, rfl, by decide +kernel, rfl, by decide +kernel, by decide +kernel⟩
theorem ok_Known_names (D : MetAt K CK "names" "Known.names" s_Known_names) (T : Txt K mg CK CW)   : C8.Met P w K mg base 1 CK "names" (spNames K CK) [] := by
  refine met_of T.cK D sc_Known_names (ps := ["self"]) (fun _ _ _ _ _ _ us hl => match us, hl with | [_], _ => rfl) (fun vs H Q E h => ?_) fun f cdv A outer s H vs Q E hr h => ?_
  · obtain ⟨p, xs, ρ, rfl, ⟨dx, t, d, s0, kvs, hp, ht, hd, hR⟩, q⟩ := h
    rfl
  · obtain ⟨p, xs, ρ, rfl, ⟨dx, t, d, s0, kvs, hp, ht, hd, hR⟩, q⟩ := h
    refine ⟨_, (pss_one (ps_ret (pe_callTy call_list_of (by rfl) T.b_list (by decide +kernel) (pa_cons (pe_fld (pv 0) rfl) pa_nil)))), ?_⟩
    -- slots: self 0
    refine ⟨_, rfl, p, CK, dx, _, _, rfl, hp, T.cK, T.n_own_names, kf_names _ _ _, t, _, rfl, .inr ht, fun L hL => ?_⟩
    exact q L _ (same_upd hL) hL upd_same
def spRests (K : PySem.W.Frag) (CK : Addr) : Sp := fun vs H Q _ => ∃ (p : Addr) (xs : List Str) (ρ : Str → Nat × Nat), vs = [.ref p] ∧ KnownAt K CK H p xs ρ ∧ ∀ a H' kvs, Same H H' → H a = none → H' a = some (.dK kvs) → RestsD K H' kvs xs ρ → Q (.ref a) H'
theorem sc_Known_rests : FnScope ["self"] ["self"] (defScope s_Known_rests) := ⟨rfl, rfl, rfl, by decide +kernel, rfl, by decide +kernel, by decide +kernel⟩
theorem ok_Known_rests (D : MetAt K CK "rests" "Known.rests" s_Known_rests) (T : Txt K mg CK CW)   : C8.Met P w K mg base 1 CK "rests" (spRests K CK) [] := by
  refine met_of T.cK D sc_Known_rests (ps := ["self"]) (fun _ _ _ _ _ _ us hl => match us, hl with | [_], _ => rfl) (fun vs H Q E h => ?_) fun f cdv A outer s H vs Q E hr h => ?_
  · obtain ⟨p, xs, ρ, rfl, ⟨dx, t, d, s0, kvs, hp, ht, hd, hR⟩, q⟩ := h
    rfl
  · obtain ⟨p, xs, ρ, rfl, ⟨dx, t, d, s0, kvs, hp, ht, hd, hR⟩, q⟩ := h
    refine ⟨_, (pss_one (ps_ret (pe_callTy call_dictD (by rfl) T.b_dict (by decide +kernel) (pa_cons (pe_fld (pv 0) rfl) pa_nil)))), ?_⟩
    -- slots: self 0
    refine ⟨_, rfl, p, CK, dx, _, _, rfl, hp, T.cK, T.n_own_rests, kf_rests _ _ _, d, kvs, rfl, .inl hd, fun L hL => ?_⟩
    exact q L _ kvs (same_upd hL) hL upd_same (hR.same (same_upd hL))
def spRest (K : PySem.W.Frag) (CK : Addr) : Sp := fun vs H Q _ => ∃ (p : Addr) (x : Str) (xs : List Str) (ρ : Str → Nat × Nat), vs = [.ref p, .str x] ∧ KnownAt K CK H p xs ρ ∧ x ∈ xs ∧ ∀ v, RestAt K H v (ρ x) → Q v H
theorem sc_Known_rest : FnScope ["self", "name"] ["self", "name"] (defScope s_Known_rest) := ⟨rfl, rfl, rfl, by decide +kernel, rfl, by decide +kernel, by decide +kernel⟩
theorem ok_Known_rest (D : MetAt K CK "rest" "Known.rest" s_Known_rest) (T : Txt K mg CK CW)   : C8.Met P w K mg base 1 CK "rest" (spRest K CK) [] := by
  refine met_of T.cK D sc_Known_rest (ps := ["self", "name"]) (fun _ _ _ _ _ _ us hl => match us, hl with | [_, _], _ => rfl) (fun vs H Q E h => ?_) fun f cdv A outer s H vs Q E hr h => ?_
  · obtain ⟨p, x, xs, ρ, rfl, ⟨dx, t, d, s0, kvs, hp, ht, hd, hR⟩, hx, q⟩ := h
    rfl
  · obtain ⟨p, x, xs, ρ, rfl, ⟨dx, t, d, s0, kvs, hp, ht, hd, hR⟩, hx, q⟩ := h
    have hu := hu_of hr
    refine ⟨_, (pss_cons (ps_if (PW.pt (pw_or (pt_not (pt_val (pe_callB call_isi (by rfl) T.b_isinstance (by decide +kernel) (pa_cons (pv 1) (pa_cons (pe_b "str" (by rfl) T.b_str (by decide +kernel)) pa_nil))))) (pw_or1 (pt_cmp (pc_dnotin hu (pv 1) (pe_fld (pv 0) rfl)))))) 
      (pss_one ps_never) pss_nil)
    (pss_one (ps_ret (pe_dget hu (pe_fld (pv 0) rfl) (pv 1) (fun _ _ => rfl))))), ?_⟩
    -- slots: self 0, name 1
    obtain ⟨v, hv, hvr⟩ := hR.val x hx
    refine ⟨_, rfl, _, _, _, _, true, rfl, .ty _, .base (.str x), kit_ty (by decide +kernel), true, rfl, ?_⟩
    refine iteF ?_
    refine ⟨_, rfl, _, rfl, p, CK, dx, _, _, rfl, hp, T.cK, T.n_own_rests, kf_rests _ _ _, d, _, rfl, dget_str hd hv, false, rfl, ?_⟩
    refine iteF ?_
    exact ⟨_, rfl, p, CK, dx, _, _, rfl, hp, T.cK, T.n_own_rests, kf_rests _ _ _, _, rfl, d, v, rfl, dget_str hd hv, q v hvr⟩
end
end GK
set_option Elab.async false
set_option linter.all false
set_option maxRecDepth 100000
set_option maxHeartbeats 4000000
namespace GK
open PySem PySem.Spec PyProof.Rows L2
section
variable {P : Program} {w : World} {K : PySem.W.Frag} {mg : Str → Option Value} {base : Heap} {CK CW : Addr}
def spOfRests (K : PySem.W.Frag) (CK : Addr) : Sp := fun vs H Q _ => ∃ (a d : Addr) (xs : List Str) (ρ : Str → Nat × Nat) (kvs : List (Key × V)), vs = [.ref a, .ref d] ∧ SqL K H a (xs.map V.str) ∧ NamesOk xs ∧ H d = some (.dK kvs) ∧ RestsD K H kvs xs ρ ∧ (∀ x ∈ xs, (ρ x).1 < (ρ x).2) ∧
  ∀ p H', Same H H' → H p = none → KnownAt K CK H' p xs ρ → Q (.ref p) H'
theorem sc_of_rests : FnScope ["names", "rests", "known", "name"] ["names", "rests"] (defScope s_of_rests) := ⟨rfl, rfl, rfl, by decide +kernel, rfl, by decide +kernel, by decide +kernel⟩
theorem ok_of_rests (D : DefAt K mg "of_rests" s_of_rests) (T : Txt K mg CK CW)  (c_Known_take_over : C8.Met P w K mg base 1 CK "take_over" (spTakeOver K CK) []) (c_is_rest : C8.Cal P w K mg base 2 "is_rest" (spIsRest K) []) (c_Known : C8.Mak P w K mg base 4 "Known" CK (spKnownInit K CK) []) : C8.Cal P w K mg base 6 "of_rests" (spOfRests K CK) [] := by
  refine cal_of D sc_of_rests (ps := ["names", "rests"]) (fun _ _ _ _ _ _ us hl => match us, hl with | [_, _], _ => rfl) (fun vs H Q E h => ?_) fun f cdv A outer s H vs Q E hr h => ?_
  · obtain ⟨a, d, xs, ρ, kvs, rfl, ha, ok, hd, hR, hw, q⟩ := h
    rfl
  · obtain ⟨a, d, xs, ρ, kvs, rfl, ha, ok, hd, hR, hw, q⟩ := h
    have hu := hu_of hr
    refine ⟨_, (pss_cons (ps_set (i := 2) sc_of_rests.nd rfl (Or.inl rfl) (C8.pe_mk c_Known hr (by omega) rfl (pa_cons (pv 0) pa_nil)))
    (pss_cons (ps_if (PW.pt (pw_or (pt_not (pt_val (pe_callB call_isi (by rfl) T.b_isinstance (by decide +kernel) (pa_cons (pv 1) (pa_cons (pe_b "dict" (by rfl) T.b_dict (by decide +kernel)) pa_nil))))) (pw_or1 (pt_cmpR op_ne (pe_callB call_lenD (by rfl) T.b_len (by decide +kernel) (pa_cons (pv 1) pa_nil)) (pe_callB call_len_seq (by rfl) T.b_len (by decide +kernel) (pa_cons (pv 0) pa_nil)) (nomark _))))) 
      (pss_one ps_never) pss_nil)
    (pss_cons (ps_if (pt_not (pt_val (pe_callB (cr_all rfl) (by rfl) T.b_all (by decide +kernel) (pa_cons (pe_lc (own := [("name", 3)]) rfl sc_of_rests.nd (pi_list (pv 0)) (blkOk_by (own := [("name", 3)]) (N := ["names", "rests", "known", "name"]) (sc := defScope s_of_rests) (by decide +kernel)) (fun _ _ _ _ _ => pg_name (i := 3) sc_of_rests.nd rfl (Or.inl rfl)) (fun _ _ _ _ _ => pts_nil) (fun _ _ _ _ _ => (pe_and (pe_cmp (pc_din hu (pv 3) (pv 1)) rfl) (pe_one (C8.pe_c c_is_rest hr (by omega) rfl (pa_cons (pe_dget hu (pv 1) (pv 3) (fun _ _ => rfl)) pa_nil)))))) pa_nil)))) 
      (pss_one ps_never) pss_nil)
    (pss_cons (ps_expr (C8.pe_mt c_Known_take_over hr (by omega) (pv 2) (pa_cons (pv 1) (pa_cons (pe_lst pa_nil) pa_nil))))
    (pss_one (ps_ret (pv 2))))))), ?_⟩
    -- slots: names 0, rests 1, known 2, name 3
    have o2 := ok.most
    have hl : (xs.map V.str).length = xs.length := List.length_map ..
    refine ⟨_, rfl, fun p dx np ndx npx => ?_⟩
    have s0 : Same H (upd (upd H dx (.own p)) p (.ins CK dx [])) := fun b o e => by
      rw [upd_ne (ne_of_none e np), upd_ne (ne_of_none e ndx)]
      exact e
    refine ⟨H, p, dx, a, xs, rfl, s0, np, upd_same, s0.seq ha, ok, fun H1 s1 hK => ⟨rfl, ?_⟩⟩
    refine ⟨_, rfl, _, _, _, _, true, rfl, .ty _, .base (.dK (s1 _ _ hd)), kit_ty (by decide +kernel), true, rfl, ?_⟩
    refine iteF ?_
    refine ⟨_, rfl, d, kvs, rfl, s1 _ _ hd, _, rfl, a, _, rfl, .inl (s1.seq ha), rfl, _, rfl, ?_⟩
    rw [show decide (V.int ((kvs.length : Nat) : Int) = V.int (((xs.map V.str).length : Nat) : Int)) = true from decide_eq_true (by rw [hR.len, hl])]
    refine iteF ?_
    refine ⟨_, rfl, a, rfl, ⟨_, s1.seq ha⟩, fun L hL => ?_⟩
    refine lc_it walk_list (Told H1 L fun i => List.replicate i (V.bl true)) (Told.start hL rfl) (fun i H' _ pv => pv.same.seq (s1.seq ha)) (fun i z H' H'' hi pv y => ?_) fun H' pv => ?_
    · obtain ⟨rfl, hz⟩ := y
      rw [List.getElem?_map] at hz
      obtain ⟨x, hx, rfl⟩ := Option.map_eq_some_iff.mp hz
      rw [hl] at hi
      obtain ⟨v, hv, hvr⟩ := hR.val x (List.mem_of_getElem? hx)
      have hd2 := pv.same _ _ (s1 _ _ hd)
      refine ⟨rfl, yes_in ?_⟩
      refine ⟨_, rfl, _, rfl, d, _, rfl, dget_str hd2 hv, true, rfl, ?_⟩
      refine iteT ⟨_, rfl, _, rfl, d, v, rfl, dget_str hd2 hv, ?_⟩
      exact ⟨v, ρ x, rfl, (hvr.same s1).same pv.same, hw x (List.mem_of_getElem? hx), fun H3 e => pv.put hL e (rep_succ _ _) (by simp; omega)⟩
    · refine ⟨L, List.replicate (xs.map V.str).length true, rfl, SqL.of (by rw [← map_rep]; exact pv.at_), _, rfl, ?_⟩
      rw [all_rep]
      refine iteF ?_
      have s2 := s1.trans pv.same
      obtain ⟨dx', t, d', s', hp1, ht1⟩ := hK
      refine ⟨_, rfl, p, dx', _, rfl, pv.same _ _ hp1, kf_none _ _ _ (by decide +kernel) (by decide +kernel) (by decide +kernel), _, rfl, ?_⟩
      refine ⟨Nat.zero_le _, fun M hM => ?_⟩
      have s3 := s2.trans (same_upd (o := .lst []) hM)
      refine ⟨p, d, M, xs, ρ, kvs, [], rfl, ⟨dx', t, d', s', same_upd hM _ _ (pv.same _ _ hp1), same_tup (same_upd hM) (same_tup pv.same ht1)⟩, ok.nd, o2, s3 _ _ hd, hR.same s3, SqL.of upd_same, fun H' keep hK' => ?_⟩
      refine ⟨_, rfl, q p _ (fun b o e => keep b o (ne_of_none e np) (s3 _ _ e)) np hK'⟩
def spNeedSeats (K : PySem.W.Frag) (CK : Addr) : Sp := fun vs H Q _ => ∃ (p a : Addr) (seats xs : List Str) (ρ : Str → Nat × Nat), vs = [.ref p, .ref a] ∧ KnownAt K CK H p xs ρ ∧ SqL K H a (seats.map V.str) ∧ SeatsOk seats xs ∧ ∀ H', Same H H' → Q .non H'
theorem sc_need_seats : FnScope ["known", "seats", "names", "one"] ["known", "seats"] (defScope s_need_seats) := ⟨rfl, rfl, rfl, by decide +kernel, rfl, by decide +kernel, by decide +kernel⟩
theorem ok_need_seats (D : DefAt K mg "need_seats" s_need_seats) (T : Txt K mg CK CW)  (c_Known_names : C8.Met P w K mg base 1 CK "names" (spNames K CK) []) : C8.Cal P w K mg base 3 "need_seats" (spNeedSeats K CK) [] := by
  refine cal_of D sc_need_seats (ps := ["known", "seats"]) (fun _ _ _ _ _ _ us hl => match us, hl with | [_, _], _ => rfl) (fun vs H Q E h => ?_) fun f cdv A outer s H vs Q E hr h => ?_
  · obtain ⟨p, a, seats, xs, ρ, rfl, hK, ha, so, q⟩ := h
    rfl
  · obtain ⟨p, a, seats, xs, ρ, rfl, hK, ha, so, q⟩ := h
    refine ⟨_, (pss_cons (ps_set (i := 2) sc_need_seats.nd rfl (Or.inr rfl) (C8.pe_mt0 c_Known_names hr (by omega) (pv 0)))
    (pss_cons (ps_if (PW.pt (pw_or (pt_not (pt_val (pe_callB call_isiT (by rfl) T.b_isinstance (by decide +kernel) (pa_cons (pv 1) (pa_cons (pe_tup (pa_cons (pe_b "list" (by rfl) T.b_list (by decide +kernel)) (pa_cons (pe_b "tuple" (by rfl) T.b_tuple (by decide +kernel)) pa_nil))) pa_nil))))) (pw_or1 (pt_cmpR op_ne (pe_callB call_len_seq (by rfl) T.b_len (by decide +kernel) (pa_cons (pv 1) pa_nil)) (pe_callB call_len_seq (by rfl) T.b_len (by decide +kernel) (pa_cons (pv 2) pa_nil)) (nomark _))))) 
      (pss_one ps_never) pss_nil)
    (pss_one (ps_if (PW.pt (pw_or (pt_not (pt_val (pe_callB (cr_all rfl) (by rfl) T.b_all (by decide +kernel) (pa_cons (pe_lc (own := [("one", 3)]) rfl sc_need_seats.nd (pi_list (pv 1)) (blkOk_by (own := [("one", 3)]) (N := ["known", "seats", "names", "one"]) (sc := defScope s_need_seats) (by decide +kernel)) (fun _ _ _ _ _ => pg_name (i := 3) sc_need_seats.nd rfl (Or.inl rfl)) (fun _ _ _ _ _ => pts_nil) (fun _ _ _ _ _ => (pe_and (pe_callB (k_isi K) (by rfl) T.b_isinstance (by decide +kernel) (pa_cons (pv 3) (pa_cons (pe_b "str" (by rfl) T.b_str (by decide +kernel)) pa_nil))) (pe_one (pe_cmpR (k_in K) (pv 3) (pv 2) (by rfl)))))) pa_nil)))) (pw_or1 (pt_cmpR op_ne (pe_callB cr_lenTx (by rfl) T.b_len (by decide +kernel) (pa_cons (pe_callTy (cr_setTx rfl) (by rfl) T.b_set (by decide +kernel) (pa_cons (pv 1) pa_nil)) pa_nil)) (pe_callB call_len_seq (by rfl) T.b_len (by decide +kernel) (pa_cons (pv 2) pa_nil)) (nomark _))))) 
      (pss_one ps_never) pss_nil)))), ?_⟩
    -- slots: known 0, seats 1, names 2, one 3
    have o2 := so.most
    have hl : (seats.map V.str).length = xs.length := by rw [List.length_map, so.len]
    have hl2 : (xs.map V.str).length = xs.length := List.length_map ..
    obtain ⟨dx, t, d, s0, kvs, hp, ht, hd, hR⟩ := id hK
    refine ⟨_, rfl, p, dx, _, rfl, hp, kf_none _ _ _ (by decide +kernel) (by decide +kernel) (by decide +kernel), p, xs, ρ, rfl, hK, fun n H1 s1 hn1 hn => ?_⟩
    refine ⟨_, rfl, by show 2 ≤ sizeLine; decide, fun t2 ht2 => ?_⟩
    have s2 := s1.trans (same_upd (o := .tup [.ty "list", .ty "tuple"]) ht2)
    have hn2 := same_upd (o := .tup [.ty "list", .ty "tuple"]) ht2 _ _ hn
    refine ⟨_, t2, _, .type "list", [.type "list", .type "tuple"], true, rfl, upd_same, .cons (.ty _) (.cons (.ty _) .nil), tyx_lst (s2.seq ha), rfl, true, rfl, ?_⟩
    refine iteF ?_
    refine ⟨_, rfl, a, _, rfl, .inl (s2.seq ha), _, rfl, n, _, rfl, .inl (SqL.of hn2), rfl, _, rfl, ?_⟩
    rw [show decide (V.int (((seats.map V.str).length : Nat) : Int) = V.int (((xs.map V.str).length : Nat) : Int)) = true from decide_eq_true (by rw [hl, hl2])]
    refine iteF ?_
    refine ⟨_, rfl, a, rfl, ⟨_, s2.seq ha⟩, fun L hL => ?_⟩
    refine lc_it walk_list (Told _ L fun i => List.replicate i (V.bl true)) (Told.start hL rfl) (fun i H' _ pv => pv.same.seq (s2.seq ha)) (fun i z H' H'' hi pv y => ?_) fun H' pv => ?_
    · obtain ⟨rfl, hz⟩ := y
      obtain ⟨x, hx, rfl⟩ := str_at hz
      rw [hl] at hi
      refine ⟨rfl, yes_in ?_⟩
      refine ⟨_, rfl, _, _, _, _, true, rfl, .ty _, .base (.str x), kit_ty (by decide +kernel), true, rfl, ?_⟩
      refine iteT ⟨_, rfl, _, rfl, n, _, rfl, .inl (SqL.of (pv.same _ _ hn2)), rfl, flat_strs xs, ?_⟩
      rw [inV_strs, decide_eq_true ((so.mem x).mp (List.mem_of_getElem? hx))]
      exact pv.put hL (Same.refl _) (rep_succ _ _) (by simp; omega)
    · refine ⟨L, List.replicate (seats.map V.str).length true, rfl, SqL.of (by rw [← map_rep]; exact pv.at_), _, rfl, ?_⟩
      rw [all_rep]
      refine iteF ?_
      have s3 := s2.trans pv.same
      refine ⟨_, rfl, a, seats, rfl, .inl (s3.seq ha), by rw [so.len]; omega, fun u hu2 => ?_⟩
      refine ⟨u, seats, rfl, upd_same, fun ys hnd hm => ?_⟩
      have s4 := s3.trans (same_upd (o := TxO w u seats) hu2)
      refine ⟨_, rfl, n, _, rfl, .inl (SqL.of (same_upd hu2 _ _ (pv.same _ _ hn2))), rfl, _, rfl, ?_⟩
      have e : ys.length = seats.length := ((List.perm_ext_iff_of_nodup hnd so.nd).mpr hm).length_eq
      rw [show decide (V.int ((ys.length : Nat) : Int) = V.int (((xs.map V.str).length : Nat) : Int)) = true from decide_eq_true (by rw [e, so.len, hl2])]
      refine iteF ?_
      exact q _ s4
def spNeedBegin (K : PySem.W.Frag) : Sp := fun vs H Q _ => ∃ (a : Addr) (x : Str) (seats : List Str), vs = [.ref a, .str x] ∧ SqL K H a (seats.map V.str) ∧ x ∈ seats ∧ Q .non H
theorem sc_need_begin : FnScope ["seats", "begin"] ["seats", "begin"] (defScope s_need_begin) := ⟨rfl, rfl, rfl, by decide +kernel, rfl, by decide +kernel, by decide +kernel⟩
theorem ok_need_begin (D : DefAt K mg "need_begin" s_need_begin) (T : Txt K mg CK CW)   : C8.Cal P w K mg base 1 "need_begin" (spNeedBegin K) [] := by
  refine cal_of D sc_need_begin (ps := ["seats", "begin"]) (fun _ _ _ _ _ _ us hl => match us, hl with | [_, _], _ => rfl) (fun vs H Q E h => ?_) fun f cdv A outer s H vs Q E hr h => ?_
  · obtain ⟨a, x, seats, rfl, ha, hx, q⟩ := h
    rfl
  · obtain ⟨a, x, seats, rfl, ha, hx, q⟩ := h
    refine ⟨_, (pss_one (ps_if (PW.pt (pw_or (pt_not (pt_val (pe_callB call_isi (by rfl) T.b_isinstance (by decide +kernel) (pa_cons (pv 1) (pa_cons (pe_b "str" (by rfl) T.b_str (by decide +kernel)) pa_nil))))) (pw_or1 (pt_cmpR op_notIn_seq (pv 1) (pv 0) (by rfl))))) 
      (pss_one ps_never) pss_nil)), ?_⟩
    -- slots: seats 0, begin 1
    refine ⟨_, rfl, _, _, _, _, true, rfl, .ty _, .base (.str x), kit_ty (by decide +kernel), true, rfl, ?_⟩
    refine iteF ?_
    refine ⟨_, rfl, _, rfl, a, _, rfl, .inl ha, rfl, flat_strs seats, _, rfl, ?_⟩
    rw [inV_strs, decide_eq_true hx]
    refine iteF ?_
    exact q
end
end GK
set_option Elab.async false
set_option linter.all false
set_option maxRecDepth 100000
set_option maxHeartbeats 4000000
namespace GK
open PySem PySem.Spec PyProof.Rows L2
section
variable {P : Program} {w : World} {K : PySem.W.Frag} {mg : Str → Option Value} {base : Heap} {CK CW : Addr}
def spWaysInit (K : PySem.W.Frag) (CK CW : Addr) : Sp := fun vs H Q _ => ∃ (H0 : Hp) (p dx q a : Addr) (seats xs : List Str) (ρ : Str → Nat × Nat), vs = [.ref p, .ref q, .ref a] ∧ Same H0 H ∧ H0 p = none ∧ H p = some (.ins CW dx []) ∧ KnownAt K CK H0 q xs ρ ∧ SqL K H0 a (seats.map V.str) ∧ SeatsOk seats xs ∧
  ∀ (m : Addr) (H' : Hp), Same H0 H' → H0 m = none → WaysAt K CW H' p m seats ρ → Q .non H'
theorem sc_Ways_init : FnScope ["self", "known", "seats", "name"] ["self", "known", "seats"] (defScope s_Ways_init) := ⟨rfl, rfl, rfl, by decide +kernel, rfl, by decide +kernel, by decide +kernel⟩
theorem ok_Ways_init (D : InitAt K mg CW "Ways" "Ways.__init__" s_Ways_init) (T : Txt K mg CK CW)  (c_Known_rest : C8.Met P w K mg base 1 CK "rest" (spRest K CK) []) : C8.Mak P w K mg base 2 "Ways" CW (spWaysInit K CK CW) [] := by
  refine mak_of D sc_Ways_init (ps := ["self", "known", "seats"]) (fun _ _ _ _ _ _ us hl => match us, hl with | [_, _, _], _ => rfl) (fun vs H Q E h => ?_) fun f cdv A outer s H vs Q E hr h => ?_
  · obtain ⟨H0, p, dx, kn, a, seats, xs, ρ, rfl, s0, p0, hp, hK, ha, so, q⟩ := h
    rfl
  · obtain ⟨H0, p, dx, kn, a, seats, xs, ρ, rfl, s0, p0, hp, hK, ha, so, q⟩ := h
    refine ⟨_, (pss_cons (ps_fld (pv 0) (pe_callTy call_list_of (by rfl) T.b_list (by decide +kernel) (pa_cons (pv 2) pa_nil)) rfl)
    (pss_cons (ps_fld (pv 0) (pe_lc (own := [("name", 3)]) rfl sc_Ways_init.nd (pi_list (pe_fld (pv 0) rfl)) (blkOk_by (own := [("name", 3)]) (N := ["self", "known", "seats", "name"]) (sc := defScope s_Ways_init) (by decide +kernel)) (fun _ _ _ _ _ => pg_name (i := 3) sc_Ways_init.nd rfl (Or.inl rfl)) (fun _ _ _ _ _ => pts_nil) (fun _ _ _ _ _ => (C8.pe_mt c_Known_rest hr (by omega) (pv 1) (pa_cons (pv 3) pa_nil)))) rfl)
    (pss_cons (ps_fld (pv 0) (pe_op op_sub (pe_op op_shl pe_int (pe_callB call_len_seq (by rfl) T.b_len (by decide +kernel) (pa_cons (pe_fld (pv 0) rfl) pa_nil))) pe_int) rfl)
    (pss_one (ps_fld (pv 0) pe_dnewK rfl))))), ?_⟩
    -- slots: self 0, known 1, seats 2, name 3
    have o2 := so.most
    have hsl := so.len
    have hl : (seats.map V.str).length = seats.length := List.length_map ..
    -- self.w_seats = list(seats)
    refine ⟨_, rfl, a, _, rfl, .inl (s0.seq ha), fun b hb => ?_⟩
    have npb : p ≠ b := ne_of_none hp hb
    refine ⟨_, rfl, p, CW, dx, [], rfl, (upd_ne npb).trans hp, T.cW, T.n_w_seats, (by show 0 < 1000; decide), ?_⟩
    rw [wf1]
    have e1 : ∀ o, Same H0 (upd (upd H b (.lst (seats.map V.str))) p o) := fun o => same_mut (s0.trans (same_upd hb)) p0
    -- self.w_rests = [..]
    refine ⟨_, rfl, p, CW, dx, _, _, rfl, upd_same, T.cW, T.n_w_seats, by simp [List.lookup], b, rfl, ⟨_, SqL.of ((upd_ne npb.symm).trans upd_same)⟩, fun D hD => ?_⟩
    have npD : p ≠ D := ne_of_none upd_same hD
    have hb1 : ∀ o, (upd (upd H b (.lst (seats.map V.str))) p o) b = some (.lst (seats.map V.str)) := fun o => (upd_ne npb.symm).trans upd_same
    refine lc_it walk_list (Held _ D fun i acc H' => acc.length = i ∧ ∀ (j : Nat) (x : Str) (v : V), seats[j]? = some x → acc[j]? = some v → RestAt K H' v (ρ x)) (Held.start hD ⟨rfl, fun j x v _ h => by simp at h⟩) (fun i H' _ pv => SqL.of (pv.same _ _ (hb1 _))) (fun i z H' H'' hi pv y => ?_) fun H' pv => ?_
    · obtain ⟨rfl, hz⟩ := y
      obtain ⟨x, hx, rfl⟩ := str_at hz
      rw [hl] at hi
      refine ⟨rfl, yes_in ?_⟩
      have sx := (e1 (.ins CW dx [("w_seats", .ref b)])).trans pv.same
      obtain ⟨dxk, t, d, ss, kvs, hp1, hp2, hp3, hp4⟩ := id hK
      refine ⟨_, rfl, kn, dxk, _, rfl, sx _ _ hp1, kf_none _ _ _ (by decide +kernel) (by decide +kernel) (by decide +kernel), _, rfl, kn, x, xs, ρ, rfl, hK.same sx, (so.mem x).mp (List.mem_of_getElem? hx), fun v hv => ?_⟩
      refine pv.put (Same.refl _) fun acc H0' a1 a2 a3 a4 ⟨a5, a6⟩ => ⟨⟨by rw [List.length_append, a5]; rfl, fun j y u hy hu1 => ?_⟩, by omega⟩
      have sD : Same H0' (delH H'' D) := same_del a3 a4
      by_cases hj : j < i
      · rw [List.getElem?_append_left (by omega)] at hu1
        exact (a6 j y u hy hu1).same sD
      · rw [List.getElem?_append_right (by omega)] at hu1
        have ej : j = i := by
          obtain ⟨h1, _⟩ := List.getElem?_eq_some_iff.mp hu1
          simp at h1
          omega
        subst ej
        rw [a5, Nat.sub_self] at hu1
        obtain rfl : v = u := Option.some.inj hu1
        rw [hx] at hy
        obtain rfl := Option.some.inj hy
        obtain ⟨av, hv1, hv2⟩ := hv
        refine ⟨av, hv1, ?_⟩
        rcases hv2 with (h | ⟨o, h⟩) | h
        · exact .inl (.inl (by rw [delH_ne (ne_of h a1 (by intro z; cases z))]; exact h))
        · exact .inl (.inr ⟨o, by rw [delH_ne (ne_of h a1 (by intro z; cases z))]; exact h⟩)
        · exact .inr h
    · obtain ⟨acc, H0', a1, a2, a3, a4, a5, a6⟩ := pv.ex
      rw [hl] at a5
      have s2 := pv.same
      refine ⟨_, rfl, p, CW, dx, _, rfl, s2 _ _ upd_same, T.cW, T.n_w_rests, (by show 1 < 1000; decide), ?_⟩
      rw [wf2]
      -- self.w_all
      have bp2 : ∀ o, (upd H' p o) b = some (.lst (seats.map V.str)) := fun o => (upd_ne npb.symm).trans (s2 _ _ (hb1 _))
      refine ⟨_, rfl, p, CW, dx, _, _, rfl, upd_same, T.cW, T.n_w_seats, by simp [List.lookup], b, _, rfl, .inl (SqL.of (bp2 _)), _, _, rfl, rfl, ⟨by omega, by omega, by decide⟩, _, _, rfl, rfl, _, rfl, p, CW, dx, _, rfl, upd_same, T.cW, T.n_w_all, (by show 2 < 1000; decide), ?_⟩
      rw [wf3]
      intro M hM
      have npM : p ≠ M := ne_of_none upd_same hM
      refine ⟨_, rfl, p, CW, dx, _, rfl, (upd_ne npM).trans upd_same, T.cW, T.n_w_many, (by show 3 < 1000; decide), ?_⟩
      rw [wf4]
      have hM0 : H' M = none := by
        rw [upd_ne npM.symm, upd_ne npM.symm] at hM
        exact hM
      have sAll : ∀ u v, Same H' (upd (upd (upd (upd H' p u) p v) M (.dK [])) p v) → True := fun _ _ _ => trivial
      have keep : ∀ (u1 u2 u3 : HO) b o, b ≠ p → H' b = some o → upd (upd (upd (upd H' p u1) p u2) M (.dK [])) p u3 b = some o := fun u1 u2 u3 b o hb h => by
        rw [upd_ne hb, upd_ne (ne_of_none h hM0), upd_ne hb, upd_ne hb]
        exact h
      have sH0 : ∀ (u1 u2 u3 : HO), Same H0 (upd (upd (upd (upd H' p u1) p u2) M (.dK [])) p u3) := fun u1 u2 u3 b o h => keep u1 u2 u3 b o (ne_of_none h p0) ((e1 _).trans s2 _ _ h)
      refine q M _ (sH0 _ _ _) (((e1 _).trans s2).free hM0) ⟨⟨dx, b, D, acc, ?_, keep _ _ _ b _ npb.symm (s2 _ _ (hb1 _)), keep _ _ _ D _ npD.symm a1, a5, fun j x v hx hv => ?_⟩, [], ?_, by simp, by simp, fun gone x k v _ h => by simp [valV] at h⟩
      · rw [upd_same, hl]
        simp [wf, hl]
      · obtain ⟨av, h1, h2⟩ := a6 j x v hx hv
        have h2 := same_tup a4 h2
        refine ⟨av, h1, ?_⟩
        have hpi : H' p = some (.ins CW dx [("w_seats", .ref b)]) := s2 _ _ upd_same
        rcases h2 with (h | ⟨o, h⟩) | h
        · exact .inl (.inl (keep _ _ _ _ _ (ne_of h hpi (by intro z; cases z)) h))
        · exact .inl (.inr ⟨o, keep _ _ _ _ _ (ne_of h hpi (by intro z; cases z)) h⟩)
        · exact .inr h
      · rw [upd_ne npM.symm, upd_same]
end
end GK
set_option Elab.async false
set_option linter.all false
set_option maxRecDepth 100000
set_option maxHeartbeats 4000000
namespace GK
open PySem PySem.Spec PyProof.Rows L2
section
variable {P : Program} {w : World} {K : PySem.W.Frag} {mg : Str → Option Value} {base : Heap} {CK CW : Addr}
def tTruK (K : PySem.W.Frag) (ta : TE) : TT := fun σ H Q => ta σ H fun x H' => ∃ k, TruV K x H' k ∧ Q k H'
theorem k_truth {X : Cx} {a : Expr} {ta : TE} (K : PySem.W.Frag) (ha : PE X a ta) (h : X.K = K := by rfl) (he : ∀ whole, isTrue a X.env whole = (do let v ← whole; standAt a.pos; holding [v] (truthy v)) := by intro _; rfl) : PT X a (tTruK K ta) := by subst h; exact pt_truth ha he
/-- the k-th bit of a set of seats -/
theorem bit_eq (n k : Nat) : Builtin.bitAnd ((n : Int) / 2 ^ k) 1 = ((n / 2 ^ k % 2 : Nat) : Int) := by
  rw [bitAnd_m1, ← PySem.W.kbt_cast]
  rfl
theorem inl_snoc (l : List Nat) (n : Nat) : intL (l ++ [n]) = intL l ++ [.int (n : Nat)] := by unfold intL; simp
theorem intL_len (l : List Nat) : (intL l).length = l.length := List.length_map ..
theorem sitIdx_len (line gone : List Str) (x : Str) (m : Nat) : (G.sitIdx line gone x m).length ≤ m := by
  unfold G.sitIdx
  refine Nat.le_trans (List.length_filter_le ..) ?_
  simp
def spSeatOf (K : PySem.W.Frag) (CW : Addr) : Sp := fun vs H Q _ => ∃ (p m : Addr) (x : Str) (seats : List Str) (ρ : Str → Nat × Nat), vs = [.ref p, .str x] ∧ WaysFix K CW H p m seats ρ ∧ x ∈ seats ∧ Q (.int (seats.idxOf x : Nat)) H
theorem sc_Ways_seat_of : FnScope ["self", "name"] ["self", "name"] (defScope s_Ways_seat_of) := ⟨rfl, rfl, rfl, by decide +kernel, rfl, by decide +kernel, by decide +kernel⟩
theorem ok_Ways_seat_of (D : MetAt K CW "seat_of" "Ways.seat_of" s_Ways_seat_of) (T : Txt K mg CK CW)   : C8.Met P w K mg base 1 CW "seat_of" (spSeatOf K CW) [] := by
  refine met_of T.cW D sc_Ways_seat_of (ps := ["self", "name"]) (fun _ _ _ _ _ _ us hl => match us, hl with | [_, _], _ => rfl) (fun vs H Q E h => ?_) fun f cdv A outer s H vs Q E hr h => ?_
  · obtain ⟨p, m, x, seats, ρ, rfl, hW, hx, q⟩ := h
    rfl
  · obtain ⟨p, m, x, seats, ρ, rfl, hW, hx, q⟩ := h
    refine ⟨_, (pss_one (ps_ret (pe_bm PySem.F.plainAttrs_list PySem.F.slot_list_index PySem.F.type_list_index mt_index (pe_fld (pv 0) rfl) (pa_cons (pv 1) pa_nil)))), ?_⟩
    -- slots: self 0, name 1
    obtain ⟨dx, a, r, rs, hp, ha, hr1, hr2, hr3⟩ := hW.ex
    refine ⟨_, rfl, p, CW, dx, _, _, rfl, hp, T.cW, T.n_w_seats, wf_seats _ _ _ _, .inl ⟨rfl, _, SqL.of ha⟩, _, rfl, ?_⟩
    exact index_ok (SqL.of ha) hx q
def spSitters (K : PySem.W.Frag) (CW : Addr) : Sp := fun vs H Q _ => ∃ (p m : Addr) (gone seats : List Str) (x : Str) (k : Nat) (ρ : Str → Nat × Nat), vs = [.ref p, .int (G.mask seats gone : Nat), .int (seats.idxOf x : Nat)] ∧ WaysFix K CW H p m seats ρ ∧ G.At seats gone x k ∧ seats.length ≤ 12 ∧
  ∀ (L : Addr) (H' : Hp), Same H H' → H L = none → H' L = some (.lst (intL ((G.sit seats gone x).map seats.idxOf))) → Q (.ref L) H'
theorem sc_Ways_sitters : FnScope ["self", "gone", "at", "wide", "k"] ["self", "gone", "at"] (defScope s_Ways_sitters) := ⟨rfl, rfl, rfl, by decide +kernel, rfl, by decide +kernel, by decide +kernel⟩
theorem ok_Ways_sitters (D : MetAt K CW "sitters" "Ways.sitters" s_Ways_sitters) (T : Txt K mg CK CW)   : C8.Met P w K mg base 1 CW "sitters" (spSitters K CW) [] := by
  refine met_of T.cW D sc_Ways_sitters (ps := ["self", "gone", "at"]) (fun _ _ _ _ _ _ us hl => match us, hl with | [_, _, _], _ => rfl) (fun vs H Q E h => ?_) fun f cdv A outer s H vs Q E hr h => ?_
  · obtain ⟨p, m, gone, seats, x, k, ρ, rfl, hW, hAt, hl, q⟩ := h
    rfl
  · obtain ⟨p, m, gone, seats, x, k, ρ, rfl, hW, hAt, hl, q⟩ := h
    refine ⟨_, (pss_cons (ps_set (i := 3) sc_Ways_sitters.nd rfl (Or.inr rfl) (pe_callB call_len_seq (by rfl) T.b_len (by decide +kernel) (pa_cons (pe_fld (pv 0) rfl) pa_nil)))
    (pss_one (ps_ret (pe_lc (own := [("k", 4)]) rfl sc_Ways_sitters.nd (pi_range2 (by rfl) T.b_range (pa_cons (pe_op op_add (pv 2) pe_int) (pa_cons (pe_op op_add (pv 2) (pv 3)) pa_nil))) (blkOk_by (own := [("k", 4)]) (N := ["self", "gone", "at", "wide", "k"]) (sc := defScope s_Ways_sitters) (by decide +kernel)) (fun _ _ _ _ _ => pg_name (i := 4) sc_Ways_sitters.nd rfl (Or.inl rfl)) (fun _ _ _ _ _ => (pts_one (pt_not (k_truth K (pe_op op_and (pe_op op_shr (pv 1) (pe_op op_mod (pv 4) (pv 3))) pe_int))))) (fun _ _ _ _ _ => (pe_op op_mod (pv 4) (pv 3))))))), ?_⟩
    -- slots: self 0, gone 1, at 2, wide 3, k 4
    obtain ⟨dx, a, r, rs, hp, ha, hr1, hr2, hr3⟩ := hW.ex
    have hn := hAt.nd
    have hx := hAt.xl
    have hix := List.idxOf_lt_length_iff.mpr hx
    have hls : (seats.map V.str).length = seats.length := List.length_map ..
    refine ⟨_, rfl, p, CW, dx, _, _, rfl, hp, T.cW, T.n_w_seats, wf_seats _ _ _ _, a, _, rfl, .inl (SqL.of ha), ?_⟩
    rw [hls]
    refine ⟨_, rfl, _, _, rfl, rfl, _, rfl, _, rfl, _, _, rfl, rfl, _, _, rfl, ⟨by omega, by omega, by omega, by omega⟩, ?_⟩
    rw [show (((seats.idxOf x : Nat) : Int) + (seats.length : Nat) - ((seats.idxOf x : Nat) + 1)).toNat = seats.length - 1 by omega]
    intro L hL
    refine lc_it walk_range (Told H L fun i => intL (G.sitIdx seats gone x i)) (Told.start hL rfl) (fun _ _ _ _ => trivial) (fun i z H' H'' hi pv y => ?_) fun H' pv => ?_
    · obtain ⟨rfl, hz⟩ := y
      obtain rfl : z = .int (((seats.idxOf x : Nat) : Int) + 1 + (i : Nat)) := hz
      have hk : (((seats.idxOf x : Nat) : Int) + 1 + (i : Nat)) % (seats.length : Nat) = (((seats.idxOf x + 1 + i) % seats.length : Nat) : Int) := rfl
      have hk2 : (seats.idxOf x + 1 + i) % seats.length < seats.length := Nat.mod_lt _ (by omega)
      have hb := G.mask_bit seats gone ((seats.idxOf x + 1 + i) % seats.length)
      have e1 := G.sitIdx_succ seats gone x i
      rw [List.getElem?_eq_getElem hk2] at hb e1
      have hsl := sitIdx_len seats gone x i
      have hneg : ∀ y, (∃ u, some y = some u ∧ u ∈ gone) ↔ y ∈ gone := fun y => ⟨fun ⟨u, e, h⟩ => Option.some.inj e ▸ h, fun h => ⟨y, rfl, h⟩⟩
      simp only [hneg] at hb
      refine ⟨rfl, ?_⟩
      refine ⟨_, rfl, _, rfl, _, rfl, _, _, rfl, rfl, (by show (0 : Int) < (seats.length : Nat); omega), _, _, rfl, rfl, (by show 0 ≤ (((seats.idxOf x : Nat) : Int) + 1 + (i : Nat)) % (seats.length : Nat); omega), _, _, rfl, rfl, ?_⟩
      rw [hk, Int.toNat_natCast]
      have hb2 := bit_eq (G.mask seats gone) ((seats.idxOf x + 1 + i) % seats.length)
      rw [hb] at hb2
      by_cases hg : seats[(seats.idxOf x + 1 + i) % seats.length] ∈ gone
      · rw [if_pos hg] at hb2
        refine ⟨true, (by show true = (Builtin.bitAnd ((G.mask seats gone : Nat) / 2 ^ ((seats.idxOf x + 1 + i) % seats.length)) 1 != 0); rw [hb2]; rfl), ?_⟩
        show (if false = true then _ else _)
        rw [if_neg (by decide)]
        exact pv.skip (Same.refl _) (by rw [e1]; simp [hg])
      · rw [if_neg hg] at hb2
        refine ⟨false, (by show false = (Builtin.bitAnd ((G.mask seats gone : Nat) / 2 ^ ((seats.idxOf x + 1 + i) % seats.length)) 1 != 0); rw [hb2]; rfl), ?_⟩
        show (if true = true then _ else _)
        rw [if_pos rfl]
        refine ⟨_, rfl, _, rfl, _, _, rfl, rfl, (by show (0 : Int) < (seats.length : Nat); omega), ?_⟩
        exact pv.put hL (Same.refl _) (by rw [e1]; simp only [hg, not_false_eq_true, if_true]; rw [inl_snoc]; rfl) (by rw [intL_len]; omega)
    · refine q L H' pv.same hL ?_
      rw [pv.at_, G.sitIdx_eq hn hx]
theorem wm_seat_of (a r m : Addr) (l : Int) : (wf a r m l).lookup ("seat_of" : Str) = none := wf_none _ _ _ _ (by decide +kernel) (by decide +kernel) (by decide +kernel) (by decide +kernel)
theorem wm_sitters (a r m : Addr) (l : Int) : (wf a r m l).lookup ("sitters" : Str) = none := wf_none _ _ _ _ (by decide +kernel) (by decide +kernel) (by decide +kernel) (by decide +kernel)
theorem wm_nexts (a r m : Addr) (l : Int) : (wf a r m l).lookup ("nexts" : Str) = none := wf_none _ _ _ _ (by decide +kernel) (by decide +kernel) (by decide +kernel) (by decide +kernel)
theorem wm_many (a r m : Addr) (l : Int) : (wf a r m l).lookup ("many" : Str) = none := wf_none _ _ _ _ (by decide +kernel) (by decide +kernel) (by decide +kernel) (by decide +kernel)
theorem wm_led (a r m : Addr) (l : Int) : (wf a r m l).lookup ("led" : Str) = none := wf_none _ _ _ _ (by decide +kernel) (by decide +kernel) (by decide +kernel) (by decide +kernel)
theorem dp_ints {K : PySem.W.Frag} {H : Hp} : ∀ l : List Nat, DpAll K H (intL l) (l.map fun n => PyData.int (n : Nat))
  | [] => .nil
  | n :: r => .cons (.int _) (dp_ints r)
def spNexts (K : PySem.W.Frag) (CW : Addr) : Sp := fun vs H Q _ => ∃ (p m : Addr) (gone seats : List Str) (x : Str) (k : Nat) (ρ : Str → Nat × Nat), vs = [.ref p, .int (G.mask seats gone : Nat), .int (seats.idxOf x : Nat)] ∧ WaysFix K CW H p m seats ρ ∧ G.At seats gone x k ∧ seats.length ≤ 12 ∧ G.WF ρ seats ∧
  ∀ (L : Addr) (H' : Hp), Same H H' → H L = none → H' L = some (.lst (intL ((if k = 0 then [] else G.nexts ρ seats gone x).map seats.idxOf))) → Q (.ref L) H'
theorem sc_Ways_nexts : FnScope ["self", "gone", "at", "left", "place"] ["self", "gone", "at"] (defScope s_Ways_nexts) := ⟨rfl, rfl, rfl, by decide +kernel, rfl, by decide +kernel, by decide +kernel⟩
theorem ok_Ways_nexts (D : MetAt K CW "nexts" "Ways.nexts" s_Ways_nexts) (T : Txt K mg CK CW)  (c_by : C8.Cal P w K mg base 4 "by" (spBy K) []) (c_Ways_sitters : C8.Met P w K mg base 1 CW "sitters" (spSitters K CW) []) : C8.Met P w K mg base 5 CW "nexts" (spNexts K CW) [] := by
  refine met_of T.cW D sc_Ways_nexts (ps := ["self", "gone", "at"]) (fun _ _ _ _ _ _ us hl => match us, hl with | [_, _, _], _ => rfl) (fun vs H Q E h => ?_) fun f cdv A outer s H vs Q E hr h => ?_
  · obtain ⟨p, m, gone, seats, x, k, ρ, rfl, hW, hAt, hl, hwf, q⟩ := h
    rfl
  · obtain ⟨p, m, gone, seats, x, k, ρ, rfl, hW, hAt, hl, hwf, q⟩ := h
    refine ⟨_, (pss_cons (ps_set (i := 3) sc_Ways_nexts.nd rfl (Or.inr rfl) (C8.pe_mt c_Ways_sitters hr (by omega) (pv 0) (pa_cons (pv 1) (pa_cons (pv 2) pa_nil))))
    (pss_one (ps_ret (pe_ifExp (pt_cmpR (op_neD hr.units) (pv 3) (pe_lst pa_nil) (nomark _)) (pe_lc (own := [("place", 4)]) rfl sc_Ways_nexts.nd (pi_list (C8.pe_c c_by hr (by omega) rfl (pa_cons (pe_ix ix_list (pe_fld (pv 0) rfl) (pv 2) (fun _ _ => rfl)) (pa_cons (pe_callB call_len_seq (by rfl) T.b_len (by decide +kernel) (pa_cons (pv 3) pa_nil)) pa_nil)))) (blkOk_by (own := [("place", 4)]) (N := ["self", "gone", "at", "left", "place"]) (sc := defScope s_Ways_nexts) (by decide +kernel)) (fun _ _ _ _ _ => pg_name (i := 4) sc_Ways_nexts.nd rfl (Or.inl rfl)) (fun _ _ _ _ _ => pts_nil) (fun _ _ _ _ _ => (pe_ix (k_ixl K) (pv 3) (pv 4) (fun _ _ => rfl)))) (pe_lst pa_nil))))), ?_⟩
    -- slots: self 0, gone 1, at 2, left 3, place 4
    obtain ⟨dx, a, r, rs, hp, ha, hr1, hr2, hr3⟩ := hW.ex
    have hn := hAt.nd
    have hx := hAt.xl
    have hix := List.idxOf_lt_length_iff.mpr hx
    have hk := hAt.length
    have hkl : k ≤ 12 := by have := hAt.len; omega
    refine ⟨_, rfl, p, dx, _, rfl, hp, wm_sitters _ _ _ _, _, rfl, _, rfl, p, m, gone, seats, x, k, ρ, rfl, hW, hAt, hl, fun L H1 s1 hL0 hL => ?_⟩
    have hle : (intL ((G.sit seats gone x).map seats.idxOf)).length = k := by rw [intL_len, List.length_map, hk]
    refine ⟨_, rfl, Nat.zero_le _, fun e he => ?_⟩
    have s2 := s1.trans (same_upd (o := .lst []) he)
    have hL2 := same_upd (o := .lst []) he _ _ hL
    refine ⟨_, _, .lst (SqL.of hL2) (dp_ints _), .lst (SqL.of upd_same) .nil, shaped_ints _, rfl, ?_⟩
    cases k with
    | zero =>
      rw [show G.sit seats gone x = [] from List.eq_nil_of_length_eq_zero hk]
      refine ⟨false, rfl, ?_⟩
      show (if false = true then _ else _)
      rw [if_neg (by decide)]
      refine ⟨Nat.zero_le _, fun e2 he2 => ?_⟩
      refine q e2 _ (s2.trans (same_upd he2)) (s2.free he2) ?_
      rw [upd_same]
      rfl
    | succ k =>
      have hne : ((G.sit seats gone x).map seats.idxOf) ≠ [] := fun e => by
        have := congrArg List.length e
        rw [List.length_map, hk] at this
        simp at this
      refine ⟨true, by rw [eqv_nil]; cases hc : (G.sit seats gone x).map seats.idxOf with | nil => exact absurd hc hne | cons _ _ => rfl, ?_⟩
      show (if true = true then _ else _)
      rw [if_pos rfl]
      obtain ⟨av, hav⟩ : ∃ v, rs[seats.idxOf x]? = some v := ⟨_, List.getElem?_eq_getElem (by omega)⟩
      have hrr := (hr3 _ _ _ (G.idx_get hx) hav).same s2
      refine ⟨_, rfl, p, CW, dx, _, _, rfl, s2 _ _ hp, T.cW, T.n_w_rests, wf_rests _ _ _ _, _, rfl, r, rs, _, av, rfl, rfl, SqL.of (s2 _ _ hr1), atI_nat hav, ?_⟩
      refine ⟨_, rfl, L, _, rfl, .inl (SqL.of hL2), ?_⟩
      rw [hle]
      refine ⟨av, ρ x, k + 1, rfl, hrr, hwf x hx, by omega, by omega, fun B H3 s3 hB0 hB => ?_⟩
      refine ⟨B, rfl, ⟨_, SqL.of hB⟩, fun D hD => ?_⟩
      have hbs : (G.byN (ρ x).1 (ρ x).2 (k + 1)).length ≤ k + 1 := by
        rw [G.byN_steps (by omega) rfl, List.length_map, List.length_range]
        exact Nat.div_le_self _ _
      have hbl : (intL (G.byN (ρ x).1 (ρ x).2 (k + 1))).length = (G.byN (ρ x).1 (ρ x).2 (k + 1)).length := intL_len _
      refine lc_it walk_list (Told H3 D fun i => intL (((G.byN (ρ x).1 (ρ x).2 (k + 1)).take i).map fun j => seats.idxOf ((G.sit seats gone x).getD j x))) (Told.start hD rfl) (fun i H' _ pv => pv.same.seq (SqL.of hB)) (fun i z H' H'' hi pv y => ?_) fun H' pv => ?_
      · obtain ⟨rfl, hz⟩ := y
        unfold intL at hz
        rw [List.getElem?_map] at hz
        obtain ⟨j, hj, rfl⟩ := Option.map_eq_some_iff.mp hz
        have hjl : j < (G.sit seats gone x).length := by
          rw [hk]
          exact G.byN_lt (List.mem_of_getElem? hj)
        refine ⟨rfl, yes_in ?_⟩
        refine ⟨_, rfl, _, rfl, L, _, _, .int (seats.idxOf ((G.sit seats gone x).getD j x) : Nat), rfl, rfl, SqL.of (pv.same _ _ (s3 _ _ hL2)), atI_nat ?_, ?_⟩
        · unfold intL
          rw [List.getElem?_map, List.getElem?_map, List.getElem?_eq_getElem hjl, G.getD_at hjl]
          rfl
        · refine pv.put hD (Same.refl _) ?_ ?_
          · rw [take_snoc hj, List.map_append]
            exact inl_snoc _ _
          · rw [intL_len, List.length_map]
            rw [List.length_take]
            omega
      · have s4 := (s2.trans s3).trans pv.same
        refine q D H' s4 ((s2.trans s3).free hD) ?_
        rw [pv.at_]
        rw [List.take_of_length_le (by rw [hbl]; omega), if_neg (by omega)]
        unfold G.nexts
        rw [hk, List.map_map]
        rfl
end
end GK
set_option Elab.async false
set_option linter.all false
set_option maxRecDepth 100000
set_option maxHeartbeats 4000000
namespace GK
open PySem PySem.Spec PyProof.Rows L2
section
variable {P : Program} {w : World} {K : PySem.W.Frag} {mg : Str → Option Value} {base : Heap} {CK CW : Addr}
def spMany (K : PySem.W.Frag) (CW : Addr) (n : Nat) : Sp := fun vs H Q _ => ∃ (p m : Addr) (gone seats : List Str) (x : Str) (k : Nat) (ρ : Str → Nat × Nat), vs = [.ref p, .int (G.mask seats gone : Nat), .int (seats.idxOf x : Nat)] ∧ k < n ∧ WaysAt K CW H p m seats ρ ∧ G.At seats gone x k ∧ seats.length ≤ 12 ∧ G.WF ρ seats ∧
  ∀ (H' : Hp), But m H H' → WaysAt K CW H' p m seats ρ → Q (.int (cntW ρ seats k gone x : Nat)) H'
theorem dget_no {H : Hp} {a : Addr} {kvs : List (Key × V)} {i : Int} (e : H a = some (.dK kvs)) (h : valV kvs (Sum.inl i : Key) = none) : DGet H a (.int i) none := .inl ⟨kvs, Sum.inl i, .inl e, rfl, h.symm⟩
theorem But.new {m D : Addr} {H1 H2 : Hp} {o : HO} (b : But m H1 H2) (hD : H1 D = none) : But m H1 (upd H2 D o) := fun c u n h => by
  rw [upd_ne (ne_of_none h hD)]
  exact b c u n h
theorem MemoOk.put2 {ρ : Str → Nat × Nat} {seats gone : List Str} {x : Str} {k : Nat} {kvs : List (Key × V)} (h : MemoOk ρ seats kvs) (a : G.At seats gone x k) : MemoOk ρ seats (putK kvs (Sum.inl (keyW seats gone x : Nat)) (.int (cntW ρ seats k gone x : Nat))) := by
  cases hv : valV kvs (Sum.inl (keyW seats gone x : Nat) : Key) with
  | none => exact h.put a hv
  | some v =>
    have e : (putK kvs (Sum.inl (keyW seats gone x : Nat)) (.int (cntW ρ seats k gone x : Nat))).map (·.1) = kvs.map (·.1) := by
      unfold putK
      rw [valV_any, hv, if_pos (by rfl), List.map_map]
      apply List.map_congr_left
      intro kv _
      show (if kv.1 = _ then (kv.1, _) else kv).1 = kv.1
      split <;> rfl
    refine ⟨by rw [e]; exact h.nd, by rw [e]; exact h.keys, fun g z l u az hz => ?_⟩
    rw [valV_put] at hz
    by_cases q : (Sum.inl ((keyW seats g z : Nat) : Int) : Key) = Sum.inl ((keyW seats gone x : Nat) : Int)
    · rw [if_pos q] at hz
      rw [← Option.some.inj hz, keyW_cnt az a (by have := Sum.inl.inj q; omega)]
    · rw [if_neg q] at hz
      exact h.val g z l u az hz
/-- the counts held so far, the memo may change -/
structure Tally (K : PySem.W.Frag) (CW : Addr) (H1 : Hp) (p m : Addr) (seats : List Str) (ρ : Str → Nat × Nat) (D : Addr) (l : List V) (H : Hp) : Prop where
  but : But m H1 H
  ways : WaysAt K CW H p m seats ρ
  at_ : H D = some (.lst l)
theorem But.tally {p m D : Addr} {seats : List Str} {ρ : Str → Nat × Nat} {H1 H2 : Hp} {kvs : List (Key × V)} {l l' : List V} (b : But m H1 H2) (hm1 : H1 m = some (.dK kvs)) (hD : H1 D = none) (f : WaysFix K CW H1 p m seats ρ) (mm : ∃ kvs, H2 m = some (.dK kvs) ∧ MemoOk ρ seats kvs) (e : l = l') : Tally K CW H1 p m seats ρ D l' (upd H2 D (.lst l)) := by
  subst e
  have Dm : D ≠ m := (ne_of_none hm1 hD).symm
  obtain ⟨k2, m1, m2⟩ := mm
  exact ⟨b.new hD, ⟨(b.new hD).fix hm1 f, k2, (upd_ne Dm.symm).trans m1, m2⟩, upd_same⟩
theorem sc_Ways_many : FnScope ["self", "gone", "at", "key", "to"] ["self", "gone", "at"] (defScope s_Ways_many) := ⟨rfl, rfl, rfl, by decide +kernel, rfl, by decide +kernel, by decide +kernel⟩
theorem ok_Ways_many (D : MetAt K CW "many" "Ways.many" s_Ways_many) (T : Txt K mg CK CW) {n : Nat} (c_Ways_nexts : C8.Met P w K mg base 5 CW "nexts" (spNexts K CW) []) (c_Ways_many : C8.Met P w K mg base (n+5) CW "many" (spMany K CW n) []) : C8.Met P w K mg base (n+6) CW "many" (spMany K CW (n+1)) [] := by
  refine met_of T.cW D sc_Ways_many (ps := ["self", "gone", "at"]) (fun _ _ _ _ _ _ us hl => match us, hl with | [_, _, _], _ => rfl) (fun vs H Q E h => ?_) fun f cdv A outer s H vs Q E hr h => ?_
  · obtain ⟨p, m, gone, seats, x, k, ρ, rfl, hkn, hW, hAt, hl, hwf, q⟩ := h
    rfl
  · obtain ⟨p, m, gone, seats, x, k, ρ, rfl, hkn, hW, hAt, hl, hwf, q⟩ := h
    have hu := hu_of hr
    refine ⟨_, (pss_cons (ps_if (pt_cmpR op_eq (pv 1) (pe_fld (pv 0) rfl) (nomark _)) 
      (pss_one (ps_ret pe_int)) pss_nil)
    (pss_cons (ps_set (i := 3) sc_Ways_many.nd rfl (Or.inl rfl) (pe_op op_add (pe_op op_mul (pv 1) (pe_callB call_len_seq (by rfl) T.b_len (by decide +kernel) (pa_cons (pe_fld (pv 0) rfl) pa_nil))) (pv 2)))
    (pss_cons (ps_if (pt_cmp (pc_dnotin hu (pv 3) (pe_fld (pv 0) rfl))) 
      (pss_one (ps_dput hu (pe_fld (pv 0) rfl) (pv 3) (pe_callB (cr_sum rfl) (by rfl) T.b_sum (by decide +kernel) (pa_cons (pe_lc (own := [("to", 4)]) rfl sc_Ways_many.nd (pi_list (C8.pe_mt c_Ways_nexts hr (by omega) (pv 0) (pa_cons (pv 1) (pa_cons (pv 2) pa_nil)))) (blkOk_by (own := [("to", 4)]) (N := ["self", "gone", "at", "key", "to"]) (sc := defScope s_Ways_many) (by decide +kernel)) (fun _ _ _ _ _ => pg_name (i := 4) sc_Ways_many.nd rfl (Or.inl rfl)) (fun _ _ _ _ _ => pts_nil) (fun _ _ _ _ _ => (C8.pe_mt c_Ways_many hr (by omega) (pv 0) (pa_cons (pe_op op_or (pv 1) (pe_op op_shl pe_int (pv 4))) (pa_cons (pv 4) pa_nil))))) pa_nil)) rfl)) pss_nil)
    (pss_one (ps_ret (pe_dget hu (pe_fld (pv 0) rfl) (pv 3) (fun _ _ => rfl))))))), ?_⟩
    -- slots: self 0, gone 1, at 2, key 3, to 4
    obtain ⟨dx, a, r, rs, hp, ha, hr1, hr2, hr3⟩ := hW.fix.ex
    obtain ⟨kvs, hm, hmo⟩ := hW.memo
    have hn := hAt.nd
    have hx := hAt.xl
    have hix := List.idxOf_lt_length_iff.mpr hx
    have hml := G.mask_lt seats gone
    have hpw : 2 ^ seats.length ≤ 2 ^ 12 := Nat.pow_le_pow_right (by omega) hl
    have h12 : (2 : Nat) ^ 12 = 4096 := by decide
    have hls : (seats.map V.str).length = seats.length := List.length_map ..
    refine ⟨_, rfl, _, rfl, p, CW, dx, _, _, rfl, hp, T.cW, T.n_w_all, wf_all _ _ _ _, rfl, _, rfl, ?_⟩
    cases k with
    | zero =>
      have hf := hAt.full.mpr rfl
      have hp2 : 0 < 2 ^ seats.length := Nat.pow_pos (by decide)
      rw [show decide (V.int ((G.mask seats gone : Nat) : Int) = V.int (2 ^ seats.length - 1)) = true from decide_eq_true (by rw [hf, ← PySem.W.kbt_cast]; congr 1; omega)]
      refine iteT ?_
      exact q H But.refl hW
    | succ k =>
      rw [show decide (V.int ((G.mask seats gone : Nat) : Int) = V.int (2 ^ seats.length - 1)) = false from decide_eq_false fun e => by
        have e2 := V.int.inj e
        have hp2 : 0 < 2 ^ seats.length := Nat.pow_pos (by decide)
        rw [← PySem.W.kbt_cast] at e2
        have := hAt.full.mp (by omega)
        omega]
      refine iteF ?_
      have hkc : ((G.mask seats gone : Nat) : Int) * (seats.length : Nat) + (seats.idxOf x : Nat) = ((keyW seats gone x : Nat) : Int) := rfl
      refine ⟨_, rfl, _, rfl, p, CW, dx, _, _, rfl, hp, T.cW, T.n_w_seats, wf_seats _ _ _ _, a, _, rfl, .inl (SqL.of ha), ?_⟩
      rw [hls]
      refine ⟨_, _, rfl, rfl, .inr ⟨by omega, by omega⟩, _, rfl, _, _, rfl, rfl, ?_⟩
      have hdone : ∀ H', But m H H' → WaysAt K CW H' p m seats ρ → (∃ kvs', H' m = some (.dK kvs') ∧ valV kvs' (Sum.inl (keyW seats gone x : Nat) : Key) = some (.int (cntW ρ seats (k + 1) gone x : Nat))) → Q (.int (cntW ρ seats (k + 1) gone x : Nat)) H' := fun H' b w _ => q H' b w
      cases hv : valV kvs (Sum.inl (keyW seats gone x : Nat) : Key) with
      | some v =>
        refine ⟨_, rfl, _, rfl, p, CW, dx, _, _, rfl, hp, T.cW, T.n_w_many, wf_many _ _ _ _, m, some v, rfl, dget_int hm hv, false, rfl, ?_⟩
        refine iteF ?_
        have := hmo.val gone x (k + 1) v hAt hv
        subst this
        refine ⟨_, rfl, p, CW, dx, _, _, rfl, hp, T.cW, T.n_w_many, wf_many _ _ _ _, _, rfl, m, _, rfl, dget_int hm hv, ?_⟩
        exact q H But.refl hW
      | none =>
        refine ⟨_, rfl, _, rfl, p, CW, dx, _, _, rfl, hp, T.cW, T.n_w_many, wf_many _ _ _ _, m, none, rfl, dget_no hm hv, true, rfl, ?_⟩
        refine iteT ?_
        refine ⟨_, rfl, p, dx, _, rfl, hp, wm_nexts _ _ _ _, _, rfl, _, rfl, p, m, gone, seats, x, k + 1, ρ, rfl, hW.fix, hAt, hl, hwf, fun L H1 s1 hL0 hL => ?_⟩
        rw [if_neg (by omega)] at hL
        refine ⟨L, rfl, ⟨_, SqL.of hL⟩, fun D hD => ?_⟩
        have hm1 := s1 _ _ hm
        have Dm : D ≠ m := (ne_of_none hm1 hD).symm
        have nl : (intL ((G.nexts ρ seats gone x).map seats.idxOf)).length = (G.nexts ρ seats gone x).length := by rw [intL_len, List.length_map]
        have hnb : (G.nexts ρ seats gone x).length ≤ 12 := by
          refine Nat.le_trans (G.nd_sub (G.nexts_nodup hAt) fun y hy => (hAt.mem.mp (G.nexts_sub hAt hy)).1) hl
        refine lc_it walk_list (fun i H' => Tally K CW H1 p m seats ρ D (intL (((G.nexts ρ seats gone x).take i).map fun y => cntW ρ seats k (gone ++ [y]) y)) H') ⟨But.of (same_upd hD), (hW.same s1).same (same_upd hD), upd_same⟩ (fun i H' _ pv => pv.but.seq hm1 (SqL.of hL)) (fun i z H' H'' hi pv y => ?_) fun H' pv => ?_
        · obtain ⟨rfl, hz⟩ := y
          unfold intL at hz
          rw [List.getElem?_map, List.getElem?_map] at hz
          obtain ⟨j, hj, rfl⟩ := Option.map_eq_some_iff.mp hz
          obtain ⟨y, hy, rfl⟩ := Option.map_eq_some_iff.mp hj
          have hys := G.nexts_sub hAt (List.mem_of_getElem? hy)
          have hyi := List.idxOf_lt_length_iff.mpr (hAt.mem.mp hys).1
          refine ⟨rfl, yes_in ?_⟩
          refine ⟨_, rfl, p, dx, _, rfl, pv.but _ _ (ne_of (s1 _ _ hp) hm1 (by intro z; cases z)) (s1 _ _ hp), wm_many _ _ _ _, _, rfl, _, rfl, _, _, rfl, rfl, ⟨by omega, by omega, by decide⟩, _, _, rfl, rfl, _, rfl, p, m, gone ++ [y], seats, y, k, ρ, ?_, by omega, pv.ways, hAt.step hys, hl, hwf, fun H2 b2 w2 => ?_⟩
          · show [V.ref p, V.int (Builtin.bitOr (G.mask seats gone : Nat) (1 * 2 ^ ((seats.idxOf y : Nat) : Int).toNat)), V.int (seats.idxOf y : Nat)] = _
            rw [bor_seat hAt hys]
          · refine ⟨_, b2 _ _ Dm pv.at_, sz_lt ?_, ?_⟩
            · rw [intL_len, List.length_map, List.length_take]
              omega
            · refine (pv.but.trans b2).tally hm1 hD (hW.fix.same s1) w2.memo ?_
              rw [take_snoc hy, List.map_append]
              rw [show intL (List.map (fun y => cntW ρ seats k (gone ++ [y]) y) ((G.nexts ρ seats gone x).take i) ++ List.map (fun y => cntW ρ seats k (gone ++ [y]) y) [y]) = intL (List.map (fun y => cntW ρ seats k (gone ++ [y]) y) ((G.nexts ρ seats gone x).take i)) ++ [.int (cntW ρ seats k (gone ++ [y]) y : Nat)] from inl_snoc _ _]
        · rw [List.take_of_length_le (by omega)] at pv
          refine ⟨D, ((G.nexts ρ seats gone x).map fun y => cntW ρ seats k (gone ++ [y]) y).map fun n : Nat => (n : Int), rfl, SqL.of (by rw [List.map_map]; exact pv.at_), ?_⟩
          rw [sum_cast, ← cnt_succ]
          obtain ⟨kv2, hm2, ok2⟩ := pv.ways.memo
          have hp2 := pv.but _ _ (ne_of (s1 _ _ hp) hm1 (by intro z; cases z)) (s1 _ _ hp)
          refine ⟨_, rfl, p, CW, dx, _, _, rfl, hp2, T.cW, T.n_w_many, wf_many _ _ _ _, _, rfl, m, _, rfl, DPut.k (k := Sum.inl (keyW seats gone x : Nat)) hm2 (sz_lt (ok2.len hl)), ?_⟩
          have pm : p ≠ m := ne_of hp hm (by intro z; cases z)
          have bb : ∀ o, But m H (upd H' m o) := fun o => ((But.of s1).trans pv.but).mut
          refine ⟨_, rfl, p, CW, dx, _, _, rfl, (upd_ne pm).trans hp2, T.cW, T.n_w_many, wf_many _ _ _ _, _, rfl, m, _, rfl, dget_int (i := (keyW seats gone x : Nat)) upd_same (by rw [valV_put, if_pos rfl]), ?_⟩
          exact q _ (bb _) ⟨(bb _).fix hm hW.fix, _, upd_same, ok2.put2 hAt⟩
/-- many: by how many sit, for all -/
theorem many_all (D : MetAt K CW "many" "Ways.many" s_Ways_many) (T : Txt K mg CK CW) (c_Ways_nexts : C8.Met P w K mg base 5 CW "nexts" (spNexts K CW) []) : ∀ n, C8.Met P w K mg base (n + 5) CW "many" (spMany K CW n) []
  | 0 => by
    refine met_of (k := 4) T.cW D sc_Ways_many (ps := ["self", "gone", "at"]) (fun _ _ _ _ _ _ us hl => match us, hl with | [_, _, _], _ => rfl) (fun vs H Q E h => ?_) fun f cdv A outer s H vs Q E hr h => ?_
    · obtain ⟨p, m, gone, seats, x, k, ρ, rfl, hkn, _⟩ := h
      rfl
    · obtain ⟨p, m, gone, seats, x, k, ρ, rfl, hkn, _⟩ := h
      omega
  | n + 1 => ok_Ways_many D T c_Ways_nexts (many_all D T c_Ways_nexts n)
end
end GK
set_option Elab.async false
set_option linter.all false
set_option maxRecDepth 100000
set_option maxHeartbeats 4000000
namespace GK
open PySem PySem.Spec PyProof.Rows L2
section
variable {P : Program} {w : World} {K : PySem.W.Frag} {mg : Str → Option Value} {base : Heap} {CK CW : Addr}
theorem flat_ints (l : List Nat) : (intL l).all flatV = true := by
  rw [List.all_eq_true]
  intro v hv
  obtain ⟨x, _, rfl⟩ := List.mem_map.mp hv
  rfl
theorem inV_ints {n : Nat} {l : List Nat} (h : n ∈ l) : inV (.int n) (intL l) = true := by
  unfold inV
  rw [List.any_eq_true]
  refine ⟨.int n, List.mem_map.mpr ⟨n, h, rfl⟩, ?_⟩
  show ((n : Int) == (n : Int)) = true
  simp
def spLed (K : PySem.W.Frag) (CW : Addr) : Sp := fun vs H Q _ => ∃ (p m a : Addr) (goers seats : List Str) (x : Str) (ρ : Str → Nat × Nat), vs = [.ref p, .ref a] ∧ WaysFix K CW H p m seats ρ ∧ SqT K H a (goers.map V.str) ∧ G.Path ρ seats goers ∧ goers[goers.length - 1]? = some x ∧ seats.length ≤ 12 ∧ G.WF ρ seats ∧
  ∀ (t : Addr) (H' : Hp), Same H H' → H t = none → H' t = some (.tup [.int (G.mask seats goers : Nat), .int (seats.idxOf x : Nat)]) → Q (.ref t) H'
theorem sc_Ways_led : FnScope ["self", "goers", "gone", "last", "name", "to", "one"] ["self", "goers"] (defScope s_Ways_led) := ⟨rfl, rfl, rfl, by decide +kernel, rfl, by decide +kernel, by decide +kernel⟩
theorem ok_Ways_led (D : MetAt K CW "led" "Ways.led" s_Ways_led) (T : Txt K mg CK CW)  (c_Ways_nexts : C8.Met P w K mg base 5 CW "nexts" (spNexts K CW) []) (c_Ways_seat_of : C8.Met P w K mg base 1 CW "seat_of" (spSeatOf K CW) []) : C8.Met P w K mg base 6 CW "led" (spLed K CW) [] := by
  refine met_of T.cW D sc_Ways_led (ps := ["self", "goers"]) (fun _ _ _ _ _ _ us hl => match us, hl with | [_, _], _ => rfl) (fun vs H Q E h => ?_) fun f cdv A outer s H vs Q E hr h => ?_
  · obtain ⟨p, m, a, goers, seats, x, ρ, rfl, hW, ha, hp0, hx, hl, hwf, q⟩ := h
    rfl
  · obtain ⟨p, m, a, goers, seats, x, ρ, rfl, hW, ha, hp0, hx, hl, hwf, q⟩ := h
    refine ⟨_, (pss_cons (ps_if (PW.pt (pw_or (pt_not (pt_val (pe_callB call_isi (by rfl) T.b_isinstance (by decide +kernel) (pa_cons (pv 1) (pa_cons (pe_b "tuple" (by rfl) T.b_tuple (by decide +kernel)) pa_nil))))) (pw_or1 (pt_not (pt_val (pe_callB (cr_all rfl) (by rfl) T.b_all (by decide +kernel) (pa_cons (pe_lc (own := [("one", 6)]) rfl sc_Ways_led.nd (pi_tup (pv 1)) (blkOk_by (own := [("one", 6)]) (N := ["self", "goers", "gone", "last", "name", "to", "one"]) (sc := defScope s_Ways_led) (by decide +kernel)) (fun _ _ _ _ _ => pg_name (i := 6) sc_Ways_led.nd rfl (Or.inl rfl)) (fun _ _ _ _ _ => pts_nil) (fun _ _ _ _ _ => (pe_and (pe_callB (k_isi K) (by rfl) T.b_isinstance (by decide +kernel) (pa_cons (pv 6) (pa_cons (pe_b "str" (by rfl) T.b_str (by decide +kernel)) pa_nil))) (pe_one (pe_cmpR (k_in K) (pv 6) (k_fld K (pv 0)) (by rfl)))))) pa_nil))))))) 
      (pss_one (ps_ret pe_non)) pss_nil)
    (pss_cons (ps_asg (pe_tup (pa_cons pe_int (pa_cons pe_non pa_nil))) (pg_tup (by rfl) (pgs_cons (pg_name (i := 2) sc_Ways_led.nd rfl (Or.inl rfl)) (pgs_cons (pg_name (i := 3) sc_Ways_led.nd rfl (Or.inl rfl)) pgs_nil))))
    (pss_cons (ps_for PassesOwn.never rfl (pi_tup (pv 1)) (pg_name (i := 4) sc_Ways_led.nd rfl (Or.inl rfl)) 
      (pss_cons (ps_set (i := 5) sc_Ways_led.nd rfl (Or.inl rfl) (C8.pe_mt c_Ways_seat_of hr (by omega) (pv 0) (pa_cons (pv 4) pa_nil)))
      (pss_cons (ps_if (PW.pt (pw_and (pt_cmpR op_notN (pv 3) pe_non (nomark _)) (pw_and1 (pt_cmpR op_notIn_seq (pv 5) (C8.pe_mt c_Ways_nexts hr (by omega) (pv 0) (pa_cons (pv 2) (pa_cons (pv 3) pa_nil))) (by rfl))))) 
        (pss_one (ps_ret pe_non)) pss_nil)
      (pss_one (ps_par (i := 2) (j := 3) rfl sc_Ways_led.nd rfl rfl (by decide) rfl rfl (pa_cons (pe_op op_or (pv 2) (pe_op op_shl pe_int (pv 5))) (pa_cons (pv 5) pa_nil)) (by rfl))))))
    (pss_one (ps_ret (pe_ifExp (pt_cmpR op_isN (pv 3) pe_non (nomark _)) pe_non (pe_tup (pa_cons (pv 2) (pa_cons (pv 3) pa_nil))))))))), ?_⟩
    -- slots: self 0, goers 1, gone 2, last 3, name 4, to 5, one 6
    obtain ⟨dx, sa, r, rs, hp, hsa, hr1, hr2, hr3⟩ := hW.ex
    have hgl : (goers.map V.str).length = goers.length := List.length_map ..
    have hgl2 := Nat.le_trans hp0.few hl
    refine ⟨_, rfl, _, _, _, .type "tuple", true, rfl, .ty _, tyx_tup ha, rfl, true, rfl, ?_⟩
    refine iteF ?_
    refine ⟨_, rfl, a, rfl, ⟨_, ha⟩, fun L hL => ?_⟩
    refine lc_it walk_tup (Told H L fun i => List.replicate i (V.bl true)) (Told.start hL rfl) (fun i H' _ pv => same_tup pv.same ha) (fun i z H' H'' hi pv y => ?_) fun H' pv => ?_
    · obtain ⟨rfl, hz⟩ := y
      obtain ⟨u, hu, rfl⟩ := str_at hz
      refine ⟨rfl, yes_in ?_⟩
      refine ⟨_, rfl, _, _, _, _, true, rfl, .ty _, .base (.str u), kit_ty (by decide +kernel), true, rfl, ?_⟩
      refine iteT ⟨_, rfl, _, rfl, p, CW, dx, _, _, rfl, pv.same _ _ hp, T.cW, T.n_w_seats, wf_seats _ _ _ _, sa, _, rfl, .inl (SqL.of (pv.same _ _ hsa)), rfl, flat_strs seats, ?_⟩
      rw [inV_strs, decide_eq_true (hp0.mem (List.mem_of_getElem? hu))]
      exact pv.put hL (Same.refl _) (rep_succ _ _) (by simp; omega)
    · refine ⟨L, List.replicate (goers.map V.str).length true, rfl, SqL.of (by rw [← map_rep]; exact pv.at_), _, rfl, ?_⟩
      rw [all_rep]
      refine iteF ?_
      have s1 := pv.same
      refine ⟨by show 2 ≤ sizeLine; decide, fun t1 ht1 => ?_⟩
      have s2 := s1.trans (same_upd (o := .tup [.int 0, .non]) ht1)
      refine ⟨t1, _, rfl, SqT.of upd_same, rfl, _, _, rfl, _, _, rfl, rfl, ?_⟩
      refine ⟨_, rfl, a, rfl, ⟨_, same_tup s2 ha⟩, ?_⟩
      refine for_it walk_tup (fun i σ H' => Same H H' ∧ ∃ n t o, σ = [some (.ref p), some (.ref a), some (.int (G.mask seats (goers.take i) : Nat)), some (match i with | 0 => .non | i + 1 => .int (seats.idxOf (goers.getD i x) : Nat)), n, t, o]) ⟨s2, _, _, _, by rw [List.take_zero, G.mask_nil]; rfl⟩ (fun i σ H' _ pv => same_tup pv.1 ha) (fun i z σ H' H'' hi pv y => ?_) fun σ H' pv => ?_
      · obtain ⟨rfl, hz⟩ := y
        obtain ⟨u, hu, rfl⟩ := str_at hz
        obtain ⟨s3, n, t2, o, rfl⟩ := pv
        have hus := hp0.mem (List.mem_of_getElem? hu)
        have hui := List.idxOf_lt_length_iff.mpr hus
        refine ⟨_, rfl, p, dx, _, rfl, s3 _ _ hp, wm_seat_of _ _ _ _, _, rfl, p, m, u, seats, ρ, rfl, hW.same s3, hus, ?_⟩
        have hun := nd_take hp0.nodup hu
        have hm1 : ((G.mask seats (goers.take (i + 1)) : Nat) : Int) = Builtin.bitOr (G.mask seats (goers.take i) : Nat) (1 * 2 ^ ((seats.idxOf u : Nat) : Int).toNat) := by rw [take_snoc hu, bor_snoc hp0.nd hus hun]
        have hg : goers.getD i x = u := by rw [List.getD_eq_getElem?_getD, hu, Option.getD_some]
        cases i with
        | zero =>
          refine ⟨_, rfl, rfl, false, rfl, ?_⟩
          refine iteF ?_
          refine iteF ?_
          refine ⟨_, rfl, _, rfl, _, _, rfl, rfl, ⟨by omega, by omega, by decide⟩, _, _, rfl, rfl, _, rfl, _, _, rfl, ?_⟩
          refine ⟨s3, some (.str u), some (.int (seats.idxOf u : Nat)), o, ?_⟩
          rw [hm1]
          show _ = [_, _, _, some (V.int (seats.idxOf (goers.getD 0 x) : Nat)), _, _, _]
          rw [hg]
          rfl
        | succ i =>
          have hi2 : i < goers.length := by rw [hgl] at hi; omega
          have hv : goers[i]? = some goers[i] := List.getElem?_eq_getElem hi2
          have hgv : goers.getD i x = goers[i] := by rw [List.getD_eq_getElem?_getD, hv, Option.getD_some]
          have hA := hp0.at_ hv
          have hst := hp0.step i _ u hv hu
          refine ⟨_, rfl, rfl, true, rfl, ?_⟩
          refine iteT ?_
          refine ⟨_, rfl, _, rfl, p, dx, _, rfl, s3 _ _ hp, wm_nexts _ _ _ _, _, rfl, _, rfl, p, m, goers.take (i + 1), seats, goers[i], seats.length - (i + 1), ρ, ?_, hW.same s3, hA, hl, hwf, fun B H3 s4 hB0 hB => ?_⟩
          · show [V.ref p, V.int (G.mask seats (goers.take (i + 1)) : Nat), V.int (seats.idxOf (goers.getD i x) : Nat)] = _
            rw [hgv]
          · have hfew := hp0.few
            rw [hgl] at hi
            rw [if_neg (by omega)] at hB
            refine ⟨B, _, rfl, .inl (SqL.of hB), rfl, flat_ints _, false, ?_, ?_⟩
            · rw [inV_ints (n := seats.idxOf u) (l := (G.nexts ρ seats (goers.take (i + 1)) goers[i]).map fun a => List.idxOf a seats) (List.mem_map.mpr ⟨u, hst, rfl⟩)]
              rfl
            · refine iteF ?_
              refine ⟨_, rfl, _, rfl, _, _, rfl, rfl, ⟨by omega, by omega, by decide⟩, _, _, rfl, rfl, _, rfl, _, _, rfl, ?_⟩
              refine ⟨s3.trans s4, some (.str u), some (.int (seats.idxOf u : Nat)), o, ?_⟩
              rw [hm1]
              show _ = [_, _, _, some (V.int (seats.idxOf (goers.getD (i + 1) x) : Nat)), _, _, _]
              rw [hg]
              rfl
      · obtain ⟨s3, n, t2, o, rfl⟩ := pv
        obtain ⟨b, hb, _⟩ := hp0.first
        have hpos := (List.getElem?_eq_some_iff.mp hb).1
        have hgx : goers.getD (goers.length - 1) x = x := by rw [List.getD_eq_getElem?_getD, hx, Option.getD_some]
        obtain ⟨n0, hn0⟩ : ∃ n0, goers.length = n0 + 1 := ⟨goers.length - 1, by omega⟩
        rw [hgl, hn0]
        refine ⟨_, rfl, rfl, false, rfl, ?_⟩
        refine iteF ?_
        refine ⟨_, rfl, _, rfl, by show 2 ≤ sizeLine; decide, fun t3 ht3 => ?_⟩
        refine q t3 _ (s3.trans (same_upd ht3)) (s3.free ht3) ?_
        rw [upd_same]
        show some (HO.tup [V.int (G.mask seats (goers.take (n0 + 1)) : Nat), V.int (seats.idxOf (goers.getD n0 x) : Nat)]) = _
        rw [List.take_of_length_le (by omega), show goers.getD n0 x = x by rw [hn0] at hgx; exact hgx]
end
end GK
set_option Elab.async false
set_option linter.all false
set_option maxRecDepth 100000
set_option maxHeartbeats 4000000
namespace GK
open PySem PySem.Spec PyProof.Rows L2
section
variable {P : Program} {w : World} {K : PySem.W.Frag} {mg : Str → Option Value} {base : Heap} {CK CW : Addr}
theorem But.same0 {m : Addr} {H0 H1 H2 : Hp} (s : Same H0 H1) (h : H0 m = none) (b : But m H1 H2) : Same H0 H2 := fun c o e => b c o (ne_of_none e h) (s c o e)
def spNextOnes (K : PySem.W.Frag) (CK : Addr) : Sp := fun vs H Q _ => ∃ (kn a g : Addr) (xs seats goers : List Str) (x : Str) (ρ : Str → Nat × Nat), vs = [.ref kn, .ref a, .ref g] ∧ KnownAt K CK H kn xs ρ ∧ SqL K H a (seats.map V.str) ∧ SeatsOk seats xs ∧ SqT K H g (goers.map V.str) ∧ G.Path ρ seats goers ∧ goers[goers.length - 1]? = some x ∧ G.WF ρ seats ∧
  ∀ (L : Addr) (H' : Hp), Same H H' → H L = none → H' L = some (.lst ((if seats.length ≤ goers.length then [] else G.nexts ρ seats goers x).map V.str)) → Q (.ref L) H'
theorem sc_next_ones : FnScope ["known", "seats", "goers", "ways", "stand", "to"] ["known", "seats", "goers"] (defScope s_next_ones) := ⟨rfl, rfl, rfl, by decide +kernel, rfl, by decide +kernel, by decide +kernel⟩
theorem ok_next_ones (D : DefAt K mg "next_ones" s_next_ones) (T : Txt K mg CK CW)  (c_Ways_nexts : C8.Met P w K mg base 5 CW "nexts" (spNexts K CW) []) (c_Ways_led : C8.Met P w K mg base 6 CW "led" (spLed K CW) []) (c_Ways : C8.Mak P w K mg base 2 "Ways" CW (spWaysInit K CK CW) []) (c_need_seats : C8.Cal P w K mg base 3 "need_seats" (spNeedSeats K CK) []) : C8.Cal P w K mg base 7 "next_ones" (spNextOnes K CK) [] := by
  refine cal_of D sc_next_ones (ps := ["known", "seats", "goers"]) (fun _ _ _ _ _ _ us hl => match us, hl with | [_, _, _], _ => rfl) (fun vs H Q E h => ?_) fun f cdv A outer s H vs Q E hr h => ?_
  · obtain ⟨kn, a, g, xs, seats, goers, x, ρ, rfl, hK, ha, so, hg, hP, hx, hwf, q⟩ := h
    rfl
  · obtain ⟨kn, a, g, xs, seats, goers, x, ρ, rfl, hK, ha, so, hg, hP, hx, hwf, q⟩ := h
    refine ⟨_, (pss_cons (ps_expr (C8.pe_c c_need_seats hr (by omega) rfl (pa_cons (pv 0) (pa_cons (pv 1) pa_nil))))
    (pss_cons (ps_set (i := 3) sc_next_ones.nd rfl (Or.inr rfl) (C8.pe_mk c_Ways hr (by omega) rfl (pa_cons (pv 0) (pa_cons (pv 1) pa_nil))))
    (pss_cons (ps_set (i := 4) sc_next_ones.nd rfl (Or.inl rfl) (C8.pe_mt c_Ways_led hr (by omega) (pv 3) (pa_cons (pv 2) pa_nil)))
    (pss_cons (ps_if (pt_cmpR op_isN (pv 4) pe_non (nomark _)) 
      (pss_one ps_never) pss_nil)
    (pss_one (ps_ret (pe_lc (own := [("to", 5)]) rfl sc_next_ones.nd (pi_list (C8.pe_mt c_Ways_nexts hr (by omega) (pv 3) (pa_cons (pe_ix ix_tup (pv 4) pe_int (fun _ _ => rfl)) (pa_cons (pe_ix ix_tup (pv 4) pe_int (fun _ _ => rfl)) pa_nil)))) (blkOk_by (own := [("to", 5)]) (N := ["known", "seats", "goers", "ways", "stand", "to"]) (sc := defScope s_next_ones) (by decide +kernel)) (fun _ _ _ _ _ => pg_name (i := 5) sc_next_ones.nd rfl (Or.inl rfl)) (fun _ _ _ _ _ => pts_nil) (fun _ _ _ _ _ => (pe_ix (k_ixl K) (k_fld K (pv 3)) (pv 5) (fun _ _ => rfl)))))))))), ?_⟩
    -- slots: known 0, seats 1, goers 2, ways 3, stand 4, to 5
    have o2 := so.most
    have hsl := so.len
    have hl : seats.length ≤ 12 := by omega
    refine ⟨_, rfl, _, rfl, kn, a, seats, xs, ρ, rfl, hK, ha, so, fun H1 s1 => ?_⟩
    refine ⟨_, rfl, _, rfl, fun p dx np ndx npx => ?_⟩
    have sU : Same H1 (upd (upd H1 dx (.own p)) p (.ins CW dx [])) := fun b o e => by
      rw [upd_ne (ne_of_none e np), upd_ne (ne_of_none e ndx)]
      exact e
    refine ⟨H1, p, dx, kn, a, seats, xs, ρ, rfl, sU, np, upd_same, hK.same s1, s1.seq ha, so, fun m H2 s2 m0 hW => ⟨rfl, ?_⟩⟩
    have s3 := s1.trans s2
    obtain ⟨wdx, sa, r, rs, hp, hsa, hr1, hr2, hr3⟩ := hW.fix.ex
    refine ⟨_, rfl, p, wdx, _, rfl, hp, wm_led _ _ _ _, _, rfl, p, m, g, goers, seats, x, ρ, rfl, hW.fix, same_tup s3 hg, hP, hx, hl, hwf, fun t H3 s4 t0 ht => ?_⟩
    refine ⟨_, rfl, rfl, false, rfl, ?_⟩
    refine iteF ?_
    have hA := hP.at_ hx
    obtain ⟨b0, hb0, _⟩ := hP.first
    have hpos := (List.getElem?_eq_some_iff.mp hb0).1
    have hgt : goers.take (goers.length - 1 + 1) = goers := List.take_of_length_le (by omega)
    rw [hgt] at hA
    refine ⟨_, rfl, p, wdx, _, rfl, s4 _ _ hp, wm_nexts _ _ _ _, _, rfl, t, _, 0, _, rfl, rfl, SqT.of ht, rfl, _, rfl, t, _, 1, _, rfl, rfl, SqT.of ht, rfl, p, m, goers, seats, x, seats.length - (goers.length - 1 + 1), ρ, rfl, hW.fix.same s4, hA, hl, hwf, fun L H4 s5 hL0 hL => ?_⟩
    have ec : (if seats.length - (goers.length - 1 + 1) = 0 then [] else G.nexts ρ seats goers x) = (if seats.length ≤ goers.length then [] else G.nexts ρ seats goers x) := by
      by_cases c : seats.length ≤ goers.length
      · rw [if_pos (by omega), if_pos c]
      · rw [if_neg (by omega), if_neg c]
    rw [ec] at hL
    have hmem : ∀ y ∈ (if seats.length ≤ goers.length then [] else G.nexts ρ seats goers x), y ∈ seats := fun y hy => by
      by_cases c : seats.length ≤ goers.length
      · rw [if_pos c] at hy
        cases hy
      · rw [if_neg c] at hy
        have e : seats.length - (goers.length - 1 + 1) = seats.length - goers.length - 1 + 1 := by omega
        rw [e] at hA
        exact (hA.mem.mp (G.nexts_sub hA hy)).1
    have hmn : (if seats.length ≤ goers.length then [] else G.nexts ρ seats goers x).length ≤ 12 := by
      by_cases c : seats.length ≤ goers.length
      · rw [if_pos c]
        exact Nat.zero_le _
      · rw [if_neg c]
        rw [if_neg c] at hmem
        have e : seats.length - (goers.length - 1 + 1) = seats.length - goers.length - 1 + 1 := by omega
        rw [e] at hA
        exact Nat.le_trans (G.nd_sub (G.nexts_nodup hA) hmem) hl
    generalize (if seats.length ≤ goers.length then [] else G.nexts ρ seats goers x) = ys at *
    have hyl : (intL (ys.map fun a => List.idxOf a seats)).length = ys.length := by rw [intL_len, List.length_map]
    refine ⟨L, rfl, ⟨_, SqL.of hL⟩, fun D hD => ?_⟩
    have s6 := (s3.trans s4).trans s5
    refine lc_it walk_list (Told H4 D fun i => (ys.take i).map V.str) (Told.start hD rfl) (fun i H' _ pv => SqL.of (pv.same _ _ hL)) (fun i z H' H'' hi pv y => ?_) fun H' pv => ?_
    · obtain ⟨rfl, hz⟩ := y
      unfold intL at hz
      rw [List.getElem?_map, List.getElem?_map] at hz
      obtain ⟨j, hj, rfl⟩ := Option.map_eq_some_iff.mp hz
      obtain ⟨y, hy, rfl⟩ := Option.map_eq_some_iff.mp hj
      refine ⟨rfl, yes_in ?_⟩
      have hs7 := s5.trans pv.same
      refine ⟨_, rfl, p, CW, wdx, _, _, rfl, hs7 _ _ (s4 _ _ hp), T.cW, T.n_w_seats, wf_seats _ _ _ _, _, rfl, sa, _, _, .str y, rfl, rfl, SqL.of (hs7 _ _ (s4 _ _ hsa)), atI_nat (by rw [List.getElem?_map, G.idx_get (hmem y (List.mem_of_getElem? hy))]; rfl), ?_⟩
      refine pv.put hD (Same.refl _) (by rw [take_snoc hy, List.map_append]; rfl) ?_
      rw [List.length_map, List.length_take]
      omega
    · rw [hyl] at pv
      refine q D H' (s6.trans pv.same) (s6.free hD) ?_
      rw [pv.at_, List.take_of_length_le (Nat.le_refl _)]
def spHowMany (K : PySem.W.Frag) (CK : Addr) : Sp := fun vs H Q _ => ∃ (kn a : Addr) (b : Str) (xs seats : List Str) (ρ : Str → Nat × Nat), vs = [.ref kn, .ref a, .str b] ∧ KnownAt K CK H kn xs ρ ∧ SqL K H a (seats.map V.str) ∧ SeatsOk seats xs ∧ b ∈ seats ∧ G.WF ρ seats ∧
  ∀ (H' : Hp), Same H H' → Q (.int (cntW ρ seats (seats.length - 1) [b] b : Nat)) H'
theorem sc_how_many : FnScope ["known", "seats", "begin", "ways"] ["known", "seats", "begin"] (defScope s_how_many) := ⟨rfl, rfl, rfl, by decide +kernel, rfl, by decide +kernel, by decide +kernel⟩
theorem ok_how_many (D : DefAt K mg "how_many" s_how_many) (T : Txt K mg CK CW)  (c_Ways_many : C8.Met P w K mg base 18 CW "many" (spMany K CW 13) []) (c_Ways_seat_of : C8.Met P w K mg base 1 CW "seat_of" (spSeatOf K CW) []) (c_Ways : C8.Mak P w K mg base 2 "Ways" CW (spWaysInit K CK CW) []) (c_need_begin : C8.Cal P w K mg base 1 "need_begin" (spNeedBegin K) []) (c_need_seats : C8.Cal P w K mg base 3 "need_seats" (spNeedSeats K CK) []) : C8.Cal P w K mg base 19 "how_many" (spHowMany K CK) [] := by
  refine cal_of D sc_how_many (ps := ["known", "seats", "begin"]) (fun _ _ _ _ _ _ us hl => match us, hl with | [_, _, _], _ => rfl) (fun vs H Q E h => ?_) fun f cdv A outer s H vs Q E hr h => ?_
  · obtain ⟨kn, a, b, xs, seats, ρ, rfl, hK, ha, so, hb, hwf, q⟩ := h
    rfl
  · obtain ⟨kn, a, b, xs, seats, ρ, rfl, hK, ha, so, hb, hwf, q⟩ := h
    refine ⟨_, (pss_cons (ps_expr (C8.pe_c c_need_seats hr (by omega) rfl (pa_cons (pv 0) (pa_cons (pv 1) pa_nil))))
    (pss_cons (ps_expr (C8.pe_c c_need_begin hr (by omega) rfl (pa_cons (pv 1) (pa_cons (pv 2) pa_nil))))
    (pss_cons (ps_set (i := 3) sc_how_many.nd rfl (Or.inl rfl) (C8.pe_mk c_Ways hr (by omega) rfl (pa_cons (pv 0) (pa_cons (pv 1) pa_nil))))
    (pss_one (ps_ret (C8.pe_mt c_Ways_many hr (by omega) (pv 3) (pa_cons (pe_op op_shl pe_int (C8.pe_mt c_Ways_seat_of hr (by omega) (pv 3) (pa_cons (pv 2) pa_nil))) (pa_cons (C8.pe_mt c_Ways_seat_of hr (by omega) (pv 3) (pa_cons (pv 2) pa_nil)) pa_nil)))))))), ?_⟩
    -- slots: known 0, seats 1, begin 2, ways 3
    have o2 := so.most
    have o1 := so.few
    have hsl := so.len
    have hl : seats.length ≤ 12 := by omega
    have hbi := List.idxOf_lt_length_iff.mpr hb
    refine ⟨_, rfl, _, rfl, kn, a, seats, xs, ρ, rfl, hK, ha, so, fun H1 s1 => ?_⟩
    refine ⟨_, rfl, _, rfl, a, b, seats, rfl, s1.seq ha, hb, ?_⟩
    refine ⟨_, rfl, _, rfl, fun p dx np ndx npx => ?_⟩
    have sU : Same H1 (upd (upd H1 dx (.own p)) p (.ins CW dx [])) := fun b o e => by
      rw [upd_ne (ne_of_none e np), upd_ne (ne_of_none e ndx)]
      exact e
    refine ⟨H1, p, dx, kn, a, seats, xs, ρ, rfl, sU, np, upd_same, hK.same s1, s1.seq ha, so, fun m H2 s2 m0 hW => ⟨rfl, ?_⟩⟩
    have s3 := s1.trans s2
    obtain ⟨wdx, sa, r, rs, hp, hsa, hr1, hr2, hr3⟩ := hW.fix.ex
    refine ⟨_, rfl, p, wdx, _, rfl, hp, wm_many _ _ _ _, _, rfl, p, wdx, _, rfl, hp, wm_seat_of _ _ _ _, _, rfl, p, m, b, seats, ρ, rfl, hW.fix, hb, _, _, rfl, rfl, ⟨by omega, by omega, by decide⟩, _, rfl, p, wdx, _, rfl, hp, wm_seat_of _ _ _ _, _, rfl, p, m, b, seats, ρ, rfl, hW.fix, hb, p, m, [b], seats, b, seats.length - 1, ρ, ?_, by omega, hW, G.At.first so.nd hb (by omega), hl, hwf, fun H4 b4 w4 => q H4 (s1.trans (But.same0 s2 m0 b4))⟩
    show [V.ref p, V.int (1 * 2 ^ ((seats.idxOf b : Nat) : Int).toNat), V.int (seats.idxOf b : Nat)] = _
    rw [mask_one so.nd hb]
end
end GK
set_option Elab.async false
set_option linter.all false
set_option maxRecDepth 100000
set_option maxHeartbeats 4000000
namespace GK
open PySem PySem.Spec PyProof.Rows L2
section
variable {P : Program} {w : World} {K : PySem.W.Frag} {mg : Str → Option Value} {base : Heap} {CK CW : Addr}
def spNeedMay (K : PySem.W.Frag) (CK CW : Addr) : Sp := fun vs H Q _ => ∃ (kn a g : Addr) (xs seats goers : List Str) (ρ : Str → Nat × Nat), vs = [.ref kn, .ref a, .ref g] ∧ KnownAt K CK H kn xs ρ ∧ SqL K H a (seats.map V.str) ∧ SeatsOk seats xs ∧ SqT K H g (goers.map V.str) ∧ G.Path ρ seats goers ∧ goers.length = seats.length ∧ G.WF ρ seats ∧
  ∀ (p m : Addr) (H' : Hp), Same H H' → H m = none → WaysAt K CW H' p m seats ρ → Q (.ref p) H'
theorem sc_need_may : FnScope ["known", "seats", "order", "ways"] ["known", "seats", "order"] (defScope s_need_may) := ⟨rfl, rfl, rfl, by decide +kernel, rfl, by decide +kernel, by decide +kernel⟩
theorem ok_need_may (D : DefAt K mg "need_may" s_need_may) (T : Txt K mg CK CW)  (c_Ways_led : C8.Met P w K mg base 6 CW "led" (spLed K CW) []) (c_Ways : C8.Mak P w K mg base 2 "Ways" CW (spWaysInit K CK CW) []) (c_need_seats : C8.Cal P w K mg base 3 "need_seats" (spNeedSeats K CK) []) : C8.Cal P w K mg base 7 "need_may" (spNeedMay K CK CW) [] := by
  refine cal_of D sc_need_may (ps := ["known", "seats", "order"]) (fun _ _ _ _ _ _ us hl => match us, hl with | [_, _, _], _ => rfl) (fun vs H Q E h => ?_) fun f cdv A outer s H vs Q E hr h => ?_
  · obtain ⟨kn, a, g, xs, seats, goers, ρ, rfl, hK, ha, so, hg, hP, hx, hwf, q⟩ := h
    rfl
  · obtain ⟨kn, a, g, xs, seats, goers, ρ, rfl, hK, ha, so, hg, hP, hx, hwf, q⟩ := h
    refine ⟨_, (pss_cons (ps_expr (C8.pe_c c_need_seats hr (by omega) rfl (pa_cons (pv 0) (pa_cons (pv 1) pa_nil))))
    (pss_cons (ps_set (i := 3) sc_need_may.nd rfl (Or.inl rfl) (C8.pe_mk c_Ways hr (by omega) rfl (pa_cons (pv 0) (pa_cons (pv 1) pa_nil))))
    (pss_cons (ps_if (PW.pt (pw_or (pt_cmpR op_isN (C8.pe_mt c_Ways_led hr (by omega) (pv 3) (pa_cons (pv 2) pa_nil)) pe_non (nomark _)) (pw_or1 (pt_cmpR op_ne (pe_callB call_len_seq (by rfl) T.b_len (by decide +kernel) (pa_cons (pv 2) pa_nil)) (pe_callB call_len_seq (by rfl) T.b_len (by decide +kernel) (pa_cons (pe_fld (pv 3) rfl) pa_nil)) (nomark _))))) 
      (pss_one ps_never) pss_nil)
    (pss_one (ps_ret (pv 3)))))), ?_⟩
    -- slots: known 0, seats 1, order 2, ways 3
    have o2 := so.most
    have o1 := so.few
    have hsl := so.len
    have hl : seats.length ≤ 12 := by omega
    refine ⟨_, rfl, _, rfl, kn, a, seats, xs, ρ, rfl, hK, ha, so, fun H1 s1 => ?_⟩
    refine ⟨_, rfl, _, rfl, fun p dx np ndx npx => ?_⟩
    have sU : Same H1 (upd (upd H1 dx (.own p)) p (.ins CW dx [])) := fun b o e => by
      rw [upd_ne (ne_of_none e np), upd_ne (ne_of_none e ndx)]
      exact e
    refine ⟨H1, p, dx, kn, a, seats, xs, ρ, rfl, sU, np, upd_same, hK.same s1, s1.seq ha, so, fun m H2 s2 m0 hW => ⟨rfl, ?_⟩⟩
    have s3 := s1.trans s2
    obtain ⟨wdx, sa, r, rs, hp, hsa, hr1, hr2, hr3⟩ := hW.fix.ex
    refine ⟨_, rfl, p, wdx, _, rfl, hp, wm_led _ _ _ _, _, rfl, p, m, g, goers, seats, goers[goers.length - 1], ρ, rfl, hW.fix, same_tup s3 hg, hP, List.getElem?_eq_getElem (by omega), hl, hwf, fun t H3 s4 t0 ht => ?_⟩
    refine ⟨rfl, false, rfl, ?_⟩
    refine iteF ?_
    refine ⟨_, rfl, g, _, rfl, .inr (same_tup (s3.trans s4) hg), _, rfl, p, CW, wdx, _, _, rfl, s4 _ _ hp, T.cW, T.n_w_seats, wf_seats _ _ _ _, sa, _, rfl, .inl (SqL.of (s4 _ _ hsa)), rfl, _, rfl, ?_⟩
    rw [show decide (V.int (((goers.map V.str).length : Nat) : Int) = V.int (((seats.map V.str).length : Nat) : Int)) = true from decide_eq_true (by rw [List.length_map, List.length_map, hx])]
    refine iteF ?_
    exact ⟨_, rfl, q p m _ (s3.trans s4) (s1.free m0) (hW.same s4)⟩
def spSure (K : PySem.W.Frag) (CK : Addr) : Sp := fun vs H Q _ => ∃ (kn a : Addr) (b : Str) (xs seats : List Str) (ρ : Str → Nat × Nat), vs = [.ref kn, .ref a, .str b] ∧ KnownAt K CK H kn xs ρ ∧ SqL K H a (seats.map V.str) ∧ SeatsOk seats xs ∧ b ∈ seats ∧ G.WF ρ seats ∧
  ∀ (t : Addr) (H' : Hp), Same H H' → H t = none → H' t = some (.tup ((b :: G.surely ρ seats (seats.length - 1) [b] b).map V.str)) → Q (.ref t) H'
theorem sc_sure : FnScope ["known", "seats", "begin", "ways", "at", "gone", "order", "nexts"] ["known", "seats", "begin"] (defScope s_sure) := ⟨rfl, rfl, rfl, by decide +kernel, rfl, by decide +kernel, by decide +kernel⟩
theorem ok_sure (D : DefAt K mg "sure" s_sure) (T : Txt K mg CK CW)  (c_Ways_nexts : C8.Met P w K mg base 5 CW "nexts" (spNexts K CW) []) (c_Ways_seat_of : C8.Met P w K mg base 1 CW "seat_of" (spSeatOf K CW) []) (c_Ways : C8.Mak P w K mg base 2 "Ways" CW (spWaysInit K CK CW) []) (c_need_begin : C8.Cal P w K mg base 1 "need_begin" (spNeedBegin K) []) (c_need_seats : C8.Cal P w K mg base 3 "need_seats" (spNeedSeats K CK) []) : C8.Cal P w K mg base 7 "sure" (spSure K CK) [] := by
  refine cal_of D sc_sure (ps := ["known", "seats", "begin"]) (fun _ _ _ _ _ _ us hl => match us, hl with | [_, _, _], _ => rfl) (fun vs H Q E h => ?_) fun f cdv A outer s H vs Q E hr h => ?_
  · obtain ⟨kn, a, b, xs, seats, ρ, rfl, hK, ha, so, hb, hwf, q⟩ := h
    rfl
  · obtain ⟨kn, a, b, xs, seats, ρ, rfl, hK, ha, so, hb, hwf, q⟩ := h
    refine ⟨_, (pss_cons (ps_expr (C8.pe_c c_need_seats hr (by omega) rfl (pa_cons (pv 0) (pa_cons (pv 1) pa_nil))))
    (pss_cons (ps_expr (C8.pe_c c_need_begin hr (by omega) rfl (pa_cons (pv 1) (pa_cons (pv 2) pa_nil))))
    (pss_cons (ps_set (i := 3) sc_sure.nd rfl (Or.inl rfl) (C8.pe_mk c_Ways hr (by omega) rfl (pa_cons (pv 0) (pa_cons (pv 1) pa_nil))))
    (pss_cons (ps_set (i := 4) sc_sure.nd rfl (Or.inl rfl) (C8.pe_mt c_Ways_seat_of hr (by omega) (pv 3) (pa_cons (pv 2) pa_nil)))
    (pss_cons (ps_par (i := 5) (j := 6) rfl sc_sure.nd rfl rfl (by decide) rfl rfl (pa_cons (pe_op op_shl pe_int (pv 4)) (pa_cons (pe_lst (pa_cons (pv 2) pa_nil)) pa_nil)) (by rfl))
    (pss_cons (ps_set (i := 7) sc_sure.nd rfl (Or.inl rfl) (C8.pe_mt c_Ways_nexts hr (by omega) (pv 3) (pa_cons (pv 5) (pa_cons (pv 4) pa_nil))))
    (pss_cons (ps_while PassesOwn.never (pt_cmpR op_eq (pe_callB call_len_seq (by rfl) T.b_len (by decide +kernel) (pa_cons (pv 7) pa_nil)) pe_int (nomark _)) 
      (pss_cons (ps_set (i := 4) sc_sure.nd rfl (Or.inl rfl) (pe_ix ix_list (pv 7) pe_int (fun _ _ => rfl)))
      (pss_cons (ps_aug (i := 5) sc_sure.nd rfl (Or.inl rfl) (pe_op op_shl pe_int (pv 4)) iop_or)
      (pss_cons (ps_expr (pe_bm PySem.F.plainAttrs_list PySem.F.slot_list_append PySem.F.type_list_append mt_append (pv 6) (pa_cons (pe_ix ix_list (pe_fld (pv 3) rfl) (pv 4) (fun _ _ => rfl)) pa_nil)))
      (pss_one (ps_set (i := 7) sc_sure.nd rfl (Or.inl rfl) (C8.pe_mt c_Ways_nexts hr (by omega) (pv 3) (pa_cons (pv 5) (pa_cons (pv 4) pa_nil)))))))))
    (pss_one (ps_ret (pe_callTy call_tuple_of (by rfl) T.b_tuple (by decide +kernel) (pa_cons (pv 6) pa_nil))))))))))), ?_⟩
    -- slots: known 0, seats 1, begin 2, ways 3, at 4, gone 5, order 6, nexts 7
    have o2 := so.most
    have o1 := so.few
    have hsl := so.len
    have hl : seats.length ≤ 12 := by omega
    have hbi := List.idxOf_lt_length_iff.mpr hb
    refine ⟨_, rfl, _, rfl, kn, a, seats, xs, ρ, rfl, hK, ha, so, fun H1 s1 => ?_⟩
    refine ⟨_, rfl, _, rfl, a, b, seats, rfl, s1.seq ha, hb, ?_⟩
    refine ⟨_, rfl, _, rfl, fun p dx np ndx npx => ?_⟩
    have sU : Same H1 (upd (upd H1 dx (.own p)) p (.ins CW dx [])) := fun b o e => by
      rw [upd_ne (ne_of_none e np), upd_ne (ne_of_none e ndx)]
      exact e
    refine ⟨H1, p, dx, kn, a, seats, xs, ρ, rfl, sU, np, upd_same, hK.same s1, s1.seq ha, so, fun m H2 s2 m0 hW => ⟨rfl, ?_⟩⟩
    have s3 := s1.trans s2
    obtain ⟨wdx, sa, r, rs, hp, hsa, hr1, hr2, hr3⟩ := hW.fix.ex
    refine ⟨_, rfl, p, wdx, _, rfl, hp, wm_seat_of _ _ _ _, _, rfl, p, m, b, seats, ρ, rfl, hW.fix, hb, ?_⟩
    refine ⟨_, rfl, _, _, rfl, rfl, ⟨by omega, by omega, by decide⟩, _, rfl, by show 1 ≤ sizeLine; decide, fun o ho => ?_⟩
    have hk1 : seats.length - 1 + 1 = seats.length := by omega
    have hA0 := G.At.first so.nd hb hk1
    have s4 : Same H2 (upd H2 o (.lst [.str b])) := same_upd ho
    refine ⟨_, _, rfl, _, rfl, p, wdx, _, rfl, s4 _ _ hp, wm_nexts _ _ _ _, _, rfl, _, rfl, p, m, [b], seats, b, seats.length - 1, ρ, ?_, hW.fix.same s4, hA0, hl, hwf, fun N H3 s5 hN0 hN => ?_⟩
    · show [V.ref p, V.int (1 * 2 ^ ((seats.idxOf b : Nat) : Int).toNat), V.int (seats.idxOf b : Nat)] = _
      rw [mask_one so.nd hb]
    refine ⟨fun n σ H' => ∃ (g : List Str) (x : Str) (N : Addr), σ = [some (.ref kn), some (.ref a), some (.str b), some (.ref p), some (.int (seats.idxOf x : Nat)), some (.int (G.mask seats g : Nat)), some (.ref o), some (.ref N)] ∧ Same H2 H' ∧ H' o = some (.lst (g.map V.str)) ∧
      H' N = some (.lst (intL ((if n = 0 then [] else G.nexts ρ seats g x).map seats.idxOf))) ∧ G.At seats g x n ∧ b :: G.surely ρ seats (seats.length - 1) [b] b = g ++ G.surely ρ seats n g x, ?_, ?_⟩
    · refine ⟨seats.length - 1, [b], b, N, ?_, s4.trans s5, s5 _ _ upd_same, hN, hA0, rfl⟩
      rw [← mask_one so.nd hb]
      rfl
    · rintro n σ H' ⟨g, x, N', rfl, s6, hO, hN', hA, he⟩
      refine ⟨_, rfl, N', _, rfl, .inl (SqL.of hN'), rfl, _, rfl, ?_⟩
      have hal := hA.len
      by_cases c : (if n = 0 then [] else G.nexts ρ seats g x).length = 1
      · rw [show decide (V.int (((intL ((if n = 0 then [] else G.nexts ρ seats g x).map fun a => List.idxOf a seats)).length : Nat) : Int) = V.int 1) = true from decide_eq_true (by rw [intL_len, List.length_map, c]; rfl)]
        refine iteT ?_
        obtain ⟨k, rfl⟩ : ∃ k, n = k + 1 := by
          cases n with
          | zero => simp at c
          | succ k => exact ⟨k, rfl⟩
        rw [if_neg (by omega)] at c hN'
        obtain ⟨y, ey⟩ := List.length_eq_one_iff.mp c
        have hym : y ∈ G.nexts ρ seats g x := by rw [ey]; simp
        have hys := G.nexts_sub hA hym
        have hyl := (hA.mem.mp hys).1
        have hyi := List.idxOf_lt_length_iff.mpr hyl
        rw [ey] at hN'
        refine ⟨_, fun σ' H2 n => n, ?_⟩
        refine ⟨_, rfl, N', _, 0, .int (seats.idxOf y : Nat), rfl, rfl, SqL.of hN', rfl, ?_⟩
        refine ⟨_, rfl, _, rfl, _, _, rfl, rfl, ⟨by omega, by omega, by decide⟩, _, _, rfl, rfl, ?_⟩
        refine ⟨_, rfl, .inl ⟨rfl, _, SqL.of hO⟩, _, rfl, p, CW, wdx, _, _, rfl, s6 _ _ hp, T.cW, T.n_w_seats, wf_seats _ _ _ _, _, rfl, sa, _, _, .str y, rfl, rfl, SqL.of (s6 _ _ hsa), atI_nat (by rw [List.getElem?_map, G.idx_get hyl]; rfl), o, _, .str y, rfl, rfl, hO, sz_lt (by rw [List.length_map]; omega), ?_⟩
        have s7 : Same H2 (upd H' o (.lst (g.map V.str ++ [.str y]))) := same_mut s6 ho
        have hA' := hA.step hys
        refine ⟨_, rfl, p, wdx, _, rfl, s7 _ _ hp, wm_nexts _ _ _ _, _, rfl, _, rfl, p, m, g ++ [y], seats, y, k, ρ, ?_, hW.fix.same s7, hA', hl, hwf, fun N2 H5 s8 hN20 hN2 => ?_⟩
        · show [V.ref p, V.int (Builtin.bitOr (G.mask seats g : Nat) (1 * 2 ^ ((seats.idxOf y : Nat) : Int).toNat)), V.int (seats.idxOf y : Nat)] = _
          rw [bor_seat hA hys]
        · refine ⟨k, by omega, g ++ [y], y, N2, ?_, s7.trans s8, ?_, hN2, hA', ?_⟩
          · rw [← bor_seat hA hys]
            rfl
          · rw [List.map_append]
            exact s8 _ _ upd_same
          · rw [he, G.surely_one ey, List.append_assoc]
            rfl
      · rw [show decide (V.int (((intL ((if n = 0 then [] else G.nexts ρ seats g x).map fun a => List.idxOf a seats)).length : Nat) : Int) = V.int 1) = false from decide_eq_false fun e => c (by have := V.int.inj e; rw [intL_len, List.length_map] at this; omega)]
        refine iteF ?_
        have hz : G.surely ρ seats n g x = [] := by
          cases n with
          | zero => rfl
          | succ k =>
            rw [if_neg (by omega)] at c
            exact G.surely_many c
        rw [hz, List.append_nil] at he
        refine ⟨_, rfl, o, _, rfl, .inl ⟨SqL.of hO, fun t ht => ?_⟩⟩
        refine q t _ ((s3.trans s6).trans (same_upd ht)) ((s3.trans s6).free ht) ?_
        rw [upd_same, he]
def spOrderMay (K : PySem.W.Frag) (CK : Addr) : Sp := fun vs H Q _ => ∃ (kn a : Addr) (b : Str) (xs seats : List Str) (ρ : Str → Nat × Nat) (i : Nat) (t : List Str), vs = [.ref kn, .ref a, .str b, .int (i : Nat)] ∧ KnownAt K CK H kn xs ρ ∧ SqL K H a (seats.map V.str) ∧ SeatsOk seats xs ∧ b ∈ seats ∧ G.WF ρ seats ∧ (G.tails ρ seats (seats.length - 1) [b] b)[i]? = some t ∧
  ∀ (T : Addr) (H' : Hp), Same H H' → H T = none → H' T = some (.tup ((b :: t).map V.str)) → Q (.ref T) H'
theorem sc_order_may : FnScope ["known", "seats", "begin", "number", "ways", "at", "gone", "order", "to", "behind"] ["known", "seats", "begin", "number"] (defScope s_order_may) := ⟨rfl, rfl, rfl, by decide +kernel, rfl, by decide +kernel, by decide +kernel⟩
theorem ok_order_may (D : DefAt K mg "order_may" s_order_may) (T : Txt K mg CK CW)  (c_Ways_nexts : C8.Met P w K mg base 5 CW "nexts" (spNexts K CW) []) (c_Ways_many : C8.Met P w K mg base 18 CW "many" (spMany K CW 13) []) (c_is_number : C8.Cal P w K mg base 1 "is_number" spIsNumber []) (c_Ways_seat_of : C8.Met P w K mg base 1 CW "seat_of" (spSeatOf K CW) []) (c_Ways : C8.Mak P w K mg base 2 "Ways" CW (spWaysInit K CK CW) []) (c_need_begin : C8.Cal P w K mg base 1 "need_begin" (spNeedBegin K) []) (c_need_seats : C8.Cal P w K mg base 3 "need_seats" (spNeedSeats K CK) []) : C8.Cal P w K mg base 19 "order_may" (spOrderMay K CK) [] := by
  refine cal_of D sc_order_may (ps := ["known", "seats", "begin", "number"]) (fun _ _ _ _ _ _ us hl => match us, hl with | [_, _, _, _], _ => rfl) (fun vs H Q E h => ?_) fun f cdv A outer s H vs Q E hr h => ?_
  · obtain ⟨kn, a, b, xs, seats, ρ, i, t, rfl, hK, ha, so, hb, hwf, hti, q⟩ := h
    rfl
  · obtain ⟨kn, a, b, xs, seats, ρ, i, t, rfl, hK, ha, so, hb, hwf, hti, q⟩ := h
    refine ⟨_, (pss_cons (ps_expr (C8.pe_c c_need_seats hr (by omega) rfl (pa_cons (pv 0) (pa_cons (pv 1) pa_nil))))
    (pss_cons (ps_expr (C8.pe_c c_need_begin hr (by omega) rfl (pa_cons (pv 1) (pa_cons (pv 2) pa_nil))))
    (pss_cons (ps_set (i := 4) sc_order_may.nd rfl (Or.inl rfl) (C8.pe_mk c_Ways hr (by omega) rfl (pa_cons (pv 0) (pa_cons (pv 1) pa_nil))))
    (pss_cons (ps_set (i := 5) sc_order_may.nd rfl (Or.inl rfl) (C8.pe_mt c_Ways_seat_of hr (by omega) (pv 4) (pa_cons (pv 2) pa_nil)))
    (pss_cons (ps_par (i := 6) (j := 7) rfl sc_order_may.nd rfl rfl (by decide) rfl rfl (pa_cons (pe_op op_shl pe_int (pv 5)) (pa_cons (pe_lst (pa_cons (pv 2) pa_nil)) pa_nil)) (by rfl))
    (pss_cons (ps_if (PW.pt (pw_or (pt_not (pt_val (C8.pe_c c_is_number hr (by omega) rfl (pa_cons (pv 3) pa_nil)))) (pw_or1 (pt_not (pt_chain op_le op_lt pe_int (pv 3) (C8.pe_mt c_Ways_many hr (by omega) (pv 4) (pa_cons (pv 6) (pa_cons (pv 5) pa_nil)))))))) 
      (pss_one ps_never) pss_nil)
    (pss_cons (ps_while PassesOwn.never (pt_cmpR op_ne (pv 6) (pe_fld (pv 4) rfl) (nomark _)) 
      (pss_cons (ps_for PassesOwn.never rfl (pi_list (C8.pe_mt c_Ways_nexts hr (by omega) (pv 4) (pa_cons (pv 6) (pa_cons (pv 5) pa_nil)))) (pg_name (i := 8) sc_order_may.nd rfl (Or.inl rfl)) 
        (pss_cons (ps_set (i := 9) sc_order_may.nd rfl (Or.inl rfl) (C8.pe_mt c_Ways_many hr (by omega) (pv 4) (pa_cons (pe_op op_or (pv 6) (pe_op op_shl pe_int (pv 8))) (pa_cons (pv 8) pa_nil))))
        (pss_cons (ps_if (pt_cmpR op_lt (pv 3) (pv 9) (nomark _)) 
          (pss_one ps_break) pss_nil)
        (pss_one (ps_aug (i := 3) sc_order_may.nd rfl (Or.inl rfl) (pv 9) ip_sub)))))
      (pss_cons (ps_set (i := 5) sc_order_may.nd rfl (Or.inl rfl) (pv 8))
      (pss_cons (ps_aug (i := 6) sc_order_may.nd rfl (Or.inl rfl) (pe_op op_shl pe_int (pv 5)) iop_or)
      (pss_one (ps_expr (pe_bm PySem.F.plainAttrs_list PySem.F.slot_list_append PySem.F.type_list_append mt_append (pv 7) (pa_cons (pe_ix ix_list (pe_fld (pv 4) rfl) (pv 5) (fun _ _ => rfl)) pa_nil))))))))
    (pss_one (ps_ret (pe_callTy call_tuple_of (by rfl) T.b_tuple (by decide +kernel) (pa_cons (pv 7) pa_nil))))))))))), ?_⟩
    -- slots: known 0, seats 1, begin 2, number 3, ways 4, at 5, gone 6, order 7, to 8, behind 9
    have o2 := so.most
    have o1 := so.few
    have hsl := so.len
    have hl : seats.length ≤ 12 := by omega
    have hbi := List.idxOf_lt_length_iff.mpr hb
    have hk1 : seats.length - 1 + 1 = seats.length := by omega
    have hA0 := G.At.first so.nd hb hk1
    have hilt := (List.getElem?_eq_some_iff.mp hti).1
    refine ⟨_, rfl, _, rfl, kn, a, seats, xs, ρ, rfl, hK, ha, so, fun H1 s1 => ?_⟩
    refine ⟨_, rfl, _, rfl, a, b, seats, rfl, s1.seq ha, hb, ?_⟩
    refine ⟨_, rfl, _, rfl, fun p dx np ndx npx => ?_⟩
    have sU : Same H1 (upd (upd H1 dx (.own p)) p (.ins CW dx [])) := fun b o e => by
      rw [upd_ne (ne_of_none e np), upd_ne (ne_of_none e ndx)]
      exact e
    refine ⟨H1, p, dx, kn, a, seats, xs, ρ, rfl, sU, np, upd_same, hK.same s1, s1.seq ha, so, fun m H2 s2 m0 hW => ⟨rfl, ?_⟩⟩
    have s3 := s1.trans s2
    obtain ⟨wdx, sa, r, rs, hp, hsa, hr1, hr2, hr3⟩ := hW.fix.ex
    obtain ⟨kv0, hm0, _⟩ := id hW.memo
    refine ⟨_, rfl, p, wdx, _, rfl, hp, wm_seat_of _ _ _ _, _, rfl, p, m, b, seats, ρ, rfl, hW.fix, hb, ?_⟩
    refine ⟨_, rfl, _, _, rfl, rfl, ⟨by omega, by omega, by decide⟩, _, rfl, by show 1 ≤ sizeLine; decide, fun o ho => ?_⟩
    have om : o ≠ m := (ne_of_none hm0 ho).symm
    have s4 : Same H2 (upd H2 o (.lst [.str b])) := same_upd ho
    refine ⟨_, _, rfl, _, rfl, i, rfl, _, rfl, ?_⟩
    refine iteF ?_
    refine ⟨_, rfl, _, _, rfl, rfl, true, bl_t (show (0 : Int) ≤ (i : Nat) by omega), ?_⟩
    refine iteT ⟨_, rfl, p, wdx, _, rfl, s4 _ _ hp, wm_many _ _ _ _, _, rfl, _, rfl, p, m, [b], seats, b, seats.length - 1, ρ, ?_, by omega, hW.same s4, hA0, hl, hwf, fun H4 b4 w4 => ?_⟩
    · show [V.ref p, V.int (1 * 2 ^ ((seats.idxOf b : Nat) : Int).toNat), V.int (seats.idxOf b : Nat)] = _
      rw [mask_one so.nd hb]
    refine ⟨_, _, rfl, rfl, true, bl_t (show ((i : Nat) : Int) < (cntW ρ seats (seats.length - 1) [b] b : Nat) by unfold cntW; omega), ?_⟩
    refine iteF ?_
    refine ⟨fun n σ H' => ∃ (g : List Str) (x : Str) (ν : Nat) (t' : List Str) (to be : Option V), σ = [some (.ref kn), some (.ref a), some (.str b), some (.int (ν : Nat)), some (.ref p), some (.int (seats.idxOf x : Nat)), some (.int (G.mask seats g : Nat)), some (.ref o), to, be] ∧
      But m H2 H' ∧ (∃ kvs, H' m = some (.dK kvs) ∧ MemoOk ρ seats kvs) ∧ H' o = some (.lst (g.map V.str)) ∧ G.At seats g x n ∧ (G.tails ρ seats n g x)[ν]? = some t' ∧ b :: t = g ++ t', ?_, ?_⟩
    · refine ⟨seats.length - 1, [b], b, i, t, none, none, ?_, (But.of s4).trans b4, w4.memo, b4 _ _ om upd_same, hA0, hti, rfl⟩
      rw [← mask_one so.nd hb]
      rfl
    · rintro n σ H' ⟨g, x, ν, t', to, be, rfl, bm, mm, hO, hA, hν, he⟩
      have hal := hA.len
      have pm : p ≠ m := ne_of hp hm0 (by intro z; cases z)
      have fx := bm.fix hm0 hW.fix
      refine ⟨_, rfl, _, rfl, p, CW, wdx, _, _, rfl, bm _ _ pm hp, T.cW, T.n_w_all, wf_all _ _ _ _, rfl, _, rfl, ?_⟩
      cases n with
      | zero =>
        have hf := hA.full.mpr rfl
        have hp2 : 0 < 2 ^ seats.length := Nat.pow_pos (by decide)
        rw [show decide (V.int ((G.mask seats g : Nat) : Int) = V.int (2 ^ seats.length - 1)) = true from decide_eq_true (by rw [hf, ← PySem.W.kbt_cast]; congr 1; omega)]
        refine iteF ?_
        have ht' : t' = [] := by
          have := List.mem_of_getElem? hν
          exact List.mem_singleton.mp this
        rw [ht', List.append_nil] at he
        have sf := (But.same0 s2 m0 bm)
        refine ⟨_, rfl, o, _, rfl, .inl ⟨SqL.of hO, fun t ht => ?_⟩⟩
        refine q t _ ((s1.trans sf).trans (same_upd ht)) ((s1.trans sf).free ht) ?_
        rw [upd_same, he]
      | succ k =>
        rw [show decide (V.int ((G.mask seats g : Nat) : Int) = V.int (2 ^ seats.length - 1)) = false from decide_eq_false fun e => by
          have e2 := V.int.inj e
          have hp2 : 0 < 2 ^ seats.length := Nat.pow_pos (by decide)
          rw [← PySem.W.kbt_cast] at e2
          have := hA.full.mp (by omega)
          omega]
        refine iteT ?_
        refine ⟨_, fun σ' H2 n => n, ?_⟩
        refine ⟨_, rfl, p, wdx, _, rfl, bm _ _ pm hp, wm_nexts _ _ _ _, _, rfl, _, rfl, p, m, g, seats, x, k + 1, ρ, rfl, fx, hA, hl, hwf, fun L H5 s5 hL0 hL => ?_⟩
        rw [if_neg (by omega)] at hL
        obtain ⟨kv1, hm1, ok1⟩ := mm
        have hm5 := s5 _ _ hm1
        have bm5 := bm.trans (But.of s5)
        refine ⟨L, rfl, ⟨_, SqL.of hL⟩, ?_⟩
        refine for_it walk_list (fun i σ H' => ∃ (ν : Nat) (to be : Option V), σ = [some (.ref kn), some (.ref a), some (.str b), some (.int (ν : Nat)), some (.ref p), some (.int (seats.idxOf x : Nat)), some (.int (G.mask seats g : Nat)), some (.ref o), to, be] ∧
          But m H5 H' ∧ (∃ kvs, H' m = some (.dK kvs) ∧ MemoOk ρ seats kvs) ∧ (G.ahead ρ seats k g ((G.nexts ρ seats g x).drop i))[ν]? = some t') ⟨ν, to, be, rfl, But.refl, ⟨kv1, hm5, ok1⟩, hν⟩ (fun i σ H' _ pv => pv.choose_spec.choose_spec.choose_spec.2.1.seq hm5 (SqL.of hL)) (fun i z σ H' H'' hi pv y => ?_) fun σ H' pv => ?_
        · obtain ⟨rfl, hz⟩ := y
          obtain ⟨ν', to', be', rfl, b6, ⟨kv6, hm6, ok6⟩, hν'⟩ := pv
          unfold intL at hz
          rw [List.getElem?_map, List.getElem?_map] at hz
          obtain ⟨j, hj, rfl⟩ := Option.map_eq_some_iff.mp hz
          obtain ⟨y, hy, rfl⟩ := Option.map_eq_some_iff.mp hj
          have hys := G.nexts_sub hA (List.mem_of_getElem? hy)
          have hyl := (hA.mem.mp hys).1
          have hyi := List.idxOf_lt_length_iff.mpr hyl
          have bm6 := bm5.trans b6
          have fx6 := bm6.fix hm0 hW.fix
          have hA' := hA.step hys
          refine ⟨_, rfl, p, wdx, _, rfl, bm6 _ _ pm hp, wm_many _ _ _ _, _, rfl, _, rfl, _, _, rfl, rfl, ⟨by omega, by omega, by decide⟩, _, _, rfl, rfl, _, rfl, p, m, g ++ [y], seats, y, k, ρ, ?_, by omega, ⟨fx6, kv6, hm6, ok6⟩, hA', hl, hwf, fun H7 b7 w7 => ?_⟩
          · show [V.ref p, V.int (Builtin.bitOr (G.mask seats g : Nat) (1 * 2 ^ ((seats.idxOf y : Nat) : Int).toNat)), V.int (seats.idxOf y : Nat)] = _
            rw [bor_seat hA hys]
          · have b67 := b6.trans b7
            have bm7 := bm6.trans b7
            have hO7 : H7 o = some (.lst (g.map V.str)) := b67 _ _ om (s5 _ _ hO)
            obtain ⟨kv7, hm7, ok7⟩ := w7.memo
            refine ⟨_, rfl, _, rfl, _, _, rfl, rfl, _, rfl, ?_⟩
            by_cases c : ν' < cntW ρ seats k (g ++ [y]) y
            · rw [decide_eq_true (show ((ν' : Nat) : Int) < (cntW ρ seats k (g ++ [y]) y : Nat) by omega)]
              refine iteT ?_
              obtain ⟨t2, e2, ht2⟩ := G.ahead_here hy c hν'
              refine ⟨_, rfl, ?_⟩
              refine ⟨_, rfl, _, rfl, _, _, rfl, rfl, ⟨by omega, by omega, by decide⟩, _, _, rfl, rfl, ?_⟩
              refine ⟨_, rfl, .inl ⟨rfl, _, SqL.of hO7⟩, _, rfl, p, CW, wdx, _, _, rfl, bm7 _ _ pm hp, T.cW, T.n_w_seats, wf_seats _ _ _ _, _, rfl, sa, _, _, .str y, rfl, rfl, SqL.of (bm7 _ _ (ne_of hsa hm0 (by intro z; cases z)) hsa), atI_nat (by rw [List.getElem?_map, G.idx_get hyl]; rfl), o, _, .str y, rfl, rfl, hO7, sz_lt (by rw [List.length_map]; omega), ?_⟩
              refine ⟨k, by omega, g ++ [y], y, ν', t2, some (.int (seats.idxOf y : Nat)), some (.int (cntW ρ seats k (g ++ [y]) y : Nat)), ?_, bm7.new ho, ⟨kv7, (upd_ne om.symm).trans hm7, ok7⟩, ?_, hA', ht2, ?_⟩
              · rw [← bor_seat hA hys]
                rfl
              · rw [upd_same, List.map_append]
                rfl
              · rw [he, e2, List.append_assoc]
                rfl
            · rw [decide_eq_false (show ¬ ((ν' : Nat) : Int) < (cntW ρ seats k (g ++ [y]) y : Nat) by omega)]
              refine iteF ?_
              refine ⟨_, rfl, _, rfl, _, _, rfl, rfl, ?_⟩
              have hlt := G.ahead_later hy (by unfold cntW at c; omega) hν'
              refine ⟨ν' - cntW ρ seats k (g ++ [y]) y, some (.int (seats.idxOf y : Nat)), some (.int (cntW ρ seats k (g ++ [y]) y : Nat)), ?_, b67, ⟨kv7, hm7, ok7⟩, hlt⟩
              rw [show ((ν' - cntW ρ seats k (g ++ [y]) y : Nat) : Int) = (ν' : Nat) - (cntW ρ seats k (g ++ [y]) y : Nat) by omega]
              rfl
        · obtain ⟨ν', to', be', rfl, b6, _, hν'⟩ := pv
          rw [intL_len, List.length_map, List.drop_length] at hν'
          simp [G.ahead] at hν'
end
end GK
set_option Elab.async false
set_option linter.all false
set_option maxRecDepth 100000
set_option maxHeartbeats 4000000
namespace GK
open PySem PySem.Spec PyProof.Rows L2
section
variable {P : Program} {w : World} {K : PySem.W.Frag} {mg : Str → Option Value} {base : Heap} {CK CW : Addr}
theorem idx_inj {l : List Str} {x y : Str} (hx : x ∈ l) (hy : y ∈ l) (e : l.idxOf x = l.idxOf y) : x = y := by
  have a := G.idx_get hx
  rw [e, G.idx_get hy] at a
  exact (Option.some.inj a).symm
def spNumberMay (K : PySem.W.Frag) (CK : Addr) : Sp := fun vs H Q _ => ∃ (kn a g : Addr) (b : Str) (xs seats : List Str) (ρ : Str → Nat × Nat) (t : List Str), vs = [.ref kn, .ref a, .ref g] ∧ KnownAt K CK H kn xs ρ ∧ SqL K H a (seats.map V.str) ∧ SeatsOk seats xs ∧ SqT K H g ((b :: t).map V.str) ∧ b ∈ seats ∧ G.WF ρ seats ∧ t ∈ G.tails ρ seats (seats.length - 1) [b] b ∧
  ∀ (i : Nat) (H' : Hp), Same H H' → (G.tails ρ seats (seats.length - 1) [b] b)[i]? = some t → Q (.int (i : Nat)) H'
theorem sc_number_may : FnScope ["known", "seats", "order", "ways", "at", "gone", "found", "name", "goal", "to"] ["known", "seats", "order"] (defScope s_number_may) := ⟨rfl, rfl, rfl, by decide +kernel, rfl, by decide +kernel, by decide +kernel⟩
theorem ok_number_may (D : DefAt K mg "number_may" s_number_may) (T : Txt K mg CK CW)  (c_Ways_nexts : C8.Met P w K mg base 5 CW "nexts" (spNexts K CW) []) (c_Ways_many : C8.Met P w K mg base 18 CW "many" (spMany K CW 13) []) (c_Ways_seat_of : C8.Met P w K mg base 1 CW "seat_of" (spSeatOf K CW) []) (c_need_may : C8.Cal P w K mg base 7 "need_may" (spNeedMay K CK CW) []) : C8.Cal P w K mg base 19 "number_may" (spNumberMay K CK) [] := by
  refine cal_of D sc_number_may (ps := ["known", "seats", "order"]) (fun _ _ _ _ _ _ us hl => match us, hl with | [_, _, _], _ => rfl) (fun vs H Q E h => ?_) fun f cdv A outer s H vs Q E hr h => ?_
  · obtain ⟨kn, a, g, b, xs, seats, ρ, t, rfl, hK, ha, so, hg, hb, hwf, ht, q⟩ := h
    rfl
  · obtain ⟨kn, a, g, b, xs, seats, ρ, t, rfl, hK, ha, so, hg, hb, hwf, ht, q⟩ := h
    refine ⟨_, (pss_cons (ps_set (i := 3) sc_number_may.nd rfl (Or.inl rfl) (C8.pe_c c_need_may hr (by omega) rfl (pa_cons (pv 0) (pa_cons (pv 1) (pa_cons (pv 2) pa_nil)))))
    (pss_cons (ps_set (i := 4) sc_number_may.nd rfl (Or.inl rfl) (C8.pe_mt c_Ways_seat_of hr (by omega) (pv 3) (pa_cons (pe_ix ix_tup (pv 2) pe_int (fun _ _ => rfl)) pa_nil)))
    (pss_cons (ps_par (i := 5) (j := 6) rfl sc_number_may.nd rfl rfl (by decide) rfl rfl (pa_cons (pe_op op_shl pe_int (pv 4)) (pa_cons pe_int pa_nil)) (by rfl))
    (pss_cons (ps_for PassesOwn.never rfl (pi_tup (pe_slice sl_tupA (pv 2) (po_some pe_int) po_none)) (pg_name (i := 7) sc_number_may.nd rfl (Or.inl rfl)) 
      (pss_cons (ps_set (i := 8) sc_number_may.nd rfl (Or.inl rfl) (C8.pe_mt c_Ways_seat_of hr (by omega) (pv 3) (pa_cons (pv 7) pa_nil)))
      (pss_cons (ps_for PassesOwn.never rfl (pi_list (C8.pe_mt c_Ways_nexts hr (by omega) (pv 3) (pa_cons (pv 5) (pa_cons (pv 4) pa_nil)))) (pg_name (i := 9) sc_number_may.nd rfl (Or.inl rfl)) 
        (pss_cons (ps_if (pt_cmpR op_eq (pv 9) (pv 8) (nomark _)) 
          (pss_one ps_break) pss_nil)
        (pss_one (ps_aug (i := 6) sc_number_may.nd rfl (Or.inl rfl) (C8.pe_mt c_Ways_many hr (by omega) (pv 3) (pa_cons (pe_op op_or (pv 5) (pe_op op_shl pe_int (pv 9))) (pa_cons (pv 9) pa_nil))) ip_add))))
      (pss_cons (ps_set (i := 4) sc_number_may.nd rfl (Or.inl rfl) (pv 8))
      (pss_one (ps_aug (i := 5) sc_number_may.nd rfl (Or.inl rfl) (pe_op op_shl pe_int (pv 4)) iop_or))))))
    (pss_one (ps_ret (pv 6))))))), ?_⟩
    -- slots: known 0, seats 1, order 2, ways 3, at 4, gone 5, found 6, name 7, goal 8, to 9
    have o2 := so.most
    have o1 := so.few
    have hsl := so.len
    have hl : seats.length ≤ 12 := by omega
    have hbi := List.idxOf_lt_length_iff.mpr hb
    have hk1 : seats.length - 1 + 1 = seats.length := by omega
    have hP := G.path_tails so.nd hb hk1 ht
    have htl := G.tails_length ht
    refine ⟨_, rfl, _, rfl, _, rfl, kn, a, g, xs, seats, b :: t, ρ, rfl, hK, ha, so, hg, hP, by rw [List.length_cons, htl]; omega, hwf, fun p m H2 s2 m0 hW => ?_⟩
    obtain ⟨wdx, sa, r, rs, hp, hsa, hr1, hr2, hr3⟩ := hW.fix.ex
    obtain ⟨kv0, hm0, ok0⟩ := id hW.memo
    refine ⟨_, rfl, p, wdx, _, rfl, hp, wm_seat_of _ _ _ _, _, rfl, g, _, 0, .str b, rfl, rfl, same_tup s2 hg, atI_nat (j := 0) rfl, p, m, b, seats, ρ, rfl, hW.fix, hb, ?_⟩
    refine ⟨_, rfl, _, _, rfl, rfl, ⟨by omega, by omega, by decide⟩, _, _, rfl, ?_⟩
    refine ⟨_, rfl, _, rfl, ?_⟩
    refine no_part ?_
    refine slt_from (k := 1) (same_tup s2 hg) fun c H3 s3 hc => ?_
    rw [show ((b :: t).map V.str).drop 1 = t.map V.str by rfl] at hc
    have htl2 : (t.map V.str).length = t.length := List.length_map ..
    have pm : p ≠ m := ne_of hp hm0 (by intro z; cases z)
    refine ⟨c, rfl, ⟨_, hc⟩, ?_⟩
    refine for_it walk_tup (fun j σ H' => ∃ (ν : Nat) (n go to : Option V), σ = [some (.ref kn), some (.ref a), some (.ref g), some (.ref p), some (.int (seats.idxOf ((b :: t).getD j b) : Nat)), some (.int (G.mask seats ((b :: t).take (j + 1)) : Nat)), some (.int (ν : Nat)), n, go, to] ∧
      But m H3 H' ∧ (∃ kvs, H' m = some (.dK kvs) ∧ MemoOk ρ seats kvs) ∧ ∀ μ, (G.tails ρ seats (seats.length - 1 - j) ((b :: t).take (j + 1)) ((b :: t).getD j b))[μ]? = some (t.drop j) → (G.tails ρ seats (seats.length - 1) [b] b)[ν + μ]? = some t) ⟨0, none, none, none, ?_, But.refl, ⟨kv0, s3 _ _ hm0, ok0⟩, fun μ h => ?_⟩ (fun i σ H' _ pv => pv.choose_spec.choose_spec.choose_spec.choose_spec.2.1.tup (s3 _ _ hm0) hc) (fun j z σ H' H'' hj pv y => ?_) fun σ H' pv => ?_
    · rw [show (b :: t).take (0 + 1) = [b] by simp, ← mask_one so.nd hb]
      rfl
    · rw [Nat.zero_add]
      exact h
    · obtain ⟨rfl, hz⟩ := y
      obtain ⟨y, hy, rfl⟩ := str_at hz
      obtain ⟨ν, n, go, to, rfl, b4, ⟨kv4, hm4, ok4⟩, hν⟩ := pv
      have b5 := (But.of (m := m) s3).trans b4
      have fx := b5.fix hm0 hW.fix
      have hjt : j < t.length := (List.getElem?_eq_some_iff.mp hy).1
      have hyP : y ∈ seats := hP.mem (List.mem_cons_of_mem _ (List.mem_of_getElem? hy))
      have hyi := List.idxOf_lt_length_iff.mpr hyP
      have hx0 : (b :: t)[j]? = some ((b :: t).getD j b) := by
        rw [List.getD_eq_getElem?_getD, List.getElem?_eq_getElem (by rw [List.length_cons]; omega), Option.getD_some]
      have hst := hP.step j _ y hx0 hy
      have hA := hP.at_ hx0
      obtain ⟨k, hk⟩ : ∃ k, seats.length - 1 - j = k + 1 := ⟨seats.length - 1 - j - 1, by omega⟩
      rw [show seats.length - (j + 1) = k + 1 by omega] at hA
      rw [hk] at hν
      have hdr : t.drop j = y :: t.drop (j + 1) := by
        obtain ⟨h1, h2⟩ := List.getElem?_eq_some_iff.mp hy
        rw [List.drop_eq_getElem_cons h1, h2]
      have htk : (b :: t).take (j + 1 + 1) = (b :: t).take (j + 1) ++ [y] := take_snoc (by simpa using hy)
      have hgd : (b :: t).getD (j + 1) b = y := by
        rw [List.getD_eq_getElem?_getD, show (b :: t)[j + 1]? = some y by simpa using hy, Option.getD_some]
      generalize (b :: t).getD j b = x at *
      generalize (b :: t).take (j + 1) = gn at *
      refine ⟨_, rfl, p, wdx, _, rfl, b5 _ _ pm hp, wm_seat_of _ _ _ _, _, rfl, p, m, y, seats, ρ, rfl, fx, hyP, ?_⟩
      refine ⟨_, rfl, p, wdx, _, rfl, b5 _ _ pm hp, wm_nexts _ _ _ _, _, rfl, _, rfl, p, m, gn, seats, x, k + 1, ρ, rfl, fx, hA, hl, hwf, fun L H5 s5 hL0 hL => ?_⟩
      rw [if_neg (by omega)] at hL
      have hm5 := s5 _ _ hm4
      have bm5 := b5.trans (But.of s5)
      have b45 := b4.trans (But.of s5)
      refine ⟨L, rfl, ⟨_, SqL.of hL⟩, ?_⟩
      refine for_it walk_list (fun i σ H' => ∃ (ν : Nat) (to : Option V), σ = [some (.ref kn), some (.ref a), some (.ref g), some (.ref p), some (.int (seats.idxOf x : Nat)), some (.int (G.mask seats gn : Nat)), some (.int (ν : Nat)), some (.str y), some (.int (seats.idxOf y : Nat)), to] ∧
        But m H5 H' ∧ (∃ kvs, H' m = some (.dK kvs) ∧ MemoOk ρ seats kvs) ∧ (∀ i' z, i' < i → (G.nexts ρ seats gn x)[i']? = some z → z ≠ y) ∧ ∀ μ, (G.ahead ρ seats k gn ((G.nexts ρ seats gn x).drop i))[μ]? = some (t.drop j) → (G.tails ρ seats (seats.length - 1) [b] b)[ν + μ]? = some t) ⟨ν, to, rfl, But.refl, ⟨kv4, hm5, ok4⟩, fun i' z h => absurd h (Nat.not_lt_zero _), hν⟩ (fun i σ H' _ pv => pv.choose_spec.choose_spec.2.1.seq hm5 (SqL.of hL)) (fun i z σ H' H'' hi pv yy => ?_) fun σ H' pv => ?_
      · obtain ⟨rfl, hz⟩ := yy
        obtain ⟨ν', to', rfl, b6, ⟨kv6, hm6, ok6⟩, hne, hν'⟩ := pv
        unfold intL at hz
        rw [List.getElem?_map, List.getElem?_map] at hz
        obtain ⟨j', hj', rfl⟩ := Option.map_eq_some_iff.mp hz
        obtain ⟨u, hu, rfl⟩ := Option.map_eq_some_iff.mp hj'
        have hus := G.nexts_sub hA (List.mem_of_getElem? hu)
        have hul := (hA.mem.mp hus).1
        have hui := List.idxOf_lt_length_iff.mpr hul
        have bm6 := bm5.trans b6
        have fx6 := bm6.fix hm0 hW.fix
        have hA' := hA.step hus
        refine ⟨_, rfl, _, rfl, rfl, _, rfl, ?_⟩
        by_cases c : u = y
        · subst c
          rw [decide_eq_true (rfl : V.int ((seats.idxOf u : Nat) : Int) = V.int (seats.idxOf u : Nat))]
          refine iteT ?_
          refine ⟨_, rfl, ?_⟩
          refine ⟨_, rfl, _, rfl, _, _, rfl, rfl, ⟨by omega, by omega, by decide⟩, _, _, rfl, rfl, ?_⟩
          refine ⟨ν', some (.str u), some (.int (seats.idxOf u : Nat)), some (.int (seats.idxOf u : Nat)), ?_, b45.trans b6, ⟨kv6, hm6, ok6⟩, fun μ h => ?_⟩
          · rw [hgd, htk, ← bor_seat hA hus]
            rfl
          · rw [hgd, htk, show seats.length - 1 - (j + 1) = k by omega] at h
            refine hν' μ ?_
            rw [hdr]
            exact G.ahead_mk hu h
        · rw [decide_eq_false (fun e : V.int ((seats.idxOf u : Nat) : Int) = V.int (seats.idxOf y : Nat) => c (idx_inj hul hyP (by have := V.int.inj e; omega)))]
          refine iteF ?_
          refine ⟨_, rfl, _, rfl, p, wdx, _, rfl, bm6 _ _ pm hp, wm_many _ _ _ _, _, rfl, _, rfl, _, _, rfl, rfl, ⟨by omega, by omega, by decide⟩, _, _, rfl, rfl, _, rfl, p, m, gn ++ [u], seats, u, k, ρ, ?_, by omega, ⟨fx6, kv6, hm6, ok6⟩, hA', hl, hwf, fun H7 b7 w7 => ?_⟩
          · show [V.ref p, V.int (Builtin.bitOr (G.mask seats gn : Nat) (1 * 2 ^ ((seats.idxOf u : Nat) : Int).toNat)), V.int (seats.idxOf u : Nat)] = _
            rw [bor_seat hA hus]
          · refine ⟨_, _, rfl, rfl, ?_⟩
            refine ⟨ν' + cntW ρ seats k (gn ++ [u]) u, some (.int (seats.idxOf u : Nat)), rfl, b6.trans b7, w7.memo, fun i' z hi' hz' => ?_, fun μ h => ?_⟩
            · rcases Nat.lt_or_ge i' i with q1 | q1
              · exact hne i' z q1 hz'
              · obtain rfl : i' = i := by omega
                rw [hu] at hz'
                exact Option.some.inj hz' ▸ c
            · rw [Nat.add_assoc]
              exact hν' _ (G.ahead_add hu h)
      · obtain ⟨ν', to', rfl, b6, _, hne, _⟩ := pv
        obtain ⟨i', hi', e'⟩ := List.mem_iff_getElem.mp hst
        rw [intL_len, List.length_map] at hne
        exact absurd rfl (hne i' y hi' (by rw [List.getElem?_eq_getElem hi', e']))
    · obtain ⟨ν, n, go, to, rfl, b4, _, hfin⟩ := pv
      have b5 := (But.of s3).trans b4
      refine ⟨_, rfl, ?_⟩
      refine q ν H' (But.same0 s2 m0 b5) ?_
      refine hfin 0 ?_
      rw [htl2, htl, Nat.sub_self, List.drop_of_length_le (by omega)]
      rfl
end
end GK
set_option Elab.async false
set_option linter.all false
set_option maxRecDepth 100000
set_option maxHeartbeats 4000000
namespace GK
open PySem PySem.Spec PyProof.Rows L2
section
variable {P : Program} {w : World} {K : PySem.W.Frag} {mg : Str → Option Value} {base : Heap} {CK CW : Addr}
def spPlacesOf (K : PySem.W.Frag) : Sp := fun vs H Q _ => ∃ (a g : Addr) (seats : List Str) (b : Str) (t : List Str), vs = [.ref a, .ref g] ∧ SqL K H a (seats.map V.str) ∧ SqT K H g ((b :: t).map V.str) ∧ seats.Nodup ∧ seats.length ≤ 12 ∧ (b :: t).Nodup ∧ (∀ x ∈ b :: t, x ∈ seats) ∧
  ∀ (L : Addr) (vs : List V) (H' : Hp), Same H H' → H L = none → H' L = some (.lst vs) → ToldL K H' vs (G.places seats [b] b t) → Q (.ref L) H'
theorem sc_places_of : FnScope ["seats", "order", "found", "gone", "name", "later", "at", "turned", "left", "one"] ["seats", "order"] (defScope s_places_of) := ⟨rfl, rfl, rfl, by decide +kernel, rfl, by decide +kernel, by decide +kernel⟩
theorem ok_places_of (D : DefAt K mg "places_of" s_places_of) (T : Txt K mg CK CW)   : C8.Cal P w K mg base 1 "places_of" (spPlacesOf K) [] := by
  refine cal_of D sc_places_of (ps := ["seats", "order"]) (fun _ _ _ _ _ _ us hl => match us, hl with | [_, _], _ => rfl) (fun vs H Q E h => ?_) fun f cdv A outer s H vs Q E hr h => ?_
  · obtain ⟨a, g, seats, b, t, rfl, ha, hg, hsn, hl, hn, hm, q⟩ := h
    rfl
  · obtain ⟨a, g, seats, b, t, rfl, ha, hg, hsn, hl, hn, hm, q⟩ := h
    refine ⟨_, (pss_cons (ps_asg (pe_tup (pa_cons (pe_lst pa_nil) (pa_cons (pe_lst (pa_cons (pe_ix ix_tup (pv 1) pe_int (fun _ _ => rfl)) pa_nil)) pa_nil))) (pg_tup (by rfl) (pgs_cons (pg_name (i := 2) sc_places_of.nd rfl (Or.inl rfl)) (pgs_cons (pg_name (i := 3) sc_places_of.nd rfl (Or.inr rfl)) pgs_nil))))
    (pss_cons (ps_for PassesOwn.never rfl (RZ.pi_zipA (by rfl) T.b_zip (pa_cons (pv 1) (pa_cons (pe_slice sl_tupA (pv 1) (po_some pe_int) po_none) pa_nil))) (pg_tup (by rfl) (pgs_cons (pg_name (i := 4) sc_places_of.nd rfl (Or.inl rfl)) (pgs_cons (pg_name (i := 5) sc_places_of.nd rfl (Or.inl rfl)) pgs_nil))) 
      (pss_cons (ps_set (i := 6) sc_places_of.nd rfl (Or.inl rfl) (pe_bm PySem.F.plainAttrs_list PySem.F.slot_list_index PySem.F.type_list_index mt_index (pe_callTy call_list_of (by rfl) T.b_list (by decide +kernel) (pa_cons (pv 0) pa_nil)) (pa_cons (pv 4) pa_nil)))
      (pss_cons (ps_set (i := 7) sc_places_of.nd rfl (Or.inl rfl) (pe_op op_cat (pe_callTy call_list_of (by rfl) T.b_list (by decide +kernel) (pa_cons (pe_slice sl_list (pv 0) (po_some (pe_op op_add (pv 6) pe_int)) po_none) pa_nil)) (pe_callTy call_list_of (by rfl) T.b_list (by decide +kernel) (pa_cons (pe_slice sl_list (pv 0) po_none (po_some (pv 6))) pa_nil))))
      (pss_cons (ps_setLc (i := 8) (own := [("one", 9)]) rfl sc_places_of.nd rfl rfl (sw_true rfl rfl rfl (by decide +kernel)) (pi_list (pv 7)) (blkOk_by (own := [("one", 9)]) (N := ["seats", "order", "found", "gone", "name", "later", "at", "turned", "left", "one"]) (sc := defScope s_places_of) (by decide +kernel)) (fun _ _ _ _ _ => pg_name (i := 9) sc_places_of.nd rfl (Or.inl rfl)) (fun _ _ _ _ _ => (pts_one (pt_cmpR (k_nin K) (pv 9) (pv 3) (by rfl)))) (fun _ _ _ _ _ => (pv 9)))
      (pss_cons (ps_expr (pe_bm PySem.F.plainAttrs_list PySem.F.slot_list_append PySem.F.type_list_append mt_append (pv 2) (pa_cons (pe_tup (pa_cons (pv 4) (pa_cons (pe_tup (pa_cons (pe_bm PySem.F.plainAttrs_list PySem.F.slot_list_index PySem.F.type_list_index mt_index (pv 8) (pa_cons (pv 5) pa_nil)) (pa_cons (pe_callB call_len_seq (by rfl) T.b_len (by decide +kernel) (pa_cons (pv 8) pa_nil)) pa_nil))) pa_nil))) pa_nil)))
      (pss_one (ps_expr (pe_bm PySem.F.plainAttrs_list PySem.F.slot_list_append PySem.F.type_list_append mt_append (pv 3) (pa_cons (pv 5) pa_nil)))))))))
    (pss_one (ps_ret (pv 2))))), ?_⟩
    -- slots: seats 0, order 1, found 2, gone 3, name 4, later 5, at 6, turned 7, left 8, one 9
    have htl : (b :: t).length ≤ 12 := Nat.le_trans (G.nd_sub hn hm) hl
    refine ⟨Nat.zero_le _, fun F hF => ?_⟩
    have s1 : Same H (upd H F (.lst [])) := same_upd hF
    refine ⟨_, rfl, g, _, _, .str b, rfl, rfl, same_tup s1 hg, atI_nat (j := 0) rfl, by show 1 ≤ sizeLine; decide, fun Gn hGn => ?_⟩
    have s2 := s1.trans (same_upd (o := .lst [.str b]) hGn)
    have FG : F ≠ Gn := ne_of_none upd_same hGn
    refine ⟨by show 2 ≤ sizeLine; decide, fun T0 hT0 => ?_⟩
    have s3 := s2.trans (same_upd (o := .tup [.ref F, .ref Gn]) hT0)
    refine ⟨T0, _, rfl, SqT.of upd_same, rfl, _, _, rfl, _, _, rfl, rfl, ?_⟩
    have hF3 : upd (upd (upd H F (.lst [])) Gn (.lst [.str b])) T0 (.tup [.ref F, .ref Gn]) F = some (.lst []) := by
      rw [upd_ne (ne_of_none (by rw [upd_ne FG, upd_same]) hT0), upd_ne FG, upd_same]
    have hG3 : upd (upd (upd H F (.lst [])) Gn (.lst [.str b])) T0 (.tup [.ref F, .ref Gn]) Gn = some (.lst [.str b]) := by
      rw [upd_ne (ne_of_none upd_same hT0), upd_same]
    generalize upd (upd (upd H F (.lst [])) Gn (.lst [.str b])) T0 (.tup [.ref F, .ref Gn]) = H3 at *
    refine ⟨_, rfl, _, rfl, _, rfl, ?_⟩
    refine no_part ?_
    refine slt_from (k := 1) (same_tup s3 hg) fun c H4 s4 hc => ?_
    rw [show ((b :: t).map V.str).drop 1 = t.map V.str by rfl] at hc
    have s34 := s3.trans s4
    refine ⟨g, c, _, _, rfl, .inr ⟨same_tup s34 hg, hc, ?_⟩⟩
    refine for_it (walk_zipT (n := t.length) (by rw [List.length_map, List.length_map, List.length_cons]; omega)) (fun i σ H' => ∃ (vs : List V) (n1 n2 n3 n4 n5 n6 : Option V), σ = [some (.ref a), some (.ref g), some (.ref F), some (.ref Gn), n1, n2, n3, n4, n5, n6] ∧
      Same H H' ∧ Tk H4 H' ∧ H' F = some (.lst vs) ∧ ToldL K H' vs (G.places seats [b] b (t.take i)) ∧ H' Gn = some (.lst ((b :: t.take i).map V.str))) ⟨[], none, none, none, none, none, none, rfl, s34, Tk.refl, s4 _ _ hF3, ToldL.nil, s4 _ _ hG3⟩ (fun i σ H' _ ⟨vs, _, _, _, _, _, _, _, s5, k5, _⟩ => ⟨same_tup s5 hg, k5.sq hc⟩) (fun i z σ H' H'' hi pv y => ?_) fun σ H' pv => ?_
    · obtain ⟨vs, n1, n2, n3, n4, n5, n6, rfl, s5, k5, hF5, hT5, hG5⟩ := pv
      obtain ⟨T, v1, v2, rfl, hT, rfl, hv1, hv2⟩ := y
      obtain ⟨x, hx, rfl⟩ := str_at hv1
      obtain ⟨y, hy, rfl⟩ := str_at hv2
      have hxs : x ∈ seats := hm x (List.mem_of_getElem? hx)
      have hys : y ∈ seats := hm y (List.mem_cons_of_mem _ (List.mem_of_getElem? hy))
      have hxi := List.idxOf_lt_length_iff.mpr hxs
      have e6 : Same H' (upd H' T (.tup [.str x, .str y])) := same_upd hT
      refine ⟨T, _, rfl, SqT.of upd_same, rfl, _, _, rfl, _, _, rfl, rfl, ?_⟩
      generalize upd H' T (.tup [.str x, .str y]) = H6 at *
      have s6 := s5.trans e6
      -- at
      refine ⟨_, rfl, a, _, rfl, .inl (s6.seq ha), fun l1 hl1 => ⟨.inl ⟨rfl, _, SqL.of upd_same⟩, _, rfl, ?_⟩⟩
      refine no_args ?_
      refine index_ok (SqL.of upd_same) hxs ?_
      have e7 : Same H6 (upd H6 l1 (.lst (seats.map V.str))) := same_upd hl1
      generalize upd H6 l1 (.lst (seats.map V.str)) = H7 at *
      have s7 := s6.trans e7
      -- turned
      refine ⟨_, rfl, _, rfl, _, _, rfl, rfl, _, rfl, ?_⟩
      refine no_part ?_
      refine sll_from (k := seats.idxOf x + 1) (s7.seq ha) fun l2 H8 e8 _ hl2 => ?_
      refine ⟨l2, _, rfl, .inl (SqL.of hl2), fun l3 hl3 => ?_⟩
      have e9 : Same H8 (upd H8 l3 (.lst ((seats.map V.str).drop (seats.idxOf x + 1)))) := same_upd hl3
      have h3 : upd H8 l3 (.lst ((seats.map V.str).drop (seats.idxOf x + 1))) l3 = some (.lst ((seats.map V.str).drop (seats.idxOf x + 1))) := upd_same
      generalize upd H8 l3 (.lst ((seats.map V.str).drop (seats.idxOf x + 1))) = H9 at *
      have s9 := (s7.trans e8).trans e9
      refine ⟨_, rfl, ?_⟩
      refine no_part ?_
      refine ⟨_, rfl, _, rfl, ?_⟩
      refine sll_to (k := seats.idxOf x) (s9.seq ha) fun l4 H10 e10 _ hl4 => ?_
      refine ⟨l4, _, rfl, .inl (SqL.of hl4), fun l5 hl5 => ?_⟩
      have e11 : Same H10 (upd H10 l5 (.lst ((seats.map V.str).take (seats.idxOf x)))) := same_upd hl5
      have h5 : upd H10 l5 (.lst ((seats.map V.str).take (seats.idxOf x))) l5 = some (.lst ((seats.map V.str).take (seats.idxOf x))) := upd_same
      generalize upd H10 l5 (.lst ((seats.map V.str).take (seats.idxOf x))) = H11 at *
      have hsl : (seats.map V.str).length = seats.length := List.length_map ..
      refine ⟨l3, l5, _, _, rfl, rfl, e11 _ _ (e10 _ _ h3), h5, sz_le (by rw [List.length_drop, List.length_take]; omega), fun l6 hl6 => ?_⟩
      have etu : (seats.map V.str).drop (seats.idxOf x + 1) ++ (seats.map V.str).take (seats.idxOf x) = (G.turned seats x).map V.str := by
        unfold G.turned
        rw [List.map_append, List.map_drop, List.map_take]
      rw [etu]
      have e12 : Same H11 (upd H11 l6 (.lst ((G.turned seats x).map V.str))) := same_upd hl6
      have h6 : upd H11 l6 (.lst ((G.turned seats x).map V.str)) l6 = some (.lst ((G.turned seats x).map V.str)) := upd_same
      generalize upd H11 l6 (.lst ((G.turned seats x).map V.str)) = H12 at *
      have e612 : Same H6 H12 := ((((e7.trans e8).trans e9).trans e10).trans e11).trans e12
      -- left
      have gh : (b :: t.take i) = (b :: t).take (i + 1) := rfl
      have hx1 : (b :: t)[i]? = some x := hx
      have hGl : H12 Gn = some (.lst ((b :: t.take i).map V.str)) := e612 _ _ (e6 _ _ hG5)
      refine ⟨_, rfl, l6, rfl, ⟨_, SqL.of h6⟩, fun D hD => ?_⟩
      have htu : ((G.turned seats x).map V.str).length = (G.turned seats x).length := List.length_map ..
      have htl2 := G.turned_length hxs
      refine lc_it walk_list (Told H12 D fun j => (((G.turned seats x).take j).filter fun u => decide (u ∉ b :: t.take i)).map V.str) (Told.start hD rfl) (fun j H' _ pv => SqL.of (pv.same _ _ h6)) (fun j z H' H'' hj pv yy => ?_) fun H13 pv => ?_
      · obtain ⟨rfl, hz⟩ := yy
        obtain ⟨u, hu, rfl⟩ := str_at hz
        refine ⟨rfl, ?_⟩
        refine ⟨_, rfl, _, rfl, Gn, _, rfl, .inl (SqL.of (pv.same _ _ hGl)), rfl, flat_strs _, ?_⟩
        rw [inV_strs]
        by_cases c : u ∈ b :: t.take i
        · rw [decide_eq_true c]
          refine ⟨false, rfl, ?_⟩
          show (if false = true then _ else _)
          rw [if_neg (by decide)]
          refine pv.skip (Same.refl _) ?_
          rw [take_snoc hu, List.filter_append, List.map_append, filt_out c]
          simp
        · rw [decide_eq_false c]
          refine ⟨true, rfl, ?_⟩
          show (if true = true then _ else _)
          rw [if_pos rfl]
          refine ⟨_, rfl, ?_⟩
          refine pv.put hD (Same.refl _) ?_ ?_
          · rw [take_snoc hu, List.filter_append, List.map_append, filt_in c]
            rfl
          · rw [List.length_map]
            refine Nat.lt_of_le_of_lt (List.length_filter_le ..) ?_
            rw [List.length_take]
            omega
      · have hleft : H13 D = some (.lst ((G.sit seats (b :: t.take i) x).map V.str)) := by
          rw [pv.at_, htu, List.take_length]
          rfl
        have e613 : Same H6 H13 := e612.trans pv.same
        have eF : Same H' H13 := e6.trans e613
        have hF13 := eF _ _ hF5
        have hG13 := eF _ _ hG5
        have hAt : G.At seats (b :: t.take i) x (seats.length - (i + 1)) := by
          have hi2 : i < t.length := hi
          refine ⟨hsn, (List.Sublist.nodup (List.take_sublist (i + 1) (b :: t)) hn), fun z hz => hm z (List.mem_of_mem_take (i := i + 1) hz), ?_, ?_⟩
          · rw [gh]
            have h8 : ((b :: t).take (i + 1))[i]? = some x := by
              rw [List.getElem?_take_of_lt (by omega)]
              exact hx1
            exact List.mem_of_getElem? h8
          · have hle2 := G.nd_sub hn hm
            rw [List.length_cons] at hle2
            rw [List.length_cons, List.length_take]
            omega
        have hyl : y ∈ G.sit seats (b :: t.take i) x := by
          refine hAt.mem.mpr ⟨hys, fun hc => ?_⟩
          have := nd_take hn (i := i + 1) (x := y) (by exact hy)
          exact this hc
        have hsitl : (G.sit seats (b :: t.take i) x).length ≤ 12 := by rw [hAt.length]; omega
        refine ⟨_, rfl, .inl ⟨rfl, _, SqL.of hF13⟩, _, rfl, _, rfl, .inl ⟨rfl, _, SqL.of hleft⟩, _, rfl, ?_⟩
        refine no_args ?_
        refine index_ok (SqL.of hleft) hyl ?_
        refine ⟨_, rfl, D, _, rfl, .inl (SqL.of hleft), ?_⟩
        rw [List.length_map]
        refine ⟨by show 2 ≤ sizeLine; decide, fun t1 ht1 => ?_⟩
        have e14 : Same H13 (upd H13 t1 (.tup [.int ((G.sit seats (b :: t.take i) x).idxOf y : Nat), .int ((G.sit seats (b :: t.take i) x).length : Nat)])) := same_upd ht1
        have hr14 : upd H13 t1 (.tup [.int ((G.sit seats (b :: t.take i) x).idxOf y : Nat), .int ((G.sit seats (b :: t.take i) x).length : Nat)]) t1 = some (.tup [.int ((G.sit seats (b :: t.take i) x).idxOf y : Nat), .int ((G.sit seats (b :: t.take i) x).length : Nat)]) := upd_same
        generalize upd H13 t1 (.tup [.int ((G.sit seats (b :: t.take i) x).idxOf y : Nat), .int ((G.sit seats (b :: t.take i) x).length : Nat)]) = H14 at *
        refine ⟨by show 2 ≤ sizeLine; decide, fun t2 ht2 => ?_⟩
        have e15 : Same H14 (upd H14 t2 (.tup [.str x, .ref t1])) := same_upd ht2
        have hr15 : upd H14 t2 (.tup [.str x, .ref t1]) t2 = some (.tup [.str x, .ref t1]) := upd_same
        generalize upd H14 t2 (.tup [.str x, .ref t1]) = H15 at *
        have eA : Same H' H15 := (eF.trans e14).trans e15
        have hvl := hT5.len
        rw [G.places_length, List.length_take] at hvl
        refine ⟨F, _, .ref t2, rfl, rfl, eA _ _ hF5, sz_lt (by rw [List.length_cons] at htl; omega), ?_⟩
        have kF : Tk H15 (upd H15 F (.lst (vs ++ [.ref t2]))) := Tk.lst (eA _ _ hF5)
        have hF16 : upd H15 F (.lst (vs ++ [.ref t2])) F = some (.lst (vs ++ [.ref t2])) := upd_same
        have hG16 : upd H15 F (.lst (vs ++ [.ref t2])) Gn = some (.lst ((b :: t.take i).map V.str)) := (upd_ne FG.symm).trans (eA _ _ hG5)
        have sF : Same H (upd H15 F (.lst (vs ++ [.ref t2]))) := same_mut (s5.trans eA) hF
        generalize upd H15 F (.lst (vs ++ [.ref t2])) = H16 at *
        refine ⟨_, rfl, .inl ⟨rfl, _, SqL.of hG16⟩, _, rfl, Gn, _, .str y, rfl, rfl, hG16, sz_lt (by rw [List.length_map, List.length_cons, List.length_take]; rw [List.length_cons] at htl; omega), ?_⟩
        have kG : Tk H16 (upd H16 Gn (.lst ((b :: t.take i).map V.str ++ [.str y]))) := Tk.lst hG16
        refine ⟨vs ++ [.ref t2], some (.str x), some (.str y), some (.int (seats.idxOf x : Nat)), some (.ref l6), some (.ref D), n6, rfl, same_mut sF (s1.free hGn), ((k5.trans (Tk.of eA)).trans kF).trans kG, (upd_ne FG).trans hF16, ?_, ?_⟩
        · rw [take_snoc hy, G.places_snoc (u := x) (by rw [List.length_take, Nat.min_eq_left (by have : i < t.length := hi; omega)]; show ((b :: t).take (i + 1))[i]? = some x; rw [List.getElem?_take_of_lt (by omega)]; exact hx1)]
          refine (hT5.tk (((Tk.of eA).trans kF).trans kG)).append (ToldL.one ⟨t2, .ref t1, rfl, (kF.trans kG).sq (SqT.of hr15), t1, rfl, (kF.trans kG).sq (SqT.of (e15 _ _ hr14))⟩)
        · rw [upd_same, take_snoc hy, ← List.cons_append, List.map_append]
          rfl
    · obtain ⟨vs, n1, n2, n3, n4, n5, n6, rfl, s5, k5, hF5, hT5, hG5⟩ := pv
      rw [List.take_length] at hT5
      exact ⟨_, rfl, q F vs _ s5 hF hF5 hT5⟩
end
end GK
set_option Elab.async false
set_option linter.all false
set_option maxRecDepth 100000
set_option maxHeartbeats 4000000
namespace GK
open PySem PySem.Spec PyProof.Rows L2
section
variable {P : Program} {w : World} {K : PySem.W.Frag} {mg : Str → Option Value} {base : Heap} {CK CW : Addr}
theorem putK_keys {kvs : List (Key × V)} {k : Key} {v u : V} (h : valV kvs k = some u) : (putK kvs k v).map (·.1) = kvs.map (·.1) := by
  unfold putK
  rw [valV_any, h, if_pos (by rfl), List.map_map]
  apply List.map_congr_left
  intro kv _
  show (if kv.1 = _ then (kv.1, _) else kv).1 = kv.1
  split <;> rfl
theorem RestsD.tk {H H' : Hp} {kvs : List (Key × V)} {xs : List Str} {ρ : Str → Nat × Nat} (e : Tk H H') (h : RestsD K H kvs xs ρ) : RestsD K H' kvs xs ρ := ⟨h.keys, fun x hx => let ⟨v, a, b⟩ := h.val x hx; ⟨v, a, e.rest b⟩⟩
theorem RestsD.put {H : Hp} {kvs : List (Key × V)} {xs : List Str} {ρ : Str → Nat × Nat} {x : Str} {v : V} {c : Nat × Nat} (h : RestsD K H kvs xs ρ) (hx : x ∈ xs) (hv : RestAt K H v c) : RestsD K H (putK kvs (Sum.inr x) v) xs (fun y => if y = x then c else ρ y) := by
  obtain ⟨u, hu, _⟩ := h.val x hx
  refine ⟨by rw [putK_keys hu]; exact h.keys, fun y hy => ?_⟩
  rw [valV_put]
  by_cases q : y = x
  · subst q
    rw [if_pos rfl]
    refine ⟨v, rfl, ?_⟩
    show RestAt K H v (if y = y then c else ρ y)
    rw [if_pos rfl]
    exact hv
  · rw [if_neg (fun e => q (Sum.inr.inj e))]
    obtain ⟨u2, h1, h2⟩ := h.val y hy
    refine ⟨u2, h1, ?_⟩
    show RestAt K H u2 (if y = x then c else ρ y)
    rw [if_neg q]
    exact h2
def spNarrowed (K : PySem.W.Frag) : Sp := fun vs H Q _ => ∃ (d l : Addr) (kvs : List (Key × V)) (us : List V) (xs : List Str) (ρ : Str → Nat × Nat) (U : List (Str × (Nat × Nat))), vs = [.ref d, .ref l] ∧ H d = some (.dK kvs) ∧ RestsD K H kvs xs ρ ∧ xs.length ≤ 12 ∧ SqL K H l us ∧ ToldL K H us U ∧ U.length ≤ 40 ∧
  (∀ x ∈ xs, (ρ x).1 < (ρ x).2 ∧ (ρ x).2 ≤ 2 ^ 600) ∧ (∀ c ∈ U, c.1 ∈ xs ∧ c.2.1 < c.2.2 ∧ c.2.2 ≤ 2 ^ 4) ∧ (∀ (H' : Hp), Same H H' → G.narrow ρ U = none → Q .non H') ∧
  ∀ (D : Addr) (kvs' : List (Key × V)) (ρ' : Str → Nat × Nat) (H' : Hp), Same H H' → H D = none → G.narrow ρ U = some ρ' → H' D = some (.dK kvs') → RestsD K H' kvs' xs ρ' → Q (.ref D) H'
theorem sc_narrowed : FnScope ["rests", "told", "found", "name", "rest"] ["rests", "told"] (defScope s_narrowed) := ⟨rfl, rfl, rfl, by decide +kernel, rfl, by decide +kernel, by decide +kernel⟩
theorem ok_narrowed (D : DefAt K mg "narrowed" s_narrowed) (T : Txt K mg CK CW)  (c_both : C8.Cal P w K mg base 4 "both" (spBoth K) []) : C8.Cal P w K mg base 5 "narrowed" (spNarrowed K) [] := by
  refine cal_of D sc_narrowed (ps := ["rests", "told"]) (fun _ _ _ _ _ _ us hl => match us, hl with | [_, _], _ => rfl) (fun vs H Q E h => ?_) fun f cdv A outer s H vs Q E hr h => ?_
  · obtain ⟨d, l, kvs, us, xs, ρ, U, rfl, hd, hR, hxl, hus, hT, hTl, hρ, hTc, qn, qs⟩ := h
    rfl
  · obtain ⟨d, l, kvs, us, xs, ρ, U, rfl, hd, hR, hxl, hus, hT, hTl, hρ, hTc, qn, qs⟩ := h
    have hu := hu_of hr
    refine ⟨_, (pss_cons (ps_set (i := 2) sc_narrowed.nd rfl (Or.inl rfl) (pe_callTy call_dictD (by rfl) T.b_dict (by decide +kernel) (pa_cons (pv 0) pa_nil)))
    (pss_cons (ps_for PassesOwn.never rfl (pi_list (pv 1)) (pg_tup (by rfl) (pgs_cons (pg_name (i := 3) sc_narrowed.nd rfl (Or.inl rfl)) (pgs_cons (pg_name (i := 4) sc_narrowed.nd rfl (Or.inl rfl)) pgs_nil))) 
      (pss_cons (ps_dput hu (pv 2) (pv 3) (C8.pe_c c_both hr (by omega) rfl (pa_cons (pe_dget hu (pv 2) (pv 3) (fun _ _ => rfl)) (pa_cons (pv 4) pa_nil))) rfl)
      (pss_one (ps_if (pt_cmpR op_isN (pe_dget hu (pv 2) (pv 3) (fun _ _ => rfl)) pe_non (nomark _)) 
        (pss_one (ps_ret pe_non)) pss_nil))))
    (pss_one (ps_ret (pv 2))))), ?_⟩
    -- slots: rests 0, told 1, found 2, name 3, rest 4
    refine ⟨_, rfl, d, kvs, rfl, .inl hd, fun D hD => ?_⟩
    have s1 : Same H (upd H D (.dK kvs)) := same_upd hD
    have hDD : upd H D (.dK kvs) D = some (.dK kvs) := upd_same
    generalize upd H D (.dK kvs) = H1 at *
    refine ⟨_, rfl, l, rfl, ⟨_, s1.seq hus⟩, ?_⟩
    refine for_it walk_list (fun i σ H' => ∃ (n1 n2 : Option V) (kvs' : List (Key × V)) (ρ' : Str → Nat × Nat), σ = [some (.ref d), some (.ref l), some (.ref D), n1, n2] ∧ Same H H' ∧ G.narrow ρ (U.take i) = some ρ' ∧ H' D = some (.dK kvs') ∧ RestsD K H' kvs' xs ρ') ⟨none, none, kvs, ρ, rfl, s1, rfl, hDD, hR.same s1⟩ (fun i σ H' _ pv => pv.choose_spec.choose_spec.choose_spec.choose_spec.2.1.seq hus) (fun i z σ H' H'' hi pv y => ?_) fun σ H' pv => ?_
    · obtain ⟨rfl, hz⟩ := y
      obtain ⟨n1, n2, kvs', ρ', rfl, s2, hN, hD2, hR2⟩ := pv
      have hiT : i < U.length := by rw [← hT.len]; exact hi
      have hc := List.getElem?_eq_getElem hiT
      obtain ⟨a, u, rfl, ha, hu2⟩ := hT.at_ i _ _ hz hc
      obtain ⟨c1, c2, c3⟩ := hTc _ (List.getElem_mem hiT)
      generalize U[i] = c at *
      obtain ⟨x, r⟩ := c
      have c1 : x ∈ xs := c1
      have c2 : r.1 < r.2 := c2
      have c3 : r.2 ≤ 2 ^ 4 := c3
      have hw0 : G.WF ρ xs := fun y hy => (hρ y hy).1
      have hw := G.narrow_wf (line := xs) hw0 hN
      have hm := G.narrow_mods (line := xs) (b := 2 ^ 600) (n := 4) (fun y hy => (hρ y hy).2) (fun c hc => (hTc c (List.mem_of_mem_take hc)).2.2) (fun c hc => (hTc c (List.mem_of_mem_take hc)).1) (Nat.pow_pos (by decide)) hN x c1
      have hm2 : (ρ' x).2 < 2 ^ 1000 := by
        refine Nat.lt_of_le_of_lt hm ?_
        rw [← Nat.pow_add]
        refine Nat.pow_lt_pow_right (by decide) ?_
        rw [List.length_take]
        omega
      obtain ⟨rv, hrv, hra⟩ := hR2.val x c1
      refine ⟨a, _, rfl, same_tup s2 ha, rfl, _, _, rfl, _, _, rfl, rfl, ?_⟩
      refine ⟨_, rfl, _, rfl, D, rv, rfl, dget_str hD2 hrv, _, rfl, rv, u, ρ' x, r, rfl, hra, hu2.same s2, hw x c1, c2, hm2, Nat.le_trans c3 (by decide), fun v H3 s3 hv => ?_⟩
      have hD3 := s3 _ _ hD2
      have hkl : kvs'.length ≤ 12 := by rw [hR2.len]; exact hxl
      refine ⟨_, rfl, _, rfl, D, _, rfl, DPut.k (k := Sum.inr x) hD3 (sz_lt (by omega)), ?_⟩
      have s4 : Same H (upd H3 D (.dK (putK kvs' (Sum.inr x) v))) := same_mut (s2.trans s3) hD
      refine ⟨_, rfl, _, rfl, D, v, rfl, dget_str upd_same (by rw [valV_put, if_pos rfl]), ?_⟩
      have hnx : G.narrow ρ (U.take (i + 1)) = G.narrow ρ' [(x, r)] := by
        rw [take_snoc hc, G.narrow_append, hN]
        rfl
      cases hb : G.bothN (ρ' x) r with
      | none =>
        rw [hb] at hv
        obtain rfl : v = .non := hv
        refine ⟨rfl, true, rfl, ?_⟩
        refine iteT ?_
        refine qn _ s4 ?_
        have e : U = U.take (i + 1) ++ U.drop (i + 1) := (List.take_append_drop _ _).symm
        rw [e, G.narrow_append, hnx, G.narrow_none hb]
        rfl
      | some c' =>
        rw [hb] at hv
        have hv2 := hv
        obtain ⟨pv, rfl, _⟩ := hv2
        refine ⟨rfl, false, rfl, ?_⟩
        refine iteF ?_
        refine ⟨_, _, _, _, rfl, s4, by rw [hnx, G.narrow_some hb]; rfl, upd_same, ?_⟩
        exact ((hR2.same s3).put c1 hv).tk (Tk.dK hD3)
    · obtain ⟨n1, n2, kvs', ρ', rfl, s2, hN, hD2, hR2⟩ := pv
      rw [hT.len, List.take_length] at hN
      exact ⟨_, rfl, qs D kvs' ρ' H' s2 hD hN hD2 hR2⟩
end
end GK
set_option Elab.async false
set_option linter.all false
set_option maxRecDepth 100000
set_option maxHeartbeats 4000000
namespace GK
open PySem PySem.Spec PyProof.Rows L2
section
variable {P : Program} {w : World} {K : PySem.W.Frag} {mg : Str → Option Value} {base : Heap} {CK CW : Addr}
theorem cal_alias {x y : Str} {k : Nat} {sp : Sp} {dvs : List V} (h : mg y = mg x) (c : C8.Cal P w K mg base k x sp dvs) : C8.Cal P w K mg base k y sp dvs :=
  let ⟨f, fd, ps, ds, a, b, c', d, e⟩ := c.ex
  ⟨f, fd, ps, ds, a, h.trans b, c', d, e⟩
/-- the slips of a dict: each name's number -/
structure SlipsD (kvs : List (Key × V)) (xs : List Str) (s : Str → Nat) : Prop where
  val : ∀ x ∈ xs, valV kvs (Sum.inr x) = some (.int (s x : Nat))
def smallR (ρ : Str → Nat × Nat) (seats : List Str) : Prop := ∀ x ∈ seats, (ρ x).1 < (ρ x).2 ∧ (ρ x).2 ≤ 2 ^ 600
theorem smallR.wf {ρ : Str → Nat × Nat} {seats : List Str} (h : smallR ρ seats) : G.WF ρ seats := fun x hx => (h x hx).1
def spSlipsFor (K : PySem.W.Frag) (CK : Addr) : Sp := fun vs H Q _ => ∃ (kn a g : Addr) (b : Str) (xs seats : List Str) (ρ : Str → Nat × Nat) (t : List Str), vs = [.ref kn, .ref a, .ref g] ∧ KnownAt K CK H kn xs ρ ∧ SqL K H a (seats.map V.str) ∧ SeatsOk seats xs ∧ SqT K H g ((b :: t).map V.str) ∧ b ∈ seats ∧ smallR ρ seats ∧ t ∈ G.tails ρ seats (seats.length - 1) [b] b ∧
  ∀ (D : Addr) (kvs : List (Key × V)) (ρ' : Str → Nat × Nat) (H' : Hp), Same H H' → H D = none → G.narrow ρ (G.places seats [b] b t) = some ρ' → H' D = some (.dK kvs) → SlipsD kvs seats (fun x => (ρ' x).1) → Q (.ref D) H'
theorem sc_slips_for : FnScope ["known", "seats", "order", "name", "rest"] ["known", "seats", "order"] (defScope s_slips_for) := ⟨rfl, rfl, rfl, by decide +kernel, rfl, by decide +kernel, by decide +kernel⟩
theorem ok_slips_for (D : DefAt K mg "slips_for" s_slips_for) (T : Txt K mg CK CW)  (c_narrowed : C8.Cal P w K mg base 5 "narrowed" (spNarrowed K) []) (c_Known_rests : C8.Met P w K mg base 1 CK "rests" (spRests K CK) []) (c_places_of : C8.Cal P w K mg base 1 "places_of" (spPlacesOf K) []) (c_least_rests : C8.Cal P w K mg base 4 "least_rests" (spLeast K) []) (c_need_may : C8.Cal P w K mg base 7 "need_may" (spNeedMay K CK CW) []) : C8.Cal P w K mg base 8 "slips_for" (spSlipsFor K CK) [] := by
  refine cal_of D sc_slips_for (ps := ["known", "seats", "order"]) (fun _ _ _ _ _ _ us hl => match us, hl with | [_, _, _], _ => rfl) (fun vs H Q E h => ?_) fun f cdv A outer s H vs Q E hr h => ?_
  · obtain ⟨kn, a, g, b, xs, seats, ρ, t, rfl, hK, ha, so, hg, hb, hρ, ht, q⟩ := h
    rfl
  · obtain ⟨kn, a, g, b, xs, seats, ρ, t, rfl, hK, ha, so, hg, hb, hρ, ht, q⟩ := h
    refine ⟨_, (pss_cons (ps_expr (C8.pe_c c_need_may hr (by omega) rfl (pa_cons (pv 0) (pa_cons (pv 1) (pa_cons (pv 2) pa_nil)))))
    (pss_one (ps_ret (pe_dc (own := [("name", 3), ("rest", 4)]) rfl sc_slips_for.nd (pi_items (pe_lockR (C8.pe_c c_narrowed hr (by omega) rfl (pa_cons (C8.pe_mt0 c_Known_rests hr (by omega) (pv 0)) (pa_cons (C8.pe_c c_places_of hr (by omega) rfl (pa_cons (pv 1) (pa_cons (pv 2) pa_nil))) pa_nil))))) (blkOk_by (own := [("name", 3), ("rest", 4)]) (N := ["known", "seats", "order", "name", "rest"]) (sc := defScope s_slips_for) (by decide +kernel)) (fun _ _ _ _ _ => k_gtup K 2 (pgs_cons (pg_name (i := 3) sc_slips_for.nd rfl (Or.inl rfl)) (pgs_cons (pg_name (i := 4) sc_slips_for.nd rfl (Or.inl rfl)) pgs_nil))) (fun _ _ _ _ _ => pts_nil) (fun _ _ _ _ _ => (pv 3)) (fun _ _ _ _ _ => (C8.pe_c c_least_rests hr (by omega) rfl (pa_cons (pv 4) pa_nil))))))), ?_⟩
    -- slots: known 0, seats 1, order 2, name 3, rest 4
    have o2 := so.most
    have o1 := so.few
    have hsl := so.len
    have hl : seats.length ≤ 12 := by omega
    have hk1 : seats.length - 1 + 1 = seats.length := by omega
    have hwf := hρ.wf
    have hP := G.path_tails so.nd hb hk1 ht
    have htl := G.tails_length ht
    have hA0 := G.At.first so.nd hb hk1
    obtain ⟨tn, tm⟩ := G.tails_mem hA0 ht
    refine ⟨_, rfl, _, rfl, _, rfl, kn, a, g, xs, seats, b :: t, ρ, rfl, hK, ha, so, hg, hP, by rw [List.length_cons, htl]; omega, hwf, fun p m H2 s2 m0 hW => ?_⟩
    obtain ⟨kdx, kt, kd, ks, kkv, hkp, hkr⟩ := hK.same s2
    refine ⟨_, rfl, kn, kdx, _, rfl, hkp, kf_none _ _ _ (by decide +kernel) (by decide +kernel) (by decide +kernel), kn, xs, ρ, rfl, hK.same s2, fun d H3 kvs s3 _ hd hR => ?_⟩
    have s23 := s2.trans s3
    have hmem : ∀ x ∈ b :: t, x ∈ seats := fun x hx => hP.mem hx
    refine ⟨_, rfl, _, rfl, a, g, seats, b, t, rfl, s23.seq ha, same_tup s23 hg, so.nd, hl, hP.nodup, hmem, fun L us H4 s4 _ hL hU => ?_⟩
    have hpw := G.places_wf hA0 htl tn tm
    refine ⟨d, L, kvs, us, xs, ρ, G.places seats [b] b t, rfl, s4 _ _ hd, hR.same s4, o2, SqL.of hL, hU, by rw [G.places_length]; omega, fun x hx => hρ x ((so.mem x).mpr hx), fun c hc => ⟨(so.mem _).mp (hpw c hc).1, (hpw c hc).2.1, Nat.le_trans (hpw c hc).2.2 (Nat.le_trans hl (by decide))⟩, fun H5 s5 hno => ?_, fun D kvs' ρ' H5 s5 hD0 hN hD hR' => ?_⟩
    · obtain ⟨s', f1, f2⟩ := (G.mem_tails hwf hA0).mp ht
      exact absurd ⟨s', f1, (G.go_iff hA0 htl tn tm).mp f2⟩ (G.narrow_not hwf (fun c hc => ⟨(hpw c hc).1, (hpw c hc).2.1⟩) hno)
    · have s45 := (s23.trans s4).trans s5
      refine ⟨D, _, rfl, hD, trivial, fun od => ?_⟩
      have hDH : H D = none := (s23.trans s4).free hD0
      have sF : Same H (upd H5 D (.frz od (.dK kvs'))) := same_mut s45 hDH
      have kF : Tk H5 (upd H5 D (.frz od (.dK kvs'))) := Tk.dK hD
      have hDF : upd H5 D (.frz od (.dK kvs')) D = some (.frz od (.dK kvs')) := upd_same
      have hRF := hR'.tk kF
      have hw' := G.narrow_wf (line := seats) hwf hN
      generalize upd H5 D (.frz od (.dK kvs')) = H6 at *
      refine ⟨D, od, kvs', rfl, hDF, fun M hM => ?_⟩
      refine dc_it walk_items (fun i H' => Same H6 H' ∧ ∃ kvm, H' M = some (.dK kvm) ∧ kvm.length ≤ i ∧ ∀ j x, j < i → xs[j]? = some x → valV kvm (Sum.inr x) = some (.int ((ρ' x).1 : Nat))) ⟨same_upd hM, [], upd_same, Nat.le_refl _, fun j x hj => absurd hj (Nat.not_lt_zero _)⟩ (fun i H' _ pv => pv.1 _ _ hDF) (fun i z H' H'' hi pv y => ?_) fun H' pv => ?_
      · obtain ⟨s7, kvm, hMM, hml, hmv⟩ := pv
        obtain ⟨T2, v1, v2, rfl, hT2, rfl, hv1, hv2⟩ := y
        have hi' : i < kvs'.length := hi
        have hkv := List.getElem?_eq_getElem hi'
        obtain ⟨x, hx, ek, hra⟩ := hRF.at_ so.ndx hkv
        have hv1 : kvs'[i]?.map (fun kv => kV kv.1) = some v1 := hv1
        have hv2 : kvs'[i]?.map Prod.snd = some v2 := hv2
        rw [hkv] at hv1 hv2
        obtain rfl : v1 = .str x := by
          have h7 : kV kvs'[i].1 = v1 := Option.some.inj hv1
          rw [← h7, ek]
          rfl
        obtain rfl := Option.some.inj hv2
        have hxs : x ∈ seats := (so.mem x).mpr (List.mem_of_getElem? hx)
        have e8 : Same H' (upd H' T2 (.tup [.str x, kvs'[i].2])) := same_upd hT2
        have hTT : upd H' T2 (.tup [.str x, kvs'[i].2]) T2 = some (.tup [.str x, kvs'[i].2]) := upd_same
        generalize upd H' T2 (.tup [.str x, kvs'[i].2]) = H8 at *
        refine ⟨T2, _, rfl, SqT.of hTT, rfl, _, _, rfl, _, _, rfl, rfl, rfl, yes_in ?_⟩
        refine ⟨_, rfl, _, rfl, kvs'[i].2, ρ' x, rfl, (hra.same s7).same e8, hw' x hxs, fun H9 e9 => ?_⟩
        have hM9 := e9 _ _ (e8 _ _ hMM)
        have hlen := hRF.len
        refine ⟨kvm, Sum.inr x, rfl, hM9, sz_lt (by omega), same_mut ((s7.trans e8).trans e9) hM, _, upd_same, Nat.le_trans (length_putK _ _ _) (by omega), fun j y hj hy => ?_⟩
        rw [valV_put]
        by_cases c : j = i
        · subst c
          rw [hx] at hy
          obtain rfl := Option.some.inj hy
          rw [if_pos rfl]
        · have hne : y ≠ x := fun e => by
            subst e
            obtain ⟨h1, h2⟩ := List.getElem?_eq_some_iff.mp hx
            obtain ⟨h3, h4⟩ := List.getElem?_eq_some_iff.mp hy
            exact c ((List.getElem_inj so.ndx).mp (h4.trans h2.symm))
          rw [if_neg fun e => hne (Sum.inr.inj e)]
          exact hmv j y (by omega) hy
      · obtain ⟨s7, kvm, hMM, hml, hmv⟩ := pv
        refine q M kvm ρ' H' (sF.trans s7) (sF.free hM) hN hMM ⟨fun x hx => ?_⟩
        obtain ⟨j, hj, e⟩ := List.mem_iff_getElem.mp ((so.mem x).mp hx)
        refine hmv j x ?_ (by rw [List.getElem?_eq_getElem hj, e])
        rw [hRF.len]
        exact hj
end
end GK
set_option Elab.async false
set_option linter.all false
set_option maxRecDepth 100000
set_option maxHeartbeats 4000000
namespace GK
open PySem PySem.Spec PyProof.Rows L2
section
variable {P : Program} {w : World} {K : PySem.W.Frag} {mg : Str → Option Value} {base : Heap} {CK CW : Addr}
def spNeedOrder (K : PySem.W.Frag) (CK : Addr) : Sp := fun vs H Q _ => ∃ (p g : Addr) (o xs : List Str) (ρ : Str → Nat × Nat), vs = [.ref p, .ref g] ∧ KnownAt K CK H p xs ρ ∧ SqT K H g (o.map V.str) ∧ SeatsOk o xs ∧ ∀ H', Same H H' → Q .non H'
theorem sc_need_order : FnScope ["known", "order", "names", "one"] ["known", "order"] (defScope s_need_order) := ⟨rfl, rfl, rfl, by decide +kernel, rfl, by decide +kernel, by decide +kernel⟩
theorem ok_need_order (D : DefAt K mg "need_order" s_need_order) (T : Txt K mg CK CW)  (c_Known_names : C8.Met P w K mg base 1 CK "names" (spNames K CK) []) : C8.Cal P w K mg base 2 "need_order" (spNeedOrder K CK) [] := by
  refine cal_of D sc_need_order (ps := ["known", "order"]) (fun _ _ _ _ _ _ us hl => match us, hl with | [_, _], _ => rfl) (fun vs H Q E h => ?_) fun f cdv A outer s H vs Q E hr h => ?_
  · obtain ⟨p, g, o, xs, ρ, rfl, hK, hg, so, q⟩ := h
    rfl
  · obtain ⟨p, g, o, xs, ρ, rfl, hK, hg, so, q⟩ := h
    refine ⟨_, (pss_cons (ps_set (i := 2) sc_need_order.nd rfl (Or.inr rfl) (C8.pe_mt0 c_Known_names hr (by omega) (pv 0)))
    (pss_cons (ps_if (PW.pt (pw_or (pt_not (pt_val (pe_callB call_isi (by rfl) T.b_isinstance (by decide +kernel) (pa_cons (pv 1) (pa_cons (pe_b "tuple" (by rfl) T.b_tuple (by decide +kernel)) pa_nil))))) (pw_or1 (pt_cmpR op_ne (pe_callB call_len_seq (by rfl) T.b_len (by decide +kernel) (pa_cons (pv 1) pa_nil)) (pe_callB call_len_seq (by rfl) T.b_len (by decide +kernel) (pa_cons (pv 2) pa_nil)) (nomark _))))) 
      (pss_one ps_never) pss_nil)
    (pss_one (ps_if (PW.pt (pw_or (pt_not (pt_val (pe_callB (cr_all rfl) (by rfl) T.b_all (by decide +kernel) (pa_cons (pe_lc (own := [("one", 3)]) rfl sc_need_order.nd (pi_tup (pv 1)) (blkOk_by (own := [("one", 3)]) (N := ["known", "order", "names", "one"]) (sc := defScope s_need_order) (by decide +kernel)) (fun _ _ _ _ _ => pg_name (i := 3) sc_need_order.nd rfl (Or.inl rfl)) (fun _ _ _ _ _ => pts_nil) (fun _ _ _ _ _ => (pe_and (pe_callB (k_isi K) (by rfl) T.b_isinstance (by decide +kernel) (pa_cons (pv 3) (pa_cons (pe_b "str" (by rfl) T.b_str (by decide +kernel)) pa_nil))) (pe_one (pe_cmpR (k_in K) (pv 3) (pv 2) (by rfl)))))) pa_nil)))) (pw_or1 (pt_cmpR op_ne (pe_callB cr_lenTx (by rfl) T.b_len (by decide +kernel) (pa_cons (pe_callTy (cr_setTx rfl) (by rfl) T.b_set (by decide +kernel) (pa_cons (pv 1) pa_nil)) pa_nil)) (pe_callB call_len_seq (by rfl) T.b_len (by decide +kernel) (pa_cons (pv 2) pa_nil)) (nomark _))))) 
      (pss_one ps_never) pss_nil)))), ?_⟩
    -- slots: known 0, order 1, names 2, one 3
    have o2 := so.most
    have hl : (o.map V.str).length = xs.length := by rw [List.length_map, so.len]
    have hl2 : (xs.map V.str).length = xs.length := List.length_map ..
    obtain ⟨dx, t, d, s0, kvs, hp, ht, hd, hR⟩ := id hK
    refine ⟨_, rfl, p, dx, _, rfl, hp, kf_none _ _ _ (by decide +kernel) (by decide +kernel) (by decide +kernel), p, xs, ρ, rfl, hK, fun n H1 s1 hn1 hn => ?_⟩
    refine ⟨_, rfl, _, _, _, .type "tuple", true, rfl, .ty _, tyx_tup (same_tup s1 hg), rfl, true, rfl, ?_⟩
    refine iteF ?_
    refine ⟨_, rfl, g, _, rfl, .inr (same_tup s1 hg), _, rfl, n, _, rfl, .inl (SqL.of hn), rfl, _, rfl, ?_⟩
    rw [show decide (V.int (((o.map V.str).length : Nat) : Int) = V.int (((xs.map V.str).length : Nat) : Int)) = true from decide_eq_true (by rw [hl, hl2])]
    refine iteF ?_
    refine ⟨_, rfl, g, rfl, ⟨_, same_tup s1 hg⟩, fun L hL => ?_⟩
    refine lc_it walk_tup (Told _ L fun i => List.replicate i (V.bl true)) (Told.start hL rfl) (fun i H' _ pv => same_tup pv.same (same_tup s1 hg)) (fun i z H' H'' hi pv y => ?_) fun H' pv => ?_
    · obtain ⟨rfl, hz⟩ := y
      obtain ⟨x, hx, rfl⟩ := str_at hz
      rw [hl] at hi
      refine ⟨rfl, yes_in ?_⟩
      refine ⟨_, rfl, _, _, _, _, true, rfl, .ty _, .base (.str x), kit_ty (by decide +kernel), true, rfl, ?_⟩
      refine iteT ⟨_, rfl, _, rfl, n, _, rfl, .inl (SqL.of (pv.same _ _ hn)), rfl, flat_strs xs, ?_⟩
      rw [inV_strs, decide_eq_true ((so.mem x).mp (List.mem_of_getElem? hx))]
      exact pv.put hL (Same.refl _) (rep_succ _ _) (by simp; omega)
    · refine ⟨L, List.replicate (o.map V.str).length true, rfl, SqL.of (by rw [← map_rep]; exact pv.at_), _, rfl, ?_⟩
      rw [all_rep]
      refine iteF ?_
      have s3 := s1.trans pv.same
      refine ⟨_, rfl, g, o, rfl, .inr (same_tup s3 hg), by rw [so.len]; omega, fun u hu2 => ?_⟩
      refine ⟨u, o, rfl, upd_same, fun ys hnd hm => ?_⟩
      have s4 := s3.trans (same_upd (o := TxO w u o) hu2)
      refine ⟨_, rfl, n, _, rfl, .inl (SqL.of (same_upd hu2 _ _ (pv.same _ _ hn))), rfl, _, rfl, ?_⟩
      have e : ys.length = o.length := ((List.perm_ext_iff_of_nodup hnd so.nd).mpr hm).length_eq
      rw [show decide (V.int ((ys.length : Nat) : Int) = V.int (((xs.map V.str).length : Nat) : Int)) = true from decide_eq_true (by rw [e, so.len, hl2])]
      refine iteF ?_
      exact q _ s4
def spBeginOf (K : PySem.W.Frag) : Sp := fun vs H Q _ => ∃ (a : Addr) (last x : Str) (seats : List Str), vs = [.ref a, .str last, .str x] ∧ SqL K H a (seats.map V.str) ∧ seats.Nodup ∧ seats.length ≤ 12 ∧ last ∈ seats ∧ x ∈ seats ∧
  ∀ (v : V) (H' : Hp), Same H H' → RestAt K H' v ((G.round seats last).idxOf x, seats.length) → Q v H'
theorem sc_begin_of : FnScope ["seats", "last", "begin", "at", "turned"] ["seats", "last", "begin"] (defScope s_begin_of) := ⟨rfl, rfl, rfl, by decide +kernel, rfl, by decide +kernel, by decide +kernel⟩
theorem ok_begin_of (D : DefAt K mg "begin_of" s_begin_of) (T : Txt K mg CK CW)   : C8.Cal P w K mg base 1 "begin_of" (spBeginOf K) [] := by
  refine cal_of D sc_begin_of (ps := ["seats", "last", "begin"]) (fun _ _ _ _ _ _ us hl => match us, hl with | [_, _, _], _ => rfl) (fun vs H Q E h => ?_) fun f cdv A outer s H vs Q E hr h => ?_
  · obtain ⟨a, last, x, seats, rfl, ha, hsn, hl, hla, hx, q⟩ := h
    rfl
  · obtain ⟨a, last, x, seats, rfl, ha, hsn, hl, hla, hx, q⟩ := h
    refine ⟨_, (pss_cons (ps_set (i := 3) sc_begin_of.nd rfl (Or.inl rfl) (pe_bm PySem.F.plainAttrs_list PySem.F.slot_list_index PySem.F.type_list_index mt_index (pe_callTy call_list_of (by rfl) T.b_list (by decide +kernel) (pa_cons (pv 0) pa_nil)) (pa_cons (pv 1) pa_nil)))
    (pss_cons (ps_set (i := 4) sc_begin_of.nd rfl (Or.inl rfl) (pe_op op_cat (pe_callTy call_list_of (by rfl) T.b_list (by decide +kernel) (pa_cons (pe_slice sl_list (pv 0) (po_some (pe_op op_add (pv 3) pe_int)) po_none) pa_nil)) (pe_callTy call_list_of (by rfl) T.b_list (by decide +kernel) (pa_cons (pe_slice sl_list (pv 0) po_none (po_some (pe_op op_add (pv 3) pe_int))) pa_nil))))
    (pss_one (ps_ret (pe_tup (pa_cons (pe_bm PySem.F.plainAttrs_list PySem.F.slot_list_index PySem.F.type_list_index mt_index (pv 4) (pa_cons (pv 2) pa_nil)) (pa_cons (pe_callB call_len_seq (by rfl) T.b_len (by decide +kernel) (pa_cons (pv 4) pa_nil)) pa_nil))))))), ?_⟩
    -- slots: seats 0, last 1, begin 2, at 3, turned 4
    have hsl : (seats.map V.str).length = seats.length := List.length_map ..
    refine ⟨_, rfl, a, _, rfl, .inl ha, fun l1 hl1 => ⟨.inl ⟨rfl, _, SqL.of upd_same⟩, _, rfl, ?_⟩⟩
    refine no_args ?_
    refine index_ok (SqL.of upd_same) hla ?_
    have e7 : Same H (upd H l1 (.lst (seats.map V.str))) := same_upd hl1
    generalize upd H l1 (.lst (seats.map V.str)) = H7 at *
    refine ⟨_, rfl, _, rfl, _, _, rfl, rfl, _, rfl, ?_⟩
    refine no_part ?_
    refine sll_from (k := seats.idxOf last + 1) (e7.seq ha) fun l2 H8 e8 _ hl2 => ?_
    refine ⟨l2, _, rfl, .inl (SqL.of hl2), fun l3 hl3 => ?_⟩
    have e9 : Same H8 (upd H8 l3 (.lst ((seats.map V.str).drop (seats.idxOf last + 1)))) := same_upd hl3
    have h3 : upd H8 l3 (.lst ((seats.map V.str).drop (seats.idxOf last + 1))) l3 = some (.lst ((seats.map V.str).drop (seats.idxOf last + 1))) := upd_same
    generalize upd H8 l3 (.lst ((seats.map V.str).drop (seats.idxOf last + 1))) = H9 at *
    have s9 := (e7.trans e8).trans e9
    refine ⟨_, rfl, ?_⟩
    refine no_part ?_
    refine ⟨_, rfl, _, _, rfl, rfl, _, rfl, ?_⟩
    refine sll_to (k := seats.idxOf last + 1) (s9.seq ha) fun l4 H10 e10 _ hl4 => ?_
    refine ⟨l4, _, rfl, .inl (SqL.of hl4), fun l5 hl5 => ?_⟩
    have e11 : Same H10 (upd H10 l5 (.lst ((seats.map V.str).take (seats.idxOf last + 1)))) := same_upd hl5
    have h5 : upd H10 l5 (.lst ((seats.map V.str).take (seats.idxOf last + 1))) l5 = some (.lst ((seats.map V.str).take (seats.idxOf last + 1))) := upd_same
    generalize upd H10 l5 (.lst ((seats.map V.str).take (seats.idxOf last + 1))) = H11 at *
    refine ⟨l3, l5, _, _, rfl, rfl, e11 _ _ (e10 _ _ h3), h5, sz_le (by rw [List.length_drop, List.length_take]; omega), fun l6 hl6 => ?_⟩
    have etu : (seats.map V.str).drop (seats.idxOf last + 1) ++ (seats.map V.str).take (seats.idxOf last + 1) = (G.round seats last).map V.str := by
      rw [G.round_eq hla, List.map_append, List.map_drop, List.map_take]
    rw [etu]
    have e12 : Same H11 (upd H11 l6 (.lst ((G.round seats last).map V.str))) := same_upd hl6
    have h6 : upd H11 l6 (.lst ((G.round seats last).map V.str)) l6 = some (.lst ((G.round seats last).map V.str)) := upd_same
    generalize upd H11 l6 (.lst ((G.round seats last).map V.str)) = H12 at *
    have s12 := ((s9.trans e10).trans e11).trans e12
    have hrl := G.round_len hla
    refine ⟨_, rfl, .inl ⟨rfl, _, SqL.of h6⟩, _, rfl, ?_⟩
    refine no_args ?_
    refine index_ok (SqL.of h6) ((G.round_mem hla).mpr hx) ?_
    refine ⟨_, rfl, l6, _, rfl, .inl (SqL.of h6), ?_⟩
    rw [List.length_map, hrl]
    refine ⟨by show 2 ≤ sizeLine; decide, fun t1 ht1 => ?_⟩
    exact q _ _ (s12.trans (same_upd ht1)) ⟨t1, rfl, SqT.of upd_same⟩
end
end GK
set_option Elab.async false
set_option linter.all false
set_option maxRecDepth 100000
set_option maxHeartbeats 4000000
namespace GK
open PySem PySem.Spec PyProof.Rows L2
section
variable {P : Program} {w : World} {K : PySem.W.Frag} {mg : Str → Option Value} {base : Heap} {CK CW : Addr}
/-- what two rounds in a row tell -/
def told2 (seats : List Str) (b : Str) (t : List Str) (b2 : Str) (t2 : List Str) : List (Str × (Nat × Nat)) :=
  G.places seats [b] b t ++ [(((b :: t).getLast (by simp)), ((G.round seats ((b :: t).getLast (by simp))).idxOf b2, seats.length))] ++ G.places seats [b2] b2 t2
/-- two orders of all the seats -/
structure TwoOk (seats : List Str) (b : Str) (t : List Str) (b2 : Str) (t2 : List Str) : Prop where
  n1 : (b :: t).Nodup
  m1 : ∀ x, x ∈ b :: t ↔ x ∈ seats
  n2 : (b2 :: t2).Nodup
  m2 : ∀ x, x ∈ b2 :: t2 ↔ x ∈ seats
section
variable {seats : List Str} {b b2 : Str} {t t2 : List Str}
theorem TwoOk.l1 (h : TwoOk seats b t b2 t2) (hn : seats.Nodup) : t.length + 1 = seats.length := ((List.perm_ext_iff_of_nodup h.n1 hn).mpr h.m1).length_eq
theorem TwoOk.l2 (h : TwoOk seats b t b2 t2) (hn : seats.Nodup) : t2.length + 1 = seats.length := ((List.perm_ext_iff_of_nodup h.n2 hn).mpr h.m2).length_eq
theorem told2_wf (h : TwoOk seats b t b2 t2) (hn : seats.Nodup) : ∀ c ∈ told2 seats b t b2 t2, c.1 ∈ seats ∧ c.2.1 < c.2.2 ∧ c.2.2 ≤ seats.length := by
  have l1 := h.l1 hn
  have l2 := h.l2 hn
  have a1 := G.At.first hn ((h.m1 b).mp (by simp)) l1
  have a2 := G.At.first hn ((h.m2 b2).mp (by simp)) l2
  have hb : ∀ {b : Str} {t : List Str}, (b :: t).Nodup → ∀ y ∈ t, y ∉ [b] := fun hn y hy q => by
    rw [List.mem_singleton.mp q] at hy
    exact (List.nodup_cons.mp hn).1 hy
  have hla : (b :: t).getLast (by simp) ∈ seats := (h.m1 _).mp (List.getLast_mem _)
  intro c hc
  unfold told2 at hc
  rcases List.mem_append.mp hc with hc | hc
  · rcases List.mem_append.mp hc with hc | hc
    · exact G.places_wf a1 rfl (List.nodup_cons.mp h.n1).2 (fun y hy => ⟨(h.m1 y).mp (List.mem_cons_of_mem _ hy), hb h.n1 y hy⟩) c hc
    · rw [List.mem_singleton.mp hc]
      refine ⟨hla, ?_, Nat.le_refl _⟩
      show (G.round seats _).idxOf b2 < seats.length
      rw [← G.round_len hla]
      exact List.idxOf_lt_length_iff.mpr ((G.round_mem hla).mpr ((h.m2 b2).mp (by simp)))
  · exact G.places_wf a2 rfl (List.nodup_cons.mp h.n2).2 (fun y hy => ⟨(h.m2 y).mp (List.mem_cons_of_mem _ hy), hb h.n2 y hy⟩) c hc
end
def spRestsTwo (K : PySem.W.Frag) (CK : Addr) : Sp := fun vs H Q _ => ∃ (kn a g g2 : Addr) (b b2 : Str) (t t2 xs seats : List Str) (ρ : Str → Nat × Nat), vs = [.ref kn, .ref a, .ref g, .ref g2] ∧ KnownAt K CK H kn xs ρ ∧ SqL K H a (seats.map V.str) ∧ SeatsOk seats xs ∧ SqT K H g ((b :: t).map V.str) ∧ SqT K H g2 ((b2 :: t2).map V.str) ∧ TwoOk seats b t b2 t2 ∧ smallR ρ seats ∧
  (∀ (H' : Hp), Same H H' → G.narrow ρ (told2 seats b t b2 t2) = none → Q .non H') ∧
  ∀ (D : Addr) (kvs : List (Key × V)) (ρ' : Str → Nat × Nat) (H' : Hp), Same H H' → H D = none → G.narrow ρ (told2 seats b t b2 t2) = some ρ' → H' D = some (.dK kvs) → RestsD K H' kvs xs ρ' → Q (.ref D) H'
theorem sc_rests_for_two : FnScope ["known", "seats", "one", "other", "told"] ["known", "seats", "one", "other"] (defScope s_rests_for_two) := ⟨rfl, rfl, rfl, by decide +kernel, rfl, by decide +kernel, by decide +kernel⟩
theorem ok_rests_for_two (D : DefAt K mg "rests_for_two" s_rests_for_two) (T : Txt K mg CK CW)  (c_narrowed : C8.Cal P w K mg base 5 "narrowed" (spNarrowed K) []) (c_Known_rests : C8.Met P w K mg base 1 CK "rests" (spRests K CK) []) (c_places_of : C8.Cal P w K mg base 1 "places_of" (spPlacesOf K) []) (c_begin_of : C8.Cal P w K mg base 1 "begin_of" (spBeginOf K) []) (c_need_order : C8.Cal P w K mg base 2 "need_order" (spNeedOrder K CK) []) (c_need_seats : C8.Cal P w K mg base 3 "need_seats" (spNeedSeats K CK) []) : C8.Cal P w K mg base 6 "rests_for_two" (spRestsTwo K CK) [] := by
  refine cal_of D sc_rests_for_two (ps := ["known", "seats", "one", "other"]) (fun _ _ _ _ _ _ us hl => match us, hl with | [_, _, _, _], _ => rfl) (fun vs H Q E h => ?_) fun f cdv A outer s H vs Q E hr h => ?_
  · obtain ⟨kn, a, g, g2, b, b2, t, t2, xs, seats, ρ, rfl, hK, ha, so, hg, hg2, tw, hρ, qn, qs⟩ := h
    rfl
  · obtain ⟨kn, a, g, g2, b, b2, t, t2, xs, seats, ρ, rfl, hK, ha, so, hg, hg2, tw, hρ, qn, qs⟩ := h
    refine ⟨_, (pss_cons (ps_expr (C8.pe_c c_need_seats hr (by omega) rfl (pa_cons (pv 0) (pa_cons (pv 1) pa_nil))))
    (pss_cons (ps_expr (C8.pe_c c_need_order hr (by omega) rfl (pa_cons (pv 0) (pa_cons (pv 2) pa_nil))))
    (pss_cons (ps_expr (C8.pe_c c_need_order hr (by omega) rfl (pa_cons (pv 0) (pa_cons (pv 3) pa_nil))))
    (pss_cons (ps_set (i := 4) sc_rests_for_two.nd rfl (Or.inl rfl) (pe_op op_cat (pe_op op_cat (C8.pe_c c_places_of hr (by omega) rfl (pa_cons (pv 1) (pa_cons (pv 2) pa_nil))) (pe_lst (pa_cons (pe_tup (pa_cons (pe_ix ix_tup (pv 2) (pe_un un_neg pe_int) (fun _ _ => rfl)) (pa_cons (C8.pe_c c_begin_of hr (by omega) rfl (pa_cons (pv 1) (pa_cons (pe_ix ix_tup (pv 2) (pe_un un_neg pe_int) (fun _ _ => rfl)) (pa_cons (pe_ix ix_tup (pv 3) pe_int (fun _ _ => rfl)) pa_nil)))) pa_nil))) pa_nil))) (C8.pe_c c_places_of hr (by omega) rfl (pa_cons (pv 1) (pa_cons (pv 3) pa_nil)))))
    (pss_one (ps_ret (C8.pe_c c_narrowed hr (by omega) rfl (pa_cons (C8.pe_mt0 c_Known_rests hr (by omega) (pv 0)) (pa_cons (pv 4) pa_nil))))))))), ?_⟩
    -- slots: known 0, seats 1, one 2, other 3, told 4
    have o2 := so.most
    have o1 := so.few
    have hsl := so.len
    have hl : seats.length ≤ 12 := by omega
    have l1 := tw.l1 so.nd
    have l2 := tw.l2 so.nd
    have hla : (b :: t).getLast (by simp) ∈ seats := (tw.m1 _).mp (List.getLast_mem _)
    have so1 : SeatsOk (b :: t) xs := ⟨tw.n1, fun x => (tw.m1 x).trans (so.mem x), o1, o2, so.ndx⟩
    have so2 : SeatsOk (b2 :: t2) xs := ⟨tw.n2, fun x => (tw.m2 x).trans (so.mem x), o1, o2, so.ndx⟩
    have hcl : ((b :: t).map V.str) = ((b :: t).dropLast.map V.str) ++ [.str ((b :: t).getLast (by simp))] := by
      conv => lhs; rw [← List.dropLast_concat_getLast (l := b :: t) (by simp)]
      rw [List.map_append]
      rfl
    have hat : atI ((b :: t).map V.str) (-1) = some (.str ((b :: t).getLast (by simp))) := by
      rw [hcl]
      exact atI_last _ _
    refine ⟨_, rfl, _, rfl, kn, a, seats, xs, ρ, rfl, hK, ha, so, fun H1 s1 => ?_⟩
    refine ⟨_, rfl, _, rfl, kn, g, b :: t, xs, ρ, rfl, hK.same s1, same_tup s1 hg, so1, fun H2 e2 => ?_⟩
    have s2 := s1.trans e2
    refine ⟨_, rfl, _, rfl, kn, g2, b2 :: t2, xs, ρ, rfl, hK.same s2, same_tup s2 hg2, so2, fun H3 e3 => ?_⟩
    have s3 := s2.trans e3
    refine ⟨_, rfl, _, rfl, a, g, seats, b, t, rfl, s3.seq ha, same_tup s3 hg, so.nd, hl, tw.n1, fun x hx => (tw.m1 x).mp hx, fun L us H4 e4 hL0 hL hU => ?_⟩
    have s4 := s3.trans e4
    refine ⟨_, rfl, _, rfl, g, _, -1, _, rfl, rfl, same_tup s4 hg, hat, _, rfl, _, rfl, _, rfl, g, _, -1, _, rfl, rfl, same_tup s4 hg, hat, _, rfl, g2, _, 0, .str b2, rfl, rfl, same_tup s4 hg2, atI_nat (j := 0) rfl, ?_⟩
    refine ⟨a, _, b2, seats, rfl, s4.seq ha, so.nd, hl, hla, (tw.m2 b2).mp (by simp), fun v H5 e5 hv => ?_⟩
    refine ⟨by show 2 ≤ sizeLine; decide, fun t1 ht1 => ?_⟩
    have e6 : Same H5 (upd H5 t1 (.tup [.str ((b :: t).getLast (by simp)), v])) := same_upd ht1
    have h6 : upd H5 t1 (.tup [.str ((b :: t).getLast (by simp)), v]) t1 = some (.tup [.str ((b :: t).getLast (by simp)), v]) := upd_same
    generalize upd H5 t1 (.tup [.str ((b :: t).getLast (by simp)), v]) = H6 at *
    refine ⟨by show 1 ≤ sizeLine; decide, fun L1 hL1 => ?_⟩
    have e7 : Same H6 (upd H6 L1 (.lst [.ref t1])) := same_upd hL1
    have h7 : upd H6 L1 (.lst [.ref t1]) L1 = some (.lst [.ref t1]) := upd_same
    generalize upd H6 L1 (.lst [.ref t1]) = H7 at *
    have e47 := (e5.trans e6).trans e7
    have hul : us.length = t.length := by rw [hU.len, G.places_length]
    refine ⟨L, L1, _, _, rfl, rfl, e47 _ _ hL, h7, sz_le (by rw [List.length_cons, List.length_nil]; omega), fun L2 hL2 => ?_⟩
    have e8 : Same H7 (upd H7 L2 (.lst (us ++ [.ref t1]))) := same_upd hL2
    have h8 : upd H7 L2 (.lst (us ++ [.ref t1])) L2 = some (.lst (us ++ [.ref t1])) := upd_same
    generalize upd H7 L2 (.lst (us ++ [.ref t1])) = H8 at *
    have s8 := (s4.trans e47).trans e8
    refine ⟨_, rfl, _, rfl, a, g2, seats, b2, t2, rfl, s8.seq ha, same_tup s8 hg2, so.nd, hl, tw.n2, fun x hx => (tw.m2 x).mp hx, fun L3 us3 H9 e9 hL30 hL3 hU3 => ?_⟩
    have hul3 : us3.length = t2.length := by rw [hU3.len, G.places_length]
    refine ⟨L2, L3, _, _, rfl, rfl, e9 _ _ h8, hL3, sz_le (by rw [List.length_append, List.length_cons, List.length_nil]; omega), fun L4 hL4 => ?_⟩
    have e10 : Same H9 (upd H9 L4 (.lst (us ++ [.ref t1] ++ us3))) := same_upd hL4
    have h10 : upd H9 L4 (.lst (us ++ [.ref t1] ++ us3)) L4 = some (.lst (us ++ [.ref t1] ++ us3)) := upd_same
    generalize upd H9 L4 (.lst (us ++ [.ref t1] ++ us3)) = H10 at *
    have s10 := (s8.trans e9).trans e10
    obtain ⟨kdx, kt, kd, ks, kkv, hkp, hkr⟩ := hK.same s10
    refine ⟨_, rfl, kn, kdx, _, rfl, hkp, kf_none _ _ _ (by decide +kernel) (by decide +kernel) (by decide +kernel), kn, xs, ρ, rfl, hK.same s10, fun d H11 kvs e11 _ hd hR => ?_⟩
    have s11 := s10.trans e11
    have hwf := told2_wf tw so.nd
    have hT : ToldL K H11 (us ++ [.ref t1] ++ us3) (told2 seats b t b2 t2) := by
      refine ToldL.append (ToldL.append (hU.tk (Tk.of ((((e47.trans e8).trans e9).trans e10).trans e11))) (ToldL.one ⟨t1, v, rfl, SqT.of (e11 _ _ (e10 _ _ (e9 _ _ (e8 _ _ (e7 _ _ h6))))), ?_⟩)) (hU3.tk (Tk.of (e10.trans e11)))
      exact hv.same (((((e6.trans e7).trans e8).trans e9).trans e10).trans e11)
    refine ⟨_, rfl, d, L4, kvs, _, xs, ρ, told2 seats b t b2 t2, rfl, hd, hR, o2, SqL.of (e11 _ _ h10), hT, ?_, fun x hx => hρ x ((so.mem x).mpr hx), fun c hc => ⟨(so.mem _).mp (hwf c hc).1, (hwf c hc).2.1, Nat.le_trans (hwf c hc).2.2 (Nat.le_trans hl (by decide))⟩, fun H12 e12 hN => qn H12 (s11.trans e12) hN, fun D kvs' ρ' H12 e12 hD0 hN hD hR' => qs D kvs' ρ' H12 (s11.trans e12) (s11.free hD0) hN hD hR'⟩
    unfold told2
    rw [List.length_append, List.length_append, G.places_length, G.places_length, List.length_cons, List.length_nil]
    omega
def spTwoMay (K : PySem.W.Frag) (CK : Addr) : Sp := fun vs H Q _ => ∃ (kn a g g2 : Addr) (b b2 : Str) (t t2 xs seats : List Str) (ρ : Str → Nat × Nat), vs = [.ref kn, .ref a, .ref g, .ref g2] ∧ KnownAt K CK H kn xs ρ ∧ SqL K H a (seats.map V.str) ∧ SeatsOk seats xs ∧ SqT K H g ((b :: t).map V.str) ∧ SqT K H g2 ((b2 :: t2).map V.str) ∧ TwoOk seats b t b2 t2 ∧ smallR ρ seats ∧
  ∀ (H' : Hp), Same H H' → Q (.bl (G.narrow ρ (told2 seats b t b2 t2)).isSome) H'
theorem sc_two_may : FnScope ["known", "seats", "one", "other"] ["known", "seats", "one", "other"] (defScope s_two_may) := ⟨rfl, rfl, rfl, by decide +kernel, rfl, by decide +kernel, by decide +kernel⟩
theorem ok_two_may (D : DefAt K mg "two_may" s_two_may) (T : Txt K mg CK CW)  (c_rests_for_two : C8.Cal P w K mg base 6 "rests_for_two" (spRestsTwo K CK) []) : C8.Cal P w K mg base 7 "two_may" (spTwoMay K CK) [] := by
  refine cal_of D sc_two_may (ps := ["known", "seats", "one", "other"]) (fun _ _ _ _ _ _ us hl => match us, hl with | [_, _, _, _], _ => rfl) (fun vs H Q E h => ?_) fun f cdv A outer s H vs Q E hr h => ?_
  · obtain ⟨kn, a, g, g2, b, b2, t, t2, xs, seats, ρ, rfl, hK, ha, so, hg, hg2, tw, hρ, q⟩ := h
    rfl
  · obtain ⟨kn, a, g, g2, b, b2, t, t2, xs, seats, ρ, rfl, hK, ha, so, hg, hg2, tw, hρ, q⟩ := h
    refine ⟨_, (pss_one (ps_ret (pe_cmpR op_notN (C8.pe_c c_rests_for_two hr (by omega) rfl (pa_cons (pv 0) (pa_cons (pv 1) (pa_cons (pv 2) (pa_cons (pv 3) pa_nil))))) pe_non (nomark _)))), ?_⟩
    -- slots: known 0, seats 1, one 2, other 3
    refine ⟨_, rfl, _, rfl, _, rfl, _, rfl, kn, a, g, g2, b, b2, t, t2, xs, seats, ρ, rfl, hK, ha, so, hg, hg2, tw, hρ, fun H1 s1 hN => ?_, fun D kvs ρ' H1 s1 hD0 hN hD hR => ?_⟩
    · refine ⟨rfl, ?_⟩
      have := q H1 s1
      rw [hN] at this
      exact this
    · refine ⟨rfl, ?_⟩
      have := q H1 s1
      rw [hN] at this
      exact this
def spSlipsTwo (K : PySem.W.Frag) (CK : Addr) : Sp := fun vs H Q _ => ∃ (kn a g g2 : Addr) (b b2 : Str) (t t2 xs seats : List Str) (ρ ρ' : Str → Nat × Nat), vs = [.ref kn, .ref a, .ref g, .ref g2] ∧ KnownAt K CK H kn xs ρ ∧ SqL K H a (seats.map V.str) ∧ SeatsOk seats xs ∧ SqT K H g ((b :: t).map V.str) ∧ SqT K H g2 ((b2 :: t2).map V.str) ∧ TwoOk seats b t b2 t2 ∧ smallR ρ seats ∧ G.narrow ρ (told2 seats b t b2 t2) = some ρ' ∧
  ∀ (D : Addr) (kvs : List (Key × V)) (H' : Hp), Same H H' → H D = none → H' D = some (.dK kvs) → SlipsD kvs seats (fun x => (ρ' x).1) → Q (.ref D) H'
theorem sc_slips_for_two : FnScope ["known", "seats", "one", "other", "rests", "name", "rest"] ["known", "seats", "one", "other"] (defScope s_slips_for_two) := ⟨rfl, rfl, rfl, by decide +kernel, rfl, by decide +kernel, by decide +kernel⟩
theorem ok_slips_for_two (D : DefAt K mg "slips_for_two" s_slips_for_two) (T : Txt K mg CK CW)  (c_least_rests : C8.Cal P w K mg base 4 "least_rests" (spLeast K) []) (c_rests_for_two : C8.Cal P w K mg base 6 "rests_for_two" (spRestsTwo K CK) []) : C8.Cal P w K mg base 7 "slips_for_two" (spSlipsTwo K CK) [] := by
  refine cal_of D sc_slips_for_two (ps := ["known", "seats", "one", "other"]) (fun _ _ _ _ _ _ us hl => match us, hl with | [_, _, _, _], _ => rfl) (fun vs H Q E h => ?_) fun f cdv A outer s H vs Q E hr h => ?_
  · obtain ⟨kn, a, g, g2, b, b2, t, t2, xs, seats, ρ, ρ', rfl, hK, ha, so, hg, hg2, tw, hρ, hN0, q⟩ := h
    rfl
  · obtain ⟨kn, a, g, g2, b, b2, t, t2, xs, seats, ρ, ρ', rfl, hK, ha, so, hg, hg2, tw, hρ, hN0, q⟩ := h
    refine ⟨_, (pss_cons (ps_set (i := 4) sc_slips_for_two.nd rfl (Or.inl rfl) (C8.pe_c c_rests_for_two hr (by omega) rfl (pa_cons (pv 0) (pa_cons (pv 1) (pa_cons (pv 2) (pa_cons (pv 3) pa_nil))))))
    (pss_cons (ps_if (pt_cmpR op_isN (pv 4) pe_non (nomark _)) 
      (pss_one ps_never) pss_nil)
    (pss_one (ps_ret (pe_dc (own := [("name", 5), ("rest", 6)]) rfl sc_slips_for_two.nd (pi_items (pe_lockR (pv 4))) (blkOk_by (own := [("name", 5), ("rest", 6)]) (N := ["known", "seats", "one", "other", "rests", "name", "rest"]) (sc := defScope s_slips_for_two) (by decide +kernel)) (fun _ _ _ _ _ => k_gtup K 2 (pgs_cons (pg_name (i := 5) sc_slips_for_two.nd rfl (Or.inl rfl)) (pgs_cons (pg_name (i := 6) sc_slips_for_two.nd rfl (Or.inl rfl)) pgs_nil))) (fun _ _ _ _ _ => pts_nil) (fun _ _ _ _ _ => (pv 5)) (fun _ _ _ _ _ => (C8.pe_c c_least_rests hr (by omega) rfl (pa_cons (pv 6) pa_nil)))))))), ?_⟩
    -- slots: known 0, seats 1, one 2, other 3, rests 4, name 5, rest 6
    have hwf := hρ.wf
    refine ⟨_, rfl, _, rfl, _, rfl, _, rfl, kn, a, g, g2, b, b2, t, t2, xs, seats, ρ, rfl, hK, ha, so, hg, hg2, tw, hρ, fun H1 s1 hN => ?_, fun D kvs' ρ2 H5 s5 hD0 hN hD hR' => ?_⟩
    · rw [hN0] at hN
      cases hN
    · rw [hN0] at hN
      obtain rfl := Option.some.inj hN
      refine ⟨_, rfl, rfl, false, rfl, ?_⟩
      refine iteF ?_
      refine ⟨_, rfl, D, _, rfl, hD, trivial, fun od => ?_⟩
      have sF : Same H (upd H5 D (.frz od (.dK kvs'))) := same_mut s5 hD0
      have kF : Tk H5 (upd H5 D (.frz od (.dK kvs'))) := Tk.dK hD
      have hDF : upd H5 D (.frz od (.dK kvs')) D = some (.frz od (.dK kvs')) := upd_same
      have hRF := hR'.tk kF
      have hw' := G.narrow_wf (line := seats) hwf hN0
      generalize upd H5 D (.frz od (.dK kvs')) = H6 at *
      refine ⟨D, od, kvs', rfl, hDF, fun M hM => ?_⟩
      refine dc_it walk_items (fun i H' => Same H6 H' ∧ ∃ kvm, H' M = some (.dK kvm) ∧ kvm.length ≤ i ∧ ∀ j x, j < i → xs[j]? = some x → valV kvm (Sum.inr x) = some (.int ((ρ' x).1 : Nat))) ⟨same_upd hM, [], upd_same, Nat.le_refl _, fun j x hj => absurd hj (Nat.not_lt_zero _)⟩ (fun i H' _ pv => pv.1 _ _ hDF) (fun i z H' H'' hi pv y => ?_) fun H' pv => ?_
      · obtain ⟨s7, kvm, hMM, hml, hmv⟩ := pv
        obtain ⟨T2, v1, v2, rfl, hT2, rfl, hv1, hv2⟩ := y
        have hi' : i < kvs'.length := hi
        have hkv := List.getElem?_eq_getElem hi'
        obtain ⟨x, hx, ek, hra⟩ := hRF.at_ so.ndx hkv
        have hv1 : kvs'[i]?.map (fun kv => kV kv.1) = some v1 := hv1
        have hv2 : kvs'[i]?.map Prod.snd = some v2 := hv2
        rw [hkv] at hv1 hv2
        obtain rfl : v1 = .str x := by
          have h7 : kV kvs'[i].1 = v1 := Option.some.inj hv1
          rw [← h7, ek]
          rfl
        obtain rfl := Option.some.inj hv2
        have hxs : x ∈ seats := (so.mem x).mpr (List.mem_of_getElem? hx)
        have e8 : Same H' (upd H' T2 (.tup [.str x, kvs'[i].2])) := same_upd hT2
        have hTT : upd H' T2 (.tup [.str x, kvs'[i].2]) T2 = some (.tup [.str x, kvs'[i].2]) := upd_same
        generalize upd H' T2 (.tup [.str x, kvs'[i].2]) = H8 at *
        refine ⟨T2, _, rfl, SqT.of hTT, rfl, _, _, rfl, _, _, rfl, rfl, rfl, yes_in ?_⟩
        refine ⟨_, rfl, _, rfl, kvs'[i].2, ρ' x, rfl, (hra.same s7).same e8, hw' x hxs, fun H9 e9 => ?_⟩
        have hM9 := e9 _ _ (e8 _ _ hMM)
        have hlen := hRF.len
        have so2 := so.most
        refine ⟨kvm, Sum.inr x, rfl, hM9, sz_lt (by omega), same_mut ((s7.trans e8).trans e9) hM, _, upd_same, Nat.le_trans (length_putK _ _ _) (by omega), fun j y hj hy => ?_⟩
        rw [valV_put]
        by_cases c : j = i
        · subst c
          rw [hx] at hy
          obtain rfl := Option.some.inj hy
          rw [if_pos rfl]
        · have hne : y ≠ x := fun e => by
            subst e
            obtain ⟨h1, h2⟩ := List.getElem?_eq_some_iff.mp hx
            obtain ⟨h3, h4⟩ := List.getElem?_eq_some_iff.mp hy
            exact c ((List.getElem_inj so.ndx).mp (h4.trans h2.symm))
          rw [if_neg fun e => hne (Sum.inr.inj e)]
          exact hmv j y (by omega) hy
      · obtain ⟨s7, kvm, hMM, hml, hmv⟩ := pv
        refine q M kvm H' (sF.trans s7) (sF.free hM) hMM ⟨fun x hx => ?_⟩
        obtain ⟨j, hj, e⟩ := List.mem_iff_getElem.mp ((so.mem x).mp hx)
        refine hmv j x ?_ (by rw [List.getElem?_eq_getElem hj, e])
        rw [hRF.len]
        exact hj
end
end GK
set_option Elab.async false
set_option linter.all false
set_option maxRecDepth 100000
set_option maxHeartbeats 4000000
namespace GK
open PySem PySem.Spec PyProof.Rows L2
section
variable {P : Program} {w : World} {K : PySem.W.Frag} {mg : Str → Option Value} {base : Heap} {CK CW : Addr}
/-- rests small enough for one round more -/
def tinyR (ρ : Str → Nat × Nat) (seats : List Str) : Prop := ∀ x ∈ seats, (ρ x).1 < (ρ x).2 ∧ (ρ x).2 ≤ 2 ^ 100
theorem tinyR.small {ρ : Str → Nat × Nat} {seats : List Str} (h : tinyR ρ seats) : smallR ρ seats := fun x hx => ⟨(h x hx).1, Nat.le_trans (h x hx).2 (Nat.pow_le_pow_right (by decide) (by decide))⟩
def spManyBehind (K : PySem.W.Frag) (CK : Addr) : Sp := fun vs H Q _ => ∃ (kn a d : Addr) (last : Str) (xs seats : List Str) (ρ0 ρ : Str → Nat × Nat) (kvs : List (Key × V)), vs = [.ref kn, .ref a, .ref d, .str last] ∧ KnownAt K CK H kn xs ρ0 ∧ SqL K H a (seats.map V.str) ∧ H d = some (.dK kvs) ∧ RestsD K H kvs xs ρ ∧ SeatsOk seats xs ∧ NamesOk xs ∧ last ∈ seats ∧ smallR ρ seats ∧
  ∀ (H' : Hp), Same H H' → Q (.int (G.behind ρ seats last : Nat)) H'
theorem sc_many_behind : FnScope ["known", "seats", "rests", "last", "found", "turned", "place", "later", "ways", "at"] ["known", "seats", "rests", "last"] (defScope s_many_behind) := ⟨rfl, rfl, rfl, by decide +kernel, rfl, by decide +kernel, by decide +kernel⟩
theorem ok_many_behind (D : DefAt K mg "many_behind" s_many_behind) (T : Txt K mg CK CW)  (c_by : C8.Cal P w K mg base 4 "by" (spBy K) []) (c_Ways_many : C8.Met P w K mg base 18 CW "many" (spMany K CW 13) []) (c_Ways_seat_of : C8.Met P w K mg base 1 CW "seat_of" (spSeatOf K CW) []) (c_Ways : C8.Mak P w K mg base 2 "Ways" CW (spWaysInit K CK CW) []) (c_of_rests : C8.Cal P w K mg base 6 "of_rests" (spOfRests K CK) []) (c_Known_names : C8.Met P w K mg base 1 CK "names" (spNames K CK) []) (c_narrowed : C8.Cal P w K mg base 5 "narrowed" (spNarrowed K) []) : C8.Cal P w K mg base 19 "many_behind" (spManyBehind K CK) [] := by
  refine cal_of D sc_many_behind (ps := ["known", "seats", "rests", "last"]) (fun _ _ _ _ _ _ us hl => match us, hl with | [_, _, _, _], _ => rfl) (fun vs H Q E h => ?_) fun f cdv A outer s H vs Q E hr h => ?_
  · obtain ⟨kn, a, d, last, xs, seats, ρ0, ρ, kvs, rfl, hK, ha, hd, hR, so, ok, hla, hρ, q⟩ := h
    rfl
  · obtain ⟨kn, a, d, last, xs, seats, ρ0, ρ, kvs, rfl, hK, ha, hd, hR, so, ok, hla, hρ, q⟩ := h
    have hu := hu_of hr
    refine ⟨_, (pss_cons (ps_set (i := 4) sc_many_behind.nd rfl (Or.inl rfl) pe_int)
    (pss_cons (ps_set (i := 5) sc_many_behind.nd rfl (Or.inl rfl) (pe_op op_cat (pe_slice sl_list (pv 1) (po_some (pe_op op_add (pe_bm PySem.F.plainAttrs_list PySem.F.slot_list_index PySem.F.type_list_index mt_index (pv 1) (pa_cons (pv 3) pa_nil)) pe_int)) po_none) (pe_slice sl_list (pv 1) po_none (po_some (pe_op op_add (pe_bm PySem.F.plainAttrs_list PySem.F.slot_list_index PySem.F.type_list_index mt_index (pv 1) (pa_cons (pv 3) pa_nil)) pe_int)))))
    (pss_cons (ps_for PassesOwn.never rfl (pi_list (C8.pe_c c_by hr (by omega) rfl (pa_cons (pe_dget hu (pv 2) (pv 3) (fun _ _ => rfl)) (pa_cons (pe_callB call_len_seq (by rfl) T.b_len (by decide +kernel) (pa_cons (pv 1) pa_nil)) pa_nil)))) (pg_name (i := 6) sc_many_behind.nd rfl (Or.inl rfl)) 
      (pss_cons (ps_set (i := 7) sc_many_behind.nd rfl (Or.inl rfl) (C8.pe_c c_narrowed hr (by omega) rfl (pa_cons (pv 2) (pa_cons (pe_lst (pa_cons (pe_tup (pa_cons (pv 3) (pa_cons (pe_tup (pa_cons (pv 6) (pa_cons (pe_callB call_len_seq (by rfl) T.b_len (by decide +kernel) (pa_cons (pv 1) pa_nil)) pa_nil))) pa_nil))) pa_nil)) pa_nil))))
      (pss_cons (ps_set (i := 8) sc_many_behind.nd rfl (Or.inl rfl) (C8.pe_mk c_Ways hr (by omega) rfl (pa_cons (C8.pe_c c_of_rests hr (by omega) rfl (pa_cons (C8.pe_mt0 c_Known_names hr (by omega) (pv 0)) (pa_cons (pv 7) pa_nil))) (pa_cons (pv 1) pa_nil))))
      (pss_cons (ps_set (i := 9) sc_many_behind.nd rfl (Or.inl rfl) (C8.pe_mt c_Ways_seat_of hr (by omega) (pv 8) (pa_cons (pe_ix ix_list (pv 5) (pv 6) (fun _ _ => rfl)) pa_nil)))
      (pss_one (ps_aug (i := 4) sc_many_behind.nd rfl (Or.inl rfl) (C8.pe_mt c_Ways_many hr (by omega) (pv 8) (pa_cons (pe_op op_shl pe_int (pv 9)) (pa_cons (pv 9) pa_nil))) ip_add))))))
    (pss_one (ps_ret (pv 4)))))), ?_⟩
    -- slots: known 0, seats 1, rests 2, last 3, found 4, turned 5, place 6, later 7, ways 8, at 9
    have o2 := so.most
    have o1 := so.few
    have hsl := so.len
    have hl : seats.length ≤ 12 := by omega
    have hwf := hρ.wf
    have hk1 : seats.length - 1 + 1 = seats.length := by omega
    have hsl2 : (seats.map V.str).length = seats.length := List.length_map ..
    refine ⟨_, rfl, _, rfl, .inl ⟨rfl, _, ha⟩, _, rfl, ?_⟩
    refine no_args ?_
    refine index_ok ha hla ?_
    refine ⟨_, _, rfl, rfl, _, rfl, ?_⟩
    refine no_part ?_
    refine sll_from (k := seats.idxOf last + 1) ha fun l2 H8 e8 _ hl2 => ?_
    refine ⟨_, rfl, ?_⟩
    refine no_part ?_
    refine ⟨_, rfl, .inl ⟨rfl, _, e8.seq ha⟩, _, rfl, ?_⟩
    refine no_args ?_
    refine index_ok (e8.seq ha) hla ?_
    refine ⟨_, _, rfl, rfl, _, rfl, ?_⟩
    refine sll_to (k := seats.idxOf last + 1) (e8.seq ha) fun l4 H10 e10 _ hl4 => ?_
    refine ⟨l2, l4, _, _, rfl, rfl, e10 _ _ hl2, hl4, sz_le (by rw [List.length_drop, List.length_take]; omega), fun l6 hl6 => ?_⟩
    have etu : (seats.map V.str).drop (seats.idxOf last + 1) ++ (seats.map V.str).take (seats.idxOf last + 1) = (G.round seats last).map V.str := by
      rw [G.round_eq hla, List.map_append, List.map_drop, List.map_take]
    rw [etu]
    have e12 : Same H10 (upd H10 l6 (.lst ((G.round seats last).map V.str))) := same_upd hl6
    have h6 : upd H10 l6 (.lst ((G.round seats last).map V.str)) l6 = some (.lst ((G.round seats last).map V.str)) := upd_same
    generalize upd H10 l6 (.lst ((G.round seats last).map V.str)) = H12 at *
    have s12 := (e8.trans e10).trans e12
    have hrl := G.round_len hla
    have hlx := (so.mem last).mp hla
    obtain ⟨rv, hrv, hra⟩ := hR.val last hlx
    refine ⟨_, rfl, _, rfl, d, rv, rfl, dget_str (s12 _ _ hd) hrv, _, rfl, a, _, rfl, .inl (s12.seq ha), ?_⟩
    rw [hsl2]
    refine ⟨rv, ρ last, seats.length, rfl, hra.same s12, hwf last hla, by omega, by omega, fun L H13 e13 hL0 hL => ?_⟩
    have s13 := s12.trans e13
    refine ⟨L, rfl, ⟨_, SqL.of hL⟩, ?_⟩
    refine for_it walk_list (fun i σ H' => ∃ (n1 n2 n3 n4 : Option V), σ = [some (.ref kn), some (.ref a), some (.ref d), some (.str last), some (.int ((((G.byN (ρ last).1 (ρ last).2 seats.length).take i).map fun p => (G.tails (G.after ρ seats last p) seats (seats.length - 1) [G.nextBegin seats last p] (G.nextBegin seats last p)).length).sum : Nat)), some (.ref l6), n1, n2, n3, n4] ∧ Same H13 H') ⟨none, none, none, none, rfl, Same.refl _⟩ (fun i σ H' _ ⟨_, _, _, _, _, pv⟩ => SqL.of (pv _ _ hL)) (fun i z σ H' H'' hi pv y => ?_) fun σ H' pv => ?_
    · obtain ⟨rfl, hz⟩ := y
      obtain ⟨n1, n2, n3, n4, rfl, s14⟩ := pv
      unfold intL at hz
      rw [List.getElem?_map] at hz
      obtain ⟨p, hp, rfl⟩ := Option.map_eq_some_iff.mp hz
      have hpm := List.mem_of_getElem? hp
      have hpl := G.byN_lt hpm
      obtain ⟨_, sv, hsv1, hsv2⟩ := (G.mem_byN (hwf last hla)).mp hpm
      have s15 := s13.trans s14
      refine ⟨_, rfl, _, rfl, _, rfl, _, rfl, a, _, rfl, .inl (s15.seq ha), ?_⟩
      rw [hsl2]
      refine ⟨by show 2 ≤ sizeLine; decide, fun t1 ht1 => ?_⟩
      have e16 : Same H'' (upd H'' t1 (.tup [.int (p : Nat), .int (seats.length : Nat)])) := same_upd ht1
      have h16 : upd H'' t1 (.tup [.int (p : Nat), .int (seats.length : Nat)]) t1 = some (.tup [.int (p : Nat), .int (seats.length : Nat)]) := upd_same
      generalize upd H'' t1 (.tup [.int (p : Nat), .int (seats.length : Nat)]) = H16 at *
      refine ⟨by show 2 ≤ sizeLine; decide, fun t2 ht2 => ?_⟩
      have e17 : Same H16 (upd H16 t2 (.tup [.str last, .ref t1])) := same_upd ht2
      have h17 : upd H16 t2 (.tup [.str last, .ref t1]) t2 = some (.tup [.str last, .ref t1]) := upd_same
      generalize upd H16 t2 (.tup [.str last, .ref t1]) = H17 at *
      refine ⟨by show 1 ≤ sizeLine; decide, fun L2 hL2 => ?_⟩
      have e18 : Same H17 (upd H17 L2 (.lst [.ref t2])) := same_upd hL2
      have h18 : upd H17 L2 (.lst [.ref t2]) L2 = some (.lst [.ref t2]) := upd_same
      generalize upd H17 L2 (.lst [.ref t2]) = H18 at *
      have e68 := (e16.trans e17).trans e18
      have s18 := s15.trans e68
      have hT : ToldL K H18 [.ref t2] [(last, (p, seats.length))] := ToldL.one ⟨t2, .ref t1, rfl, SqT.of (e18 _ _ h17), t1, rfl, SqT.of (e18 _ _ (e17 _ _ h16))⟩
      refine ⟨d, L2, kvs, _, xs, ρ, [(last, (p, seats.length))], rfl, s18 _ _ hd, hR.same s18, o2, SqL.of h18, hT, by simp, fun x hx => hρ x ((so.mem x).mpr hx), fun c hc => ?_, fun H19 e19 hN => ?_, fun D kvs' ρ' H19 e19 hD0 hN hD hR' => ?_⟩
      · rw [List.mem_singleton.mp hc]
        exact ⟨hlx, hpl, Nat.le_trans hl (by decide)⟩
      · exfalso
        refine G.narrow_not (line := seats) hwf (fun c hc => ?_) hN ⟨fun x => if x = last then sv else (ρ x).1, fun x hx => ?_, fun c hc => ?_⟩
        · rw [List.mem_singleton.mp hc]
          exact ⟨hla, hpl⟩
        · by_cases c : x = last
          · subst c
            simp [hsv1]
          · simp [c]
            exact Nat.mod_eq_of_lt (hwf x hx)
        · rw [List.mem_singleton.mp hc]
          simp [hsv2]
      · have s19 := s18.trans e19
        have haf : G.after ρ seats last p = ρ' := by
          unfold G.after
          rw [hN]
          rfl
        have hwf' := G.narrow_wf (line := seats) hwf hN
        obtain ⟨kdx, kt, kd, ks, kkv, hkp, hkr⟩ := hK.same s19
        refine ⟨_, rfl, kn, kdx, _, rfl, hkp, kf_none _ _ _ (by decide +kernel) (by decide +kernel) (by decide +kernel), kn, xs, ρ0, rfl, hK.same s19, fun nm H20 e20 _ hnm => ?_⟩
        have s20 := s19.trans e20
        refine ⟨_, rfl, nm, D, xs, ρ', kvs', rfl, SqL.of hnm, ok, e20 _ _ hD, hR'.same e20, fun x hx => hwf' x ((so.mem x).mpr hx), fun kn2 H21 e21 hk20 hK2 => ?_⟩
        have s21 := s20.trans e21
        refine ⟨_, rfl, fun wp dx np ndx npx => ?_⟩
        have sU : Same H21 (upd (upd H21 dx (.own wp)) wp (.ins CW dx [])) := fun b o e => by
          rw [upd_ne (ne_of_none e np), upd_ne (ne_of_none e ndx)]
          exact e
        refine ⟨H21, wp, dx, kn2, a, seats, xs, ρ', rfl, sU, np, upd_same, hK2, s21.seq ha, so, fun m H22 e22 m0 hW => ⟨rfl, ?_⟩⟩
        have s22 := s21.trans e22
        obtain ⟨wdx, sa, r, rs, hp1, hsa, hr1, hr2, hr3⟩ := hW.fix.ex
        obtain ⟨kv0, hm0, _⟩ := id hW.memo
        have hb2 : (G.round seats last)[p]? = some (G.nextBegin seats last p) := by
          have : p < (G.round seats last).length := by omega
          unfold G.nextBegin
          rw [List.getD_eq_getElem?_getD, List.getElem?_eq_getElem this, Option.getD_some]
        have hbm : G.nextBegin seats last p ∈ seats := (G.round_mem hla).mp (List.mem_of_getElem? hb2)
        have hbi := List.idxOf_lt_length_iff.mpr hbm
        refine ⟨_, rfl, wp, wdx, _, rfl, hp1, wm_seat_of _ _ _ _, _, rfl, _, rfl, l6, _, _, .str (G.nextBegin seats last p), rfl, rfl, SqL.of (((((((s14.trans e68).trans e19).trans e20).trans e21).trans e22)) _ _ (e13 _ _ h6)), atI_nat (by rw [List.getElem?_map, hb2]; rfl), wp, m, _, seats, ρ', rfl, hW.fix, hbm, ?_⟩
        refine ⟨_, rfl, _, rfl, wp, wdx, _, rfl, hp1, wm_many _ _ _ _, _, rfl, _, _, rfl, rfl, ⟨by omega, by omega, by decide⟩, _, rfl, wp, m, [G.nextBegin seats last p], seats, G.nextBegin seats last p, seats.length - 1, ρ', ?_, by omega, hW, G.At.first so.nd hbm hk1, hl, hwf', fun H23 b23 w23 => ?_⟩
        · show [V.ref wp, V.int (1 * 2 ^ ((seats.idxOf (G.nextBegin seats last p) : Nat) : Int).toNat), V.int (seats.idxOf (G.nextBegin seats last p) : Nat)] = _
          rw [mask_one so.nd hbm]
        · have s23 := But.same0 e22 m0 b23
          have sAll : Same H13 H23 := (((s14.trans e68).trans e19).trans (e20.trans e21)).trans s23
          refine ⟨_, _, rfl, rfl, ?_⟩
          refine ⟨some (.int (p : Nat)), some (.ref D), some (.ref wp), some (.int (seats.idxOf (G.nextBegin seats last p) : Nat)), ?_, sAll⟩
          rw [take_snoc hp, List.map_append, List.sum_append, List.map_cons, List.map_nil, List.sum_cons, List.sum_nil, Nat.add_zero, haf]
          rfl
    · obtain ⟨n1, n2, n3, n4, rfl, s14⟩ := pv
      rw [intL_len, List.take_length]
      exact ⟨_, rfl, q H' (s13.trans s14)⟩
end
end GK
set_option Elab.async false
set_option linter.all false
set_option maxRecDepth 100000
set_option maxHeartbeats 4000000
namespace GK
open PySem PySem.Spec PyProof.Rows L2
section
variable {P : Program} {w : World} {K : PySem.W.Frag} {mg : Str → Option Value} {base : Heap} {CK CW : Addr}
theorem NameOk.tok {x : Str} (h : NameOk x) : TOk x := by
  have hl : ∀ c ∈ letters.cps.toList, c < 0x110000 := by decide +kernel
  show (PyData.str x).canLay0 = true
  simp only [PyData.canLay0]
  show (x.cps.all fun c => decide (c < 0x110000)) = true
  rw [Array.all_eq_true_iff_forall_mem]
  intro c hc
  exact decide_eq_true (hl c (h.all c (Array.mem_toList_iff.mpr hc)))
def spHowManyTwo (K : PySem.W.Frag) (CK : Addr) : Sp := fun vs H Q _ => ∃ (kn a : Addr) (b : Str) (xs seats : List Str) (ρ : Str → Nat × Nat), vs = [.ref kn, .ref a, .str b] ∧ KnownAt K CK H kn xs ρ ∧ SqL K H a (seats.map V.str) ∧ SeatsOk seats xs ∧ NamesOk xs ∧ b ∈ seats ∧ tinyR ρ seats ∧ seats.length ≤ 6 ∧
  ∀ (H' : Hp), Same H H' → Q (.int (G.many2 ρ seats b : Nat)) H'
theorem sc_how_many_two : FnScope ["known", "seats", "begin", "ways", "line", "found", "goers", "gone", "at", "rests", "to"] ["known", "seats", "begin"] (defScope s_how_many_two) := ⟨rfl, rfl, rfl, by decide +kernel, rfl, by decide +kernel, by decide +kernel⟩
theorem ok_how_many_two (D : DefAt K mg "how_many_two" s_how_many_two) (T : Txt K mg CK CW)  (c_many_behind : C8.Cal P w K mg base 19 "many_behind" (spManyBehind K CK) []) (c_narrowed : C8.Cal P w K mg base 5 "narrowed" (spNarrowed K) []) (c_places_of : C8.Cal P w K mg base 1 "places_of" (spPlacesOf K) []) (c_Known_rests : C8.Met P w K mg base 1 CK "rests" (spRests K CK) []) (c_Ways_nexts : C8.Met P w K mg base 5 CW "nexts" (spNexts K CW) []) (c_Ways_led : C8.Met P w K mg base 6 CW "led" (spLed K CW) []) (c_Ways : C8.Mak P w K mg base 2 "Ways" CW (spWaysInit K CK CW) []) (c_need_begin : C8.Cal P w K mg base 1 "need_begin" (spNeedBegin K) []) (c_need_seats : C8.Cal P w K mg base 3 "need_seats" (spNeedSeats K CK) []) : C8.Cal P w K mg base 20 "how_many_two" (spHowManyTwo K CK) [] := by
  refine cal_of D sc_how_many_two (ps := ["known", "seats", "begin"]) (fun _ _ _ _ _ _ us hl => match us, hl with | [_, _, _], _ => rfl) (fun vs H Q E h => ?_) fun f cdv A outer s H vs Q E hr h => ?_
  · obtain ⟨kn, a, b, xs, seats, ρ, rfl, hK, ha, so, ok, hb, hρ, hl6, q⟩ := h
    rfl
  · obtain ⟨kn, a, b, xs, seats, ρ, rfl, hK, ha, so, ok, hb, hρ, hl6, q⟩ := h
    refine ⟨_, (pss_cons (ps_expr (C8.pe_c c_need_seats hr (by omega) rfl (pa_cons (pv 0) (pa_cons (pv 1) pa_nil))))
    (pss_cons (ps_expr (C8.pe_c c_need_begin hr (by omega) rfl (pa_cons (pv 1) (pa_cons (pv 2) pa_nil))))
    (pss_cons (ps_if (pt_cmpR op_gt (pe_callB call_len_seq (by rfl) T.b_len (by decide +kernel) (pa_cons (pv 1) pa_nil)) (C8.pe_gc rfl T.g_MOST_NAMES) (nomark _)) 
      (pss_one ps_never) pss_nil)
    (pss_cons (ps_asg (pe_tup (pa_cons (C8.pe_mk c_Ways hr (by omega) rfl (pa_cons (pv 0) (pa_cons (pv 1) pa_nil))) (pa_cons (pe_lst (pa_cons (pe_tup (pa_cons (pv 2) pa_nil)) pa_nil)) (pa_cons pe_int pa_nil)))) (pg_tup (by rfl) (pgs_cons (pg_name (i := 3) sc_how_many_two.nd rfl (Or.inr rfl)) (pgs_cons (pg_name (i := 4) sc_how_many_two.nd rfl (Or.inl rfl)) (pgs_cons (pg_name (i := 5) sc_how_many_two.nd rfl (Or.inl rfl)) pgs_nil)))))
    (pss_cons (ps_while PassesOwn.never (pt_cmpR (op_neD hr.units) (pv 4) (pe_lst pa_nil) (nomark _)) 
      (pss_cons (ps_set (i := 6) sc_how_many_two.nd rfl (Or.inr rfl) (pe_bm0 PySem.F.plainAttrs_list PySem.F.slot_list_pop PySem.F.type_list_pop mt_pop (pv 4)))
      (pss_cons (ps_asg (C8.pe_mt c_Ways_led hr (by omega) (pv 3) (pa_cons (pv 6) pa_nil)) (pg_tup (by rfl) (pgs_cons (pg_name (i := 7) sc_how_many_two.nd rfl (Or.inl rfl)) (pgs_cons (pg_name (i := 8) sc_how_many_two.nd rfl (Or.inl rfl)) pgs_nil))))
      (pss_cons (ps_aug (i := 4) sc_how_many_two.nd rfl (Or.inl rfl) (pe_lc (own := [("to", 10)]) rfl sc_how_many_two.nd (pi_list (C8.pe_mt c_Ways_nexts hr (by omega) (pv 3) (pa_cons (pv 7) (pa_cons (pv 8) pa_nil)))) (blkOk_by (own := [("to", 10)]) (N := ["known", "seats", "begin", "ways", "line", "found", "goers", "gone", "at", "rests", "to"]) (sc := defScope s_how_many_two) (by decide +kernel)) (fun _ _ _ _ _ => pg_name (i := 10) sc_how_many_two.nd rfl (Or.inl rfl)) (fun _ _ _ _ _ => pts_nil) (fun _ _ _ _ _ => (pe_op (k_catA K) (pv 6) (pe_tup (pa_cons (pe_ix (k_ixl K) (k_fld K (pv 3)) (pv 10) (fun _ _ => rfl)) pa_nil))))) iop_ext)
      (pss_one (ps_if (pt_cmpR op_eq (pe_callB call_len_seq (by rfl) T.b_len (by decide +kernel) (pa_cons (pv 6) pa_nil)) (pe_callB call_len_seq (by rfl) T.b_len (by decide +kernel) (pa_cons (pv 1) pa_nil)) (nomark _)) 
        (pss_cons (ps_set (i := 9) sc_how_many_two.nd rfl (Or.inl rfl) (C8.pe_c c_narrowed hr (by omega) rfl (pa_cons (C8.pe_mt0 c_Known_rests hr (by omega) (pv 0)) (pa_cons (C8.pe_c c_places_of hr (by omega) rfl (pa_cons (pv 1) (pa_cons (pv 6) pa_nil))) pa_nil))))
        (pss_one (ps_aug (i := 5) sc_how_many_two.nd rfl (Or.inl rfl) (C8.pe_c c_many_behind hr (by omega) rfl (pa_cons (pv 0) (pa_cons (pe_callTy call_list_of (by rfl) T.b_list (by decide +kernel) (pa_cons (pv 1) pa_nil)) (pa_cons (pv 9) (pa_cons (pe_ix ix_tup (pv 6) (pe_un un_neg pe_int) (fun _ _ => rfl)) pa_nil))))) ip_add))) pss_nil))))))
    (pss_one (ps_ret (pv 5)))))))), ?_⟩
    -- slots: known 0, seats 1, begin 2, ways 3, line 4, found 5, goers 6, gone 7, at 8, rests 9, to 10
    have o2 := so.most
    have o1 := so.few
    have hsl := so.len
    have hl : seats.length ≤ 12 := by omega
    have hwf := hρ.small.wf
    have hk1 : seats.length - 1 + 1 = seats.length := by omega
    have hsl2 : (seats.map V.str).length = seats.length := List.length_map ..
    have hbi := List.idxOf_lt_length_iff.mpr hb
    refine ⟨_, rfl, _, rfl, kn, a, seats, xs, ρ, rfl, hK, ha, so, fun H1 s1 => ?_⟩
    refine ⟨_, rfl, _, rfl, a, b, seats, rfl, s1.seq ha, hb, ?_⟩
    refine ⟨_, rfl, a, _, rfl, .inl (s1.seq ha), _, _, rfl, rfl, false, bl_f (by rw [hsl2]; omega), ?_⟩
    refine iteF ?_
    refine ⟨_, rfl, _, rfl, fun p dx np ndx npx => ?_⟩
    have sU : Same H1 (upd (upd H1 dx (.own p)) p (.ins CW dx [])) := fun b o e => by
      rw [upd_ne (ne_of_none e np), upd_ne (ne_of_none e ndx)]
      exact e
    refine ⟨H1, p, dx, kn, a, seats, xs, ρ, rfl, sU, np, upd_same, hK.same s1, s1.seq ha, so, fun m H2 s2 m0 hW => ⟨rfl, ?_⟩⟩
    have s3 := s1.trans s2
    obtain ⟨wdx, sa, r, rs, hp, hsa, hr1, hr2, hr3⟩ := hW.fix.ex
    refine ⟨_, rfl, by show 1 ≤ sizeLine; decide, fun t0 ht0 => ?_⟩
    have e4 : Same H2 (upd H2 t0 (.tup [.str b])) := same_upd ht0
    have h4 : upd H2 t0 (.tup [.str b]) t0 = some (.tup [.str b]) := upd_same
    generalize upd H2 t0 (.tup [.str b]) = H4 at *
    refine ⟨by show 1 ≤ sizeLine; decide, fun LN hLN0 => ?_⟩
    have e5 : Same H4 (upd H4 LN (.lst [.ref t0])) := same_upd hLN0
    have h5 : upd H4 LN (.lst [.ref t0]) LN = some (.lst [.ref t0]) := upd_same
    generalize upd H4 LN (.lst [.ref t0]) = H5 at *
    refine ⟨by show 3 ≤ sizeLine; decide, fun t3 ht3 => ?_⟩
    have e6 : Same H5 (upd H5 t3 (.tup [.ref p, .ref LN, .int 0])) := same_upd ht3
    have h6 : upd H5 t3 (.tup [.ref p, .ref LN, .int 0]) t3 = some (.tup [.ref p, .ref LN, .int 0]) := upd_same
    generalize upd H5 t3 (.tup [.ref p, .ref LN, .int 0]) = H6 at *
    refine ⟨t3, _, rfl, SqT.of h6, rfl, _, _, rfl, _, _, rfl, _, _, rfl, rfl, ?_⟩
    have LN2 : H2 LN = none := e4.free hLN0
    have e26 := (e4.trans e5).trans e6
    refine ⟨fun n σ H' => ∃ (F : Nat) (us : List V) (S : List (List Str)) (n1 n2 n3 n4 n5 : Option V), σ = [some (.ref kn), some (.ref a), some (.str b), some (.ref p), some (.ref LN), some (.int (F : Nat)), n1, n2, n3, n4, n5] ∧ Same H2 H' ∧ H' LN = some (.lst us) ∧ TupL K H' us (S.map (b :: ·)) ∧
      (∀ t ∈ S, G.Path ρ seats (b :: t)) ∧ F + (S.map (G.wt ρ seats b)).sum = G.many2 ρ seats b ∧ n = (S.map (G.nds ρ seats b)).sum ∧ n ≤ 326, ?_, ?_⟩
    · have hA0 := G.At.first so.nd hb hk1
      refine ⟨_, 0, [.ref t0], [[]], none, none, none, none, none, rfl, e26, e6 _ _ h5, TupL.one (SqT.of (e6 _ _ (e5 _ _ h4))), fun t ht => ?_, ?_, rfl, ?_⟩
      · rw [List.mem_singleton.mp ht]
        refine ⟨so.nd, ⟨b, rfl, hb⟩, by rw [List.length_cons, List.length_nil]; omega, fun i u v _ hv => ?_⟩
        simp at hv
      · rw [List.map_cons, List.map_nil, List.sum_cons, List.sum_nil, G.wt_nil]
        omega
      · rw [List.map_cons, List.map_nil, List.sum_cons, List.sum_nil]
        have h1 : G.nds ρ seats b [] ≤ G.most (seats.length - 1) := G.nodes_le hA0
        have h2 : ∀ j, j ≤ 5 → G.most j ≤ 326 := by decide +kernel
        have := h2 (seats.length - 1) (by omega)
        omega
    · rintro n σ H' ⟨F, us, S, n1, n2, n3, n4, n5, rfl, s7, hLN, hT, hS, hsum, hn, hn326⟩
      have hlu : us.length ≤ 326 := by
        have h1 := G.sum_pos (f := G.nds ρ seats b) (l := S) fun t => G.nodes_pos
        rw [hT.len, List.length_map]
        omega
      refine ⟨_, rfl, Nat.zero_le _, fun e he => ?_⟩
      have e8 : Same H' (upd H' e (.lst [])) := same_upd he
      have h8 : upd H' e (.lst []) e = some (.lst []) := upd_same
      generalize upd H' e (.lst []) = H8 at *
      have hT8 := hT.tk (Tk.of e8)
      refine ⟨_, _, .lst (SqL.of (e8 _ _ hLN)) hT8.dp, .lst (SqL.of h8) .nil, shaped_tupL (fun g hg x hx => ?_), rfl, ?_⟩
      · obtain ⟨t, ht, rfl⟩ := List.mem_map.mp hg
        exact (ok.ok x ((so.mem x).mp ((hS t ht).mem hx))).tok
      rw [eqv_nil]
      have hcat : S = [] ∨ ∃ S' t, S = S' ++ [t] := by
        rcases List.eq_nil_or_concat S with h | ⟨S', t, h⟩
        · exact Or.inl h
        · exact Or.inr ⟨S', t, by rw [h, List.concat_eq_append]⟩
      rcases hcat with rfl | ⟨S', t, rfl⟩
      · refine ⟨_, rfl, ?_⟩
        refine iteF ?_
        refine ⟨_, rfl, ?_⟩
        rw [List.map_nil, List.sum_nil, Nat.add_zero] at hsum
        rw [hsum]
        exact q H8 ((s3.trans s7).trans e8)
      · have hul : us.length = S'.length + 1 := by
          rw [hT.len, List.length_map]
          simp
        have hP := hS t (by simp)
        refine ⟨true, by
          cases S' <;> rfl, ?_⟩
        refine iteT ?_
        refine ⟨_, fun σ' H2 n => n, ?_⟩
        have hlast : us[us.length - 1]? = some us[us.length - 1] := List.getElem?_eq_getElem (by omega)
        obtain ⟨ga, hga, hgt⟩ := hT8.at_ (us.length - 1) _ (b :: t) hlast (by
          rw [hul, Nat.add_sub_cancel, List.getElem?_map]
          simp)
        rw [hga] at hlast
        refine ⟨_, rfl, .inl ⟨rfl, _, SqL.of (e8 _ _ hLN)⟩, LN, us, .ref ga, rfl, rfl, e8 _ _ hLN, hlast, ?_⟩
        have hTd : TupL K H8 us.dropLast (S'.map (b :: ·)) := by
          refine ⟨by rw [List.length_dropLast, List.length_map]; omega, fun i v g x y => ?_⟩
          have hi := (List.getElem?_eq_some_iff.mp x).1
          rw [List.length_dropLast] at hi
          rw [List.getElem?_dropLast, if_pos hi] at x
          refine hT8.at_ i v g x ?_
          rw [List.getElem?_map] at y ⊢
          obtain ⟨t', h1, h2⟩ := Option.map_eq_some_iff.mp y
          have h3 := (List.getElem?_eq_some_iff.mp h1).1
          simp [List.getElem?_append_left h3, h1, h2]
        have k9 : Tk H8 (upd H8 LN (.lst us.dropLast)) := Tk.lst (e8 _ _ hLN)
        have s9 : Same H2 (upd H8 LN (.lst us.dropLast)) := same_mut (s7.trans e8) LN2
        have h9 : upd H8 LN (.lst us.dropLast) LN = some (.lst us.dropLast) := upd_same
        generalize upd H8 LN (.lst us.dropLast) = H9 at *
        have hT9 := hTd.tk k9
        have hx := G.endOf_get (b := b) (t := t)
        have hx2 : (b :: t)[(b :: t).length - 1]? = some (G.endOf b t) := hx
        -- led
        refine ⟨_, rfl, p, wdx, _, rfl, s9 _ _ hp, wm_led _ _ _ _, _, rfl, p, m, ga, b :: t, seats, G.endOf b t, ρ, rfl, hW.fix.same s9, k9.sq hgt, hP, hx2, hl, hwf, fun T2 H10 e10 _ hT2 => ?_⟩
        refine ⟨T2, _, rfl, SqT.of hT2, rfl, _, _, rfl, _, _, rfl, rfl, ?_⟩
        have s10 := s9.trans e10
        have hA := hP.at_ hx
        rw [show (b :: t).take (t.length + 1) = b :: t by rw [List.take_of_length_le (by simp)]] at hA
        have hfew := hP.few
        rw [List.length_cons] at hfew
        refine ⟨_, rfl, _, rfl, p, wdx, _, rfl, s10 _ _ hp, wm_nexts _ _ _ _, _, rfl, _, rfl, p, m, b :: t, seats, G.endOf b t, seats.length - (t.length + 1), ρ, rfl, hW.fix.same s10, hA, hl, hwf, fun L H11 e11 _ hL => ?_⟩
        have s11 := s10.trans e11
        obtain ⟨ys, hys⟩ : ∃ ys, ys = (if seats.length - (t.length + 1) = 0 then [] else G.nexts ρ seats (b :: t) (G.endOf b t)) := ⟨_, rfl⟩
        rw [← hys] at hL
        have hysm : ∀ y ∈ ys, y ∈ seats := fun y hy => by
          rw [hys] at hy
          by_cases c : seats.length - (t.length + 1) = 0
          · rw [if_pos c] at hy
            cases hy
          · rw [if_neg c] at hy
            obtain ⟨k, hk⟩ : ∃ k, seats.length - (t.length + 1) = k + 1 := ⟨seats.length - (t.length + 1) - 1, by omega⟩
            rw [hk] at hA
            exact (hA.mem.mp (G.nexts_sub hA hy)).1
        have hysl : ys.length ≤ 12 := by
          rw [hys]
          by_cases c : seats.length - (t.length + 1) = 0
          · rw [if_pos c]
            exact Nat.zero_le _
          · rw [if_neg c]
            obtain ⟨k, hk⟩ : ∃ k, seats.length - (t.length + 1) = k + 1 := ⟨seats.length - (t.length + 1) - 1, by omega⟩
            rw [hk] at hA
            exact Nat.le_trans (G.nd_sub (G.nexts_nodup hA) fun y hy => (hA.mem.mp (G.nexts_sub hA hy)).1) hl
        refine ⟨L, rfl, ⟨_, SqL.of hL⟩, fun D hD => ?_⟩
        have hgt11 := (Tk.of (e10.trans e11)).sq (k9.sq hgt)
        refine lc_it walk_list (Held H11 D fun i acc H' => TupL K H' acc ((ys.take i).map fun y => b :: t ++ [y])) (Held.start hD TupL.nil) (fun i H' _ pv => SqL.of (pv.same _ _ hL)) (fun i z H' H'' hi pv y => ?_) fun H12 pv => ?_
        · obtain ⟨rfl, hz⟩ := y
          unfold intL at hz
          rw [List.getElem?_map, List.getElem?_map] at hz
          obtain ⟨j, hj, rfl⟩ := Option.map_eq_some_iff.mp hz
          obtain ⟨y, hy, rfl⟩ := Option.map_eq_some_iff.mp hj
          have hym := hysm y (List.mem_of_getElem? hy)
          refine ⟨rfl, yes_in ?_⟩
          have sx := s11.trans pv.same
          refine ⟨_, rfl, _, rfl, p, CW, wdx, _, _, rfl, sx _ _ hp, T.cW, T.n_w_seats, wf_seats _ _ _ _, _, rfl, sa, _, _, .str y, rfl, rfl, SqL.of (sx _ _ hsa), atI_nat (by rw [List.getElem?_map, G.idx_get hym]; rfl), by show 1 ≤ sizeLine; decide, fun t1 ht1 => ?_⟩
          have e13 : Same H'' (upd H'' t1 (.tup [.str y])) := same_upd ht1
          have h13 : upd H'' t1 (.tup [.str y]) t1 = some (.tup [.str y]) := upd_same
          generalize upd H'' t1 (.tup [.str y]) = H13 at *
          refine ⟨ga, t1, _, _, rfl, rfl, same_tup (pv.same.trans e13) hgt11, SqT.of h13, sz_le (by rw [List.length_map, List.length_cons, List.length_cons, List.length_nil]; omega), fun h => by simp at h, fun _ h => by simp at h, fun _ _ T4 hT4 => ?_⟩
          have e14 : Same H13 (upd H13 T4 (.tup ((b :: t).map V.str ++ [.str y]))) := same_upd hT4
          have h14 : upd H13 T4 (.tup ((b :: t).map V.str ++ [.str y])) T4 = some (.tup ((b :: t).map V.str ++ [.str y])) := upd_same
          generalize upd H13 T4 (.tup ((b :: t).map V.str ++ [.str y])) = H14 at *
          refine pv.put (e13.trans e14) fun acc H0 a1 a2 a3 a4 a5 => ⟨?_, ?_⟩
          · rw [take_snoc hy, List.map_append]
            have sD : Same H0 (delH H14 D) := same_del (a3.trans (e13.trans e14)) a4
            refine (a5.tk (Tk.of sD)).append (TupL.one (SqT.of ?_))
            have hne : T4 ≠ D := fun e => by
              rw [e] at hT4
              rw [e13 _ _ a1] at hT4
              cases hT4
            rw [delH_ne hne, h14, List.map_append]
            rfl
          · rw [a5.len, List.length_map, List.length_take]
            omega
        · obtain ⟨acc, H0', a1, a2, a3, a4, a5⟩ := pv.ex
          rw [intL_len, List.length_map, List.take_length] at a5
          have s12 := s11.trans pv.same
          have hLN12 : H12 LN = some (.lst us.dropLast) := pv.same _ _ (e11 _ _ (e10 _ _ h9))
          have hacl : acc.length = ys.length := by rw [a5.len, List.length_map]
          refine ⟨LN, D, _, _, rfl, rfl, hLN12, a1, sz_le (by rw [List.length_dropLast]; omega), ?_⟩
          have k15 : Tk H12 (upd H12 LN (.lst (us.dropLast ++ acc))) := Tk.lst hLN12
          have s15 : Same H2 (upd H12 LN (.lst (us.dropLast ++ acc))) := same_mut s12 LN2
          have h15 : upd H12 LN (.lst (us.dropLast ++ acc)) LN = some (.lst (us.dropLast ++ acc)) := upd_same
          generalize upd H12 LN (.lst (us.dropLast ++ acc)) = H15 at *
          have hga15 : SqT K H15 ga ((b :: t).map V.str) := k15.sq (same_tup pv.same hgt11)
          have hT15 : TupL K H15 (us.dropLast ++ acc) ((S' ++ ys.map fun y => t ++ [y]).map (b :: ·)) := by
            rw [List.map_append, List.map_map]
            refine TupL.append (hT9.tk ((Tk.of ((e10.trans e11).trans pv.same)).trans k15)) ?_
            exact (a5.tk (Tk.of a4)).tk k15
          have hgl : ((b :: t).map V.str).length = t.length + 1 := by rw [List.length_map, List.length_cons]
          have hs15 := s3.trans s15
          refine ⟨_, rfl, ga, _, rfl, .inr hga15, _, rfl, a, _, rfl, .inl (hs15.seq ha), rfl, _, rfl, ?_⟩
          rw [hgl, hsl2]
          have hS2 : ∀ t' ∈ S' ++ ys.map (fun y => t ++ [y]), G.Path ρ seats (b :: t') := fun t' ht' => by
            rcases List.mem_append.mp ht' with h | h
            · exact hS t' (by simp [h])
            · obtain ⟨y, hy, rfl⟩ := List.mem_map.mp h
              rw [hys] at hy
              by_cases c : seats.length - (t.length + 1) = 0
              · rw [if_pos c] at hy
                cases hy
              · rw [if_neg c] at hy
                have := hP.snoc hx2 hy (by rw [List.length_cons]; omega)
                exact this
          by_cases c : t.length + 1 = seats.length
          · rw [decide_eq_true (show V.int ((t.length + 1 : Nat) : Int) = V.int (seats.length : Nat) by rw [c])]
            refine iteT ?_
            have hys0 : ys = [] := by rw [hys, if_pos (by omega)]
            subst hys0
            rw [List.map_nil, List.append_nil] at hT15 hS2
            have htl : t.length = seats.length - 1 := by omega
            have ht := G.tails_path hP htl
            have hA0 := G.At.first so.nd hb hk1
            obtain ⟨tn, tm⟩ := G.tails_mem hA0 ht
            have hpw := G.places_wf hA0 htl tn tm
            obtain ⟨kdx, kt, kd, ks, kkv, hkp, hkr⟩ := hK.same hs15
            refine ⟨_, rfl, kn, kdx, _, rfl, hkp, kf_none _ _ _ (by decide +kernel) (by decide +kernel) (by decide +kernel), kn, xs, ρ, rfl, hK.same hs15, fun d H16 kvs e16 _ hd hR => ?_⟩
            have hs16 := hs15.trans e16
            have hla : G.endOf b t ∈ seats := hP.mem (List.getLast_mem _)
            have hcl : ((b :: t).map V.str) = ((b :: t).dropLast.map V.str) ++ [.str (G.endOf b t)] := by
              conv => lhs; rw [← List.dropLast_concat_getLast (l := b :: t) (by simp)]
              rw [List.map_append]
              rfl
            have hat : atI ((b :: t).map V.str) (-1) = some (.str (G.endOf b t)) := by
              rw [hcl]
              exact atI_last _ _
            refine ⟨_, rfl, _, rfl, a, ga, seats, b, t, rfl, hs16.seq ha, same_tup e16 hga15, so.nd, hl, hP.nodup, fun x hx => hP.mem hx, fun L2 us2 H17 e17 _ hL2 hU => ?_⟩
            refine ⟨d, L2, kvs, us2, xs, ρ, G.places seats [b] b t, rfl, e17 _ _ hd, hR.same e17, o2, SqL.of hL2, hU, by rw [G.places_length]; omega, fun x hx => hρ.small x ((so.mem x).mpr hx), fun c hc => ⟨(so.mem _).mp (hpw c hc).1, (hpw c hc).2.1, Nat.le_trans (hpw c hc).2.2 (Nat.le_trans hl (by decide))⟩, fun H18 e18 hno => ?_, fun D2 kvs' ρ' H18 e18 hD0 hN hD2 hR' => ?_⟩
            · obtain ⟨s', f1, f2⟩ := (G.mem_tails hwf hA0).mp ht
              exact absurd ⟨s', f1, (G.go_iff hA0 htl tn tm).mp f2⟩ (G.narrow_not hwf (fun c hc => ⟨(hpw c hc).1, (hpw c hc).2.1⟩) hno)
            · have hs18 := (hs16.trans e17).trans e18
              have e158 := (e16.trans e17).trans e18
              have hwf' := G.narrow_wf (line := seats) hwf hN
              have hm := G.narrow_mods (line := seats) (b := 2 ^ 100) (n := 4) (fun y hy => (hρ y hy).2) (fun c hc => Nat.le_trans (hpw c hc).2.2 (Nat.le_trans hl (by decide))) (fun c hc => (hpw c hc).1) (Nat.pow_pos (by decide)) hN
              have hld : G.lead ρ seats b t = ρ' := by
                unfold G.lead
                rw [hN]
                rfl
              refine ⟨_, rfl, _, rfl, _, rfl, a, _, rfl, .inl (hs18.seq ha), fun l9 hl9 => ?_⟩
              have e19 : Same H18 (upd H18 l9 (.lst (seats.map V.str))) := same_upd hl9
              have h19 : upd H18 l9 (.lst (seats.map V.str)) l9 = some (.lst (seats.map V.str)) := upd_same
              generalize upd H18 l9 (.lst (seats.map V.str)) = H19 at *
              refine ⟨_, rfl, _, rfl, _, rfl, ga, _, -1, _, rfl, rfl, same_tup (e158.trans e19) hga15, hat, ?_⟩
              refine ⟨kn, l9, D2, G.endOf b t, xs, seats, ρ, ρ', kvs', rfl, hK.same (hs18.trans e19), SqL.of h19, e19 _ _ hD2, hR'.same e19, so, ok, hla, fun x hx => ⟨hwf' x hx, Nat.le_trans (hm x hx) ?_⟩, fun H20 e20 => ?_⟩
              · rw [← Nat.pow_add]
                refine Nat.pow_le_pow_right (by decide) ?_
                rw [G.places_length]
                omega
              · have eE := (e158.trans e19).trans e20
                refine ⟨_, _, rfl, rfl, ?_⟩
                refine ⟨(S'.map (G.nds ρ seats b)).sum, ?_, F + G.behind ρ' seats (G.endOf b t), _, S', _, _, _, _, _, rfl, s15.trans eE, eE _ _ h15, hT15.tk (Tk.of eE), hS2, ?_, rfl, ?_⟩
                · rw [hn, List.map_append, List.sum_append, List.map_cons, List.map_nil, List.sum_cons, List.sum_nil, G.nds_full htl]
                  omega
                · rw [List.map_append, List.sum_append, List.map_cons, List.map_nil, List.sum_cons, List.sum_nil, G.wt_full htl, hld] at hsum
                  omega
                · rw [hn, List.map_append, List.sum_append] at hn326
                  omega
          · rw [decide_eq_false (show ¬ V.int ((t.length + 1 : Nat) : Int) = V.int (seats.length : Nat) from fun e => c (by have := V.int.inj e; omega))]
            refine iteF ?_
            have hck : ¬ seats.length - (t.length + 1) = 0 := by omega
            rw [if_neg hck] at hys
            have htl : t.length < seats.length - 1 := by omega
            refine ⟨((S' ++ ys.map fun y => t ++ [y]).map (G.nds ρ seats b)).sum, ?_, F, _, S' ++ ys.map fun y => t ++ [y], _, _, _, _, _, rfl, s15, h15, hT15, hS2, ?_, rfl, ?_⟩
            · rw [hn, List.map_append, List.sum_append, List.map_append, List.sum_append, List.map_cons, List.map_nil, List.sum_cons, List.sum_nil, G.nds_more htl, ← hys, List.map_map]
              show _ + (ys.map fun y => G.nds ρ seats b (t ++ [y])).sum < _
              omega
            · rw [List.map_append, List.sum_append, List.map_cons, List.map_nil, List.sum_cons, List.sum_nil, G.wt_more htl, ← hys] at hsum
              rw [List.map_append, List.sum_append, List.map_map]
              show F + (_ + (ys.map fun y => G.wt ρ seats b (t ++ [y])).sum) = _
              omega
            · rw [hn, List.map_append, List.sum_append, List.map_cons, List.map_nil, List.sum_cons, List.sum_nil, G.nds_more htl, ← hys] at hn326
              rw [List.map_append, List.sum_append, List.map_map]
              show _ + (ys.map fun y => G.nds ρ seats b (t ++ [y])).sum ≤ _
              omega
end
end GK
set_option Elab.async false
set_option linter.all false
set_option maxRecDepth 100000
set_option maxHeartbeats 4000000
/-! words -/
namespace GK
open PySem PySem.Spec PyProof.Rows L2
def nameB (x : Str) : Bool := decide (1 ≤ x.length) && decide (x.length ≤ 8) && x.cps.toList.all fun c => letters.cps.toList.contains c
theorem nameB_ok {x : Str} (h : nameB x = true) : NameOk x := by
  unfold nameB at h
  rw [Bool.and_eq_true, Bool.and_eq_true, decide_eq_true_eq, decide_eq_true_eq, List.all_eq_true] at h
  exact ⟨h.1.1, h.1.2, fun c hc => by
    have := h.2 c hc
    exact List.contains_iff_mem.mp this⟩
def ownWords : List Str := Txt.split "ring watch round more anew swap seat come go undo knows may sure far fewest judge nothing" " "
theorem own_ok : ∀ x ∈ ownWords, NameOk x := by
  have h : ownWords.all nameB = true := by decide +kernel
  intro x hx
  exact nameB_ok (List.all_eq_true.mp h x hx)
theorem own_len : ownWords.length = 17 := by decide +kernel
theorem app_cps (x y : Str) : (x ++ y).cps.toList = x.cps.toList ++ y.cps.toList := by
  show (Str.append x y).cps.toList = _
  unfold Str.append
  simp
theorem app_len (x y : Str) : (x ++ y).length = x.length + y.length := by
  show (x ++ y).cps.size = x.cps.size + y.cps.size
  rw [← Array.length_toList, app_cps, List.length_append, Array.length_toList, Array.length_toList]
theorem join_emp (ys : List Str) : Txt.join ("" : Str) ys = Str.join ⟨#[]⟩ ys := eq_of_beq (join_closes (by rfl))
theorem join_sign : ∀ ys : List Str, (∀ y ∈ ys, ∃ c, y = ⟨#[c]⟩ ∧ c ∈ letters.cps.toList) → (Str.join ⟨#[]⟩ ys).length = ys.length ∧ ∀ c ∈ (Str.join ⟨#[]⟩ ys).cps.toList, c ∈ letters.cps.toList
  | [], _ => ⟨rfl, fun c hc => by
    have : (Str.join ⟨#[]⟩ []).cps.toList = [] := rfl
    rw [this] at hc
    cases hc⟩
  | y :: r, h => by
    obtain ⟨c, rfl, hc⟩ := h y (by simp)
    obtain ⟨h1, h2⟩ := join_sign r fun z hz => h z (List.mem_cons_of_mem _ hz)
    rw [join_nil_cons]
    refine ⟨by rw [app_len, h1, List.length_cons]; show 1 + r.length = r.length + 1; omega, fun d hd => ?_⟩
    rw [app_cps] at hd
    rcases List.mem_append.mp hd with q | q
    · have : d = c := by simpa using q
      rw [this]
      exact hc
    · exact h2 d q
theorem join_name {ys : List Str} (h : ∀ y ∈ ys, ∃ c, y = ⟨#[c]⟩ ∧ c ∈ letters.cps.toList) (h1 : 1 ≤ ys.length) (h8 : ys.length ≤ 8) : NameOk (Txt.join ("" : Str) ys) := by
  obtain ⟨a, b⟩ := join_sign ys h
  rw [join_emp]
  exact ⟨by rw [a]; exact h1, by rw [a]; exact h8, b⟩
/-- another name, with z and a letter -/
def altW (x : Str) (c : Nat) : Str := cutS x none (some 6) ++ "z" ++ ⟨#[c]⟩
theorem cut6 (x : Str) : (cutS x none (some 6)).cps.toList = x.cps.toList.take 6 := by
  unfold cutS
  show ((x.cps.toList.drop 0).take (HT.sIx x.length x.length (some ((6 : Nat) : Int)) - 0)) = _
  rw [HT.sIx_nat, List.drop_zero, Nat.sub_zero]
  have : x.length = x.cps.toList.length := Array.length_toList.symm
  rw [this]
  by_cases h : 6 ≤ x.cps.toList.length
  · rw [Nat.min_eq_left h]
  · rw [Nat.min_eq_right (by omega), List.take_length, List.take_of_length_le (by omega)]
theorem alt_cps (x : Str) (c : Nat) : (altW x c).cps.toList = x.cps.toList.take 6 ++ [122] ++ [c] := by
  unfold altW
  rw [app_cps, app_cps, cut6]
  rfl
theorem alt_ok {x : Str} (h : NameOk x) {c : Nat} (hc : c ∈ letters.cps.toList) : NameOk (altW x c) := by
  have e : (altW x c).length = (x.cps.toList.take 6 ++ [122] ++ [c]).length := by
    rw [← alt_cps, Array.length_toList]
    rfl
  have e2 : (x.cps.toList.take 6 ++ [122] ++ [c]).length = min 6 x.cps.toList.length + 2 := by
    simp
  refine ⟨by rw [e, e2]; omega, by rw [e, e2]; omega, fun d hd => ?_⟩
  rw [alt_cps] at hd
  rcases List.mem_append.mp hd with q | q
  · rcases List.mem_append.mp q with q | q
    · exact h.all d (List.mem_of_mem_take q)
    · rw [List.mem_singleton.mp q]
      decide +kernel
  · rw [List.mem_singleton.mp q]
    exact hc
theorem alt_inj {x : Str} {c e : Nat} (h : altW x c = altW x e) : c = e := by
  have a := congrArg (fun s : Str => s.cps.toList) h
  simp only [alt_cps] at a
  have b := List.append_cancel_left a
  simpa using b
theorem alts_nodup (x : Str) : (letters.cps.toList.map (altW x)).Nodup := by
  have h : letters.cps.toList.Nodup := by decide +kernel
  exact G.nodup_map h fun a _ b _ e => alt_inj e
theorem alts_len (x : Str) : (letters.cps.toList.map (altW x)).length = 26 := by
  rw [List.length_map]
  decide +kernel
end GK
set_option Elab.async false
set_option linter.all false
set_option maxRecDepth 100000
set_option maxHeartbeats 4000000
namespace GK
open PySem PySem.Spec PyProof.Rows L2
section
variable {P : Program} {w : World} {K : PySem.W.Frag} {mg : Str → Option Value} {base : Heap} {CK CW : Addr}
/-- the state's dict -/
def stK (g c : Addr) (l t : Int) : List (Key × V) := [(Sum.inr "great", .ref g), (Sum.inr "cells", .ref c), (Sum.inr "left", .int l), (Sum.inr "turn", .int t)]
theorem kne {x y : Str} (h : (x == y) = false) : ¬ ((Sum.inr x : Key) = Sum.inr y) := fun e => by
  have := Sum.inr.inj e
  subst this
  simp at h
theorem st_great (g c : Addr) (l t : Int) : valV (stK g c l t) (Sum.inr "great") = some (.ref g) := valV_pos rfl
theorem st_cells (g c : Addr) (l t : Int) : valV (stK g c l t) (Sum.inr "cells") = some (.ref c) := (valV_neg (kne (by decide +kernel))).trans (valV_pos rfl)
theorem st_left (g c : Addr) (l t : Int) : valV (stK g c l t) (Sum.inr "left") = some (.int l) := (valV_neg (kne (by decide +kernel))).trans ((valV_neg (kne (by decide +kernel))).trans (valV_pos rfl))
theorem st_turn (g c : Addr) (l t : Int) : valV (stK g c l t) (Sum.inr "turn") = some (.int t) := (valV_neg (kne (by decide +kernel))).trans ((valV_neg (kne (by decide +kernel))).trans ((valV_neg (kne (by decide +kernel))).trans (valV_pos rfl)))
theorem st_put_left (g c : Addr) (l l' t : Int) : putK (stK g c l t) (Sum.inr "left") (.int l') = stK g c l' t := by
  unfold putK
  rw [valV_any, st_left, if_pos (by rfl)]
  unfold stK
  rw [List.map_cons, List.map_cons, List.map_cons, List.map_cons, List.map_nil, if_neg (kne (by decide +kernel)), if_neg (kne (by decide +kernel)), if_pos rfl, if_neg (kne (by decide +kernel))]
theorem st_put_turn (g c : Addr) (l t t' : Int) : putK (stK g c l t) (Sum.inr "turn") (.int t') = stK g c l t' := by
  unfold putK
  rw [valV_any, st_turn, if_pos (by rfl)]
  unfold stK
  rw [List.map_cons, List.map_cons, List.map_cons, List.map_cons, List.map_nil, if_neg (kne (by decide +kernel)), if_neg (kne (by decide +kernel)), if_neg (kne (by decide +kernel)), if_pos rfl]
/-- the state at d, its great numbers at g, after so many turns -/
structure StAt (K : PySem.W.Frag) (H : Hp) (d g c : Addr) (t : Nat) : Prop where
  ex : ∃ (l : Int) (gs cs : List Int), H d = some (.dK (stK g c l (t : Nat))) ∧ H g = some (.lst (gs.map V.int)) ∧ H c = some (.lst (cs.map V.int)) ∧ c ≠ g ∧ gs.length ≤ 63 ∧ cs.length ≤ 63
/-- all but the state stays -/
def Sf (d g : Addr) (H H' : Hp) : Prop := ∀ b o, b ≠ d → b ≠ g → H b = some o → H' b = some o
section
variable {d g : Addr} {H H' H2 : Hp}
theorem Sf.refl : Sf d g H H := fun _ _ _ _ h => h
theorem Sf.of (e : Same H H') : Sf d g H H' := fun b o _ _ h => e b o h
theorem Sf.trans (a : Sf d g H H') (b : Sf d g H' H2) : Sf d g H H2 := fun c o h1 h2 h => b c o h1 h2 (a c o h1 h2 h)
theorem Sf.mutd {o : HO} (a : Sf d g H H') : Sf d g H (upd H' d o) := fun b u h1 h2 h => by
  rw [upd_ne h1]
  exact a b u h1 h2 h
theorem Sf.mutg {o : HO} (a : Sf d g H H') : Sf d g H (upd H' g o) := fun b u h1 h2 h => by
  rw [upd_ne h2]
  exact a b u h1 h2 h
theorem Sf.tk {c : Addr} {t : Nat} (a : Sf d g H H') (s : StAt K H d g c t) : Tk H H' := by
  obtain ⟨l, gs, cs, hd, hg, _⟩ := s.ex
  exact ⟨fun b xs h => a b _ (ne_of h hd (by intro z; cases z)) (ne_of h hg (by intro z; cases z)) h, fun b u xs h => a b _ (ne_of h hd (by intro z; cases z)) (ne_of h hg (by intro z; cases z)) h⟩
/-- the state stays where its own objects stay -/
theorem StAt.same {c : Addr} {t : Nat} (e : Same H H') (s : StAt K H d g c t) : StAt K H' d g c t :=
  let ⟨l, gs, cs, hd, hg, hc, h⟩ := s.ex
  ⟨l, gs, cs, e _ _ hd, e _ _ hg, e _ _ hc, h⟩
end
theorem dp_int (l : List Int) {K : PySem.W.Frag} {H : Hp} : DpAll K H (l.map V.int) (l.map PyData.int) := by
  induction l with
  | nil => exact .nil
  | cons a r ih => exact .cons (.int a) ih
theorem shaped_intZ (l : List Int) : SeqAt.shaped (.list (l.map PyData.int)) = true := shaped_list 0 (by omega) (fun _ _ => int_lay _) fun _ _ => int_depth _
def spBegun (K : PySem.W.Frag) : Sp := fun vs H Q _ => ∃ (a : Addr) (ns : List Int), vs = [.ref a] ∧ SqL K H a (ns.map V.int) ∧ ns.length ≤ 63 ∧ ∀ (d g c : Addr) (H' : Hp), Same H H' → H d = none → H g = none → H c = none → StAt K H' d g c 0 → Q (.ref d) H'
theorem sc__law_begun : FnScope ["_law_script", "_law_great", "_law_cell"] ["_law_script"] (defScope s__law_begun) := ⟨rfl, rfl, rfl, by decide +kernel, rfl, by decide +kernel, by decide +kernel⟩
theorem ok__law_begun (D : DefAt K mg "_law_begun" s__law_begun) (T : Txt K mg CK CW)   : C8.Cal P w K mg base 1 "_law_begun" (spBegun K) [] := by
  refine cal_of D sc__law_begun (ps := ["_law_script"]) (fun _ _ _ _ _ _ us hl => match us, hl with | [_], _ => rfl) (fun vs H Q E h => ?_) fun f cdv A outer s H vs Q E hr h => ?_
  · obtain ⟨a, ns, rfl, ha, hl, q⟩ := h
    rfl
  · obtain ⟨a, ns, rfl, ha, hl, q⟩ := h
    refine ⟨_, (pss_cons (ps_setLc (i := 1) (own := [("_law_cell", 2)]) rfl sc__law_begun.nd rfl rfl (sw_true rfl rfl rfl (by decide +kernel)) (pi_list (pv 0)) (blkOk_by (own := [("_law_cell", 2)]) (N := ["_law_script", "_law_great", "_law_cell"]) (sc := defScope s__law_begun) (by decide +kernel)) (fun _ _ _ _ _ => pg_name (i := 2) sc__law_begun.nd rfl (Or.inl rfl)) (fun _ _ _ _ _ => (pts_one (pt_cmpR op_ge (pv 2) (pe_op op_pow pe_int pe_int) (nomark _)))) (fun _ _ _ _ _ => (pe_op op_sub (pv 2) (pe_op op_pow pe_int pe_int))))
    (pss_one (ps_ret (pe_disp (pps_cons pe_str (pv 1) (pps_cons pe_str (pe_callTy call_list_of (by rfl) T.b_list (by decide +kernel) (pa_cons (pv 0) pa_nil)) (pps_cons pe_str pe_int (pps_cons pe_str pe_int pps_nil)))) (by rfl) (by rfl) (fun z => by cases z) (by decide))))), ?_⟩
    -- slots: _law_script 0, _law_great 1, _law_cell 2
    refine ⟨_, rfl, a, rfl, ⟨_, ha⟩, fun g hg => ?_⟩
    have hnl : (ns.map V.int).length = ns.length := List.length_map ..
    refine lc_it walk_list (Told H g fun i => ((ns.take i).filter fun n => decide (10 ^ 18 ≤ n)).map fun n => V.int (n - 10 ^ 18)) (Told.start hg rfl) (fun i H' _ pv => pv.same.seq ha) (fun i z H' H'' hi pv y => ?_) fun H' pv => ?_
    · obtain ⟨rfl, hz⟩ := y
      rw [List.getElem?_map] at hz
      obtain ⟨n, hn, rfl⟩ := Option.map_eq_some_iff.mp hz
      refine ⟨rfl, ?_⟩
      refine ⟨_, rfl, _, _, rfl, rfl, ⟨by decide, by decide, by decide⟩, _, _, rfl, rfl, ?_⟩
      by_cases c : (10 : Int) ^ 18 ≤ n
      · refine ⟨true, bl_t c, ?_⟩
        show (if true = true then _ else _)
        rw [if_pos rfl]
        refine ⟨_, rfl, _, _, rfl, rfl, ⟨by decide, by decide, by decide⟩, _, _, rfl, rfl, ?_⟩
        refine pv.put hg (Same.refl _) ?_ ?_
        · rw [take_snoc hn, List.filter_append, List.map_append, List.filter_cons, if_pos (decide_eq_true c), List.filter_nil]
          rfl
        · rw [List.length_map]
          refine Nat.lt_of_le_of_lt (List.length_filter_le ..) ?_
          rw [List.length_take]
          omega
      · refine ⟨false, bl_f c, ?_⟩
        show (if false = true then _ else _)
        rw [if_neg (by decide)]
        refine pv.skip (Same.refl _) ?_
        rw [take_snoc hn, List.filter_append, List.map_append, List.filter_cons, if_neg (by rw [decide_eq_false c]; decide), List.filter_nil]
        simp
    · rw [hnl] at pv
      have s1 := pv.same
      have hga : H' g = some (.lst ((ns.filter fun n => decide (10 ^ 18 ≤ n)).map fun n => V.int (n - 10 ^ 18))) := by
        rw [pv.at_, List.take_length]
      refine fun d hd => ⟨_, rfl, _, rfl, a, _, rfl, .inl ((s1.trans (same_upd hd)).seq ha), fun c hc => ?_⟩
      have dc : d ≠ c := ne_of_none upd_same hc
      have hdg : d ≠ g := (ne_of_none hga hd).symm
      have hgc : g ≠ c := ne_of_none ((upd_ne hdg.symm).trans hga) hc
      refine ⟨(upd_ne dc).trans upd_same, [(Sum.inr "great", .ref g), (Sum.inr "cells", .ref c), (Sum.inr "left", .int 0), (Sum.inr "turn", .int 0)], rfl, by show 4 ≤ 15; decide, ?_⟩
      refine q d g c _ (same_mut ((s1.trans (same_upd hd)).trans (same_upd hc)) (s1.free hd)) (s1.free hd) hg ((s1.trans (same_upd hd)).free hc) ⟨0, (ns.filter fun n => decide (10 ^ 18 ≤ n)).map fun n => n - 10 ^ 18, ns, ?_, ?_, ?_, hgc.symm, ?_, hl⟩
      · rw [upd_same]
        have e : mergeK [] [(Sum.inr "great", V.ref g), (Sum.inr "cells", .ref c), (Sum.inr "left", .int 0), (Sum.inr "turn", .int 0)] = stK g c 0 (0 : Nat) := by
          unfold mergeK
          simp only [List.foldl_cons, List.foldl_nil]
          rw [putK_new _ valV_nil, List.nil_append]
          rw [putK_new _ ((valV_neg (kne (by decide +kernel))).trans valV_nil), List.cons_append, List.nil_append]
          rw [putK_new _ ((valV_neg (kne (by decide +kernel))).trans ((valV_neg (kne (by decide +kernel))).trans valV_nil)), List.cons_append, List.cons_append, List.nil_append]
          rw [putK_new _ ((valV_neg (kne (by decide +kernel))).trans ((valV_neg (kne (by decide +kernel))).trans ((valV_neg (kne (by decide +kernel))).trans valV_nil)))]
          rfl
        rw [e]
      · rw [upd_ne hdg.symm, upd_ne hgc, upd_ne hdg.symm, hga, List.map_map]
        rfl
      · rw [upd_ne dc.symm, upd_same]
      · rw [List.length_map]
        exact Nat.le_trans (List.length_filter_le ..) hl
end
end GK
set_option Elab.async false
set_option linter.all false
set_option maxRecDepth 100000
set_option maxHeartbeats 4000000
namespace GK
open PySem PySem.Spec PyProof.Rows L2
section
variable {P : Program} {w : World} {K : PySem.W.Frag} {mg : Str → Option Value} {base : Heap} {CK CW : Addr}
def spMixed (K : PySem.W.Frag) : Sp := fun vs H Q _ => ∃ (d g c : Addr) (t : Nat), vs = [.ref d] ∧ StAt K H d g c t ∧ t < 2 ^ 40 ∧ ∀ (i : Int) (H' : Hp), Sf d g H H' → StAt K H' d g c (t + 1) → Q (.int i) H'
theorem primes_ok {v : V} (h : v ∈ [V.int 2147483629, .int 2147483587, .int 2147483579, .int 2147483563, .int 2147483549, .int 2147483543]) : ∃ p : Int, v = .int p ∧ 2 < p ∧ p < 2 ^ 31 := by
  simp only [List.mem_cons, List.not_mem_nil, or_false] at h
  rcases h with rfl | rfl | rfl | rfl | rfl | rfl <;> exact ⟨_, rfl, by decide, by decide⟩
theorem sc__law_mixed : FnScope ["_law_state", "_law_found", "_law_prime", "_law_blend", "_law_cell"] ["_law_state"] (defScope s__law_mixed) := ⟨rfl, rfl, rfl, by decide +kernel, rfl, by decide +kernel, by decide +kernel⟩
theorem ok__law_mixed (D : DefAt K mg "_law_mixed" s__law_mixed) (T : Txt K mg CK CW)   : C8.Cal P w K mg base 1 "_law_mixed" (spMixed K) [] := by
  refine cal_of D sc__law_mixed (ps := ["_law_state"]) (fun _ _ _ _ _ _ us hl => match us, hl with | [_], _ => rfl) (fun vs H Q E h => ?_) fun f cdv A outer s H vs Q E hr h => ?_
  · obtain ⟨d, g, c, t, rfl, hS, ht, q⟩ := h
    rfl
  · obtain ⟨d, g, c, t, rfl, hS, ht, q⟩ := h
    have hu := hu_of hr
    refine ⟨_, (pss_cons (ps_dput hu (pv 0) pe_str (pe_op op_add (pe_dget hu (pv 0) pe_str (fun _ _ => rfl)) pe_int) rfl)
    (pss_cons (ps_set (i := 1) sc__law_mixed.nd rfl (Or.inl rfl) pe_int)
    (pss_cons (ps_for PassesOwn.never rfl (pi_list (pe_lst (pa_cons pe_int (pa_cons pe_int (pa_cons pe_int (pa_cons pe_int (pa_cons pe_int (pa_cons pe_int pa_nil)))))))) (pg_name (i := 2) sc__law_mixed.nd rfl (Or.inl rfl)) 
      (pss_cons (ps_set (i := 3) sc__law_mixed.nd rfl (Or.inl rfl) (pe_op op_add (pe_op op_mul pe_int (pe_dget hu (pv 0) pe_str (fun _ _ => rfl))) (pe_op op_fdiv (pv 2) pe_int)))
      (pss_cons (ps_for PassesOwn.never rfl (pi_list (pe_dget hu (pv 0) pe_str (fun _ _ => rfl))) (pg_name (i := 4) sc__law_mixed.nd rfl (Or.inl rfl)) 
        (pss_one (ps_set (i := 3) sc__law_mixed.nd rfl (Or.inl rfl) (pe_op op_mod (pe_op op_add (pe_op op_mul (pv 3) pe_int) (pv 4)) (pv 2)))))
      (pss_one (ps_set (i := 1) sc__law_mixed.nd rfl (Or.inl rfl) (pe_op op_add (pe_op op_mul (pv 1) pe_int) (pe_op op_mod (pe_op op_pow (pv 3) pe_int) (pv 2))))))))
    (pss_one (ps_ret (pv 1)))))), ?_⟩
    -- slots: _law_state 0, _law_found 1, _law_prime 2, _law_blend 3, _law_cell 4
    obtain ⟨l, gs, cs, hd, hg, hc, hcg, hgl, hcl⟩ := hS.ex
    have dg : d ≠ g := ne_of hd hg (by intro z; cases z)
    have cd : c ≠ d := ne_of hc hd (by intro z; cases z)
    refine ⟨_, rfl, d, _, rfl, dget_str hd (st_turn _ _ _ _), _, _, rfl, rfl, _, rfl, d, _, rfl, DPut.k (k := Sum.inr "turn") hd (by show 4 < sizeLine; decide), ?_⟩
    rw [st_put_turn]
    have f1 : Sf d g H (upd H d (.dK (stK g c l ((t : Nat) + 1)))) := Sf.refl.mutd
    have h1d : upd H d (.dK (stK g c l ((t : Nat) + 1))) d = some (.dK (stK g c l ((t : Nat) + 1))) := upd_same
    have h1g : upd H d (.dK (stK g c l ((t : Nat) + 1))) g = some (.lst (gs.map V.int)) := (upd_ne dg.symm).trans hg
    have h1c : upd H d (.dK (stK g c l ((t : Nat) + 1))) c = some (.lst (cs.map V.int)) := (upd_ne cd).trans hc
    generalize upd H d (.dK (stK g c l ((t : Nat) + 1))) = H1 at *
    refine ⟨by show 6 ≤ sizeLine; decide, fun PL hPL => ?_⟩
    have e2 : Same H1 (upd H1 PL (.lst [.int 2147483629, .int 2147483587, .int 2147483579, .int 2147483563, .int 2147483549, .int 2147483543])) := same_upd hPL
    have h2 : upd H1 PL (.lst [.int 2147483629, .int 2147483587, .int 2147483579, .int 2147483563, .int 2147483549, .int 2147483543]) PL = some (.lst [.int 2147483629, .int 2147483587, .int 2147483579, .int 2147483563, .int 2147483549, .int 2147483543]) := upd_same
    generalize upd H1 PL (.lst [.int 2147483629, .int 2147483587, .int 2147483579, .int 2147483563, .int 2147483549, .int 2147483543]) = H2 at *
    refine ⟨PL, rfl, ⟨_, SqL.of h2⟩, ?_⟩
    refine for_it walk_list (fun i σ H' => ∃ (f : Int) (n1 n2 n3 : Option V), σ = [some (.ref d), some (.int f), n1, n2, n3] ∧ Same H2 H') ⟨0, _, _, _, rfl, Same.refl _⟩ (fun i σ H' _ ⟨_, _, _, _, _, pv⟩ => SqL.of (pv _ _ h2)) (fun i z σ H' H'' hi pv y => ?_) fun σ H' pv => ?_
    · obtain ⟨rfl, hz⟩ := y
      obtain ⟨f', n1, n2, n3, rfl, s3⟩ := pv
      obtain ⟨p, rfl, p0, p1⟩ := primes_ok (List.mem_of_getElem? hz)
      have s13 := e2.trans s3
      refine ⟨_, rfl, d, _, rfl, dget_str (s13 _ _ h1d) (st_turn _ _ _ _), _, _, rfl, rfl, .inl ⟨by omega, by omega⟩, _, rfl, _, _, rfl, rfl, ⟨by omega, by omega⟩, _, _, rfl, rfl, ?_⟩
      have b0 : 0 ≤ 69997 * ((t : Int) + 1) + p / 11 := by
        have : 0 ≤ p / 11 := Int.ediv_nonneg (by omega) (by omega)
        omega
      have b1 : 69997 * ((t : Int) + 1) + p / 11 < 2 ^ 63 := by
        have : p / 11 ≤ p := Int.ediv_le_self _ (by omega)
        omega
      refine ⟨_, rfl, d, _, rfl, dget_str (s13 _ _ h1d) (st_cells _ _ _ _), ?_⟩
      refine ⟨c, rfl, ⟨_, SqL.of (s13 _ _ h1c)⟩, ?_⟩
      refine for_it walk_list (fun i σ H' => ∃ (B : Int) (n3 : Option V), σ = [some (.ref d), some (.int f'), some (.int p), some (.int B), n3] ∧ 0 ≤ B ∧ B < 2 ^ 63 ∧ Same H'' H') ⟨69997 * ((t : Int) + 1) + p / 11, _, rfl, b0, b1, Same.refl _⟩ (fun i σ H' _ ⟨_, _, _, _, _, pv⟩ => SqL.of ((s13.trans pv) _ _ h1c)) (fun i z σ H' H3 hi pv y => ?_) fun σ H' pv => ?_
      · obtain ⟨rfl, hz⟩ := y
        rw [List.getElem?_map] at hz
        obtain ⟨ce, hce, rfl⟩ := Option.map_eq_some_iff.mp hz
        obtain ⟨B', n4, rfl, q0, q1, s4⟩ := pv
        refine ⟨_, rfl, _, _, rfl, rfl, .inr ⟨by omega, by omega⟩, _, rfl, _, _, rfl, rfl, _, rfl, _, _, rfl, rfl, (by show 0 < p; omega), ?_⟩
        refine ⟨_, _, rfl, Int.emod_nonneg _ (by omega), ?_, s4⟩
        have := Int.emod_lt_of_pos (B' * 48271 + ce) (show 0 < p by omega)
        omega
      · obtain ⟨B', n4, rfl, q0, q1, s4⟩ := pv
        refine ⟨_, rfl, _, _, rfl, rfl, .inr ⟨by omega, by omega⟩, _, rfl, _, _, rfl, rfl, ⟨by omega, by omega, by omega⟩, _, rfl, _, _, rfl, rfl, (by show 0 < p; omega), _, _, rfl, rfl, ?_⟩
        exact ⟨_, _, _, _, rfl, s3.trans s4⟩
    · obtain ⟨f', n1, n2, n3, rfl, s3⟩ := pv
      have s13 := e2.trans s3
      exact ⟨_, rfl, q _ H' (f1.trans (Sf.of s13)) ⟨l, gs, cs, s13 _ _ h1d, s13 _ _ h1g, s13 _ _ h1c, hcg, hgl, hcl⟩⟩
theorem seq_nat {j n : Nat} (h : j < n) : seqIndex? ((j : Nat) : Int) n = some j := by
  rw [seqIndex_of (by omega) (by omega), Int.toNat_natCast]
def spTake (K : PySem.W.Frag) : Sp := fun vs H Q _ => ∃ (d g c : Addr) (t n : Nat), vs = [.ref d, .int (n : Nat)] ∧ StAt K H d g c t ∧ t < 2 ^ 40 ∧ 0 < n ∧ n < 2 ^ 8000 ∧ ∀ (i t' : Nat) (H' : Hp), i < n → Sf d g H H' → t' ≤ t + 1 → StAt K H' d g c t' → Q (.int (i : Nat)) H'
theorem sc__law_take : FnScope ["_law_state", "_law_size", "_law_found"] ["_law_state", "_law_size"] (defScope s__law_take) := ⟨rfl, rfl, rfl, by decide +kernel, rfl, by decide +kernel, by decide +kernel⟩
theorem ok__law_take (D : DefAt K mg "_law_take" s__law_take) (T : Txt K mg CK CW)  (c__law_mixed : C8.Cal P w K mg base 1 "_law_mixed" (spMixed K) []) : C8.Cal P w K mg base 2 "_law_take" (spTake K) [] := by
  refine cal_of D sc__law_take (ps := ["_law_state", "_law_size"]) (fun _ _ _ _ _ _ us hl => match us, hl with | [_, _], _ => rfl) (fun vs H Q E h => ?_) fun f cdv A outer s H vs Q E hr h => ?_
  · obtain ⟨d, g, c, t, n, rfl, hS, ht, n0, n1, q⟩ := h
    rfl
  · obtain ⟨d, g, c, t, n, rfl, hS, ht, n0, n1, q⟩ := h
    have hu := hu_of hr
    refine ⟨_, (pss_cons (ps_if (pt_cmpR op_eq (pe_dget hu (pv 0) pe_str (fun _ _ => rfl)) pe_int (nomark _)) 
      (pss_one (ps_dput hu (pv 0) pe_str (pe_ifExp (pt_cmpR (op_neD hr.units) (pe_dget hu (pv 0) pe_str (fun _ _ => rfl)) (pe_lst pa_nil) (nomark _)) (pe_bm PySem.F.plainAttrs_list PySem.F.slot_list_pop PySem.F.type_list_pop mt_popAt (pe_dget hu (pv 0) pe_str (fun _ _ => rfl)) (pa_cons pe_int pa_nil)) (C8.pe_c c__law_mixed hr (by omega) rfl (pa_cons (pv 0) pa_nil))) rfl)) pss_nil)
    (pss_cons (ps_set (i := 2) sc__law_take.nd rfl (Or.inl rfl) (pe_op op_mod (pe_dget hu (pv 0) pe_str (fun _ _ => rfl)) (pv 1)))
    (pss_cons (ps_dput hu (pv 0) pe_str (pe_op op_fdivW (pe_dget hu (pv 0) pe_str (fun _ _ => rfl)) (pv 1)) rfl)
    (pss_one (ps_ret (pv 2)))))), ?_⟩
    -- slots: _law_state 0, _law_size 1, _law_found 2
    obtain ⟨l, gs, cs, hd, hg, hc, hcg, hgl, hcl⟩ := hS.ex
    have dg : d ≠ g := ne_of hd hg (by intro z; cases z)
    have cd : c ≠ d := ne_of hc hd (by intro z; cases z)
    refine ⟨_, rfl, d, _, rfl, dget_str hd (st_left _ _ _ _), rfl, _, rfl, ?_⟩
    have np : (0 : Int) < ((n : Nat) : Int) := by omega
    have nw : CDivW 0 ((n : Nat) : Int) := ⟨np, by
      rw [Int.natAbs_natCast]
      have : n.log2 < 8000 := (Nat.log2_lt (by omega)).mpr n1
      omega⟩
    by_cases c0 : l = 0
    · subst c0
      rw [decide_eq_true (rfl : V.int 0 = V.int 0)]
      refine iteT ?_
      refine ⟨_, rfl, d, _, rfl, dget_str hd (st_great _ _ _ _), Nat.zero_le _, fun e he => ?_⟩
      have e1 : Same H (upd H e (.lst [])) := same_upd he
      have h1 : upd H e (.lst []) e = some (.lst []) := upd_same
      generalize upd H e (.lst []) = H1 at *
      refine ⟨_, _, .lst (SqL.of (e1 _ _ hg)) (dp_int _), .lst (SqL.of h1) .nil, shaped_intZ _, rfl, ?_⟩
      rw [eqv_nil]
      cases gs with
      | cons z gs =>
        refine ⟨true, rfl, ?_⟩
        show (if true = true then _ else _)
        rw [if_pos rfl]
        refine ⟨_, rfl, d, _, rfl, dget_str (e1 _ _ hd) (st_great _ _ _ _), .inl ⟨rfl, _, SqL.of (e1 _ _ hg)⟩, g, _, 0, 0, .int z, rfl, rfl, e1 _ _ hg, by decide, by decide, seq_nat (j := 0) (by rw [List.length_map, List.length_cons]; omega), rfl, ?_⟩
        rw [show ((z :: gs).map V.int).eraseIdx 0 = gs.map V.int from rfl]
        have dg1 : upd H1 g (.lst (gs.map V.int)) d = some (.dK (stK g c 0 (t : Nat))) := (upd_ne dg).trans (e1 _ _ hd)
        have f1 : Sf d g H (upd H1 g (.lst (gs.map V.int))) := (Sf.of e1).mutg
        have g1 : upd H1 g (.lst (gs.map V.int)) g = some (.lst (gs.map V.int)) := upd_same
        have c1 : upd H1 g (.lst (gs.map V.int)) c = some (.lst (cs.map V.int)) := (upd_ne hcg).trans (e1 _ _ hc)
        refine ⟨_, rfl, d, _, rfl, DPut.k (k := Sum.inr "left") dg1 (by show 4 < sizeLine; decide), ?_⟩
        rw [st_put_left]
        have f2 := f1.mutd (o := .dK (stK g c z (t : Nat)))
        have d2 : upd (upd H1 g (.lst (gs.map V.int))) d (.dK (stK g c z (t : Nat))) d = some (.dK (stK g c z (t : Nat))) := upd_same
        have g2 := (upd_ne (o := .dK (stK g c z (t : Nat))) dg.symm).trans g1
        have c2 := (upd_ne (o := .dK (stK g c z (t : Nat))) cd).trans c1
        generalize upd (upd H1 g (.lst (gs.map V.int))) d (.dK (stK g c z (t : Nat))) = H2 at *
        refine ⟨_, rfl, d, _, rfl, dget_str d2 (st_left _ _ _ _), _, rfl, _, _, rfl, rfl, np, ?_⟩
        refine ⟨_, rfl, d, _, rfl, dget_str d2 (st_left _ _ _ _), _, rfl, _, _, rfl, rfl, nw, _, rfl, d, _, rfl, DPut.k (k := Sum.inr "left") d2 (by show 4 < sizeLine; decide), ?_⟩
        rw [st_put_left]
        refine ⟨_, rfl, ?_⟩
        have z0 := Int.emod_nonneg z (show ((n : Nat) : Int) ≠ 0 by omega)
        have z1 := Int.emod_lt_of_pos z np
        have z2 : (((z % (n : Nat)).toNat : Nat) : Int) = z % (n : Nat) := Int.toNat_of_nonneg z0
        have := q (z % (n : Nat)).toNat t (upd H2 d (.dK (stK g c (z / (n : Nat)) (t : Nat)))) (by omega) f2.mutd (by omega) ⟨_, gs, cs, upd_same, (upd_ne dg.symm).trans g2, (upd_ne cd).trans c2, hcg, by rw [List.length_cons] at hgl; omega, hcl⟩
        rw [z2] at this
        exact this
      | nil =>
        refine ⟨false, rfl, ?_⟩
        show (if false = true then _ else _)
        rw [if_neg (by decide)]
        refine ⟨_, rfl, d, g, c, t, rfl, hS.same e1, ht, fun z H3 f3 hS3 => ?_⟩
        obtain ⟨l3, gs3, cs3, hd3, hg3, hc, hcg4, hgl3, hcl3⟩ := hS3.ex
        have cd3 : c ≠ d := ne_of hc hd3 (by intro z; cases z)
        have f4 := (Sf.of (d := d) (g := g) e1).trans f3
        refine ⟨_, rfl, d, _, rfl, DPut.k (k := Sum.inr "left") hd3 (by show 4 < sizeLine; decide), ?_⟩
        rw [st_put_left]
        have f2 := f4.mutd (o := .dK (stK g c z (t + 1 : Nat)))
        have d2 : upd H3 d (.dK (stK g c z (t + 1 : Nat))) d = some (.dK (stK g c z (t + 1 : Nat))) := upd_same
        have g2 := (upd_ne (o := .dK (stK g c z (t + 1 : Nat))) dg.symm).trans hg3
        have c2 := (upd_ne (o := .dK (stK g c z (t + 1 : Nat))) cd3).trans hc
        generalize upd H3 d (.dK (stK g c z (t + 1 : Nat))) = H2 at *
        refine ⟨_, rfl, d, _, rfl, dget_str d2 (st_left _ _ _ _), _, rfl, _, _, rfl, rfl, np, ?_⟩
        refine ⟨_, rfl, d, _, rfl, dget_str d2 (st_left _ _ _ _), _, rfl, _, _, rfl, rfl, nw, _, rfl, d, _, rfl, DPut.k (k := Sum.inr "left") d2 (by show 4 < sizeLine; decide), ?_⟩
        rw [st_put_left]
        refine ⟨_, rfl, ?_⟩
        have z0 := Int.emod_nonneg z (show ((n : Nat) : Int) ≠ 0 by omega)
        have z1 := Int.emod_lt_of_pos z np
        have z2 : (((z % (n : Nat)).toNat : Nat) : Int) = z % (n : Nat) := Int.toNat_of_nonneg z0
        have := q (z % (n : Nat)).toNat (t + 1) (upd H2 d (.dK (stK g c (z / (n : Nat)) (t + 1 : Nat)))) (by omega) f2.mutd (by omega) ⟨_, gs3, cs3, upd_same, (upd_ne dg.symm).trans g2, (upd_ne cd3).trans c2, hcg4, hgl3, hcl3⟩
        rw [z2] at this
        exact this
    · rw [decide_eq_false (fun e : V.int l = V.int 0 => c0 (V.int.inj e))]
      refine iteF ?_
      refine ⟨_, rfl, d, _, rfl, dget_str hd (st_left _ _ _ _), _, rfl, _, _, rfl, rfl, np, ?_⟩
      refine ⟨_, rfl, d, _, rfl, dget_str hd (st_left _ _ _ _), _, rfl, _, _, rfl, rfl, nw, _, rfl, d, _, rfl, DPut.k (k := Sum.inr "left") hd (by show 4 < sizeLine; decide), ?_⟩
      rw [st_put_left]
      refine ⟨_, rfl, ?_⟩
      have z0 := Int.emod_nonneg l (show ((n : Nat) : Int) ≠ 0 by omega)
      have z1 := Int.emod_lt_of_pos l np
      have z2 : (((l % (n : Nat)).toNat : Nat) : Int) = l % (n : Nat) := Int.toNat_of_nonneg z0
      have := q (l % (n : Nat)).toNat t (upd H d (.dK (stK g c (l / (n : Nat)) (t : Nat)))) (by omega) (Sf.refl.mutd) (by omega) ⟨_, gs, cs, upd_same, (upd_ne dg.symm).trans hg, (upd_ne cd).trans hc, hcg, hgl, hcl⟩
      rw [z2] at this
      exact this
end
end GK
set_option Elab.async false
set_option linter.all false
set_option maxRecDepth 100000
set_option maxHeartbeats 4000000
namespace GK
open PySem PySem.Spec PyProof.Rows L2
section
variable {P : Program} {w : World} {K : PySem.W.Frag} {mg : Str → Option Value} {base : Heap} {CK CW : Addr}
theorem Sf.seq {d g p : Addr} {H H' : Hp} {c : Addr} {t : Nat} {xs : List V} (f : Sf d g H H') (s : StAt K H d g c t) (hp : p ≠ g) (h : SqL K H p xs) : SqL K H' p xs := by
  obtain ⟨l, gs, cs, hd, hg, _⟩ := s.ex
  rcases h with (h | ⟨u, h⟩) | h
  · exact .inl (.inl (f _ _ (ne_of h hd (by intro z; cases z)) hp h))
  · exact .inl (.inr ⟨u, f _ _ (ne_of h hd (by intro z; cases z)) hp h⟩)
  · exact .inr h
/-- a new thing is not the state's -/
theorem StAt.ng {d g c p : Addr} {H : Hp} {t : Nat} (s : StAt K H d g c t) (h : H p = none) : p ≠ g ∧ p ≠ d ∧ p ≠ c := by
  obtain ⟨l, gs, cs, hd, hg, hc, _⟩ := s.ex
  exact ⟨(ne_of_none hg h).symm, (ne_of_none hd h).symm, (ne_of_none hc h).symm⟩
/-- what the state doesn't know may change -/
theorem StAt.mut {d g c p : Addr} {H : Hp} {t : Nat} {o : HO} (s : StAt K H d g c t) (h : p ≠ g ∧ p ≠ d ∧ p ≠ c) : StAt K (upd H p o) d g c t := by
  obtain ⟨l, gs, cs, hd, hg, hc, hh⟩ := s.ex
  exact ⟨l, gs, cs, (upd_ne h.2.1.symm).trans hd, (upd_ne h.1.symm).trans hg, (upd_ne h.2.2.symm).trans hc, hh⟩
theorem Sf.mutN {d g p : Addr} {H H' : Hp} {o : HO} (f : Sf d g H H') (h : H p = none) : Sf d g H (upd H' p o) := fun b u x1 x2 hb => by
  rw [upd_ne (ne_of_none hb h)]
  exact f b u x1 x2 hb
theorem big_ok {n : Nat} (hn : n ≤ 100000) : n < 2 ^ 8000 := Nat.lt_of_le_of_lt hn (Nat.lt_of_lt_of_le (by decide : 100000 < 2 ^ 20) (Nat.pow_le_pow_right (by decide) (by decide)))
def spPick (K : PySem.W.Frag) : Sp := fun vs H Q _ => ∃ (d g c : Addr) (t : Nat) (x : V), vs = [.ref d, x] ∧ StAt K H d g c t ∧ t < 2 ^ 40 ∧
  ((∃ (p : Addr) (xs : List V), x = .ref p ∧ p ≠ g ∧ SqL K H p xs ∧ 0 < xs.length ∧ xs.length ≤ 100000 ∧ ∀ (i t' : Nat) (v : V) (H' : Hp), xs[i]? = some v → Sf d g H H' → t' ≤ t + 1 → StAt K H' d g c t' → Q v H') ∨
   (∃ z : Str, x = .str z ∧ 0 < z.length ∧ z.length ≤ 100000 ∧ ∀ (s : Nat) (t' : Nat) (H' : Hp), s ∈ z.cps.toList → Sf d g H H' → t' ≤ t + 1 → StAt K H' d g c t' → Q (.str ⟨#[s]⟩) H'))
theorem sc__law_pick : FnScope ["_law_state", "_law_some"] ["_law_state", "_law_some"] (defScope s__law_pick) := ⟨rfl, rfl, rfl, by decide +kernel, rfl, by decide +kernel, by decide +kernel⟩
theorem ok__law_pick (D : DefAt K mg "_law_pick" s__law_pick) (T : Txt K mg CK CW)  (c__law_take : C8.Cal P w K mg base 2 "_law_take" (spTake K) []) : C8.Cal P w K mg base 3 "_law_pick" (spPick K) [] := by
  refine cal_of D sc__law_pick (ps := ["_law_state", "_law_some"]) (fun _ _ _ _ _ _ us hl => match us, hl with | [_, _], _ => rfl) (fun vs H Q E h => ?_) fun f cdv A outer s H vs Q E hr h => ?_
  · obtain ⟨d, g, c, t, x, rfl, hS, ht, hx⟩ := h
    rfl
  · obtain ⟨d, g, c, t, x, rfl, hS, ht, hx⟩ := h
    refine ⟨_, (pss_one (ps_ret (pe_ix ix_seq (pv 1) (C8.pe_c c__law_take hr (by omega) rfl (pa_cons (pv 0) (pa_cons (pe_callB call_len (by rfl) T.b_len (by decide +kernel) (pa_cons (pv 1) pa_nil)) pa_nil))) (fun _ _ => rfl)))), ?_⟩
    -- slots: _law_state 0, _law_some 1
    rcases hx with ⟨p, xs, rfl, hp, hs, h0, h1, q⟩ | ⟨z, rfl, h0, h1, q⟩
    · refine ⟨_, rfl, _, rfl, _, rfl, .ref p, xs.length, rfl, .inl ⟨xs, hs, rfl⟩, d, g, c, t, xs.length, rfl, hS, ht, h0, big_ok h1, fun i t' H' hi f' ht' hS' => ?_⟩
      refine .inl ⟨p, xs, i, xs[i], rfl, rfl, f'.seq hS hp hs, atI_nat (List.getElem?_eq_getElem hi), q i t' _ H' (List.getElem?_eq_getElem hi) f' ht' hS'⟩
    · refine ⟨_, rfl, _, rfl, _, rfl, .str z, z.length, rfl, ⟨sz_le h1, rfl⟩, d, g, c, t, z.length, rfl, hS, ht, h0, big_ok h1, fun i t' H' hi f' ht' hS' => ?_⟩
      have hi' : i < z.cps.toList.length := hi
      refine .inr (.inr ⟨z, i, z.cps.toList[i], rfl, rfl, sz_le h1, atI_nat (List.getElem?_eq_getElem hi'), q _ t' H' (List.getElem_mem hi') f' ht' hS'⟩)
theorem erase_map {α β : Type} (f : α → β) : ∀ (l : List α) (i : Nat), (l.map f).eraseIdx i = (l.eraseIdx i).map f
  | [], _ => rfl
  | _ :: _, 0 => rfl
  | a :: r, i + 1 => by
    rw [List.map_cons, List.eraseIdx_cons_succ, List.eraseIdx_cons_succ, List.map_cons, erase_map f r i]
theorem pick_perm {α : Type} : ∀ (l : List α) (i : Nat) (h : i < l.length), (l[i] :: l.eraseIdx i).Perm l
  | [], _, h => by simp at h
  | a :: r, 0, _ => List.Perm.refl _
  | a :: r, i + 1, h => by
    have h' : i < r.length := by simpa using h
    rw [List.eraseIdx_cons_succ, List.getElem_cons_succ]
    refine (List.Perm.swap a r[i] _).trans ?_
    exact List.Perm.cons a (pick_perm r i h')
def spOrder (K : PySem.W.Frag) : Sp := fun vs H Q _ => ∃ (d g c p : Addr) (t : Nat) (xs : List Str), vs = [.ref d, .ref p] ∧ StAt K H d g c t ∧ t < 2 ^ 39 ∧ SqL K H p (xs.map V.str) ∧ xs.length ≤ 12 ∧ (∀ x ∈ xs, TOk x) ∧
  ∀ (L : Addr) (t' : Nat) (ys : List Str) (H' : Hp), H L = none → H' L = some (.lst (ys.map V.str)) → ys.Perm xs → Sf d g H H' → t' ≤ t + 12 → StAt K H' d g c t' → Q (.ref L) H'
theorem sc__law_order : FnScope ["_law_state", "_law_some", "_law_stock", "_law_found"] ["_law_state", "_law_some"] (defScope s__law_order) := ⟨rfl, rfl, rfl, by decide +kernel, rfl, by decide +kernel, by decide +kernel⟩
theorem ok__law_order (D : DefAt K mg "_law_order" s__law_order) (T : Txt K mg CK CW)  (c__law_take : C8.Cal P w K mg base 2 "_law_take" (spTake K) []) : C8.Cal P w K mg base 3 "_law_order" (spOrder K) [] := by
  refine cal_of D sc__law_order (ps := ["_law_state", "_law_some"]) (fun _ _ _ _ _ _ us hl => match us, hl with | [_, _], _ => rfl) (fun vs H Q E h => ?_) fun f cdv A outer s H vs Q E hr h => ?_
  · obtain ⟨d, g, c, p, t, xs, rfl, hS, ht, hp, hl, hok, q⟩ := h
    rfl
  · obtain ⟨d, g, c, p, t, xs, rfl, hS, ht, hp, hl, hok, q⟩ := h
    refine ⟨_, (pss_cons (ps_par (i := 2) (j := 3) rfl sc__law_order.nd rfl rfl (by decide) rfl rfl (pa_cons (pe_callTy call_list_of (by rfl) T.b_list (by decide +kernel) (pa_cons (pv 1) pa_nil)) (pa_cons (pe_lst pa_nil) pa_nil)) (by rfl))
    (pss_cons (ps_while PassesOwn.never (pt_cmpR (op_neD hr.units) (pv 2) (pe_lst pa_nil) (nomark _)) 
      (pss_one (ps_expr (pe_bm PySem.F.plainAttrs_list PySem.F.slot_list_append PySem.F.type_list_append mt_append (pv 3) (pa_cons (pe_bm PySem.F.plainAttrs_list PySem.F.slot_list_pop PySem.F.type_list_pop mt_popAt (pv 2) (pa_cons (C8.pe_c c__law_take hr (by omega) rfl (pa_cons (pv 0) (pa_cons (pe_callB call_len_seq (by rfl) T.b_len (by decide +kernel) (pa_cons (pv 2) pa_nil)) pa_nil))) pa_nil)) pa_nil)))))
    (pss_one (ps_ret (pv 3))))), ?_⟩
    -- slots: _law_state 0, _law_some 1, _law_stock 2, _law_found 3
    refine ⟨_, rfl, p, _, rfl, .inl hp, fun A0 hA0 => ?_⟩
    have e1 : Same H (upd H A0 (.lst (xs.map V.str))) := same_upd hA0
    have h1 : upd H A0 (.lst (xs.map V.str)) A0 = some (.lst (xs.map V.str)) := upd_same
    generalize upd H A0 (.lst (xs.map V.str)) = H1 at *
    refine ⟨Nat.zero_le _, fun B hB => ?_⟩
    have e2 : Same H1 (upd H1 B (.lst [])) := same_upd hB
    have h2 : upd H1 B (.lst []) B = some (.lst []) := upd_same
    have AB : A0 ≠ B := ne_of_none h1 hB
    have hBH : H B = none := e1.free hB
    generalize upd H1 B (.lst []) = H2 at *
    have Ag := hS.ng hA0
    have Bg := hS.ng hBH
    refine ⟨_, _, rfl, ?_⟩
    refine ⟨fun n σ H' => ∃ (us ys : List Str) (t' : Nat), σ = [some (.ref d), some (.ref p), some (.ref A0), some (.ref B)] ∧ n = us.length ∧ H' A0 = some (.lst (us.map V.str)) ∧ H' B = some (.lst (ys.map V.str)) ∧ (us ++ ys).Perm xs ∧ Sf d g H H' ∧ t' ≤ t + ys.length ∧ StAt K H' d g c t', ?_, ?_⟩
    · exact ⟨_, xs, [], t, rfl, rfl, e2 _ _ h1, h2, by simp, Sf.of (e1.trans e2), by simp, hS.same (e1.trans e2)⟩
    · rintro n σ H' ⟨us, ys, t', rfl, hn, hA, hB', hperm, f', ht', hS'⟩
      have hlen := hperm.length_eq
      rw [List.length_append] at hlen
      have hus : ∀ x ∈ us, TOk x := fun x hx => hok x (hperm.mem_iff.mp (List.mem_append_left _ hx))
      refine ⟨_, rfl, Nat.zero_le _, fun e he => ?_⟩
      have e3 : Same H' (upd H' e (.lst [])) := same_upd he
      have h3 : upd H' e (.lst []) e = some (.lst []) := upd_same
      generalize upd H' e (.lst []) = H3 at *
      refine ⟨_, _, dp_strL (SqL.of (e3 _ _ hA)), .lst (SqL.of h3) .nil, shaped_strL hus, rfl, ?_⟩
      rw [eqv_nil]
      have f3 := f'.trans (Sf.of (d := d) (g := g) e3)
      have hS3 := hS'.same e3
      cases us with
      | nil =>
        refine ⟨_, rfl, ?_⟩
        refine iteF ?_
        refine ⟨_, rfl, ?_⟩
        rw [List.length_nil, Nat.zero_add] at hlen
        exact q B t' ys H3 hBH (e3 _ _ hB') (by simpa using hperm) f3 (by omega) hS3
      | cons u us =>
        refine ⟨true, rfl, ?_⟩
        refine iteT ?_
        refine ⟨_, fun σ' H2 n => n, ?_⟩
        have hul : ((u :: us).map V.str).length = us.length + 1 := by rw [List.length_map, List.length_cons]
        rw [List.length_cons] at hlen
        refine ⟨_, rfl, .inl ⟨rfl, _, SqL.of (e3 _ _ hB')⟩, _, rfl, .inl ⟨rfl, _, SqL.of (e3 _ _ hA)⟩, _, rfl, _, rfl, A0, _, rfl, .inl (SqL.of (e3 _ _ hA)), ?_⟩
        rw [hul]
        refine ⟨d, g, c, t', us.length + 1, rfl, hS3, by omega, by omega, big_ok (by omega), fun i t2 H4 hi f4 ht2 hS4 => ?_⟩
        have hA4 := f4 _ _ Ag.2.1 Ag.1 (e3 _ _ hA)
        have hB4 := f4 _ _ Bg.2.1 Bg.1 (e3 _ _ hB')
        have hi' : i < (u :: us).length := by rw [List.length_cons]; exact hi
        have hget : ((u :: us).map V.str)[i]? = some (.str (u :: us)[i]) := by
          rw [List.getElem?_map, List.getElem?_eq_getElem hi']
          rfl
        refine ⟨A0, _, i, i, .str (u :: us)[i], rfl, rfl, hA4, by omega, by omega, seq_nat (by rw [hul]; exact hi), hget, ?_⟩
        rw [erase_map]
        have hA5 : upd H4 A0 (.lst (((u :: us).eraseIdx i).map V.str)) A0 = some (.lst (((u :: us).eraseIdx i).map V.str)) := upd_same
        have hB5 : upd H4 A0 (.lst (((u :: us).eraseIdx i).map V.str)) B = some (.lst (ys.map V.str)) := (upd_ne AB.symm).trans hB4
        have f5 := (f3.trans f4).mutN (o := .lst (((u :: us).eraseIdx i).map V.str)) hA0
        have hS5 := hS4.mut (o := .lst (((u :: us).eraseIdx i).map V.str)) Ag
        generalize upd H4 A0 (.lst (((u :: us).eraseIdx i).map V.str)) = H5 at *
        refine ⟨B, _, .str (u :: us)[i], rfl, rfl, hB5, sz_lt (by rw [List.length_map]; omega), ?_⟩
        refine ⟨((u :: us).eraseIdx i).length, ?_, (u :: us).eraseIdx i, ys ++ [(u :: us)[i]], t2, rfl, rfl, (upd_ne AB).trans hA5, ?_, ?_, f5.mutN hBH, ?_, hS5.mut Bg⟩
        · rw [hn, List.length_eraseIdx_of_lt hi']
          omega
        · rw [upd_same, List.map_append]
          rfl
        · refine List.Perm.trans ?_ hperm
          have h9 := pick_perm (u :: us) i hi'
          rw [← List.append_assoc]
          refine List.Perm.trans List.perm_append_comm ?_
          rw [← List.append_assoc]
          exact List.Perm.append_right _ h9
        · rw [List.length_append]
          simp
          omega
end
end GK
set_option Elab.async false
set_option linter.all false
set_option maxRecDepth 100000
set_option maxHeartbeats 4000000
namespace GK
open PySem PySem.Spec PyProof.Rows L2
section
variable {P : Program} {w : World} {K : PySem.W.Frag} {mg : Str → Option Value} {base : Heap} {CK CW : Addr}
theorem sc__law_common : FnScope ["_law_one", "_law_other"] ["_law_one", "_law_other"] (defScope s__law_common) := ⟨rfl, rfl, rfl, by decide +kernel, rfl, by decide +kernel, by decide +kernel⟩
theorem ok__law_common (D : DefAt K mg "_law_common" s__law_common) (T : Txt K mg CK CW)   : C8.Cal P w K mg base 1 "_law_common" spGcd [] := by
  refine cal_of D sc__law_common (ps := ["_law_one", "_law_other"]) (fun _ _ _ _ _ _ us hl => match us, hl with | [_, _], _ => rfl) (fun vs H Q E h => ?_) fun f cdv A outer s H vs Q E hr h => ?_
  · obtain ⟨a, b, rfl, q⟩ := h
    rfl
  · obtain ⟨a, b, rfl, q⟩ := h
    refine ⟨_, (pss_cons (ps_while PassesOwn.never (pt_cmpR op_ne (pv 1) pe_int (nomark _)) 
      (pss_one (ps_par (i := 0) (j := 1) rfl sc__law_common.nd rfl rfl (by decide) rfl rfl (pa_cons (pv 1) (pa_cons (pe_op op_mod (pv 0) (pv 1)) pa_nil)) (by rfl))))
    (pss_one (ps_ret (pv 0)))), ?_⟩
    -- slots: _law_one 0, _law_other 1
    refine ⟨fun m σ H' => ∃ x y : Nat, σ = [some (.int x), some (.int y)] ∧ m = y ∧ H' = H ∧ Nat.gcd x y = Nat.gcd a b, ⟨b, a, b, rfl, rfl, rfl, rfl⟩, ?_⟩
    rintro m σ H' ⟨x, y, rfl, hm, rfl, e⟩
    subst hm
    refine ⟨_, rfl, rfl, _, rfl, ?_⟩
    by_cases hy : m = 0
    · subst hy
      refine iteF ?_
      refine ⟨_, rfl, ?_⟩
      rw [Nat.gcd_zero_right] at e
      rw [e]
      exact q
    · have hy0 : (V.int (m : Int)) ≠ V.int 0 := fun z => hy (by have := V.int.inj z; omega)
      rw [decide_eq_false hy0]
      refine iteT ?_
      refine ⟨_, fun σ' H2 n => n, ?_⟩
      refine ⟨_, rfl, _, rfl, _, rfl, _, _, rfl, rfl, (by show (0 : Int) < m; omega), _, _, rfl, ?_⟩
      exact ⟨x % m, Nat.mod_lt _ (Nat.pos_of_ne_zero hy), m, x % m, rfl, rfl, rfl, by rw [← e, Nat.gcd_comm x m, Nat.gcd_rec m x, Nat.gcd_comm]⟩
theorem wides_ok {v : V} (h : v ∈ [V.int 1, .int 1, .int 2, .int 3, .int 4, .int 5, .int 6, .int 7, .int 8, .int 9, .int 10, .int 11, .int 12, .int 60, .int 2520, .int 27720, .int 35, .int 1001, .int (10 ^ 9 + 7), .int (2 ^ 60 * 81)]) : ∃ m : Nat, v = .int (m : Nat) ∧ 0 < m ∧ m ≤ 2 ^ 67 := by
  simp only [List.mem_cons, List.not_mem_nil, or_false] at h
  rcases h with h | h | h | h | h | h | h | h | h | h | h | h | h | h | h | h | h | h | h | h
  · exact ⟨1, h, by decide, by decide⟩
  · exact ⟨1, h, by decide, by decide⟩
  · exact ⟨2, h, by decide, by decide⟩
  · exact ⟨3, h, by decide, by decide⟩
  · exact ⟨4, h, by decide, by decide⟩
  · exact ⟨5, h, by decide, by decide⟩
  · exact ⟨6, h, by decide, by decide⟩
  · exact ⟨7, h, by decide, by decide⟩
  · exact ⟨8, h, by decide, by decide⟩
  · exact ⟨9, h, by decide, by decide⟩
  · exact ⟨10, h, by decide, by decide⟩
  · exact ⟨11, h, by decide, by decide⟩
  · exact ⟨12, h, by decide, by decide⟩
  · exact ⟨60, h, by decide, by decide⟩
  · exact ⟨2520, h, by decide, by decide⟩
  · exact ⟨27720, h, by decide, by decide⟩
  · exact ⟨35, h, by decide, by decide⟩
  · exact ⟨1001, h, by decide, by decide⟩
  · exact ⟨1000000007, h, by decide, by decide⟩
  · exact ⟨2 ^ 60 * 81, h, by decide, by decide⟩
def spARest (K : PySem.W.Frag) : Sp := fun vs H Q _ => ∃ (d g c : Addr) (t : Nat), vs = [.ref d] ∧ StAt K H d g c t ∧ t < 2 ^ 39 ∧
  ∀ (v : V) (r : Nat × Nat) (t' : Nat) (H' : Hp), r.1 < r.2 → r.2 ≤ 2 ^ 67 → RestAt K H' v r → Sf d g H H' → t' ≤ t + 2 → StAt K H' d g c t' → Q v H'
theorem sc__law_a_rest : FnScope ["_law_state", "_law_some", "_law_wide"] ["_law_state"] (defScope s__law_a_rest) := ⟨rfl, rfl, rfl, by decide +kernel, rfl, by decide +kernel, by decide +kernel⟩
theorem ok__law_a_rest (D : DefAt K mg "_law_a_rest" s__law_a_rest) (T : Txt K mg CK CW)  (c__law_take : C8.Cal P w K mg base 2 "_law_take" (spTake K) []) (c__law_pick : C8.Cal P w K mg base 3 "_law_pick" (spPick K) []) : C8.Cal P w K mg base 4 "_law_a_rest" (spARest K) [] := by
  refine cal_of D sc__law_a_rest (ps := ["_law_state"]) (fun _ _ _ _ _ _ us hl => match us, hl with | [_], _ => rfl) (fun vs H Q E h => ?_) fun f cdv A outer s H vs Q E hr h => ?_
  · obtain ⟨d, g, c, t, rfl, hS, ht, q⟩ := h
    rfl
  · obtain ⟨d, g, c, t, rfl, hS, ht, q⟩ := h
    refine ⟨_, (pss_cons (ps_set (i := 1) sc__law_a_rest.nd rfl (Or.inl rfl) (pe_lst (pa_cons pe_int (pa_cons pe_int (pa_cons pe_int (pa_cons pe_int (pa_cons pe_int (pa_cons pe_int (pa_cons pe_int (pa_cons pe_int (pa_cons pe_int (pa_cons pe_int (pa_cons pe_int (pa_cons pe_int (pa_cons pe_int (pa_cons pe_int (pa_cons pe_int (pa_cons pe_int (pa_cons pe_int (pa_cons pe_int (pa_cons (pe_op op_add (pe_op op_pow pe_int pe_int) pe_int) (pa_cons (pe_op op_mul (pe_op op_pow pe_int pe_int) pe_int) pa_nil))))))))))))))))))))))
    (pss_cons (ps_set (i := 2) sc__law_a_rest.nd rfl (Or.inl rfl) (C8.pe_c c__law_pick hr (by omega) rfl (pa_cons (pv 0) (pa_cons (pv 1) pa_nil))))
    (pss_one (ps_ret (pe_tup (pa_cons (C8.pe_c c__law_take hr (by omega) rfl (pa_cons (pv 0) (pa_cons (pv 2) pa_nil))) (pa_cons (pv 2) pa_nil))))))), ?_⟩
    -- slots: _law_state 0, _law_some 1, _law_wide 2
    refine ⟨_, _, rfl, rfl, ⟨by decide, by decide, by decide⟩, _, _, rfl, rfl, _, _, rfl, rfl, ⟨by decide, by decide, by decide⟩, _, _, rfl, rfl, .inr ⟨by decide, by decide⟩, by show 20 ≤ sizeLine; decide, fun L hL => ?_⟩
    have Lg := hS.ng hL
    refine ⟨_, rfl, _, rfl, d, g, c, t, .ref L, rfl, hS.same (same_upd hL), by omega, .inl ⟨L, _, rfl, Lg.1, SqL.of upd_same, by decide, by decide, fun i t' v H' hv f' ht' hS' => ?_⟩⟩
    obtain ⟨m, rfl, m0, m1⟩ := wides_ok (List.mem_of_getElem? hv)
    refine ⟨_, rfl, _, rfl, d, g, c, t', m, rfl, hS', by omega, m0, Nat.lt_of_le_of_lt m1 (Nat.pow_lt_pow_right (by decide) (by decide)), fun r t2 H2 hr f2 ht2 hS2 => ?_⟩
    refine ⟨_, rfl, by show 2 ≤ sizeLine; decide, fun T0 hT0 => ?_⟩
    refine q _ (r, m) t2 _ hr m1 ⟨T0, rfl, SqT.of upd_same⟩ ((((Sf.of (same_upd hL)).trans f').trans f2).trans (Sf.of (same_upd hT0))) (by omega) (hS2.same (same_upd hT0))
end
end GK
set_option Elab.async false
set_option linter.all false
set_option maxRecDepth 100000
set_option maxHeartbeats 4000000
namespace GK
open PySem PySem.Spec PyProof.Rows L2
section
variable {P : Program} {w : World} {K : PySem.W.Frag} {mg : Str → Option Value} {base : Heap} {CK CW : Addr}
/-- behind a statement only what is told -/
theorem cut_seq {t u : TS} {D : Ends} {σ : L2.St} {H : Hp} (Mid : L2.St → Hp → Prop) (h1 : (∀ σ' H', Mid σ' H' → u D σ' H') → t { D with nx := u D } σ H) (h2 : ∀ σ' H', Mid σ' H' → u D σ' H') : tSeq t u D σ H := h1 h2
theorem name_it {i : Nat} {v : V} {σ : L2.St} {H : Hp} {Q : L2.St → Hp → Prop} (h : Q (σ.set i (some v)) H) : gName i v σ H Q := h
theorem nx_it {f b c : L2.St → Hp → Prop} {r : VK} {σ : L2.St} {H : Hp} (h : f σ H) : Ends.nx { nx := f, rt := r, bk := b, ct := c } σ H := h
theorem four_ok {v : V} (h : v ∈ [V.int 1, .int 1, .int 2, .int 8]) : ∃ m : Nat, v = .int (m : Nat) ∧ 1 ≤ m ∧ m ≤ 8 := by
  simp only [List.mem_cons, List.not_mem_nil, or_false] at h
  rcases h with h | h | h | h
  · exact ⟨1, h, by decide, by decide⟩
  · exact ⟨1, h, by decide, by decide⟩
  · exact ⟨2, h, by decide, by decide⟩
  · exact ⟨8, h, by decide, by decide⟩
def spWords (K : PySem.W.Frag) : Sp := fun vs H Q _ => ∃ (d g c : Addr) (t n : Nat), vs = [.ref d, .int (n : Nat)] ∧ StAt K H d g c t ∧ t < 2 ^ 38 ∧ n ≤ 12 ∧
  ∀ (L : Addr) (xs : List Str) (t' : Nat) (H' : Hp), H L = none → H' L = some (.lst (xs.map V.str)) → xs.length = n → xs.Nodup → (∀ x ∈ xs, NameOk x) → Sf d g H H' → t' ≤ t + 12 * n → StAt K H' d g c t' → Q (.ref L) H'
theorem sc__law_words : FnScope ["_law_state", "_law_size", "_law_own", "_law_letters", "_law_found", "_law_k", "_law_word", "_law_j", "_law_one", "_law_letter"] ["_law_state", "_law_size"] (defScope s__law_words) := ⟨rfl, rfl, rfl, by decide +kernel, rfl, by decide +kernel, by decide +kernel⟩
theorem ok__law_words (D : DefAt K mg "_law_words" s__law_words) (T : Txt K mg CK CW)  (c__law_take : C8.Cal P w K mg base 2 "_law_take" (spTake K) []) (c__law_pick : C8.Cal P w K mg base 3 "_law_pick" (spPick K) []) : C8.Cal P w K mg base 4 "_law_words" (spWords K) [] := by
  refine cal_of D sc__law_words (ps := ["_law_state", "_law_size"]) (fun _ _ _ _ _ _ us hl => match us, hl with | [_, _], _ => rfl) (fun vs H Q E h => ?_) fun f cdv A outer s H vs Q E hr h => ?_
  · obtain ⟨d, g, c, t, n, rfl, hS, ht, hn, q⟩ := h
    rfl
  · obtain ⟨d, g, c, t, n, rfl, hS, ht, hn, q⟩ := h
    refine ⟨_, (pss_cons (ps_set (i := 2) sc__law_words.nd rfl (Or.inl rfl) (pe_split pe_str pe_str))
    (pss_cons (ps_asg (pe_tup (pa_cons pe_str (pa_cons (pe_lst pa_nil) pa_nil))) (pg_tup (by rfl) (pgs_cons (pg_name (i := 3) sc__law_words.nd rfl (Or.inr rfl)) (pgs_cons (pg_name (i := 4) sc__law_words.nd rfl (Or.inr rfl)) pgs_nil))))
    (pss_cons (ps_for PassesOwn.never rfl (pi_range1 (by rfl) T.b_range (pa_cons (pv 1) pa_nil)) (pg_name (i := 5) sc__law_words.nd rfl (Or.inl rfl)) 
      (pss_cons (ps_set (i := 6) sc__law_words.nd rfl (Or.inr rfl) (C8.pe_c c__law_pick hr (by omega) rfl (pa_cons (pv 0) (pa_cons (pv 2) pa_nil))))
      (pss_cons (ps_if (pt_cmpR op_gt (C8.pe_c c__law_take hr (by omega) rfl (pa_cons (pv 0) (pa_cons pe_int pa_nil))) pe_int (nomark _)) 
        (pss_one (ps_set (i := 6) sc__law_words.nd rfl (Or.inr rfl) (pe_join pe_str (pe_lc (own := [("_law_j", 7)]) rfl sc__law_words.nd (pi_range1 (by rfl) T.b_range (pa_cons (C8.pe_c c__law_pick hr (by omega) rfl (pa_cons (pv 0) (pa_cons (pe_lst (pa_cons pe_int (pa_cons pe_int (pa_cons pe_int (pa_cons pe_int pa_nil))))) pa_nil))) pa_nil)) (blkOk_by (own := [("_law_j", 7)]) (N := ["_law_state", "_law_size", "_law_own", "_law_letters", "_law_found", "_law_k", "_law_word", "_law_j", "_law_one", "_law_letter"]) (sc := defScope s__law_words) (by decide +kernel)) (fun _ _ _ _ _ => pg_name (i := 7) sc__law_words.nd rfl (Or.inl rfl)) (fun _ _ _ _ _ => pts_nil) (fun _ _ _ _ _ => (C8.pe_c c__law_pick hr (by omega) rfl (pa_cons (pv 0) (pa_cons (pv 3) pa_nil)))))))) pss_nil)
      (pss_cons (ps_if (pt_cmpR op_in_seq (pv 6) (pv 4) (by rfl)) 
        (pss_one (ps_set (i := 6) sc__law_words.nd rfl (Or.inr rfl) (pe_ix ix_list (pe_lc (own := [("_law_one", 8)]) rfl sc__law_words.nd (pi_list (pe_lc (own := [("_law_letter", 9)]) rfl sc__law_words.nd (pi_str (pv 3)) (blkOk_by (own := [("_law_letter", 9)]) (N := ["_law_state", "_law_size", "_law_own", "_law_letters", "_law_found", "_law_k", "_law_word", "_law_j", "_law_one", "_law_letter"]) (sc := defScope s__law_words) (by decide +kernel)) (fun _ _ _ _ _ => pg_name (i := 9) sc__law_words.nd rfl (Or.inl rfl)) (fun _ _ _ _ _ => pts_nil) (fun _ _ _ _ _ => (pe_op op_add_str (pe_op op_add_str (pe_slice sl_str (pv 6) po_none (po_some pe_int)) pe_str) (pv 9))))) (blkOk_by (own := [("_law_one", 8)]) (N := ["_law_state", "_law_size", "_law_own", "_law_letters", "_law_found", "_law_k", "_law_word", "_law_j", "_law_one", "_law_letter"]) (sc := defScope s__law_words) (by decide +kernel)) (fun _ _ _ _ _ => pg_name (i := 8) sc__law_words.nd rfl (Or.inl rfl)) (fun _ _ _ _ _ => (pts_one (pt_cmpR (k_nin K) (pv 8) (pv 4) (by rfl)))) (fun _ _ _ _ _ => (pv 8))) pe_int (fun _ _ => rfl)))) pss_nil)
      (pss_one (ps_expr (pe_bm PySem.F.plainAttrs_list PySem.F.slot_list_append PySem.F.type_list_append mt_append (pv 4) (pa_cons (pv 6) pa_nil))))))))
    (pss_one (ps_ret (pv 4)))))), ?_⟩
    -- slots: _law_state 0, _law_size 1, _law_own 2, _law_letters 3, _law_found 4, _law_k 5, _law_word 6, _law_j 7, _law_one 8, _law_letter 9
    refine ⟨⟨_, rfl⟩, _, _, rfl, rfl, by decide +kernel, by decide +kernel, fun OL hOL => ?_⟩
    have e1 : Same H (upd H OL (.lst (ownWords.map V.str))) := same_upd hOL
    have h1 : upd H OL (.lst (ownWords.map V.str)) OL = some (.lst (ownWords.map V.str)) := upd_same
    rw [show Txt.split "ring watch round more anew swap seat come go undo knows may sure far fewest judge nothing" " " = ownWords from rfl]
    generalize upd H OL (.lst (ownWords.map V.str)) = H1 at *
    refine ⟨Nat.zero_le _, fun FL hFL => ?_⟩
    have e2 : Same H1 (upd H1 FL (.lst [])) := same_upd hFL
    have h2 : upd H1 FL (.lst []) FL = some (.lst []) := upd_same
    have h2o : upd H1 FL (.lst []) OL = some (.lst (ownWords.map V.str)) := e2 _ _ h1
    have FLn : H FL = none := e1.free hFL
    have OF : OL ≠ FL := ne_of_none h1 hFL
    generalize upd H1 FL (.lst []) = H2 at *
    refine ⟨by show 2 ≤ sizeLine; decide, fun T3 hT3 => ?_⟩
    have e3 : Same H2 (upd H2 T3 (.tup [.str "abcdefghijklmnopqrstuvwxyz", .ref FL])) := same_upd hT3
    have h3 : upd H2 T3 (.tup [.str "abcdefghijklmnopqrstuvwxyz", .ref FL]) T3 = some (.tup [.str "abcdefghijklmnopqrstuvwxyz", .ref FL]) := upd_same
    refine ⟨T3, [.str "abcdefghijklmnopqrstuvwxyz", .ref FL], rfl, SqT.of h3, rfl, _, _, rfl, _, _, rfl, rfl, ?_⟩
    generalize upd H2 T3 (.tup [.str "abcdefghijklmnopqrstuvwxyz", .ref FL]) = H3 at *
    have e13 := (e1.trans e2).trans e3
    have Og := hS.ng hOL
    have Fg := hS.ng FLn
    refine ⟨_, rfl, n, rfl, by omega, by omega, ?_⟩
    rw [Int.toNat_natCast]
    refine for_it walk_range (fun i σ H' => ∃ (xs : List Str) (t' : Nat) (n5 n6 n7 n8 n9 : Option V), σ = [some (.ref d), some (.int (n : Nat)), some (.ref OL), some (.str letters), some (.ref FL), n5, n6, n7, n8, n9] ∧
      H' OL = some (.lst (ownWords.map V.str)) ∧ H' FL = some (.lst (xs.map V.str)) ∧ xs.length = i ∧ xs.Nodup ∧ (∀ x ∈ xs, NameOk x) ∧ Sf d g H H' ∧ t' ≤ t + 12 * i ∧ StAt K H' d g c t') ⟨[], t, none, none, none, none, none, rfl, e3 _ _ h2o, e3 _ _ h2, rfl, List.nodup_nil, by simp, Sf.of e13, by omega, hS.same e13⟩ (fun _ _ _ _ _ => trivial) (fun i z σ H' H'' hi pv y => ?_) fun σ H' pv => ?_
    · obtain ⟨rfl, hz⟩ := y
      obtain ⟨xs, t1, n5, n6, n7, n8, n9, rfl, hO, hF, hxl, hxn, hxo, f1, ht1, hS1⟩ := pv
      refine ⟨_, rfl, _, rfl, d, g, c, t1, .ref OL, rfl, hS1, by omega, .inl ⟨OL, ownWords.map V.str, rfl, Og.1, SqL.of hO, by rw [List.length_map, own_len]; omega, by rw [List.length_map, own_len]; omega, fun i2 t2 v H2 hv f2 ht2 hS2 => ?_⟩⟩
      obtain ⟨w0, hw0, rfl⟩ := str_at hv
      have hO2 := f2 _ _ Og.2.1 Og.1 hO
      have hF2 := f2 _ _ Fg.2.1 Fg.1 hF
      have hw0o := own_ok w0 (List.mem_of_getElem? hw0)
      refine name_it ?_
      refine nx_it ?_
      refine cut_seq (fun σ' H' => ∃ (x : Str) (t' : Nat) (n7 : Option V), σ' = [some (.ref d), some (.int (n : Nat)), some (.ref OL), some (.str letters), some (.ref FL), some z, some (.str x), n7, n8, n9] ∧
        H' OL = some (.lst (ownWords.map V.str)) ∧ H' FL = some (.lst (xs.map V.str)) ∧ NameOk x ∧ Sf d g H H' ∧ t' ≤ t1 + 11 ∧ StAt K H' d g c t') (fun cont => ?_) (fun σ' H' mid => ?_)
      · refine ⟨_, rfl, d, g, c, t2, 3, rfl, hS2, by omega, by omega, big_ok (by omega), fun j t3 H3' hj f3 ht3 hS3 => ?_⟩
        have hO3 := f3 _ _ Og.2.1 Og.1 hO2
        have hF3 := f3 _ _ Fg.2.1 Fg.1 hF2
        have f03 := (f1.trans f2).trans f3
        by_cases c0 : 0 < j
        · refine ⟨_, _, rfl, rfl, true, bl_t (show ((0 : Int) < (j : Nat)) by omega), ?_⟩
          refine iteT ?_
          refine ⟨⟨_, rfl⟩, _, rfl, by show 4 ≤ sizeLine; decide, fun PL hPL => ?_⟩
          have e4 : Same H3' (upd H3' PL (.lst [.int 1, .int 1, .int 2, .int 8])) := same_upd hPL
          have h4 : upd H3' PL (.lst [.int 1, .int 1, .int 2, .int 8]) PL = some (.lst [.int 1, .int 1, .int 2, .int 8]) := upd_same
          have Pg := hS3.ng hPL
          generalize upd H3' PL (.lst [.int 1, .int 1, .int 2, .int 8]) = H4 at *
          refine ⟨d, g, c, t3, .ref PL, rfl, hS3.same e4, by omega, .inl ⟨PL, _, rfl, Pg.1, SqL.of h4, by decide, by decide, fun i3 t4 v H5 hv f5 ht4 hS5 => ?_⟩⟩
          obtain ⟨m, rfl, m0, m8⟩ := four_ok (List.mem_of_getElem? hv)
          have f05 := (f03.trans (Sf.of e4)).trans f5
          have hO5 := f5 _ _ Og.2.1 Og.1 (e4 _ _ hO3)
          have hF5 := f5 _ _ Fg.2.1 Fg.1 (e4 _ _ hF3)
          refine ⟨m, rfl, by omega, by omega, ?_⟩
          rw [Int.toNat_natCast]
          intro L2 hL2
          have L2g := hS5.ng hL2
          refine lc_it walk_range (fun i H' => ∃ (ys : List Str) (t' : Nat), H' L2 = some (.lst (ys.map V.str)) ∧ ys.length = i ∧ (∀ y ∈ ys, ∃ c, y = ⟨#[c]⟩ ∧ c ∈ letters.cps.toList) ∧ Sf d g H5 H' ∧ t' ≤ t4 + i ∧ StAt K H' d g c t') ⟨[], t4, upd_same, rfl, by simp, Sf.of (same_upd hL2), by omega, hS5.same (same_upd hL2)⟩ (fun _ _ _ _ => trivial) (fun i4 z4 H' H'' hi4 pv yy => ?_) fun H6 pv => ?_
          · obtain ⟨rfl, hz4⟩ := yy
            obtain ⟨ys, t5, hL5, hyl, hyo, f6, ht5, hS6⟩ := pv
            refine ⟨rfl, yes_in ?_⟩
            refine ⟨_, rfl, _, rfl, d, g, c, t5, .str letters, rfl, hS6, by omega, .inr ⟨letters, rfl, by decide +kernel, by decide +kernel, fun s t6 H7 hs f7 ht6 hS7 => ?_⟩⟩
            have hL7 := f7 _ _ L2g.2.1 L2g.1 hL5
            refine ⟨_, hL7, sz_lt (by rw [List.length_map]; omega), ys ++ [⟨#[s]⟩], t6, by rw [upd_same, List.map_append]; rfl, by rw [List.length_append, hyl]; rfl, fun y hy => ?_, (f6.trans f7).mutN hL2, by omega, hS7.mut L2g⟩
            rcases List.mem_append.mp hy with h | h
            · exact hyo y h
            · rw [List.mem_singleton.mp h]
              exact ⟨s, rfl, hs⟩
          · obtain ⟨ys, t5, hL5, hyl, hyo, f6, ht5, hS6⟩ := pv
            refine ⟨_, L2, ys, rfl, rfl, .inl (SqL.of hL5), ?_, ?_⟩
            · have h1 := G.sum_le (f := fun y : Str => y.length) (m := 1) (l := ys) fun y hy => by
                obtain ⟨c, rfl, _⟩ := hyo y hy
                exact Nat.le_refl _
              have h2 : (Str.ofString "").length = 0 := by decide +kernel
              rw [h2]
              omega
            · exact cont _ _ ⟨_, t5, n7, rfl, f6 _ _ Og.2.1 Og.1 hO5, f6 _ _ Fg.2.1 Fg.1 hF5, join_name hyo (by omega) (by omega), f05.trans f6, by omega, hS6⟩
        · refine ⟨_, _, rfl, rfl, false, bl_f (show ¬ ((0 : Int) < (j : Nat)) by omega), ?_⟩
          refine iteF ?_
          exact cont _ _ ⟨w0, t3, n7, rfl, hO3, hF3, hw0o, f03, by omega, hS3⟩
      · obtain ⟨x, t2', m7, rfl, hO4, hF4, hxo4, f4, ht4, hS4⟩ := mid
        refine cut_seq (fun σ' H' => ∃ (x : Str) (t' : Nat) (n7 n8 n9 : Option V), σ' = [some (.ref d), some (.int (n : Nat)), some (.ref OL), some (.str letters), some (.ref FL), some z, some (.str x), n7, n8, n9] ∧
          H' OL = some (.lst (ownWords.map V.str)) ∧ H' FL = some (.lst (xs.map V.str)) ∧ NameOk x ∧ x ∉ xs ∧ Sf d g H H' ∧ t' ≤ t1 + 11 ∧ StAt K H' d g c t') (fun cont => ?_) (fun σ' H' mid => ?_)
        · refine ⟨_, rfl, _, rfl, FL, _, rfl, .inl (SqL.of hF4), rfl, flat_strs xs, _, rfl, ?_⟩
          rw [inV_strs]
          by_cases c0 : x ∈ xs
          · rw [decide_eq_true c0]
            refine iteT ?_
            refine ⟨_, rfl, letters, rfl, fun LI hLI => ?_⟩
            have c8 : (cutS x none (some 6)).length ≤ 6 := by
              have : (cutS x none (some 6)).length = (cutS x none (some 6)).cps.toList.length := Array.length_toList.symm
              rw [this, cut6, List.length_take]
              omega
            have hx8 := hxo4.most
            have hlet : letters.cps.size = 26 := by decide +kernel
            refine lc_it walk_str (Told _ LI fun i => ((letters.cps.toList.take i).map (altW x)).map V.str) (Told.start hLI rfl) (fun _ _ _ _ => trivial) (fun i5 z5 H' H'' hi5 pv yy => ?_) fun H6 pv => ?_
            · obtain ⟨rfl, ch, hch, rfl⟩ := yy
              refine ⟨rfl, yes_in ?_⟩
              refine ⟨_, rfl, ?_⟩
              refine no_part ?_
              refine ⟨_, rfl, x, rfl, sz_le (by omega), _, _, rfl, rfl, sz_le (Nat.le_trans (Nat.add_le_add_right c8 _) (by decide +kernel)), _, rfl, _, _, rfl, rfl, sz_le ?_, ?_⟩
              · rw [app_len]
                refine Nat.le_trans (Nat.add_le_add_right (Nat.add_le_add_right c8 _) _) ?_
                have h2 : (Str.ofString "z").length = 1 := by decide +kernel
                rw [h2]
                show 6 + 1 + 1 ≤ 100000
                decide
              · refine pv.put hLI (Same.refl _) ?_ ?_
                · have : letters.cps.toList[i5]? = some ch := by rw [← Array.getElem?_toList] at hch; exact hch
                  rw [take_snoc this, List.map_append, List.map_append]
                  rfl
                · rw [List.length_map, List.length_map, List.length_take]
                  omega
            · have hLI6 : H6 LI = some (.lst ((letters.cps.toList.map (altW x)).map V.str)) := by
                rw [pv.at_, List.take_of_length_le (by rw [Array.length_toList]; exact Nat.le_refl _)]
              have e6 := pv.same
              refine ⟨LI, rfl, ⟨_, SqL.of hLI6⟩, fun LO hLO => ?_⟩
              have hal : ((letters.cps.toList.map (altW x)).map V.str).length = 26 := by rw [List.length_map, alts_len]
              refine lc_it walk_list (Told H6 LO fun i => (((letters.cps.toList.map (altW x)).take i).filter fun u => decide (u ∉ xs)).map V.str) (Told.start hLO rfl) (fun i H' _ pv => SqL.of (pv.same _ _ hLI6)) (fun i5 z5 H' H'' hi5 pv yy => ?_) fun H7 pv => ?_
              · obtain ⟨rfl, hz5⟩ := yy
                obtain ⟨u, hu, rfl⟩ := str_at hz5
                refine ⟨rfl, ?_⟩
                refine ⟨_, rfl, _, rfl, FL, _, rfl, .inl (SqL.of ((e6.trans pv.same) _ _ hF4)), rfl, flat_strs xs, ?_⟩
                rw [inV_strs]
                by_cases cu : u ∈ xs
                · rw [decide_eq_true cu]
                  refine ⟨false, rfl, ?_⟩
                  show (if false = true then _ else _)
                  rw [if_neg (by decide)]
                  refine pv.skip (Same.refl _) ?_
                  rw [take_snoc hu, List.filter_append, List.map_append, filt_out cu]
                  simp
                · rw [decide_eq_false cu]
                  refine ⟨true, rfl, ?_⟩
                  show (if true = true then _ else _)
                  rw [if_pos rfl]
                  refine ⟨_, rfl, ?_⟩
                  refine pv.put hLO (Same.refl _) ?_ ?_
                  · rw [take_snoc hu, List.filter_append, List.map_append, filt_in cu]
                    rfl
                  · rw [List.length_map]
                    refine Nat.lt_of_le_of_lt (List.length_filter_le ..) ?_
                    rw [List.length_take]
                    omega
              · have hLO7 : H7 LO = some (.lst (((letters.cps.toList.map (altW x)).filter fun u => decide (u ∉ xs)).map V.str)) := by
                  rw [pv.at_, List.take_of_length_le (by rw [hal, alts_len]; omega)]
                have hne : ((letters.cps.toList.map (altW x)).filter fun u => decide (u ∉ xs)) ≠ [] := fun e => by
                  have h1 := G.nd_sub (m := xs) (alts_nodup x) fun u hu => by
                    by_cases cu : u ∈ xs
                    · exact cu
                    · exfalso
                      have : u ∈ (letters.cps.toList.map (altW x)).filter fun u => decide (u ∉ xs) := List.mem_filter.mpr ⟨hu, decide_eq_true cu⟩
                      rw [e] at this
                      cases this
                  rw [alts_len] at h1
                  have hi' : i < n := hi
                  omega
                obtain ⟨y, r, hyr⟩ := List.exists_cons_of_ne_nil hne
                have hym : y ∈ (letters.cps.toList.map (altW x)).filter fun u => decide (u ∉ xs) := by rw [hyr]; simp
                obtain ⟨hy1, hy2⟩ := List.mem_filter.mp hym
                obtain ⟨ch, hch, rfl⟩ := List.mem_map.mp hy1
                rw [hyr] at hLO7
                have eA := e6.trans pv.same
                refine ⟨LO, _, 0, .str (altW x ch), rfl, rfl, SqL.of hLO7, atI_nat (j := 0) rfl, ?_⟩
                exact cont _ _ ⟨_, t2', m7, n8, n9, rfl, eA _ _ hO4, eA _ _ hF4, alt_ok hxo4 hch, of_decide_eq_true hy2, f4.trans (Sf.of eA), by omega, hS4.same eA⟩
          · rw [decide_eq_false c0]
            refine iteF ?_
            exact cont _ _ ⟨x, t2', m7, n8, n9, rfl, hO4, hF4, hxo4, c0, f4, by omega, hS4⟩
        · obtain ⟨x, t3, n7, n8, n9, rfl, hO5, hF5, hxo5, hxn5, f5, ht5, hS5⟩ := mid
          refine ⟨_, rfl, .inl ⟨rfl, _, SqL.of hF5⟩, _, rfl, FL, _, .str x, rfl, rfl, hF5, sz_lt (by rw [List.length_map]; omega), ?_⟩
          refine ⟨xs ++ [x], t3, _, _, _, _, _, rfl, (upd_ne OF).trans hO5, by rw [upd_same, List.map_append]; rfl, by rw [List.length_append, hxl]; rfl, G.nodup_snoc hxn hxn5, fun y hy => ?_, f5.mutN FLn, by omega, hS5.mut Fg⟩
          rcases List.mem_append.mp hy with h | h
          · exact hxo y h
          · rw [List.mem_singleton.mp h]
            exact hxo5
    · obtain ⟨xs, t1, n5, n6, n7, n8, n9, rfl, hO, hF, hxl, hxn, hxo, f1, ht1, hS1⟩ := pv
      exact ⟨_, rfl, q FL xs t1 H' FLn hF hxl hxn hxo f1 ht1 hS1⟩
end
end GK
set_option Elab.async false
set_option linter.all false
set_option maxRecDepth 100000
set_option maxHeartbeats 4000000
namespace GK
open PySem PySem.Spec PyProof.Rows L2
section
variable {P : Program} {w : World} {K : PySem.W.Frag} {mg : Str → Option Value} {base : Heap} {CK CW : Addr}
def spSitting (K : PySem.W.Frag) : Sp := fun vs H Q _ => ∃ (a u : Addr) (line gone : List Str) (x : Str), vs = [.ref a, .ref u, .str x] ∧ SqL K H a (line.map V.str) ∧ (SqL K H u (gone.map V.str) ∨ SqT K H u (gone.map V.str)) ∧ line.length ≤ 12 ∧ x ∈ line ∧
  ∀ (L : Addr) (H' : Hp), Same H H' → H L = none → H' L = some (.lst ((G.sit line gone x).map V.str)) → Q (.ref L) H'
theorem sc__law_sitting : FnScope ["_law_line", "_law_gone", "_law_name", "_law_at", "_law_one"] ["_law_line", "_law_gone", "_law_name"] (defScope s__law_sitting) := ⟨rfl, rfl, rfl, by decide +kernel, rfl, by decide +kernel, by decide +kernel⟩
theorem ok__law_sitting (D : DefAt K mg "_law_sitting" s__law_sitting) (T : Txt K mg CK CW)   : C8.Cal P w K mg base 1 "_law_sitting" (spSitting K) [] := by
  refine cal_of D sc__law_sitting (ps := ["_law_line", "_law_gone", "_law_name"]) (fun _ _ _ _ _ _ us hl => match us, hl with | [_, _, _], _ => rfl) (fun vs H Q E h => ?_) fun f cdv A outer s H vs Q E hr h => ?_
  · obtain ⟨a, u, line, gone, x, rfl, ha, hu0, hl, hx, q⟩ := h
    rfl
  · obtain ⟨a, u, line, gone, x, rfl, ha, hu0, hl, hx, q⟩ := h
    refine ⟨_, (pss_cons (ps_set (i := 3) sc__law_sitting.nd rfl (Or.inl rfl) (pe_bm PySem.F.plainAttrs_list PySem.F.slot_list_index PySem.F.type_list_index mt_index (pv 0) (pa_cons (pv 2) pa_nil)))
    (pss_one (ps_ret (pe_lc (own := [("_law_one", 4)]) rfl sc__law_sitting.nd (pi_list (pe_op op_cat (pe_slice sl_list (pv 0) (po_some (pe_op op_add (pv 3) pe_int)) po_none) (pe_slice sl_list (pv 0) po_none (po_some (pv 3))))) (blkOk_by (own := [("_law_one", 4)]) (N := ["_law_line", "_law_gone", "_law_name", "_law_at", "_law_one"]) (sc := defScope s__law_sitting) (by decide +kernel)) (fun _ _ _ _ _ => pg_name (i := 4) sc__law_sitting.nd rfl (Or.inl rfl)) (fun _ _ _ _ _ => (pts_one (pt_cmpR (k_nin K) (pv 4) (pv 1) (by rfl)))) (fun _ _ _ _ _ => (pv 4)))))), ?_⟩
    -- slots: _law_line 0, _law_gone 1, _law_name 2, _law_at 3, _law_one 4
    have hsl : (line.map V.str).length = line.length := List.length_map ..
    refine ⟨_, rfl, .inl ⟨rfl, _, ha⟩, _, rfl, ?_⟩
    refine no_args ?_
    refine index_ok ha hx ?_
    refine ⟨_, rfl, _, rfl, _, _, rfl, rfl, _, rfl, ?_⟩
    refine no_part ?_
    refine sll_from (k := line.idxOf x + 1) ha fun l2 H8 e8 _ hl2 => ?_
    refine ⟨_, rfl, ?_⟩
    refine no_part ?_
    refine ⟨_, rfl, _, rfl, ?_⟩
    refine sll_to (k := line.idxOf x) (e8.seq ha) fun l4 H10 e10 _ hl4 => ?_
    refine ⟨l2, l4, _, _, rfl, rfl, e10 _ _ hl2, hl4, sz_le (by rw [List.length_drop, List.length_take]; omega), fun l6 hl6 => ?_⟩
    have etu : (line.map V.str).drop (line.idxOf x + 1) ++ (line.map V.str).take (line.idxOf x) = (G.turned line x).map V.str := by
      unfold G.turned
      rw [List.map_append, List.map_drop, List.map_take]
    rw [etu]
    have e12 : Same H10 (upd H10 l6 (.lst ((G.turned line x).map V.str))) := same_upd hl6
    have h6 : upd H10 l6 (.lst ((G.turned line x).map V.str)) l6 = some (.lst ((G.turned line x).map V.str)) := upd_same
    generalize upd H10 l6 (.lst ((G.turned line x).map V.str)) = H12 at *
    have s12 := (e8.trans e10).trans e12
    refine ⟨l6, rfl, ⟨_, SqL.of h6⟩, fun D hD => ?_⟩
    have htu : ((G.turned line x).map V.str).length = (G.turned line x).length := List.length_map ..
    have htl2 := G.turned_length hx
    refine lc_it walk_list (Told H12 D fun j => (((G.turned line x).take j).filter fun u => decide (u ∉ gone)).map V.str) (Told.start hD rfl) (fun j H' _ pv => SqL.of (pv.same _ _ h6)) (fun j z H' H'' hj pv yy => ?_) fun H13 pv => ?_
    · obtain ⟨rfl, hz⟩ := yy
      obtain ⟨y, hy, rfl⟩ := str_at hz
      refine ⟨rfl, ?_⟩
      have sx := s12.trans pv.same
      refine ⟨_, rfl, _, rfl, u, _, rfl, hu0.imp (fun h => sx.seq h) (fun h => same_tup sx h), rfl, flat_strs _, ?_⟩
      rw [inV_strs]
      by_cases c : y ∈ gone
      · rw [decide_eq_true c]
        refine ⟨false, rfl, ?_⟩
        show (if false = true then _ else _)
        rw [if_neg (by decide)]
        refine pv.skip (Same.refl _) ?_
        rw [take_snoc hy, List.filter_append, List.map_append, filt_out c]
        simp
      · rw [decide_eq_false c]
        refine ⟨true, rfl, ?_⟩
        show (if true = true then _ else _)
        rw [if_pos rfl]
        refine ⟨_, rfl, ?_⟩
        refine pv.put hD (Same.refl _) ?_ ?_
        · rw [take_snoc hy, List.filter_append, List.map_append, filt_in c]
          rfl
        · rw [List.length_map]
          refine Nat.lt_of_le_of_lt (List.length_filter_le ..) ?_
          rw [List.length_take]
          omega
    · refine q D H13 (s12.trans pv.same) (s12.free hD) ?_
      rw [pv.at_, htu, List.take_length]
      rfl
/-- the figures of an order -/
def figs (line : List Str) (b : Str) (t : List Str) : List Nat := (G.places line [b] b t).map fun c => c.2.1
def spFigures (K : PySem.W.Frag) : Sp := fun vs H Q _ => ∃ (a u : Addr) (line : List Str) (b : Str) (t : List Str), vs = [.ref a, .ref u] ∧ SqL K H a (line.map V.str) ∧ SqT K H u ((b :: t).map V.str) ∧ line.Nodup ∧ line.length ≤ 12 ∧ (b :: t).Nodup ∧ (∀ x ∈ b :: t, x ∈ line) ∧
  ∀ (L : Addr) (H' : Hp), Same H H' → H L = none → H' L = some (.lst (intL (figs line b t))) → Q (.ref L) H'
theorem sc__law_figures : FnScope ["_law_line", "_law_order_here", "_law_at"] ["_law_line", "_law_order_here"] (defScope s__law_figures) := ⟨rfl, rfl, rfl, by decide +kernel, rfl, by decide +kernel, by decide +kernel⟩
theorem ok__law_figures (D : DefAt K mg "_law_figures" s__law_figures) (T : Txt K mg CK CW)  (c__law_sitting : C8.Cal P w K mg base 1 "_law_sitting" (spSitting K) []) : C8.Cal P w K mg base 2 "_law_figures" (spFigures K) [] := by
  refine cal_of D sc__law_figures (ps := ["_law_line", "_law_order_here"]) (fun _ _ _ _ _ _ us hl => match us, hl with | [_, _], _ => rfl) (fun vs H Q E h => ?_) fun f cdv A outer s H vs Q E hr h => ?_
  · obtain ⟨a, u, line, b, t, rfl, ha, hu0, hln, hl, hn, hm, q⟩ := h
    rfl
  · obtain ⟨a, u, line, b, t, rfl, ha, hu0, hln, hl, hn, hm, q⟩ := h
    refine ⟨_, (pss_one (ps_ret (pe_lc (own := [("_law_at", 2)]) rfl sc__law_figures.nd (pi_range2 (by rfl) T.b_range (pa_cons pe_int (pa_cons (pe_callB call_len_seq (by rfl) T.b_len (by decide +kernel) (pa_cons (pv 1) pa_nil)) pa_nil))) (blkOk_by (own := [("_law_at", 2)]) (N := ["_law_line", "_law_order_here", "_law_at"]) (sc := defScope s__law_figures) (by decide +kernel)) (fun _ _ _ _ _ => pg_name (i := 2) sc__law_figures.nd rfl (Or.inl rfl)) (fun _ _ _ _ _ => pts_nil) (fun _ _ _ _ _ => (k_bm2 K PySem.F.plainAttrs_list PySem.F.slot_list_index PySem.F.type_list_index (k_index K) (C8.pe_c c__law_sitting hr (by omega) rfl (pa_cons (pv 0) (pa_cons (pe_slice (k_slA K) (pv 1) po_none (po_some (pv 2))) (pa_cons (pe_ix (k_ixt K) (pv 1) (pe_op op_sub (pv 2) pe_int) (fun _ _ => rfl)) pa_nil)))) (pa_cons (pe_ix (k_ixt K) (pv 1) (pv 2) (fun _ _ => rfl)) pa_nil)))))), ?_⟩
    -- slots: _law_line 0, _law_order_here 1, _law_at 2
    have htl : (b :: t).length ≤ 12 := Nat.le_trans (G.nd_sub hn hm) hl
    have hbl : ((b :: t).map V.str).length = t.length + 1 := by rw [List.length_map, List.length_cons]
    rw [List.length_cons] at htl
    refine ⟨_, rfl, u, _, rfl, .inr hu0, ?_⟩
    rw [hbl]
    refine ⟨1, _, rfl, ⟨by omega, by omega, by omega, by omega⟩, ?_⟩
    rw [show (((t.length + 1 : Nat) : Int) - 1).toNat = t.length by omega]
    intro D hD
    refine lc_it walk_range (Told H D fun i => intL (figs line b (t.take i))) (Told.start hD rfl) (fun _ _ _ _ => trivial) (fun i z H' H'' hi pv y => ?_) fun H' pv => ?_
    · obtain ⟨rfl, hz⟩ := y
      obtain rfl : z = .int (1 + (i : Nat)) := hz
      obtain ⟨x, hx1⟩ : ∃ x, (b :: t)[i]? = some x := ⟨_, List.getElem?_eq_getElem (by rw [List.length_cons]; omega)⟩
      obtain ⟨y, hy⟩ : ∃ y, t[i]? = some y := ⟨_, List.getElem?_eq_getElem hi⟩
      have hxs : x ∈ line := hm x (List.mem_of_getElem? hx1)
      have hys : y ∈ line := hm y (List.mem_cons_of_mem _ (List.mem_of_getElem? hy))
      have hAt : G.At line (b :: t.take i) x (line.length - (i + 1)) := by
        refine ⟨hln, (List.Sublist.nodup (List.take_sublist (i + 1) (b :: t)) hn), fun z hz => hm z (List.mem_of_mem_take (i := i + 1) hz), ?_, ?_⟩
        · have h8 : ((b :: t).take (i + 1))[i]? = some x := by
            rw [List.getElem?_take_of_lt (by omega)]
            exact hx1
          exact List.mem_of_getElem? h8
        · have hle2 := G.nd_sub hn hm
          rw [List.length_cons] at hle2
          rw [List.length_cons, List.length_take]
          omega
      have hyl : y ∈ G.sit line (b :: t.take i) x := hAt.mem.mpr ⟨hys, fun hc => nd_take hn (i := i + 1) (x := y) (by exact hy) hc⟩
      refine ⟨rfl, yes_in ?_⟩
      refine ⟨_, rfl, _, rfl, ?_⟩
      refine no_part ?_
      refine ⟨_, rfl, _, rfl, ?_⟩
      rw [show (1 : Int) + (i : Nat) = ((i + 1 : Nat) : Int) by omega]
      refine slt_to (k := i + 1) (same_tup pv.same hu0) fun p1 H2 e2 hp1 => ?_
      have sx := pv.same.trans e2
      rw [show ((b :: t).map V.str).take (i + 1) = (b :: t.take i).map V.str by rw [List.map_cons, List.take_succ_cons, List.map_cons, List.map_take]] at hp1
      have hgx : ((b :: t).map V.str)[i]? = some (.str x) := by rw [List.getElem?_map, hx1]; rfl
      have hgy : ((b :: t).map V.str)[i + 1]? = some (.str y) := by
        rw [List.map_cons, List.getElem?_cons_succ, List.getElem?_map, hy]
        rfl
      refine ⟨_, rfl, _, rfl, _, _, rfl, rfl, u, _, (i : Nat), .str x, rfl, ?_, same_tup sx hu0, atI_nat hgx, ?_⟩
      · show V.int (((i + 1 : Nat) : Int) - 1) = V.int (i : Nat)
        rw [show ((i + 1 : Nat) : Int) - 1 = (i : Nat) by omega]
      refine ⟨a, p1, line, b :: t.take i, x, rfl, sx.seq ha, .inr hp1, hl, hxs, fun L2 H3 e3 _ hL2 => ?_⟩
      have sy := sx.trans e3
      refine ⟨.inl ⟨rfl, _, SqL.of hL2⟩, _, rfl, _, rfl, u, _, (i + 1 : Nat), .str y, rfl, rfl, same_tup sy hu0, atI_nat hgy, ?_⟩
      refine no_args ?_
      refine index_ok (SqL.of hL2) hyl ?_
      refine pv.put hD (e2.trans e3) ?_ ?_
      · rw [take_snoc hy]
        unfold figs
        rw [G.places_snoc (u := x) (by rw [List.length_take, Nat.min_eq_left (by omega)]; show ((b :: t).take (i + 1))[i]? = some x; rw [List.getElem?_take_of_lt (by omega)]; exact hx1), List.map_append]
        exact inl_snoc _ _
      · unfold figs
        rw [intL_len, List.length_map, G.places_length, List.length_take]
        omega
    · refine q D H' pv.same hD ?_
      rw [pv.at_, List.take_length]
/-- what slips bring: an order, who begins the next -/
def nextOf (line : List Str) (s : Str → Nat) (last : Str) : Str := (G.round line last).getD (s last % line.length) last
def spGoes (K : PySem.W.Frag) : Sp := fun vs H Q _ => ∃ (a d : Addr) (line : List Str) (b : Str) (kvs : List (Key × V)) (s : Str → Nat), vs = [.ref a, .ref d, .str b] ∧ SqL K H a (line.map V.str) ∧ H d = some (.dK kvs) ∧ SlipsD kvs line s ∧ line.Nodup ∧ line.length ≤ 12 ∧ b ∈ line ∧
  ∀ (p u : Addr) (t : List Str) (H' : Hp), Same H H' → t = G.go s line (line.length - 1) [b] b → H' u = some (.tup ((b :: t).map V.str)) → H' p = some (.tup [.ref u, .str (nextOf line s (G.endOf b t))]) → Q (.ref p) H'
theorem sc__law_goes : FnScope ["_law_line", "_law_slips", "_law_begin", "_law_order_here", "_law_left", "_law_every"] ["_law_line", "_law_slips", "_law_begin"] (defScope s__law_goes) := ⟨rfl, rfl, rfl, by decide +kernel, rfl, by decide +kernel, by decide +kernel⟩
theorem ok__law_goes (D : DefAt K mg "_law_goes" s__law_goes) (T : Txt K mg CK CW)  (c__law_sitting : C8.Cal P w K mg base 1 "_law_sitting" (spSitting K) []) : C8.Cal P w K mg base 2 "_law_goes" (spGoes K) [] := by
  refine cal_of D sc__law_goes (ps := ["_law_line", "_law_slips", "_law_begin"]) (fun _ _ _ _ _ _ us hl => match us, hl with | [_, _, _], _ => rfl) (fun vs H Q E h => ?_) fun f cdv A outer s H vs Q E hr h => ?_
  · obtain ⟨a, d, line, b, kvs, s0, rfl, ha, hd, hs, hln, hl, hb, q⟩ := h
    rfl
  · obtain ⟨a, d, line, b, kvs, s0, rfl, ha, hd, hs, hln, hl, hb, q⟩ := h
    have hu := hu_of hr
    refine ⟨_, (pss_cons (ps_set (i := 3) sc__law_goes.nd rfl (Or.inl rfl) (pe_lst (pa_cons (pv 2) pa_nil)))
    (pss_cons (ps_while PassesOwn.never (pt_cmpR op_lt (pe_callB call_len_seq (by rfl) T.b_len (by decide +kernel) (pa_cons (pv 3) pa_nil)) (pe_callB call_len_seq (by rfl) T.b_len (by decide +kernel) (pa_cons (pv 0) pa_nil)) (nomark _)) 
      (pss_cons (ps_set (i := 4) sc__law_goes.nd rfl (Or.inl rfl) (C8.pe_c c__law_sitting hr (by omega) rfl (pa_cons (pv 0) (pa_cons (pv 3) (pa_cons (pe_ix ix_list (pv 3) (pe_un un_neg pe_int) (fun _ _ => rfl)) pa_nil)))))
      (pss_one (ps_expr (pe_bm PySem.F.plainAttrs_list PySem.F.slot_list_append PySem.F.type_list_append mt_append (pv 3) (pa_cons (pe_ix ix_list (pv 4) (pe_op op_mod (pe_dget hu (pv 1) (pe_ix ix_list (pv 3) (pe_un un_neg pe_int) (fun _ _ => rfl)) (fun _ _ => rfl)) (pe_callB call_len_seq (by rfl) T.b_len (by decide +kernel) (pa_cons (pv 4) pa_nil))) (fun _ _ => rfl)) pa_nil))))))
    (pss_cons (ps_set (i := 5) sc__law_goes.nd rfl (Or.inl rfl) (pe_op op_cat (C8.pe_c c__law_sitting hr (by omega) rfl (pa_cons (pv 0) (pa_cons (pe_lst pa_nil) (pa_cons (pe_ix ix_list (pv 3) (pe_un un_neg pe_int) (fun _ _ => rfl)) pa_nil)))) (pe_lst (pa_cons (pe_ix ix_list (pv 3) (pe_un un_neg pe_int) (fun _ _ => rfl)) pa_nil))))
    (pss_one (ps_ret (pe_tup (pa_cons (pe_callTy call_tuple_of (by rfl) T.b_tuple (by decide +kernel) (pa_cons (pv 3) pa_nil)) (pa_cons (pe_ix ix_list (pv 5) (pe_op op_mod (pe_dget hu (pv 1) (pe_ix ix_list (pv 3) (pe_un un_neg pe_int) (fun _ _ => rfl)) (fun _ _ => rfl)) (pe_callB call_len_seq (by rfl) T.b_len (by decide +kernel) (pa_cons (pv 5) pa_nil))) (fun _ _ => rfl)) pa_nil)))))))), ?_⟩
    -- slots: _law_line 0, _law_slips 1, _law_begin 2, _law_order_here 3, _law_left 4, _law_every 5
    have hsl : (line.map V.str).length = line.length := List.length_map ..
    have hp0 : 0 < line.length := List.length_pos_of_mem hb
    have hk1 : line.length - 1 + 1 = line.length := by omega
    refine ⟨_, rfl, by show 1 ≤ sizeLine; decide, fun o ho => ?_⟩
    have e1 : Same H (upd H o (.lst [.str b])) := same_upd ho
    have h1 : upd H o (.lst [.str b]) o = some (.lst [.str b]) := upd_same
    generalize upd H o (.lst [.str b]) = H1 at *
    refine ⟨fun n σ H' => ∃ (t : List Str) (n4 n5 : Option V), σ = [some (.ref a), some (.ref d), some (.str b), some (.ref o), n4, n5] ∧ Same H H' ∧ H' o = some (.lst ((b :: t).map V.str)) ∧ G.At line (b :: t) (G.endOf b t) n ∧
      t ++ G.go s0 line n (b :: t) (G.endOf b t) = G.go s0 line (line.length - 1) [b] b, ?_, ?_⟩
    · exact ⟨line.length - 1, [], none, none, rfl, e1, h1, G.At.first hln hb hk1, rfl⟩
    · rintro n σ H' ⟨t, n4, n5, rfl, s1, hO, hA, he⟩
      have hal := hA.len
      have hbl : ((b :: t).map V.str).length = t.length + 1 := by rw [List.length_map, List.length_cons]
      rw [List.length_cons] at hal
      have hcl : ((b :: t).map V.str) = ((b :: t).dropLast.map V.str) ++ [.str (G.endOf b t)] := by
        conv => lhs; rw [← List.dropLast_concat_getLast (l := b :: t) (by simp)]
        rw [List.map_append]
        rfl
      have hat : atI ((b :: t).map V.str) (-1) = some (.str (G.endOf b t)) := by
        rw [hcl]
        exact atI_last _ _
      have hxl := hA.xl
      refine ⟨_, rfl, o, _, rfl, .inl (SqL.of hO), _, rfl, a, _, rfl, .inl (s1.seq ha), _, _, rfl, rfl, ?_⟩
      rw [hbl, hsl]
      cases n with
      | succ k =>
        refine ⟨true, bl_t (show ((t.length + 1 : Nat) : Int) < (line.length : Nat) by omega), ?_⟩
        refine iteT ?_
        refine ⟨_, fun σ' H2 n => n, ?_⟩
        refine ⟨_, rfl, _, rfl, _, rfl, _, rfl, o, _, -1, _, rfl, rfl, SqL.of hO, hat, a, o, line, b :: t, G.endOf b t, rfl, s1.seq ha, .inl (SqL.of hO), hl, hxl, fun L H2 e2 _ hL => ?_⟩
        have hsit := hA.length
        have hlt : s0 (G.endOf b t) % (G.sit line (b :: t) (G.endOf b t)).length < (G.sit line (b :: t) (G.endOf b t)).length := Nat.mod_lt _ (by omega)
        have hO2 := e2 _ _ hO
        have s2 := s1.trans e2
        refine ⟨_, rfl, .inl ⟨rfl, _, SqL.of hO2⟩, _, rfl, _, rfl, _, rfl, _, rfl, o, _, -1, _, rfl, rfl, SqL.of hO2, hat, d, _, rfl, dget_str (s2 _ _ hd) (hs.val _ hxl), _, rfl, L, _, rfl, .inl (SqL.of hL), ?_⟩
        rw [List.length_map]
        refine ⟨_, _, rfl, rfl, (by show (0 : Int) < ((G.sit line (b :: t) (G.endOf b t)).length : Nat); omega), ?_⟩
        have hgd : ((G.sit line (b :: t) (G.endOf b t)).map V.str)[s0 (G.endOf b t) % (G.sit line (b :: t) (G.endOf b t)).length]? = some (.str ((G.sit line (b :: t) (G.endOf b t)).getD (s0 (G.endOf b t) % (G.sit line (b :: t) (G.endOf b t)).length) (G.endOf b t))) := by
          rw [List.getElem?_map, List.getElem?_eq_getElem hlt, G.getD_at hlt]
          rfl
        have hys : (G.sit line (b :: t) (G.endOf b t)).getD (s0 (G.endOf b t) % (G.sit line (b :: t) (G.endOf b t)).length) (G.endOf b t) ∈ G.sit line (b :: t) (G.endOf b t) := hA.getD_mem (by rw [hsit]; exact Nat.mod_lt _ (Nat.succ_pos k))
        refine ⟨L, _, ((s0 (G.endOf b t) % (G.sit line (b :: t) (G.endOf b t)).length : Nat) : Int), _, rfl, rfl, SqL.of hL, atI_nat hgd, o, _, _, rfl, rfl, hO2, sz_lt (by rw [hbl]; omega), ?_⟩
        have hA' := hA.step hys
        rw [G.go] at he
        generalize (G.sit line (b :: t) (G.endOf b t)).getD (s0 (G.endOf b t) % (G.sit line (b :: t) (G.endOf b t)).length) (G.endOf b t) = y at *
        refine ⟨k, by omega, t ++ [y], _, _, rfl, same_mut s2 ho, ?_, ?_, ?_⟩
        · rw [upd_same, ← List.cons_append, List.map_append]
          rfl
        · rw [G.endOf_snoc]
          exact hA'
        · rw [G.endOf_snoc, List.append_assoc]
          exact he
      | zero =>
        refine ⟨false, bl_f (show ¬ ((t.length + 1 : Nat) : Int) < (line.length : Nat) by omega), ?_⟩
        refine iteF ?_
        have ht : t = G.go s0 line (line.length - 1) [b] b := by
          rw [← he]
          show t = t ++ []
          rw [List.append_nil]
        refine ⟨_, rfl, Nat.zero_le _, fun e0 he0 => ?_⟩
        have e2 : Same H' (upd H' e0 (.lst [])) := same_upd he0
        have h2 : upd H' e0 (.lst []) e0 = some (.lst []) := upd_same
        generalize upd H' e0 (.lst []) = H2 at *
        refine ⟨_, rfl, _, rfl, o, _, -1, _, rfl, rfl, SqL.of (e2 _ _ hO), hat, a, e0, line, [], G.endOf b t, rfl, (s1.trans e2).seq ha, .inl (SqL.of h2), hl, hxl, fun L H3 e3 _ hL => ?_⟩
        have hO3 := e3 _ _ (e2 _ _ hO)
        refine ⟨_, rfl, _, rfl, o, _, -1, _, rfl, rfl, SqL.of hO3, hat, by show 1 ≤ sizeLine; decide, fun L4 hL4 => ?_⟩
        have e4 : Same H3 (upd H3 L4 (.lst [.str (G.endOf b t)])) := same_upd hL4
        have h4 : upd H3 L4 (.lst [.str (G.endOf b t)]) L4 = some (.lst [.str (G.endOf b t)]) := upd_same
        generalize upd H3 L4 (.lst [.str (G.endOf b t)]) = H4 at *
        have htu := G.turned_length hxl
        have esit : G.sit line [] (G.endOf b t) = G.turned line (G.endOf b t) := by
          unfold G.sit
          rw [List.filter_eq_self]
          intro y _
          simp
        rw [esit] at hL
        refine ⟨L, L4, _, _, rfl, rfl, e4 _ _ hL, h4, sz_le (by rw [List.length_map, List.length_cons, List.length_nil]; omega), fun L5 hL5 => ?_⟩
        have erd : (G.turned line (G.endOf b t)).map V.str ++ [.str (G.endOf b t)] = (G.round line (G.endOf b t)).map V.str := by
          unfold G.round
          rw [List.map_append]
          rfl
        rw [erd]
        have e5 : Same H4 (upd H4 L5 (.lst ((G.round line (G.endOf b t)).map V.str))) := same_upd hL5
        have h5 : upd H4 L5 (.lst ((G.round line (G.endOf b t)).map V.str)) L5 = some (.lst ((G.round line (G.endOf b t)).map V.str)) := upd_same
        generalize upd H4 L5 (.lst ((G.round line (G.endOf b t)).map V.str)) = H5 at *
        have e35 := e4.trans e5
        refine ⟨_, rfl, o, _, rfl, .inl ⟨SqL.of (e35 _ _ hO3), fun u hu2 => ?_⟩⟩
        have e6 : Same H5 (upd H5 u (.tup ((b :: t).map V.str))) := same_upd hu2
        have h6 : upd H5 u (.tup ((b :: t).map V.str)) u = some (.tup ((b :: t).map V.str)) := upd_same
        generalize upd H5 u (.tup ((b :: t).map V.str)) = H6 at *
        have s6 : Same H H6 := (((s1.trans e2).trans e3).trans e35).trans e6
        have hrl := G.round_len hxl
        have hO6 := e6 _ _ (e35 _ _ hO3)
        refine ⟨_, rfl, _, rfl, _, rfl, _, rfl, o, _, -1, _, rfl, rfl, SqL.of hO6, hat, d, _, rfl, dget_str (s6 _ _ hd) (hs.val _ hxl), _, rfl, L5, _, rfl, .inl (SqL.of (e6 _ _ h5)), ?_⟩
        rw [List.length_map, hrl]
        refine ⟨_, _, rfl, rfl, (by show (0 : Int) < (line.length : Nat); omega), ?_⟩
        have hlt : s0 (G.endOf b t) % line.length < (G.round line (G.endOf b t)).length := by
          rw [hrl]
          exact Nat.mod_lt _ hp0
        have hgd : ((G.round line (G.endOf b t)).map V.str)[s0 (G.endOf b t) % line.length]? = some (.str (nextOf line s0 (G.endOf b t))) := by
          unfold nextOf
          rw [List.getElem?_map, List.getElem?_eq_getElem hlt, G.getD_at hlt]
          rfl
        refine ⟨L5, _, ((s0 (G.endOf b t) % line.length : Nat) : Int), _, rfl, rfl, SqL.of (e6 _ _ h5), atI_nat hgd, by show 2 ≤ sizeLine; decide, fun p hp => ?_⟩
        have e7 : Same H6 (upd H6 p (.tup [.ref u, .str (nextOf line s0 (G.endOf b t))])) := same_upd hp
        exact q p u t _ (s6.trans e7) ht (e7 _ _ h6) upd_same
end
end GK
set_option Elab.async false
set_option linter.all false
set_option maxRecDepth 100000
set_option maxHeartbeats 4000000
namespace GK
open PySem PySem.Spec PyProof.Rows L2
section
variable {P : Program} {w : World} {K : PySem.W.Frag} {mg : Str → Option Value} {base : Heap} {CK CW : Addr}
/-- the pairs of a dict of slips -/
def zipKV (xs : List Str) (vs : List Nat) : List (Key × V) := List.zipWith (fun x v => ((Sum.inr x : Key), V.int (v : Nat))) xs vs
theorem zipKV_snoc {xs : List Str} {vs : List Nat} {x : Str} {v : Nat} (h : xs.length = vs.length) : zipKV (xs ++ [x]) (vs ++ [v]) = zipKV xs vs ++ [(Sum.inr x, .int (v : Nat))] := by
  unfold zipKV
  rw [List.zipWith_append h]
  rfl
theorem zipKV_len {xs : List Str} {vs : List Nat} (h : xs.length = vs.length) : (zipKV xs vs).length = xs.length := by
  unfold zipKV
  rw [List.length_zipWith, h, Nat.min_self]
theorem zipKV_get : ∀ {xs : List Str} {vs : List Nat} {i : Nat} {x : Str} {v : Nat}, xs.Nodup → xs[i]? = some x → vs[i]? = some v → valV (zipKV xs vs) (Sum.inr x) = some (.int (v : Nat))
  | [], _, _, _, _, _, h, _ => by simp at h
  | _ :: _, [], _, _, _, _, _, h => by simp at h
  | y :: xs, u :: vs, 0, x, v, hn, hx, hv => by
    obtain rfl := Option.some.inj hx
    obtain rfl := Option.some.inj hv
    exact valV_pos rfl
  | y :: xs, u :: vs, i + 1, x, v, hn, hx, hv => by
    obtain ⟨n1, n2⟩ := List.nodup_cons.mp hn
    have hx' : xs[i]? = some x := hx
    have hne : ¬ ((Sum.inr y : Key) = Sum.inr x) := fun e => n1 (by rw [Sum.inr.inj e]; exact List.mem_of_getElem? hx')
    exact (valV_neg hne).trans (zipKV_get n2 hx' hv)
theorem zipKV_none : ∀ {xs : List Str} {vs : List Nat} {x : Str}, x ∉ xs → valV (zipKV xs vs) (Sum.inr x) = none
  | [], _, _, _ => rfl
  | _ :: _, [], _, _ => rfl
  | y :: xs, u :: vs, x, h => by
    have hne : ¬ ((Sum.inr y : Key) = Sum.inr x) := fun e => h (by rw [Sum.inr.inj e]; simp)
    exact (valV_neg hne).trans (zipKV_none fun m => h (List.mem_cons_of_mem _ m))
/-- a list of dicts of slips -/
structure DictL (H : Hp) (us : List V) (xs : List Str) (S : List (List Nat)) : Prop where
  len : us.length = S.length
  at_ : ∀ (i : Nat) (v : V) (vs : List Nat), us[i]? = some v → S[i]? = some vs → ∃ d, v = .ref d ∧ H d = some (.dK (zipKV xs vs))
section
variable {H H' : Hp} {us ws : List V} {xs : List Str} {S R : List (List Nat)}
theorem DictL.same (e : Same H H') (h : DictL H us xs S) : DictL H' us xs S := ⟨h.len, fun i v vs a b => let ⟨d, e1, e2⟩ := h.at_ i v vs a b; ⟨d, e1, e _ _ e2⟩⟩
theorem DictL.lst {p : Addr} {ys : List V} {o : HO} (hp : H p = some (.lst ys)) (h : DictL H us xs S) : DictL (upd H p o) us xs S := ⟨h.len, fun i v vs a b => let ⟨d, e1, e2⟩ := h.at_ i v vs a b; ⟨d, e1, (upd_ne (ne_of e2 hp (by intro z; cases z))).trans e2⟩⟩
theorem DictL.nil : DictL H [] xs [] := ⟨rfl, fun i v c a _ => by simp at a⟩
theorem DictL.snoc {d : Addr} {vs : List Nat} (h : DictL H us xs S) (hd : H d = some (.dK (zipKV xs vs))) : DictL H (us ++ [.ref d]) xs (S ++ [vs]) := by
  refine ⟨by rw [List.length_append, List.length_append, h.len]; rfl, fun i v c a b => ?_⟩
  by_cases q : i < us.length
  · rw [List.getElem?_append_left q] at a
    rw [List.getElem?_append_left (by rw [← h.len]; exact q)] at b
    exact h.at_ i v c a b
  · rw [List.getElem?_append_right (by omega)] at a
    rw [List.getElem?_append_right (by rw [← h.len]; omega), ← h.len] at b
    have hi : i - us.length = 0 := by
      have := (List.getElem?_eq_some_iff.mp a).1
      rw [List.length_singleton] at this
      omega
    rw [hi] at a b
    rw [← Option.some.inj a, ← Option.some.inj b]
    exact ⟨d, rfl, hd⟩
end
def spAllSlips (K : PySem.W.Frag) : Sp := fun vs H Q _ => ∃ (a r : Addr) (W : Nat) (line xs : List Str) (ρ : Str → Nat × Nat) (kvs : List (Key × V)), vs = [.ref a, .ref r, .int (W : Nat)] ∧ SqL K H a (line.map V.str) ∧ H r = some (.dK kvs) ∧ RestsD K H kvs xs ρ ∧ (∀ x ∈ line, x ∈ xs) ∧ line.Nodup ∧ line.length ≤ 4 ∧ 0 < W ∧ W ≤ 12 ∧
  ∀ (L : Addr) (us : List V) (H' : Hp), Same H H' → H L = none → H' L = some (.lst us) → DictL H' us line (G.allP ρ W line) → Q (.ref L) H'
theorem sc__law_all_slips : FnScope ["_law_line", "_law_rests", "_law_wide", "_law_found", "_law_name", "_law_some", "_law_later", "_law_slips", "_law_slip", "_law_longer"] ["_law_line", "_law_rests", "_law_wide"] (defScope s__law_all_slips) := ⟨rfl, rfl, rfl, by decide +kernel, rfl, by decide +kernel, by decide +kernel⟩
theorem ok__law_all_slips (D : DefAt K mg "_law_all_slips" s__law_all_slips) (T : Txt K mg CK CW)  (c__law_common : C8.Cal P w K mg base 1 "_law_common" spGcd []) : C8.Cal P w K mg base 2 "_law_all_slips" (spAllSlips K) [] := by
  refine cal_of D sc__law_all_slips (ps := ["_law_line", "_law_rests", "_law_wide"]) (fun _ _ _ _ _ _ us hl => match us, hl with | [_, _, _], _ => rfl) (fun vs H Q E h => ?_) fun f cdv A outer s H vs Q E hr h => ?_
  · obtain ⟨a, r, W, line, xs, ρ, kvs, rfl, ha, hr0, hR, hsub, hln, hl, hW0, hW, q⟩ := h
    rfl
  · obtain ⟨a, r, W, line, xs, ρ, kvs, rfl, ha, hr0, hR, hsub, hln, hl, hW0, hW, q⟩ := h
    have hu := hu_of hr
    refine ⟨_, (pss_cons (ps_set (i := 3) sc__law_all_slips.nd rfl (Or.inl rfl) (pe_lst (pa_cons pe_dnewK pa_nil)))
    (pss_cons (ps_for PassesOwn.never rfl (pi_list (pv 0)) (pg_name (i := 4) sc__law_all_slips.nd rfl (Or.inr rfl)) 
      (pss_cons (ps_setLc (i := 5) (own := [("_law_slip", 8)]) rfl sc__law_all_slips.nd rfl rfl (sw_true rfl rfl rfl (by decide +kernel)) (pi_range1 (by rfl) T.b_range (pa_cons (pv 2) pa_nil)) (blkOk_by (own := [("_law_slip", 8)]) (N := ["_law_line", "_law_rests", "_law_wide", "_law_found", "_law_name", "_law_some", "_law_later", "_law_slips", "_law_slip", "_law_longer"]) (sc := defScope s__law_all_slips) (by decide +kernel)) (fun _ _ _ _ _ => pg_name (i := 8) sc__law_all_slips.nd rfl (Or.inl rfl)) (fun _ _ _ _ _ => (pts_one (pt_cmpR op_eq (pe_op op_mod (pe_op op_sub (pv 8) (pe_ix (k_ixt K) (pe_dget hu (pv 1) (pv 4) (fun _ _ => rfl)) pe_int (fun _ _ => rfl))) (C8.pe_c c__law_common hr (by omega) rfl (pa_cons (pe_ix (k_ixt K) (pe_dget hu (pv 1) (pv 4) (fun _ _ => rfl)) pe_int (fun _ _ => rfl)) (pa_cons (pv 2) pa_nil)))) pe_int (nomark _)))) (fun _ _ _ _ _ => (pv 8)))
      (pss_cons (ps_set (i := 6) sc__law_all_slips.nd rfl (Or.inl rfl) (pe_lst pa_nil))
      (pss_cons (ps_for PassesOwn.never rfl (pi_list (pv 3)) (pg_name (i := 7) sc__law_all_slips.nd rfl (Or.inl rfl)) 
        (pss_one (ps_for PassesOwn.never rfl (pi_list (pv 5)) (pg_name (i := 8) sc__law_all_slips.nd rfl (Or.inl rfl)) 
          (pss_cons (ps_set (i := 9) sc__law_all_slips.nd rfl (Or.inl rfl) (pe_callTy call_dictD (by rfl) T.b_dict (by decide +kernel) (pa_cons (pv 7) pa_nil)))
          (pss_cons (ps_dput hu (pv 9) (pv 4) (pv 8) rfl)
          (pss_one (ps_expr (pe_bm PySem.F.plainAttrs_list PySem.F.slot_list_append PySem.F.type_list_append mt_append (pv 6) (pa_cons (pv 9) pa_nil)))))))))
      (pss_one (ps_set (i := 3) sc__law_all_slips.nd rfl (Or.inl rfl) (pv 6)))))))
    (pss_one (ps_ret (pv 3))))), ?_⟩
    -- slots: _law_line 0, _law_rests 1, _law_wide 2, _law_found 3, _law_name 4, _law_some 5, _law_later 6, _law_slips 7, _law_slip 8, _law_longer 9
    have hsl : (line.map V.str).length = line.length := List.length_map ..
    intro D0 hD0
    refine ⟨by show 1 ≤ sizeLine; decide, fun F0 hF0 => ?_⟩
    have e1 : Same H (upd (upd H D0 (.dK [])) F0 (.lst [.ref D0])) := (same_upd hD0).trans (same_upd hF0)
    have h1 : upd (upd H D0 (.dK [])) F0 (.lst [.ref D0]) F0 = some (.lst [.ref D0]) := upd_same
    have h1d : upd (upd H D0 (.dK [])) F0 (.lst [.ref D0]) D0 = some (.dK []) := (upd_ne (ne_of_none upd_same hF0)).trans upd_same
    have F0n : H F0 = none := (same_upd hD0).free hF0
    generalize upd (upd H D0 (.dK [])) F0 (.lst [.ref D0]) = H1 at *
    refine ⟨_, rfl, a, rfl, ⟨_, e1.seq ha⟩, ?_⟩
    refine for_it walk_list (fun i σ H' => ∃ (F : Addr) (us : List V) (n4 n5 n6 n7 n8 n9 : Option V), σ = [some (.ref a), some (.ref r), some (.int (W : Nat)), some (.ref F), n4, n5, n6, n7, n8, n9] ∧ Same H H' ∧ H F = none ∧ H' F = some (.lst us) ∧ DictL H' us (line.take i) (G.allP ρ W (line.take i)))
      ⟨F0, [.ref D0], _, _, _, _, _, _, rfl, e1, F0n, h1, (DictL.nil (xs := [])).snoc (vs := []) h1d⟩ (fun i σ H' _ ⟨_, _, _, _, _, _, _, _, _, pv, _⟩ => pv.seq ha) (fun i z σ H' H'' hi pv y => ?_) fun σ H' pv => ?_
    · obtain ⟨rfl, hz⟩ := y
      obtain ⟨x, hx, rfl⟩ := str_at hz
      obtain ⟨F, us, n4, n5, n6, n7, n8, n9, rfl, s1, Fn, hF, hU⟩ := pv
      have hxs := hsub x (List.mem_of_getElem? hx)
      have hil : i < line.length := by rw [hsl] at hi; exact hi
      obtain ⟨rv, hrv, ar, rfl, hra⟩ := hR.val x hxs
      have gp : 0 < Nat.gcd (ρ x).2 W := Nat.gcd_pos_of_pos_right _ hW0
      refine ⟨_, rfl, W, rfl, by omega, by omega, ?_⟩
      rw [Int.toNat_natCast]
      intro SL hSL
      refine lc_it walk_range (Told H'' SL fun k => intL (((List.range W).take k).filter fun v => decide (((v : Nat) - ((ρ x).1 : Nat) : Int) % (Nat.gcd (ρ x).2 W : Nat) = 0))) (Told.start hSL rfl) (fun _ _ _ _ => trivial) (fun k z2 H2 H3 hk pv yy => ?_) fun H2 pv => ?_
      · obtain ⟨rfl, hz2⟩ := yy
        obtain rfl : z2 = .int (0 + (k : Nat)) := hz2
        have hkr : (List.range W)[k]? = some k := List.getElem?_range hk
        have sx := s1.trans pv.same
        refine ⟨rfl, ?_⟩
        refine ⟨_, rfl, _, rfl, _, rfl, r, _, rfl, dget_str (sx _ _ hr0) hrv, ar, _, 0, _, rfl, rfl, same_tup sx hra, atI_nat (j := 0) rfl, _, _, rfl, rfl, _, rfl, _, rfl, r, _, rfl, dget_str (sx _ _ hr0) hrv, ar, _, 1, _, rfl, rfl, same_tup sx hra, atI_nat (j := 1) rfl, _, rfl, (ρ x).2, W, rfl, _, _, rfl, rfl, (by show (0 : Int) < (Nat.gcd (ρ x).2 W : Nat); omega), rfl, _, rfl, ?_⟩
        rw [Int.zero_add]
        by_cases c : ((k : Nat) - ((ρ x).1 : Nat) : Int) % (Nat.gcd (ρ x).2 W : Nat) = 0
        · rw [decide_eq_true (show V.int (((k : Nat) - ((ρ x).1 : Nat) : Int) % (Nat.gcd (ρ x).2 W : Nat)) = V.int 0 by rw [c])]
          show (if true = true then _ else _)
          rw [if_pos rfl]
          refine ⟨_, rfl, ?_⟩
          refine pv.put hSL (Same.refl _) ?_ ?_
          · rw [take_snoc hkr, List.filter_append, List.filter_cons, if_pos (by rw [decide_eq_true c]), List.filter_nil]
            exact inl_snoc _ _
          · rw [intL_len]
            refine Nat.lt_of_le_of_lt (List.length_filter_le ..) ?_
            rw [List.length_take]
            omega
        · rw [decide_eq_false (show ¬ V.int (((k : Nat) - ((ρ x).1 : Nat) : Int) % (Nat.gcd (ρ x).2 W : Nat)) = V.int 0 from fun e => c (V.int.inj e))]
          show (if false = true then _ else _)
          rw [if_neg (by decide)]
          refine pv.skip (Same.refl _) ?_
          rw [take_snoc hkr, List.filter_append, List.filter_cons, if_neg (by rw [decide_eq_false c]; decide), List.filter_nil]
          simp
      · have hSL2 : H2 SL = some (.lst (intL (G.someL (ρ x) W))) := by
          rw [pv.at_, List.take_of_length_le (by rw [List.length_range]; exact Nat.le_refl _)]
          rfl
        have s2 := s1.trans pv.same
        have hF2 := pv.same _ _ hF
        have hU2 := hU.same pv.same
        refine ⟨Nat.zero_le _, fun LL hLL => ?_⟩
        have e3 : Same H2 (upd H2 LL (.lst [])) := same_upd hLL
        have h3 : upd H2 LL (.lst []) LL = some (.lst []) := upd_same
        have LLn : H LL = none := s2.free hLL
        generalize upd H2 LL (.lst []) = H3 at *
        refine ⟨_, rfl, F, rfl, ⟨_, SqL.of (e3 _ _ hF2)⟩, ?_⟩
        have hacc : ∀ vs ∈ G.allP ρ W (line.take i), vs.length = (line.take i).length := fun vs hv => G.allP_mem_len _ _ rfl vs hv
        have hAl : (G.allP ρ W (line.take i)).length ≤ 1728 := by
          refine Nat.le_trans (G.allP_len _ _ rfl) ?_
          have h1 : (line.take i).length ≤ 3 := by rw [List.length_take]; omega
          refine Nat.le_trans (Nat.pow_le_pow_left hW _) ?_
          exact Nat.le_trans (Nat.pow_le_pow_right (by decide) h1) (by decide)
        have hsl12 := G.someL_len (r := ρ x) (W := W)
        have htk : line.take (i + 1) = line.take i ++ [x] := take_snoc hx
        have hxn := nd_take hln hx
        have hgrow : G.allP ρ W (line.take i ++ [x]) = G.grow (ρ x) W (G.allP ρ W (line.take i)) := G.allP_snoc
        rw [htk, hgrow]
        generalize G.allP ρ W (line.take i) = acc at *
        generalize hsm : G.someL (ρ x) W = sm at *
        have hgr : G.grow (ρ x) W acc = acc.flatMap fun vs => sm.map fun v => vs ++ [v] := by
          unfold G.grow
          rw [hsm]
        rw [hgr]
        have hcnt : ∀ j, ((acc.take j).flatMap fun vs => sm.map fun v => vs ++ [v]).length ≤ 20736 := fun j => by
          have h1 := G.grow_len (r := ρ x) (W := W) (acc.take j)
          unfold G.grow at h1
          rw [hsm] at h1
          have h2 : (acc.take j).length ≤ 1728 := by rw [List.length_take]; omega
          have h3 := Nat.mul_le_mul h2 hW
          omega
        have hul : us.length = acc.length := hU2.len
        refine for_it walk_list (fun j σ H' => ∃ (ws : List V) (n7 n8 n9 : Option V), σ = [some (.ref a), some (.ref r), some (.int (W : Nat)), some (.ref F), some (.str x), some (.ref SL), some (.ref LL), n7, n8, n9] ∧ Same H2 H' ∧ H' LL = some (.lst ws) ∧ DictL H' ws (line.take i ++ [x]) ((acc.take j).flatMap fun vs => sm.map fun v => vs ++ [v]))
          ⟨[], _, _, _, rfl, e3, h3, DictL.nil⟩ (fun j σ H' _ ⟨_, _, _, _, _, pv, _⟩ => SqL.of (pv _ _ hF2)) (fun j z2 σ H4 H5 hj pv yy => ?_) fun σ H' pv => ?_
        · obtain ⟨rfl, hz2⟩ := yy
          obtain ⟨ws, n7, n8, n9, rfl, s4, hL4, hD4⟩ := pv
          have hj' : j < acc.length := by rw [← hul]; exact hj
          have hvs := List.getElem?_eq_getElem hj'
          obtain ⟨dj, rfl, hdj⟩ := hU2.at_ j _ _ hz2 hvs
          have hvl := hacc _ (List.getElem_mem hj')
          generalize acc[j] = vs at *
          refine ⟨_, rfl, SL, rfl, ⟨_, SqL.of (s4 _ _ hSL2)⟩, ?_⟩
          refine for_it walk_list (fun k σ H' => ∃ (ws : List V) (n8 n9 : Option V), σ = [some (.ref a), some (.ref r), some (.int (W : Nat)), some (.ref F), some (.str x), some (.ref SL), some (.ref LL), some (.ref dj), n8, n9] ∧ Same H2 H' ∧ H' LL = some (.lst ws) ∧ DictL H' ws (line.take i ++ [x]) (((acc.take j).flatMap fun vs => sm.map fun v => vs ++ [v]) ++ (sm.take k).map fun v => vs ++ [v]))
            ⟨ws, _, _, rfl, s4, hL4, by rw [List.take_zero, List.map_nil, List.append_nil]; exact hD4⟩ (fun j σ H' _ ⟨_, _, _, _, pv, _⟩ => SqL.of (pv _ _ hSL2)) (fun k z3 σ H6 H7 hk pv yy => ?_) fun σ H' pv => ?_
          · obtain ⟨rfl, hz3⟩ := yy
            obtain ⟨ws2, n8', n9', rfl, s6, hL6, hD6⟩ := pv
            unfold intL at hz3
            rw [List.getElem?_map] at hz3
            obtain ⟨v, hv, rfl⟩ := Option.map_eq_some_iff.mp hz3
            refine ⟨_, rfl, dj, _, rfl, .inl (s6 _ _ hdj), fun p hp => ?_⟩
            have e7 : Same H7 (upd H7 p (.dK (zipKV (line.take i) vs))) := same_upd hp
            refine ⟨_, rfl, _, rfl, _, rfl, p, _, rfl, DPut.k (k := Sum.inr x) (upd_same) (sz_lt (by rw [zipKV_len hvl.symm, List.length_take]; omega)), ?_⟩
            rw [putK_new _ (zipKV_none hxn), ← zipKV_snoc hvl.symm]
            have e8 : Same H7 (upd (upd H7 p (.dK (zipKV (line.take i) vs))) p (.dK (zipKV (line.take i ++ [x]) (vs ++ [v])))) := same_mut e7 hp
            have h8 : upd (upd H7 p (.dK (zipKV (line.take i) vs))) p (.dK (zipKV (line.take i ++ [x]) (vs ++ [v]))) p = some (.dK (zipKV (line.take i ++ [x]) (vs ++ [v]))) := upd_same
            generalize upd (upd H7 p (.dK (zipKV (line.take i) vs))) p (.dK (zipKV (line.take i ++ [x]) (vs ++ [v]))) = H8 at *
            have hL8 := e8 _ _ hL6
            have hwl : ws2.length ≤ 30000 := by
              have h1 := hD6.len
              have h2 := hcnt j
              rw [List.length_append, List.length_map, List.length_take] at h1
              omega
            refine ⟨_, rfl, .inl ⟨rfl, _, SqL.of hL8⟩, _, rfl, LL, _, .ref p, rfl, rfl, hL8, sz_lt (by omega), ?_⟩
            refine ⟨ws2 ++ [.ref p], some (.int (v : Nat)), some (.ref p), rfl, same_mut (s6.trans e8) hLL, upd_same, ?_⟩
            rw [take_snoc hv, List.map_append, ← List.append_assoc]
            exact ((hD6.same e8).snoc h8).lst hL8
          · obtain ⟨ws2, n8', n9', rfl, s6, hL6, hD6⟩ := pv
            refine ⟨ws2, _, _, _, rfl, s6, hL6, ?_⟩
            rw [intL_len, List.take_length] at hD6
            rw [take_snoc hvs, List.flatMap_append]
            have : ([vs] : List (List Nat)).flatMap (fun vs => sm.map fun v => vs ++ [v]) = sm.map fun v => vs ++ [v] := by
              rw [List.flatMap_cons, List.flatMap_nil, List.append_nil]
            rw [this]
            exact hD6
        · obtain ⟨ws, n7, n8, n9, rfl, s4, hL4, hD4⟩ := pv
          rw [hul, List.take_length] at hD4
          refine ⟨_, rfl, LL, ws, _, _, _, _, _, _, rfl, s2.trans s4, LLn, hL4, hD4⟩
    · obtain ⟨F, us, n4, n5, n6, n7, n8, n9, rfl, s1, Fn, hF, hU⟩ := pv
      rw [hsl, List.take_length] at hU
      exact ⟨_, rfl, q F us H' s1 Fn hF hU⟩
end
end GK
set_option Elab.async false
set_option linter.all false
set_option maxRecDepth 100000
set_option maxHeartbeats 4000000
namespace GK
open PySem PySem.Spec PyProof.Rows L2
section
variable {P : Program} {w : World} {K : PySem.W.Frag} {mg : Str → Option Value} {base : Heap} {CK CW : Addr}
/-- a row made -/
def RowAt (K : PySem.W.Frag) (line : List Str) (b : Str) (H : Hp) (v : V) (t : List Str) : Prop := ∃ r f o, v = .ref r ∧ SqT K H r [.ref f, .ref o] ∧ SqL K H f ((G.figN line [b] b t).map V.int) ∧ SqT K H o ((b :: t).map V.str)
/-- a row read: its order -/
def RowOf (K : PySem.W.Frag) (b : Str) (H : Hp) (v : V) (t : List Str) : Prop := ∃ r vf o, v = .ref r ∧ SqT K H r [vf, .ref o] ∧ SqT K H o ((b :: t).map V.str)
theorem RowAt.dp {line : List Str} {b : Str} {H : Hp} {v : V} {t : List Str} (h : RowAt K line b H v t) : Dp K H v (rowD line b t) := by
  obtain ⟨r, f, o, rfl, h1, h2, h3⟩ := h
  exact .tup h1 (.cons (.lst h2 (dp_int _)) (.cons (.tup h3 (dp_strs _)) .nil))
theorem RowOf.same {b : Str} {H H' : Hp} {v : V} {t : List Str} (e : Same H H') (h : RowOf K b H v t) : RowOf K b H' v t := let ⟨r, vf, o, h1, h2, h3⟩ := h; ⟨r, vf, o, h1, same_tup e h2, same_tup e h3⟩
theorem figs_int (line : List Str) (b : Str) (t : List Str) : intL (figs line b t) = (G.figN line [b] b t).map V.int := by
  unfold intL figs G.figN
  rw [List.map_map, List.map_map]
  rfl
def spOneRight (K : PySem.W.Frag) (CK : Addr) : Sp := fun vs H Q _ => ∃ (kn a Lo : Addr) (b : Str) (xs line : List Str) (ρ : Str → Nat × Nat) (us : List V) (OS : List (List Str)), vs = [.ref kn, .ref a, .str b, .ref Lo] ∧ KnownAt K CK H kn xs ρ ∧ SqL K H a (line.map V.str) ∧ SeatsOk line xs ∧ NamesOk xs ∧ b ∈ line ∧ smallR ρ line ∧ line.length ≤ 4 ∧
  SqL K H Lo us ∧ TupL K H us (OS.map (b :: ·)) ∧ OS.Nodup ∧ (∀ t, t ∈ OS ↔ t ∈ G.tails ρ line (line.length - 1) [b] b) ∧ ∀ (H' : Hp), Same H H' → Q (.bl true) H'
theorem sc__law_one_right : FnScope ["_law_wise", "_law_line", "_law_begin", "_law_orders", "_law_rows", "_law_number", "_law_row", "_law_size", "_law_later", "_law_told", "_law_surely", "_law_order_here"] ["_law_wise", "_law_line", "_law_begin", "_law_orders"] (defScope s__law_one_right) := ⟨rfl, rfl, rfl, by decide +kernel, rfl, by decide +kernel, by decide +kernel⟩
theorem ok__law_one_right (D : DefAt K mg "_law_one_right" s__law_one_right) (T : Txt K mg CK CW)  (c_sure : C8.Cal P w K mg base 7 "sure" (spSure K CK) []) (c_next_ones : C8.Cal P w K mg base 7 "next_ones" (spNextOnes K CK) []) (c__law_goes : C8.Cal P w K mg base 2 "_law_goes" (spGoes K) []) (c_slips_for : C8.Cal P w K mg base 8 "slips_for" (spSlipsFor K CK) []) (c_number_may : C8.Cal P w K mg base 19 "number_may" (spNumberMay K CK) []) (c_order_may : C8.Cal P w K mg base 19 "order_may" (spOrderMay K CK) []) (c_how_many : C8.Cal P w K mg base 19 "how_many" (spHowMany K CK) []) (c__law_figures : C8.Cal P w K mg base 2 "_law_figures" (spFigures K) []) : C8.Cal P w K mg base 21 "_law_one_right" (spOneRight K CK) [] := by
  refine cal_of D sc__law_one_right (ps := ["_law_wise", "_law_line", "_law_begin", "_law_orders"]) (fun _ _ _ _ _ _ us hl => match us, hl with | [_, _, _, _], _ => rfl) (fun vs H Q E h => ?_) fun f cdv A outer s H vs Q E hr h => ?_
  · obtain ⟨kn, a, Lo, b, xs, line, ρ, us, OS, rfl, hK, ha, so, ok, hb, hρ, hl4, hLo, hT, hOn, hOm, q⟩ := h
    rfl
  · obtain ⟨kn, a, Lo, b, xs, line, ρ, us, OS, rfl, hK, ha, so, ok, hb, hρ, hl4, hLo, hT, hOn, hOm, q⟩ := h
    refine ⟨_, (pss_cons (ps_set (i := 4) sc__law_one_right.nd rfl (Or.inl rfl) (pe_callB (cr_sortedD hr.units) (by rfl) T.b_sorted (by decide +kernel) (pa_cons (pe_lc (own := [("_law_order_here", 11)]) rfl sc__law_one_right.nd (pi_list (pv 3)) (blkOk_by (own := [("_law_order_here", 11)]) (N := ["_law_wise", "_law_line", "_law_begin", "_law_orders", "_law_rows", "_law_number", "_law_row", "_law_size", "_law_later", "_law_told", "_law_surely", "_law_order_here"]) (sc := defScope s__law_one_right) (by decide +kernel)) (fun _ _ _ _ _ => pg_name (i := 11) sc__law_one_right.nd rfl (Or.inl rfl)) (fun _ _ _ _ _ => pts_nil) (fun _ _ _ _ _ => (pe_tup (pa_cons (C8.pe_c c__law_figures hr (by omega) rfl (pa_cons (pv 1) (pa_cons (pv 11) pa_nil))) (pa_cons (pv 11) pa_nil))))) pa_nil)))
    (pss_cons (ps_if (pt_cmpR op_ne (C8.pe_c c_how_many hr (by omega) rfl (pa_cons (pv 0) (pa_cons (pv 1) (pa_cons (pv 2) pa_nil)))) (pe_callB call_len_seq (by rfl) T.b_len (by decide +kernel) (pa_cons (pv 4) pa_nil)) (nomark _)) 
      (pss_one (ps_ret pe_bl)) pss_nil)
    (pss_cons (ps_for PassesOwn.never rfl (pi_enum (by rfl) T.b_enumerate (pa_cons (pv 4) pa_nil)) (pg_tup (by rfl) (pgs_cons (pg_name (i := 5) sc__law_one_right.nd rfl (Or.inl rfl)) (pgs_cons (pg_name (i := 6) sc__law_one_right.nd rfl (Or.inr rfl)) pgs_nil))) 
      (pss_cons (ps_if (PW.pt (pw_or (pt_cmpR (op_neD hr.units) (C8.pe_c c_order_may hr (by omega) rfl (pa_cons (pv 0) (pa_cons (pv 1) (pa_cons (pv 2) (pa_cons (pv 5) pa_nil))))) (pe_ix ix_tup (pv 6) pe_int (fun _ _ => rfl)) (nomark _)) (pw_or1 (pt_cmpR op_ne (C8.pe_c c_number_may hr (by omega) rfl (pa_cons (pv 0) (pa_cons (pv 1) (pa_cons (pe_ix ix_tup (pv 6) pe_int (fun _ _ => rfl)) pa_nil)))) (pv 5) (nomark _))))) 
        (pss_one (ps_ret pe_bl)) pss_nil)
      (pss_cons (ps_if (pt_cmpR (op_neD hr.units) (pe_ix ix_tup (C8.pe_c c__law_goes hr (by omega) rfl (pa_cons (pv 1) (pa_cons (C8.pe_c c_slips_for hr (by omega) rfl (pa_cons (pv 0) (pa_cons (pv 1) (pa_cons (pe_ix ix_tup (pv 6) pe_int (fun _ _ => rfl)) pa_nil)))) (pa_cons (pv 2) pa_nil)))) pe_int (fun _ _ => rfl)) (pe_ix ix_tup (pv 6) pe_int (fun _ _ => rfl)) (nomark _)) 
        (pss_one (ps_ret pe_bl)) pss_nil)
      (pss_one (ps_for PassesOwn.never rfl (pi_range2 (by rfl) T.b_range (pa_cons pe_int (pa_cons (pe_op op_add (pe_callB call_len_seq (by rfl) T.b_len (by decide +kernel) (pa_cons (pv 1) pa_nil)) pe_int) pa_nil))) (pg_name (i := 7) sc__law_one_right.nd rfl (Or.inr rfl)) 
        (pss_cons (ps_setLc (i := 8) (own := [("_law_order_here", 11)]) rfl sc__law_one_right.nd rfl rfl (sw_true rfl rfl rfl (by decide +kernel)) (pi_list (pv 3)) (blkOk_by (own := [("_law_order_here", 11)]) (N := ["_law_wise", "_law_line", "_law_begin", "_law_orders", "_law_rows", "_law_number", "_law_row", "_law_size", "_law_later", "_law_told", "_law_surely", "_law_order_here"]) (sc := defScope s__law_one_right) (by decide +kernel)) (fun _ _ _ _ _ => pg_name (i := 11) sc__law_one_right.nd rfl (Or.inl rfl)) (fun _ _ _ _ _ => (pts_one (PW.pt (pw_and (pt_cmpR (k_eqD K hr.units) (pe_slice (k_slA K) (pv 11) po_none (po_some (pv 7))) (pe_slice (k_slA K) (pe_ix (k_ixt K) (pv 6) pe_int (fun _ _ => rfl)) po_none (po_some (pv 7))) (nomark _)) (pw_and1 (pt_cmpR op_lt (pv 7) (pe_callB (k_len K) (by rfl) T.b_len (by decide +kernel) (pa_cons (pv 1) pa_nil)) (nomark _))))))) (fun _ _ _ _ _ => (pe_ix (k_ixt K) (pv 11) (pv 7) (fun _ _ => rfl))))
        (pss_cons (ps_set (i := 9) sc__law_one_right.nd rfl (Or.inl rfl) (C8.pe_c c_next_ones hr (by omega) rfl (pa_cons (pv 0) (pa_cons (pv 1) (pa_cons (pe_slice sl_tupA (pe_ix ix_tup (pv 6) pe_int (fun _ _ => rfl)) po_none (po_some (pv 7))) pa_nil)))))
        (pss_one (ps_if (pt_cmpR (op_neD hr.units) (pe_callB cr_sortedS (by rfl) T.b_sorted (by decide +kernel) (pa_cons (pv 9) pa_nil)) (pe_callB (cr_sortedTx rfl) (by rfl) T.b_sorted (by decide +kernel) (pa_cons (pe_callTy (cr_setTx rfl) (by rfl) T.b_set (by decide +kernel) (pa_cons (pv 8) pa_nil)) pa_nil)) (nomark _)) 
          (pss_one (ps_ret pe_bl)) pss_nil)))))))))
    (pss_cons (ps_set (i := 10) sc__law_one_right.nd rfl (Or.inr rfl) (C8.pe_c c_sure hr (by omega) rfl (pa_cons (pv 0) (pa_cons (pv 1) (pa_cons (pv 2) pa_nil)))))
    (pss_cons (ps_if (pt_cmpR (op_neD hr.units) (pe_lc (own := [("_law_order_here", 11)]) rfl sc__law_one_right.nd (pi_list (pv 3)) (blkOk_by (own := [("_law_order_here", 11)]) (N := ["_law_wise", "_law_line", "_law_begin", "_law_orders", "_law_rows", "_law_number", "_law_row", "_law_size", "_law_later", "_law_told", "_law_surely", "_law_order_here"]) (sc := defScope s__law_one_right) (by decide +kernel)) (fun _ _ _ _ _ => pg_name (i := 11) sc__law_one_right.nd rfl (Or.inl rfl)) (fun _ _ _ _ _ => (pts_one (pt_cmpR (k_neD K hr.units) (pe_slice (k_slA K) (pv 11) po_none (po_some (pe_callB (k_len K) (by rfl) T.b_len (by decide +kernel) (pa_cons (pv 10) pa_nil)))) (pv 10) (nomark _)))) (fun _ _ _ _ _ => (pv 11))) (pe_lst pa_nil) (nomark _)) 
      (pss_one (ps_ret pe_bl)) pss_nil)
    (pss_one (ps_ret (pe_or (pe_cmpR op_eq (pe_callB call_len_seq (by rfl) T.b_len (by decide +kernel) (pa_cons (pv 10) pa_nil)) (pe_callB call_len_seq (by rfl) T.b_len (by decide +kernel) (pa_cons (pv 1) pa_nil)) (nomark _)) (pe_one (pe_cmpR op_gt (pe_callB cr_lenTx (by rfl) T.b_len (by decide +kernel) (pa_cons (pe_callTy (cr_setTx rfl) (by rfl) T.b_set (by decide +kernel) (pa_cons (pe_lc (own := [("_law_order_here", 11)]) rfl sc__law_one_right.nd (pi_list (pv 3)) (blkOk_by (own := [("_law_order_here", 11)]) (N := ["_law_wise", "_law_line", "_law_begin", "_law_orders", "_law_rows", "_law_number", "_law_row", "_law_size", "_law_later", "_law_told", "_law_surely", "_law_order_here"]) (sc := defScope s__law_one_right) (by decide +kernel)) (fun _ _ _ _ _ => pg_name (i := 11) sc__law_one_right.nd rfl (Or.inl rfl)) (fun _ _ _ _ _ => pts_nil) (fun _ _ _ _ _ => (pe_ix (k_ixt K) (pv 11) (pe_callB (k_len K) (by rfl) T.b_len (by decide +kernel) (pa_cons (pv 10) pa_nil)) (fun _ _ => rfl)))) pa_nil)) pa_nil)) pe_int (nomark _))))))))))), ?_⟩
    -- slots: _law_wise 0, _law_line 1, _law_begin 2, _law_orders 3, _law_rows 4, _law_number 5, _law_row 6, _law_size 7, _law_later 8, _law_told 9, _law_surely 10, _law_order_here 11
    have o1 := so.few
    have hsl := so.len
    have hl : line.length ≤ 12 := by omega
    have hwf := hρ.wf
    have hk1 : line.length - 1 + 1 = line.length := by omega
    have hA0 := G.At.first so.nd hb hk1
    have hsl2 : (line.map V.str).length = line.length := List.length_map ..
    obtain ⟨TS, hTS⟩ : ∃ TS, TS = G.tails ρ line (line.length - 1) [b] b := ⟨_, rfl⟩
    rw [← hTS] at hOm
    have hTn : TS.Nodup := by rw [hTS]; exact G.tails_nodup hA0
    have hOT : OS.Perm TS := (List.perm_ext_iff_of_nodup hOn hTn).mpr hOm
    have hfew : OS.length ≤ 6 := by
      rw [hOT.length_eq, hTS]
      refine Nat.le_trans (G.tails_few hA0) ?_
      have : ∀ j, j ≤ 3 → G.fct j ≤ 6 := by decide +kernel
      exact this _ (by omega)
    have hul : us.length = OS.length := by rw [hT.len, List.length_map]
    have hmem : ∀ t ∈ OS, (b :: t).Nodup ∧ (∀ x ∈ b :: t, x ∈ line) ∧ t.length = line.length - 1 := fun t ht => by
      have ht' := (hOm t).mp ht
      rw [hTS] at ht'
      have hP := G.path_tails so.nd hb hk1 ht'
      exact ⟨hP.nodup, fun x hx => hP.mem hx, G.tails_length ht'⟩
    have hget : ∀ (i : Nat) (v : V) (t : List Str), us[i]? = some v → OS[i]? = some t → ∃ o, v = .ref o ∧ SqT K H o ((b :: t).map V.str) := fun i v t h1 h2 => hT.at_ i v (b :: t) h1 (by rw [List.getElem?_map, h2]; rfl)
    refine ⟨_, rfl, Lo, rfl, ⟨_, hLo⟩, fun D hD => ?_⟩
    refine lc_it walk_list (Held H D fun i acc H' => acc.length = i ∧ ∀ (j : Nat) (v : V) (t : List Str), acc[j]? = some v → OS[j]? = some t → RowAt K line b H' v t) (Held.start hD ⟨rfl, fun j v t h => by simp at h⟩) (fun i H' _ pv => pv.same.seq hLo) (fun i z H' H'' hi pv y => ?_) fun H1 pv => ?_
    · obtain ⟨rfl, hz⟩ := y
      have hi' : i < OS.length := by rw [← hul]; exact hi
      have hti : OS[i]? = some OS[i] := List.getElem?_eq_getElem hi'
      obtain ⟨m1, m2, m3⟩ := hmem _ (List.getElem_mem hi')
      obtain ⟨o, rfl, ho⟩ := hget i z _ hz hti
      generalize OS[i] = t at *
      refine ⟨rfl, yes_in ?_⟩
      have s1 := pv.same
      refine ⟨_, rfl, _, rfl, a, o, line, b, t, rfl, s1.seq ha, same_tup s1 ho, so.nd, hl, m1, m2, fun F H2 e2 F0 hF => ?_⟩
      refine ⟨_, rfl, by show 2 ≤ sizeLine; decide, fun r hr => ?_⟩
      have e3 : Same H2 (upd H2 r (.tup [.ref F, .ref o])) := same_upd hr
      have h3 : upd H2 r (.tup [.ref F, .ref o]) r = some (.tup [.ref F, .ref o]) := upd_same
      have hF3 := e3 _ _ hF
      have rn : H'' r = none := e2.free hr
      generalize upd H2 r (.tup [.ref F, .ref o]) = H3 at *
      refine pv.put (e2.trans e3) fun acc H0 a1 a2 a3 a4 ⟨a5, a6⟩ => ⟨⟨by rw [List.length_append, a5]; rfl, fun j v t' hv ht' => ?_⟩, by omega⟩
      have sD : Same H0 (delH H3 D) := same_del (a3.trans (e2.trans e3)) a4
      by_cases hj : j < i
      · rw [List.getElem?_append_left (by omega)] at hv
        obtain ⟨r', f', o', e1, x1, x2, x3⟩ := a6 j v t' hv ht'
        exact ⟨r', f', o', e1, same_tup sD x1, sD.seq x2, same_tup sD x3⟩
      · rw [List.getElem?_append_right (by omega)] at hv
        have ej : j = i := by
          obtain ⟨g1, _⟩ := List.getElem?_eq_some_iff.mp hv
          simp at g1
          omega
        subst ej
        rw [a5, Nat.sub_self] at hv
        obtain rfl : V.ref r = v := Option.some.inj hv
        rw [hti] at ht'
        obtain rfl := Option.some.inj ht'
        have rD : r ≠ D := (ne_of_none a1 rn).symm
        have FD : F ≠ D := (ne_of_none a1 F0).symm
        rw [figs_int] at hF3
        exact ⟨r, F, o, rfl, SqT.of ((delH_ne rD).trans h3), SqL.of ((delH_ne FD).trans hF3), same_tup (a2.trans sD) ho⟩
    · obtain ⟨acc, H0', a1, a2, a3, a4, a5, a6⟩ := pv.ex
      rw [hul] at a5
      have s1 := pv.same
      have hz1 : (acc.zip OS).map Prod.fst = acc := List.map_fst_zip (by omega)
      have hz2 : (acc.zip OS).map Prod.snd = OS := List.map_snd_zip (by omega)
      have hrow : ∀ p ∈ acc.zip OS, RowAt K line b H1 p.1 p.2 := fun p hp => by
        obtain ⟨j, hj, e⟩ := List.mem_iff_getElem.mp hp
        rw [List.length_zip] at hj
        rw [List.getElem_zip] at e
        obtain ⟨r', f', o', e1, x1, x2, x3⟩ := a6 j p.1 p.2 (by rw [List.getElem?_eq_getElem (by omega), ← e]) (by rw [List.getElem?_eq_getElem (by omega), ← e])
        exact ⟨r', f', o', e1, same_tup a4 x1, a4.seq x2, same_tup a4 x3⟩
      have hb1 : ((acc.zip OS).map fun x => (x.1, rowD line b x.2)).map (·.1) = acc := by
        rw [List.map_map]
        exact hz1
      have hb2 : ((acc.zip OS).map fun x => (x.1, rowD line b x.2)).map (·.2) = OS.map (rowD line b) := by
        rw [List.map_map]
        conv => rhs; rw [← hz2, List.map_map]
        rfl
      have hsorted := rows_sorted (line := line) (b := b) (bs := (acc.zip OS).map fun x => (x.1, rowD line b x.2)) (TS := TS) (by rw [hTS]; exact G.tails_figs hA0) (by rw [hb2]; exact hOT.map _)
      refine ⟨D, (acc.zip OS).map fun x => (x.1, rowD line b x.2), rfl, SqL.of (by rw [hb1]; exact a1), fun p hp => ?_, ?_, ?_, fun p hp => ?_, fun RL hRL => ?_⟩
      · obtain ⟨x, hx, rfl⟩ := List.mem_map.mp hp
        exact (hrow x hx).dp
      · rw [hb2]
        exact PySem.W.AllAlike.of fun t u => alike_row
      · rw [hb2]
        exact PySem.W.Sortable.tuples fun t => ⟨_, _, rfl⟩
      · obtain ⟨x, hx, rfl⟩ := List.mem_map.mp hp
        exact depth_row
      have hsm : ∀ p ∈ ((acc.zip OS).map fun x => (x.1, rowD line b x.2)).mergeSort (PySem.W.dataLe false (·.2)), Dp K H1 p.1 p.2 := fun p hp => by
        obtain ⟨x, hx, rfl⟩ := List.mem_map.mp ((List.mergeSort_perm _ _).mem_iff.mp hp)
        exact (hrow x hx).dp
      generalize ((acc.zip OS).map fun x => (x.1, rowD line b x.2)).mergeSort (PySem.W.dataLe false (·.2)) = srt at *
      have hsl3 : srt.length = TS.length := by
        have := congrArg List.length hsorted
        rwa [List.length_map, List.length_map] at this
      have e2 : Same H1 (upd H1 RL (.lst (srt.map (·.1)))) := same_upd hRL
      have h2 : upd H1 RL (.lst (srt.map (·.1))) RL = some (.lst (srt.map (·.1))) := upd_same
      generalize upd H1 RL (.lst (srt.map (·.1))) = H2 at *
      have hrows : ∀ (i : Nat) (v : V) (t : List Str), (srt.map (·.1))[i]? = some v → TS[i]? = some t → RowOf K b H2 v t := fun i v t hv ht => by
        rw [List.getElem?_map] at hv
        obtain ⟨p, hp, rfl⟩ := Option.map_eq_some_iff.mp hv
        have h9 : (srt.map (·.2))[i]? = (TS.map (rowD line b))[i]? := by rw [hsorted]
        rw [List.getElem?_map, List.getElem?_map, hp, ht] at h9
        have h10 : p.2 = rowD line b t := Option.some.inj h9
        have hd := hsm p (List.mem_of_getElem? hp)
        rw [h10] at hd
        exact RowOf.same e2 (dp_row hd)
      have s2 := s1.trans e2
      have hwl : (srt.map (·.1)).length = TS.length := by rw [List.length_map, hsl3]
      generalize srt.map (·.1) = ws at *
      refine ⟨_, rfl, _, rfl, _, rfl, kn, a, b, xs, line, ρ, rfl, hK.same s2, s2.seq ha, so, hb, hwf, fun H3 e3 => ?_⟩
      refine ⟨_, rfl, RL, _, rfl, .inl (SqL.of (e3 _ _ h2)), rfl, _, rfl, ?_⟩
      rw [hwl, show decide (V.int ((cntW ρ line (line.length - 1) [b] b : Nat) : Int) = V.int (TS.length : Nat)) = true from decide_eq_true (by rw [hTS]; rfl)]
      refine iteF ?_
      have s3 := s2.trans e3
      refine ⟨_, rfl, RL, _, rfl, SqL.of (e3 _ _ h2), ?_⟩
      refine for_it walk_enum (fun i σ H' => ∃ (n5 n6 n7 n8 n9 n10 n11 : Option V), σ = [some (.ref kn), some (.ref a), some (.str b), some (.ref Lo), some (.ref RL), n5, n6, n7, n8, n9, n10, n11] ∧ Same H3 H') ⟨_, _, _, _, _, _, _, rfl, Same.refl _⟩ (fun i σ H' _ ⟨_, _, _, _, _, _, _, _, pv⟩ => SqL.of (pv _ _ (e3 _ _ h2))) (fun i z σ H' H'' hi pv y => ?_) fun σ H' pv => ?_
      · obtain ⟨n5, n6, n7, n8, n9, n10, n11, rfl, s4⟩ := pv
        obtain ⟨T0, v1, v2, rfl, hT0, rfl, hv1, hv2⟩ := y
        obtain rfl : v1 = .int (i : Nat) := (Option.some.inj hv1).symm
        have hi' : i < TS.length := by rw [← hwl]; exact hi
        have hti : TS[i]? = some TS[i] := List.getElem?_eq_getElem hi'
        obtain ⟨r, vf, o, rfl, hr, ho⟩ := hrows i v2 _ hv2 hti
        have htm : TS[i] ∈ G.tails ρ line (line.length - 1) [b] b := by rw [← hTS]; exact List.getElem_mem hi'
        generalize TS[i] = t at *
        have e5 : Same H' (upd H' T0 (.tup [.int (i : Nat), .ref r])) := same_upd hT0
        have h5 : upd H' T0 (.tup [.int (i : Nat), .ref r]) T0 = some (.tup [.int (i : Nat), .ref r]) := upd_same
        generalize upd H' T0 (.tup [.int (i : Nat), .ref r]) = H5 at *
        have s35 := s4.trans e5
        have s5 := s3.trans s35
        have hr5 := same_tup (e3.trans s35) hr
        have ho5 := same_tup (e3.trans s35) ho
        have hP := G.path_tails so.nd hb hk1 htm
        have htl := G.tails_length htm
        have hokt : ∀ x ∈ b :: t, TOk x := fun x hx => (ok.ok x ((so.mem x).mp (hP.mem hx))).tok
        refine ⟨T0, _, rfl, SqT.of h5, rfl, _, _, rfl, _, _, rfl, rfl, ?_⟩
        -- order_may
        refine ⟨_, rfl, _, rfl, _, rfl, _, rfl, kn, a, b, xs, line, ρ, i, t, rfl, hK.same s5, s5.seq ha, so, hb, hwf, by rw [← hTS]; exact hti, fun T1 H6 e6 _ hT1 => ?_⟩
        refine ⟨_, rfl, r, _, 1, _, rfl, rfl, same_tup e6 hr5, atI_nat (j := 1) rfl, ?_⟩
        refine ⟨_, _, dp_strT (SqT.of hT1), dp_strT (same_tup e6 ho5), shaped_strT hokt, shaped_strT hokt, false, by rw [eqv_strT, decide_eq_true rfl]; rfl, ?_⟩
        refine iteF ?_
        -- number_may
        have s6 := s5.trans e6
        refine ⟨_, rfl, _, rfl, _, rfl, r, _, 1, _, rfl, rfl, same_tup e6 hr5, atI_nat (j := 1) rfl, kn, a, o, b, xs, line, ρ, t, rfl, hK.same s6, s6.seq ha, so, same_tup e6 ho5, hb, hwf, htm, fun i2 H7 e7 hi2 => ?_⟩
        have ei : i2 = i := by
          rw [← hTS] at hi2
          obtain ⟨g1, g2⟩ := List.getElem?_eq_some_iff.mp hi2
          obtain ⟨g3, g4⟩ := List.getElem?_eq_some_iff.mp hti
          exact (List.getElem_inj hTn).mp (g2.trans g4.symm)
        subst ei
        refine ⟨_, rfl, rfl, false, by rw [decide_eq_true rfl]; rfl, ?_⟩
        refine iteF ?_
        have s7 := s6.trans e7
        have e57 := e6.trans e7
        refine ⟨_, rfl, _, rfl, _, rfl, _, rfl, r, _, 1, _, rfl, rfl, same_tup e57 hr5, atI_nat (j := 1) rfl, kn, a, o, b, xs, line, ρ, t, rfl, hK.same s7, s7.seq ha, so, same_tup e57 ho5, hb, hρ, htm, fun D2 kvs ρ' H8 e8 _ hN hD2 hS2 => ?_⟩
        have s8 := s7.trans e8
        refine ⟨_, rfl, a, D2, line, b, kvs, _, rfl, s8.seq ha, hD2, hS2, so.nd, hl, hb, fun p u t' H9 e9 ht' hu9 hp9 => ?_⟩
        have e59 := (e57.trans e8).trans e9
        obtain ⟨tn, tm⟩ := G.tails_mem hA0 htm
        have hpw := G.places_wf hA0 htl tn tm
        have htt : t' = t := by
          rw [ht']
          refine (G.go_iff hA0 htl tn tm).mpr ?_
          exact ((G.narrow_fits (fun c hc => (hpw c hc).1) hN _).mp (G.fits_least (G.narrow_wf hwf hN))).2
        rw [htt] at hu9
        refine ⟨p, _, 0, _, rfl, rfl, SqT.of hp9, atI_nat (j := 0) rfl, _, rfl, r, _, 1, _, rfl, rfl, same_tup e59 hr5, atI_nat (j := 1) rfl, ?_⟩
        refine ⟨_, _, dp_strT (SqT.of hu9), dp_strT (same_tup e59 ho5), shaped_strT hokt, shaped_strT hokt, false, by rw [eqv_strT, decide_eq_true rfl]; rfl, ?_⟩
        refine iteF ?_
        have s9 := s5.trans e59
        have ho9 := same_tup e59 ho5
        have hr9 := same_tup e59 hr5
        -- for size
        refine ⟨_, rfl, a, _, rfl, .inl (s9.seq ha), ?_⟩
        rw [hsl2]
        refine ⟨_, _, rfl, rfl, 1, _, rfl, ⟨by omega, by omega, by omega, by omega⟩, ?_⟩
        rw [show ((line.length : Nat) + 1 - 1 : Int).toNat = line.length by omega]
        refine for_it walk_range (fun j σ H' => ∃ (n7 n8 n9 n10 n11 : Option V), σ = [some (.ref kn), some (.ref a), some (.str b), some (.ref Lo), some (.ref RL), some (.int (i2 : Nat)), some (.ref r), n7, n8, n9, n10, n11] ∧ Same H9 H') ⟨_, _, _, _, _, rfl, Same.refl _⟩ (fun _ _ _ _ _ => trivial) (fun j z σ H' H'' hj pv y => ?_) fun σ H' pv => ?_
        · obtain ⟨rfl, hz⟩ := y
          obtain ⟨m7, m8, m9, m10, m11, rfl, s10⟩ := pv
          obtain rfl : z = .int (1 + (j : Nat)) := hz
          have hj1 : (1 : Int) + (j : Nat) = ((j + 1 : Nat) : Int) := by omega
          rw [hj1]
          have hjn : j < line.length := hj
          have s10a := s9.trans s10
          have ho10 := same_tup s10 ho9
          have hr10 := same_tup s10 hr9
          have htk : ∀ (t : List Str), ((b :: t).map V.str).take (j + 1) = ((b :: t).take (j + 1)).map V.str := fun t => List.map_take.symm
          refine ⟨_, rfl, Lo, rfl, ⟨_, s10a.seq hLo⟩, fun L hL => ?_⟩
          refine lc_it walk_list (Told H'' L fun i => (((OS.take i).filter fun u => decide ((b :: u).take (j + 1) = (b :: t).take (j + 1) ∧ j + 1 < line.length)).map fun u => (b :: u).getD (j + 1) b).map V.str) (Told.start hL rfl) (fun i H' _ pv => (s10a.trans pv.same).seq hLo) (fun i z H' H11 hi3 pv yy => ?_) fun H11 pv => ?_
          · obtain ⟨rfl, hz3⟩ := yy
            have hi4 : i < OS.length := by rw [← hul]; exact hi3
            have hui : OS[i]? = some OS[i] := List.getElem?_eq_getElem hi4
            obtain ⟨q1, q2, q3⟩ := hmem _ (List.getElem_mem hi4)
            obtain ⟨o3, rfl, ho3⟩ := hget i z _ hz3 hui
            generalize OS[i] = v at *
            have hokv : ∀ x ∈ b :: v, TOk x := fun x hx => (ok.ok x ((so.mem x).mp (q2 x hx))).tok
            have s11 := s10a.trans pv.same
            refine ⟨rfl, ?_⟩
            refine ⟨_, rfl, ?_⟩
            refine no_part ?_
            refine ⟨_, rfl, _, rfl, ?_⟩
            refine slt_to (k := j + 1) (same_tup s11 ho3) fun c1 H12 e12 hc1 => ?_
            refine ⟨_, rfl, r, _, 1, _, rfl, rfl, same_tup (pv.same.trans e12) hr10, atI_nat (j := 1) rfl, ?_⟩
            refine no_part ?_
            refine ⟨_, rfl, _, rfl, ?_⟩
            refine slt_to (k := j + 1) (same_tup (pv.same.trans e12) ho10) fun c2 H13 e13 hc2 => ?_
            rw [htk] at hc1 hc2
            have e1213 := e12.trans e13
            refine ⟨_, _, dp_strT (same_tup e13 hc1), dp_strT hc2, shaped_strT fun x hx => hokv x (List.mem_of_mem_take hx), shaped_strT fun x hx => hokt x (List.mem_of_mem_take hx), _, rfl, ?_⟩
            rw [eqv_strT]
            by_cases c : (b :: v).take (j + 1) = (b :: t).take (j + 1)
            · rw [decide_eq_true c]
              refine iteT ?_
              refine ⟨_, rfl, _, rfl, a, _, rfl, .inl ((s11.trans e1213).seq ha), _, _, rfl, rfl, ?_⟩
              rw [hsl2]
              by_cases c2' : j + 1 < line.length
              · refine ⟨true, bl_t (show ((j + 1 : Nat) : Int) < (line.length : Nat) by omega), ?_⟩
                show (if true = true then _ else _)
                rw [if_pos rfl]
                have hgv : (b :: v)[j + 1]? = some ((b :: v).getD (j + 1) b) := by
                  rw [List.getD_eq_getElem?_getD, List.getElem?_eq_getElem (by rw [List.length_cons]; omega), Option.getD_some]
                refine ⟨_, rfl, _, rfl, o3, _, (j + 1 : Nat), .str ((b :: v).getD (j + 1) b), rfl, rfl, same_tup (s11.trans e1213) ho3, atI_nat (by rw [List.getElem?_map, hgv]; rfl), ?_⟩
                refine pv.put hL e1213 ?_ ?_
                · rw [take_snoc hui, List.filter_append, List.filter_cons, if_pos (decide_eq_true ⟨c, c2'⟩), List.filter_nil, List.map_append, List.map_append]
                  rfl
                · rw [List.length_map, List.length_map]
                  refine Nat.lt_of_le_of_lt (List.length_filter_le ..) ?_
                  rw [List.length_take]
                  omega
              · refine ⟨false, bl_f (show ¬ ((j + 1 : Nat) : Int) < (line.length : Nat) by omega), ?_⟩
                show (if false = true then _ else _)
                rw [if_neg (by decide)]
                refine pv.skip e1213 ?_
                rw [take_snoc hui, List.filter_append, List.filter_cons, if_neg (by rw [decide_eq_true_eq]; exact fun h => c2' h.2), List.filter_nil, List.append_nil]
            · rw [decide_eq_false c]
              refine iteF ?_
              show (if false = true then _ else _)
              rw [if_neg (by decide)]
              refine pv.skip e1213 ?_
              rw [take_snoc hui, List.filter_append, List.filter_cons, if_neg (by rw [decide_eq_true_eq]; exact fun h => c h.1), List.filter_nil, List.append_nil]
          · have hLat : H11 L = some (.lst (((OS.filter fun u => decide ((b :: u).take (j + 1) = (b :: t).take (j + 1) ∧ j + 1 < line.length)).map fun u => (b :: u).getD (j + 1) b).map V.str)) := by
              rw [pv.at_, List.take_of_length_le (l := OS) (i := us.length) (by omega)]
            have s11 := s10a.trans pv.same
            have hpos : 0 < (b :: t).length := by rw [List.length_cons]; omega
            have hPt := hP.take (i := j + 1) (by omega)
            have hpl : ((b :: t).take (j + 1)).length = j + 1 := by rw [List.length_take, List.length_cons]; omega
            have hlx : ((b :: t).take (j + 1))[((b :: t).take (j + 1)).length - 1]? = some ((b :: t).getD j b) := by
              rw [hpl, Nat.add_sub_cancel, List.getElem?_take_of_lt (by omega), List.getD_eq_getElem?_getD, List.getElem?_eq_getElem (by rw [List.length_cons]; omega), Option.getD_some]
            refine ⟨_, rfl, _, rfl, _, rfl, r, _, 1, _, rfl, rfl, same_tup pv.same hr10, atI_nat (j := 1) rfl, ?_⟩
            refine no_part ?_
            refine ⟨_, rfl, _, rfl, ?_⟩
            refine slt_to (k := j + 1) (same_tup pv.same ho10) fun c3 H12 e12 hc3 => ?_
            rw [htk] at hc3
            have s12 := s11.trans e12
            refine ⟨kn, a, c3, xs, line, (b :: t).take (j + 1), _, ρ, rfl, hK.same s12, s12.seq ha, so, hc3, hPt, hlx, hwf, fun N H13 e13 _ hN => ?_⟩
            rw [hpl] at hN
            have s13 := s12.trans e13
            -- those told, those seen
            have hAj := hPt.at_ hlx
            rw [hpl, Nat.add_sub_cancel, List.take_of_length_le (by rw [hpl]; omega)] at hAj
            have hnd : (if line.length ≤ j + 1 then [] else G.nexts ρ line ((b :: t).take (j + 1)) ((b :: t).getD j b)).Nodup := by
              by_cases c : line.length ≤ j + 1
              · rw [if_pos c]
                exact List.nodup_nil
              · rw [if_neg c]
                obtain ⟨k, hk⟩ : ∃ k, line.length - (j + 1) = k + 1 := ⟨line.length - (j + 1) - 1, by omega⟩
                rw [hk] at hAj
                exact G.nexts_nodup hAj
            have hsub : ∀ y ∈ (if line.length ≤ j + 1 then [] else G.nexts ρ line ((b :: t).take (j + 1)) ((b :: t).getD j b)), y ∈ line := fun y hy => by
              by_cases c : line.length ≤ j + 1
              · rw [if_pos c] at hy
                cases hy
              · rw [if_neg c] at hy
                obtain ⟨k, hk⟩ : ∃ k, line.length - (j + 1) = k + 1 := ⟨line.length - (j + 1) - 1, by omega⟩
                rw [hk] at hAj
                exact (hAj.mem.mp (G.nexts_sub hAj hy)).1
            have hiff : ∀ y, (y ∈ (if line.length ≤ j + 1 then [] else G.nexts ρ line ((b :: t).take (j + 1)) ((b :: t).getD j b)) ↔ y ∈ (OS.filter fun u => decide ((b :: u).take (j + 1) = (b :: t).take (j + 1) ∧ j + 1 < line.length)).map fun u => (b :: u).getD (j + 1) b) := fun y => by
              rw [List.mem_map]
              by_cases c : line.length ≤ j + 1
              · rw [if_pos c]
                refine ⟨fun h => (nomatch h), fun ⟨u, hu, _⟩ => ?_⟩
                have := (of_decide_eq_true (List.mem_filter.mp hu).2).2
                omega
              · rw [if_neg c]
                have hst : ∀ (i : Nat) (u v : Str), (b :: t.take j)[i]? = some u → (t.take j)[i]? = some v → v ∈ G.nexts ρ line ([b] ++ (t.take j).take i) u := fun i u v h1 h2 => by
                  have h3 := hPt.step i u v h1 h2
                  rw [List.take_succ_cons, List.take_succ_cons] at h3
                  exact h3
                have hjl : (t.take j).length = j := by rw [List.length_take]; omega
                have := G.tails_next hwf hA0 (g := t.take j) (u := (b :: t).getD j b) hst (by rw [hjl]; omega) (by
                  rw [hjl]
                  have h4 : ((b :: t).take (j + 1))[j]? = some ((b :: t).getD j b) := by
                    have h5 := hlx
                    rw [hpl, Nat.add_sub_cancel] at h5
                    exact h5
                  exact h4) y
                rw [hjl] at this
                have e9 : (b :: t).take (j + 1) = [b] ++ t.take j := by rw [List.take_succ_cons]; rfl
                rw [e9, this]
                constructor
                · rintro ⟨u, hu, h1, h2⟩
                  refine ⟨u, List.mem_filter.mpr ⟨(hOm u).mpr (by rw [hTS]; exact hu), decide_eq_true ⟨by rw [List.take_succ_cons, h1]; rfl, by omega⟩⟩, ?_⟩
                  rw [List.getD_eq_getElem?_getD]
                  show ((u[j]?).getD b) = y
                  rw [h2]
                  rfl
                · rintro ⟨u, hu, h2⟩
                  obtain ⟨h3, h4⟩ := List.mem_filter.mp hu
                  have h5 := (of_decide_eq_true h4).1
                  rw [List.take_succ_cons] at h5
                  refine ⟨u, by rw [← hTS]; exact (hOm u).mp h3, List.cons.inj h5 |>.2, ?_⟩
                  have hul2 := (hmem u h3).2.2
                  rw [List.getD_eq_getElem?_getD] at h2
                  have h6 : (b :: u)[j + 1]? = u[j]? := rfl
                  rw [h6, List.getElem?_eq_getElem (by omega), Option.getD_some] at h2
                  rw [List.getElem?_eq_getElem (by omega), h2]
            generalize (if line.length ≤ j + 1 then [] else G.nexts ρ line ((b :: t).take (j + 1)) ((b :: t).getD j b)) = told at *
            have hlatl : ((OS.filter fun u => decide ((b :: u).take (j + 1) = (b :: t).take (j + 1) ∧ j + 1 < line.length)).map fun u => (b :: u).getD (j + 1) b).length ≤ 6 := by
              rw [List.length_map]
              exact Nat.le_trans (List.length_filter_le ..) hfew
            generalize ((OS.filter fun u => decide ((b :: u).take (j + 1) = (b :: t).take (j + 1) ∧ j + 1 < line.length)).map fun u => (b :: u).getD (j + 1) b) = later at *
            have htl4 : told.length ≤ 4 := Nat.le_trans (G.nd_sub hnd hsub) hl4
            refine ⟨_, rfl, N, told, rfl, SqL.of hN, by omega, fun ys A1 hys1 hys2 hA1 => ?_⟩
            have e14 : Same H13 (upd H13 A1 (.lst (ys.map V.str))) := same_upd hA1
            have h14 : upd H13 A1 (.lst (ys.map V.str)) A1 = some (.lst (ys.map V.str)) := upd_same
            generalize upd H13 A1 (.lst (ys.map V.str)) = H14 at *
            have hL14 := e14 _ _ (e13 _ _ (e12 _ _ hLat))
            refine ⟨_, rfl, L, later, rfl, .inl (SqL.of hL14), by omega, fun A2 hA2 => ?_⟩
            have e15 : Same H14 (upd H14 A2 (TxO w A2 later)) := same_upd hA2
            have h15 : upd H14 A2 (TxO w A2 later) A2 = some (TxO w A2 later) := upd_same
            refine ⟨A2, later, rfl, h15, by omega, fun zs A3 hz1 hz2 hz3 hA3 => ?_⟩
            have e16 : Same (upd H14 A2 (TxO w A2 later)) (upd (upd H14 A2 (TxO w A2 later)) A3 (.lst (zs.map V.str))) := same_upd hA3
            have h16 : upd (upd H14 A2 (TxO w A2 later)) A3 (.lst (zs.map V.str)) A3 = some (.lst (zs.map V.str)) := upd_same
            have e146 := e15.trans e16
            have hyz : ys = zs := sortedS_uniq hys2 hz2 (hys1.nodup_iff.mpr hnd) hz1 fun x => by rw [hys1.mem_iff, hz3, hiff]
            have hoky : ∀ x ∈ ys, TOk x := fun x hx => (ok.ok x ((so.mem x).mp (hsub x (hys1.mem_iff.mp hx)))).tok
            refine ⟨_, _, dp_strL (l := ys) (SqL.of (e146 _ _ h14)), dp_strL (l := zs) (SqL.of h16), shaped_strL hoky, shaped_strL (by rw [← hyz]; exact hoky), false, by rw [eqv_strL, decide_eq_true hyz]; rfl, ?_⟩
            refine iteF ?_
            exact ⟨_, _, _, _, _, rfl, (s10.trans pv.same).trans (((e12.trans e13).trans e14).trans e146)⟩
        · obtain ⟨m7, m8, m9, m10, m11, rfl, s10⟩ := pv
          exact ⟨_, _, _, _, _, _, _, rfl, s35.trans (e59.trans s10)⟩
      · obtain ⟨n5, n6, n7, n8, n9, n10, n11, rfl, s4⟩ := pv
        have s5 := s3.trans s4
        refine ⟨_, rfl, _, rfl, _, rfl, kn, a, b, xs, line, ρ, rfl, hK.same s5, s5.seq ha, so, hb, hwf, fun su H6 e6 _ hsu => ?_⟩
        have s6 := s5.trans e6
        obtain ⟨SL, hSL⟩ : ∃ SL, SL = G.surely ρ line (line.length - 1) [b] b := ⟨_, rfl⟩
        rw [← hSL] at hsu
        have hSLl : SL.length ≤ line.length - 1 := by rw [hSL]; exact G.surely_le
        have hpre : ∀ u ∈ OS, (b :: u).take (b :: SL).length = b :: SL := fun u hu => by
          have := (hOm u).mp hu
          rw [hTS] at this
          rw [List.length_cons, List.take_succ_cons, hSL, G.surely_pre this]
        have hsl8 : ((b :: SL).map V.str).length = (b :: SL).length := List.length_map ..
        refine ⟨_, rfl, Lo, rfl, ⟨_, s6.seq hLo⟩, fun L hL => ?_⟩
        refine lc_it walk_list (Told H6 L fun _ => []) (Told.start hL rfl) (fun i H' _ pv => (s6.trans pv.same).seq hLo) (fun i z H' H7 hi3 pv yy => ?_) fun H7 pv => ?_
        · obtain ⟨rfl, hz3⟩ := yy
          have hi4 : i < OS.length := by rw [← hul]; exact hi3
          have hui : OS[i]? = some OS[i] := List.getElem?_eq_getElem hi4
          obtain ⟨q1, q2, q3⟩ := hmem _ (List.getElem_mem hi4)
          have hp8 := hpre _ (List.getElem_mem hi4)
          obtain ⟨o3, rfl, ho3⟩ := hget i z _ hz3 hui
          generalize OS[i] = v at *
          have hokv : ∀ x ∈ b :: v, TOk x := fun x hx => (ok.ok x ((so.mem x).mp (q2 x hx))).tok
          have s7 := s6.trans pv.same
          refine ⟨rfl, ?_⟩
          refine ⟨_, rfl, ?_⟩
          refine no_part ?_
          refine ⟨_, rfl, su, _, rfl, .inr (SqT.of (pv.same _ _ hsu)), _, rfl, ?_⟩
          rw [hsl8]
          refine slt_to (k := (b :: SL).length) (same_tup s7 ho3) fun c1 H8 e8 hc1 => ?_
          rw [← List.map_take, hp8] at hc1
          have hokS : ∀ x ∈ b :: SL, TOk x := fun x hx => hokv x (by rw [← hp8] at hx; exact List.mem_of_mem_take hx)
          refine ⟨_, rfl, _, _, dp_strT hc1, dp_strT (SqT.of (e8 _ _ (pv.same _ _ hsu))), shaped_strT hokS, shaped_strT hokS, false, by rw [eqv_strT, decide_eq_true rfl]; rfl, ?_⟩
          show (if false = true then _ else _)
          rw [if_neg (by decide)]
          exact pv.skip e8 rfl
        · refine ⟨Nat.zero_le _, fun e he => ?_⟩
          have e8 : Same H7 (upd H7 e (.lst [])) := same_upd he
          have h8 : upd H7 e (.lst []) e = some (.lst []) := upd_same
          generalize upd H7 e (.lst []) = H8 at *
          have s8 := (s6.trans pv.same).trans e8
          refine ⟨.list [], .list [], .lst (SqL.of (e8 _ _ pv.at_)) .nil, .lst (SqL.of h8) .nil, by decide, by decide, false, rfl, ?_⟩
          refine iteF ?_
          have hsu8 := e8 _ _ (pv.same _ _ hsu)
          refine ⟨_, rfl, su, _, rfl, .inr (SqT.of hsu8), _, rfl, a, _, rfl, .inl (s8.seq ha), rfl, ?_⟩
          rw [hsl8, hsl2]
          by_cases c : (b :: SL).length = line.length
          · rw [decide_eq_true (show V.int ((b :: SL).length : Nat) = V.int (line.length : Nat) by rw [c])]
            refine ⟨true, rfl, ?_⟩
            exact q _ s8
          · rw [decide_eq_false (show ¬ V.int ((b :: SL).length : Nat) = V.int (line.length : Nat) from fun e => c (by have := V.int.inj e; omega))]
            refine ⟨false, rfl, ?_⟩
            rw [List.length_cons] at c
            refine ⟨_, rfl, Lo, rfl, ⟨_, s8.seq hLo⟩, fun L2 hL2 => ?_⟩
            refine lc_it walk_list (Told H8 L2 fun i => ((OS.take i).map fun u => (b :: u).getD (SL.length + 1) b).map V.str) (Told.start hL2 rfl) (fun i H' _ pv => (s8.trans pv.same).seq hLo) (fun i z H' H9 hi3 pv yy => ?_) fun H9 pv => ?_
            · obtain ⟨rfl, hz3⟩ := yy
              have hi4 : i < OS.length := by rw [← hul]; exact hi3
              have hui : OS[i]? = some OS[i] := List.getElem?_eq_getElem hi4
              obtain ⟨q1, q2, q3⟩ := hmem _ (List.getElem_mem hi4)
              obtain ⟨o3, rfl, ho3⟩ := hget i z _ hz3 hui
              generalize OS[i] = v at *
              have s9 := s8.trans pv.same
              have hgv : (b :: v)[SL.length + 1]? = some ((b :: v).getD (SL.length + 1) b) := by
                rw [List.getD_eq_getElem?_getD, List.getElem?_eq_getElem (by rw [List.length_cons]; omega), Option.getD_some]
              refine ⟨rfl, yes_in ?_⟩
              refine ⟨_, rfl, _, rfl, su, _, rfl, .inr (SqT.of (pv.same _ _ hsu8)), ?_⟩
              rw [hsl8, List.length_cons]
              refine ⟨o3, _, (SL.length + 1 : Nat), .str ((b :: v).getD (SL.length + 1) b), rfl, rfl, same_tup s9 ho3, atI_nat (by rw [List.getElem?_map, hgv]; rfl), ?_⟩
              refine pv.put hL2 (Same.refl _) ?_ ?_
              · rw [take_snoc hui, List.map_append, List.map_append]
                rfl
              · rw [List.length_map, List.length_map, List.length_take]
                omega
            · have hLat : H9 L2 = some (.lst ((OS.map fun u => (b :: u).getD (SL.length + 1) b).map V.str)) := by
                rw [pv.at_, List.take_of_length_le (l := OS) (i := us.length) (by omega)]
              refine ⟨L2, OS.map fun u => (b :: u).getD (SL.length + 1) b, rfl, .inl (SqL.of hLat), by rw [List.length_map]; omega, fun A hA => ?_⟩
              refine ⟨A, OS.map fun u => (b :: u).getD (SL.length + 1) b, rfl, upd_same, fun ys hnd hm => ?_⟩
              have h2 : 1 < ys.length := by
                obtain ⟨t, ht, t', ht', hne⟩ := G.surely_end hwf hA0 (by rw [← hSL]; omega)
                rw [← hSL] at hne
                have l1 := G.tails_length ht
                have l2 := G.tails_length ht'
                have g1 : t[SL.length]? = some ((b :: t).getD (SL.length + 1) b) := by
                  rw [List.getD_eq_getElem?_getD]
                  show t[SL.length]? = some ((t[SL.length]?).getD b)
                  rw [List.getElem?_eq_getElem (by omega)]
                  rfl
                have g2 : t'[SL.length]? = some ((b :: t').getD (SL.length + 1) b) := by
                  rw [List.getD_eq_getElem?_getD]
                  show t'[SL.length]? = some ((t'[SL.length]?).getD b)
                  rw [List.getElem?_eq_getElem (by omega)]
                  rfl
                have m1 := (hm _).mpr (List.mem_map.mpr ⟨t, (hOm t).mpr (by rw [hTS]; exact ht), rfl⟩)
                have m2 := (hm _).mpr (List.mem_map.mpr ⟨t', (hOm t').mpr (by rw [hTS]; exact ht'), rfl⟩)
                have hne2 : (b :: t).getD (SL.length + 1) b ≠ (b :: t').getD (SL.length + 1) b := fun e => hne (by rw [g1, g2, e])
                have h3 := G.nd_sub (l := [(b :: t).getD (SL.length + 1) b, (b :: t').getD (SL.length + 1) b]) (m := ys) (by simpa using hne2) fun y hy => by
                  rcases List.mem_cons.mp hy with e | hy
                  · rw [e]
                    exact m1
                  · rw [List.mem_singleton.mp hy]
                    exact m2
                exact h3
              refine ⟨_, _, rfl, rfl, ?_⟩
              have s10 := (s8.trans pv.same).trans (same_upd (o := TxO w A (OS.map fun u => (b :: u).getD (SL.length + 1) b)) hA)
              have := q _ s10
              rw [← bl_t (show ((1 : Int) < (ys.length : Nat)) by omega)] at this
              exact this
end
end GK
set_option Elab.async false
set_option linter.all false
set_option maxRecDepth 100000
set_option maxHeartbeats 4000000
/-! two rounds told; what stays where the law's own things change -/
namespace GK
open PySem PySem.Spec PyProof.Rows L2
section
variable {seats : List Str} {b b2 : Str} {t t2 : List Str} {s : Str → Nat} {ρ : Str → Nat × Nat}
theorem told2_keeps (tw : TwoOk seats b t b2 t2) (hn : seats.Nodup) : G.Keeps s (told2 seats b t b2 t2) ↔ G.pairOf s seats b = (b :: t, b2 :: t2) := by
  have l1 := tw.l1 hn
  have l2 := tw.l2 hn
  have hb := (tw.m1 b).mp (by simp)
  have hb2 := (tw.m2 b2).mp (by simp)
  have a1 := G.At.first hn hb (k := seats.length - 1) (by omega)
  have a2 := G.At.first hn hb2 (k := seats.length - 1) (by omega)
  have nb : ∀ {b : Str} {t : List Str}, (b :: t).Nodup → ∀ y ∈ t, y ∉ [b] := fun hn y hy q => by
    rw [List.mem_singleton.mp q] at hy
    exact (List.nodup_cons.mp hn).1 hy
  have g1 := G.go_iff (s := s) a1 (by omega) (List.nodup_cons.mp tw.n1).2 (fun y hy => ⟨(tw.m1 y).mp (List.mem_cons_of_mem _ hy), nb tw.n1 y hy⟩)
  have g2 := G.go_iff (s := s) a2 (by omega) (List.nodup_cons.mp tw.n2).2 (fun y hy => ⟨(tw.m2 y).mp (List.mem_cons_of_mem _ hy), nb tw.n2 y hy⟩)
  have hla : G.endOf b t ∈ seats := (tw.m1 _).mp (List.getLast_mem _)
  have hr : b2 ∈ G.round seats (G.endOf b t) := (G.round_mem hla).mpr hb2
  have hrl := G.round_len hla
  have hp : 0 < seats.length := List.length_pos_of_mem hb
  have hlt : s (G.endOf b t) % seats.length < (G.round seats (G.endOf b t)).length := by
    rw [hrl]
    exact Nat.mod_lt _ hp
  have hk : G.Keeps s [(G.endOf b t, ((G.round seats (G.endOf b t)).idxOf b2, seats.length))] ↔ G.nextAt seats s (G.endOf b t) = b2 := by
    unfold G.Keeps G.nextAt
    constructor
    · intro h
      have h1 : s (G.endOf b t) % seats.length = (G.round seats (G.endOf b t)).idxOf b2 := h (G.endOf b t, ((G.round seats (G.endOf b t)).idxOf b2, seats.length)) (by simp)
      rw [h1, G.getD_idx hr]
    · intro h c hc
      rw [List.mem_singleton.mp hc]
      refine G.getD_inj (x := G.endOf b t) (G.round_nodup hla hn) hlt (List.idxOf_lt_length_iff.mpr hr) ?_
      rw [h, G.getD_idx hr]
  unfold told2
  rw [G.keeps_append, G.keeps_append, ← g1, ← g2]
  show (_ ∧ G.Keeps s [(G.endOf b t, ((G.round seats (G.endOf b t)).idxOf b2, seats.length))]) ∧ _ ↔ _
  rw [hk]
  unfold G.pairOf
  constructor
  · rintro ⟨⟨e1, e2⟩, e3⟩
    simp only [e1, e2, e3]
  · intro h
    obtain ⟨h1, h2⟩ := Prod.mk.inj h
    have e1 := (List.cons.inj h1).2
    obtain ⟨e2, e3⟩ := List.cons.inj h2
    rw [e1] at e2
    rw [e1, e2] at e3
    exact ⟨⟨e1, e2⟩, e3⟩
/-- two rounds may come in a row: some slips that fit bring them -/
theorem told2_some (tw : TwoOk seats b t b2 t2) (hn : seats.Nodup) (w : G.WF ρ seats) : (G.narrow ρ (told2 seats b t b2 t2)).isSome = true ↔ ∃ s, G.Fits ρ seats s ∧ G.pairOf s seats b = (b :: t, b2 :: t2) := by
  have hwf := told2_wf tw hn
  cases h : G.narrow ρ (told2 seats b t b2 t2) with
  | none =>
    refine ⟨fun h => (nomatch h), fun ⟨s, f, e⟩ => ?_⟩
    exact absurd ⟨s, f, (told2_keeps tw hn).mpr e⟩ (G.narrow_not w (fun c hc => ⟨(hwf c hc).1, (hwf c hc).2.1⟩) h)
  | some ρ' =>
    refine ⟨fun _ => ?_, fun _ => rfl⟩
    have f := (G.narrow_fits (fun c hc => (hwf c hc).1) h _).mp (G.fits_least (G.narrow_wf w h))
    exact ⟨_, f.1, (told2_keeps tw hn).mp f.2⟩
theorem told2_least (tw : TwoOk seats b t b2 t2) (hn : seats.Nodup) (w : G.WF ρ seats) {ρ' : Str → Nat × Nat} (h : G.narrow ρ (told2 seats b t b2 t2) = some ρ') : G.pairOf (fun x => (ρ' x).1) seats b = (b :: t, b2 :: t2) := by
  have hwf := told2_wf tw hn
  exact (told2_keeps tw hn).mp ((G.narrow_fits (fun c hc => (hwf c hc).1) h _).mp (G.fits_least (G.narrow_wf w h))).2
end
end GK
set_option Elab.async false
set_option linter.all false
set_option maxRecDepth 100000
set_option maxHeartbeats 4000000
/-! an error kept behind its except clause, and asked what it is -/
namespace GK
open PySem PySem.Spec PyProof.Rows L2
/-- what is known of the two error classes -/
structure ExcF (K : PySem.W.Frag) (mg : Str → Option Value) (NO GE : Addr) : Prop where
  gN : mg "NoOrder" = some (.ref NO)
  gG : mg "GoerError" = some (.ref GE)
  xN : PySem.W.excIn K NO [.type "ValueError", .type "Exception", .type "BaseException", .type "object"] "ValueError.__new__" = true
  kN : PySem.W.keepIn K (.ref NO) = true
  bN : PySem.W.subIn K (.ref NO) (.type "BaseException") = some true
  tN : PySem.W.typeIn K (.ref NO) = some (.type "type")
  cN : ExcC K NO
  eG : PySem.W.exmOne K (.ref NO) (.ref GE) = some true
theorem kit_self (K : PySem.W.Frag) (v : Value) (h : (v == v) = true) : PySem.W.kitOne K v v = some true := by
  unfold PySem.W.kitOne
  rw [if_pos h]
abbrev Cx.pin (X : Cx) (a : Addr) (oe : Obj) (pn : List (Addr × Obj)) : Cx := X.tr ((a, oe) :: pn) X.xe
section
variable {X : Cx} {pins : List (Addr × Obj)} {σ : L2.St} {H : Hp} {s : Shared}
theorem inv_pin {a : Addr} {oe : Obj} (I : Inv X pins σ H s) (h : s.heap.get? a = some oe ∧ H a = none ∧ a ≠ X.env.locals ∧ a ∉ X.fs ∧ ∀ v, oe.data ≠ .cell v) : Inv (Cx.pin X a oe (X.pn ++ pins)) [] σ H s :=
  ⟨I.ok.toTry _ _, I.os, I.bare, I.base, I.loc, I.cell, I.free, I.freeC, fun p hp => by
    have hp' : p ∈ (a, oe) :: (X.pn ++ pins) := by rw [List.append_nil] at hp; exact hp
    rcases List.mem_cons.mp hp' with e | h'
    · rw [e]; exact h
    · exact I.pin p h', I.hok, I.len⟩
theorem inv_unpin {q : Addr × Obj} {xe : Value → Shared → Prop} {pn' : List (Addr × Obj)} (I : Inv (X.tr (q :: (X.pn ++ pins)) xe) pn' σ H s) (ok : X.Ok) : Inv X pins σ H s :=
  ⟨ok, I.os, I.bare, I.base, I.loc, I.cell, I.free, I.freeC, fun p hp => I.pin p (List.mem_append_left _ (List.mem_cons_of_mem _ hp)), I.hok, I.len⟩
end
/-- what the clause wishes, the rest of the block behind it -/
def wPin (K : PySem.W.Frag) (c : Value) (i : Nat) (ts tr : Addr → Value → Option Addr → TS) (D : Ends) : WX := fun cls d σ H =>
  PySem.W.exmOne K cls c = some true ∧ ∀ a, H a = none → ts a cls d { nx := fun σ' H' => tr a cls d D (σ'.set i none) H', rt := fun _ _ => False, bk := fun _ _ => False, ct := fun _ _ => False } (σ.set i (some (.ref a))) H
section
variable {X : Cx} {x n : Str} {c : Value} {i : Nat} {body suite rest : List Stmt} {b₀ : Stmt} {np pos pos' : Pos} {tb : WX → TS} {ts tr : Addr → Value → Option Addr → TS}
theorem pss_try_pin (hs : X.stack = X.env :: X.outer) (hf : X.env.frame = some X.env.locals) (hN : X.N.Nodup) (hi : X.N[i]? = some n) (hln : X.env.kindOf n = some .local) (hc : Names X x c)
    (hb : ∀ (W : WX) (pn : List (Addr × Obj)) (xe : Value → Shared → Prop), Takes (X.tr pn xe) W → PassesOwn (model X.prog X.w) X.A X.env xe → PSs (X.tr pn xe) body (tb W))
    (hsu : ∀ (a : Addr) (oe : Obj) (cls : Value) (d : Option Addr) (pn : List (Addr × Obj)), Zc cls d oe → (∃ vs, oe.data = .fields vs) → PSs (X.suite a ((a, oe) :: pn)) (b₀ :: suite) (ts a cls d))
    (hr : ∀ (a : Addr) (oe : Obj) (cls : Value) (d : Option Addr) (pn : List (Addr × Obj)), Zc cls d oe → (∃ vs, oe.data = .fields vs) → PSs (Cx.pin X a oe pn) rest (tr a cls d)) :
    PSs X (.Try body [.ExceptHandler (some (.Name x np)) (some n) (b₀ :: suite) pos'] [] [] pos :: rest) (fun D σ H => tb (wPin X.K c i ts tr D) { nx := fun _ _ => False, rt := fun _ _ => False, bk := fun _ _ => False, ct := fun _ _ => False } σ H) := by
  refine ⟨fun pins s σ H D I h => ?_⟩
  have ok := I.ok
  have hfr : X.A.frames = some (X.env :: X.outer) := by rw [ok.frames, hs]
  have hloc : Loc X.env.scope n := .inl hln
  refine wpAny_execs_cons (wpAny_Try_except ?_)
  refine wpAny_mono ((hb (wPin X.K c i ts tr D) (X.pn ++ pins) (fun e s₁ => wpAny (model X.prog X.w) X.A (noteFrame e X.env) (fun _ s₂ => wpAny (model X.prog X.w) X.A (setFlight e none) (fun _ s₃ =>
    wpAny (model X.prog X.w) X.A (handleBy e X.env [.ExceptHandler (some (.Name x np)) (some n) (b₀ :: suite) pos']) (fun f s' => match f with | .next => wpAny (model X.prog X.w) X.A (execs rest X.env) (SP X pins D) X.xe s' | f => SP X pins D f s') X.xe s₃) X.xe s₂) X.xe s₁) (fun u s' xx => ?_) PassesOwn.looking).run [] s σ H _ (I.toTry _) h) (fun f s1 hsp => ?_) (fun e s1 he => he)
  · obtain ⟨a, B, sI, pins', σ', H', cls, d, rfl, J', nb, up, sky, na, os, ag, hb1, hyes⟩ := xx
    have J : Inv X pins σ' H' sI := J'.ofTry ok
    have sky' : Sky B (X.env :: X.outer) a (Zc cls d) X.env.locals s'.heap := by rw [← hs]; exact sky
    show wpAny (model X.prog X.w) X.A (noteFrame (.ref a) X.env) _ _ _
    refine Sky.land Zc.steady hfr hf sky' fun h3 fl3 up3 => ?_
    have J3 : Inv X pins σ' H' { s' with heap := h3 } := J.landed nb fl3.1 (up.trans up3) os ag
    obtain ⟨oe3, vs3, he3, hz3, hd3⟩ := fl3.there
    have notFr : ∀ {h : Heap} {o : Obj} {vs : Array Value}, h.FunFrames B (X.env :: X.outer) → h.get? a = some o → o.data = .fields vs → a ∉ frs (X.env :: X.outer) := fun {h o vs} ff e dd hm => by
      obtain ⟨_, o', e', hnf⟩ := ff.mem hm
      rw [e] at e'; cases e'
      exact hnf _ dd
    have nfr := notFr fl3.2.2.1 he3 hd3
    have nL : a ≠ X.env.locals := fun z => nfr (List.mem_filterMap.mpr ⟨X.env, List.mem_cons_self, by rw [hf, z]⟩)
    have nF : a ∉ X.fs := fun hm => by
      obtain ⟨e, he, q⟩ := List.mem_filterMap.mp hm
      exact nfr (List.mem_filterMap.mpr ⟨e, List.mem_cons_of_mem _ he, q⟩)
    have S3 := J3.suite he3 hd3 na nL nF
    refine wpAny_handleBy_cons (codeAny_handlers_test ?_) (by intro q; cases q)
    have LT : PySem.W.Looks (model X.prog X.w) h3 (typeOf (.ref a)) cls := fun A Q E s k q => wpAny_typeOf_ref (k _ _ he3) (by rw [hz3.1]; exact q)
    have LM := PySem.W.exm_one (M := model X.prog X.w) (J3.kIn) LT hb1
    have test : ∀ {Q : Value → Shared → Prop} {E : Value → Shared → Prop}, Q c { s' with heap := h3 } → wpAny (model X.prog X.w) (X.A.mark (some (.ref a))) (eval (.Name x np) X.env) Q E { s' with heap := h3 } := fun {Q E} q => by
      obtain ⟨hg, hdbg, hm | ⟨hm, hv, hnn⟩⟩ := hc
      · exact ld_glob (X := X.suite a ((a, oe3) :: (X.pn ++ pins))) S3 hg hm q hdbg
      · exact ld_blt (X := X.suite a ((a, oe3) :: (X.pn ++ pins))) S3 hg hm hv q hnn hdbg
    refine test (LM.here ?_)
    refine codeAny_handlers_suite_as ?_
    refine HandSPX.lands_againZ fl3 fun h4 fl4 up4 => ?_
    have J4 : Inv X pins σ' H' { s' with heap := h4 } := J.landed nb fl4.1 ((up.trans up3).trans up4) os ag
    obtain ⟨oe4, vs4, he4, hz4, hd4⟩ := fl4.there
    have S4 := J4.suite he4 hd4 na nL nF
    refine store_ok (X := X.suite a ((a, oe4) :: (X.pn ++ pins))) (v := .ref a) S4 hN hi hloc rfl (fun s5 S5 => ?_) (.inr hln)
    refine wpAny_mono ((hsu a oe4 cls d (X.pn ++ pins) hz4 ⟨_, hd4⟩).run [] s5 _ H' _ S5 (hyes a na)) (fun f s6 hsp => ?_) (fun _ _ z => False.elim z)
    cases f with
    | next =>
      obtain ⟨σ6, H6, S6, q6⟩ := hsp
      refine gone_ok (X := X.suite a ((a, oe4) :: (X.pn ++ pins))) S6 hN hi hln fun s7 S7 => ?_
      have J7 : Inv X pins (σ6.set i none) H6 s7 := S7.unsuite ok
      have hp7 := S7.pin (a, oe4) (List.mem_append_left _ List.mem_cons_self)
      have J8 := inv_pin (a := a) (oe := oe4) J7 hp7
      refine wpAny_mono ((hr a oe4 cls d (X.pn ++ pins) hz4 ⟨_, hd4⟩).run [] s7 _ H6 D J8 q6) (fun f s8 hsp => ?_) (fun _ _ z => z)
      cases f with
      | next =>
        obtain ⟨σ9, H9, J9, q9⟩ := hsp
        exact ⟨σ9, H9, inv_unpin J9 ok, q9⟩
      | brk =>
        obtain ⟨σ9, H9, J9, q9⟩ := hsp
        exact ⟨σ9, H9, inv_unpin J9 ok, q9⟩
      | cont =>
        obtain ⟨σ9, H9, J9, q9⟩ := hsp
        exact ⟨σ9, H9, inv_unpin J9 ok, q9⟩
      | ret u =>
        obtain ⟨v9, σ9, H9, J9, r9, q9⟩ := hsp
        exact ⟨v9, σ9, H9, inv_unpin J9 ok, r9, q9⟩
    | brk =>
      obtain ⟨_, _, _, q6⟩ := hsp
      exact q6.elim
    | cont =>
      obtain ⟨_, _, _, q6⟩ := hsp
      exact q6.elim
    | ret u =>
      obtain ⟨_, _, _, _, _, q6⟩ := hsp
      exact q6.elim
  · cases f with
    | next =>
      obtain ⟨σ', H', J', q⟩ := hsp
      exact q.elim
    | brk =>
      obtain ⟨σ', H', J', q⟩ := hsp
      exact q.elim
    | cont =>
      obtain ⟨σ', H', J', q⟩ := hsp
      exact q.elim
    | ret u =>
      obtain ⟨v, σ', H', J', r, q⟩ := hsp
      exact q.elim
end
/-- isinstance(e, c), e the kept error -/
theorem call_isP {X : Cx} {a D : Addr} {oe : Obj} {pn : List (Addr × Obj)} (C : ExcC X.K D) (hz : Zc (.ref D) none oe) (hf : ∃ vs, oe.data = .fields vs) : CallR (Cx.pin X a oe pn) (.builtin "isinstance") (rIsE X.K D a) := by
  intro pins s σ H xs us Q I r h
  obtain ⟨c, cv, b, rfl, hcv, e, q⟩ := h
  cases r with
  | cons rx rr =>
    cases rr with
    | cons rt rr =>
      cases rr
      cases rx
      have ec := hcv _ rt
      subst ec
      obtain ⟨hget, _⟩ := I.pin (a, oe) (List.mem_append.mpr (.inl List.mem_cons_self))
      obtain ⟨vs, hv⟩ := hf
      have J : PySem.W.InstAt s.heap a oe D none := by
        obtain ⟨oc, od, oda, osl⟩ := oe
        obtain ⟨h1, h2⟩ := hz
        dsimp only at h1 h2 hv
        subst h1 h2 hv
        exact ⟨hget, rfl, rfl, trivial⟩
      exact PySem.W.kia_one (PySem.W.handS_kitx_exc C.hg C.hk C.hs C.hd C.ha C.hn C.ht C.hm) I.kIn J e (fun z => nomatch z) fun tk => ⟨.bl b, H, I.kept (t' := tk) fun _ _ z => z, rfl, q⟩
end GK
set_option Elab.async false
set_option linter.all false
set_option maxRecDepth 100000
set_option maxHeartbeats 4000000
/-! what refuses, and how it is seen -/
namespace GK
open PySem PySem.Spec PyProof.Rows L2
section
variable {P : Program} {w : World} {K : PySem.W.Frag} {mg : Str → Option Value} {base : Heap} {CK CW NO GE : Addr}
def spSlipsTwoX (K : PySem.W.Frag) (CK NO : Addr) : Sp := fun vs H Q E => ∃ (kn a g g2 : Addr) (b b2 : Str) (t t2 xs seats : List Str) (ρ : Str → Nat × Nat), vs = [.ref kn, .ref a, .ref g, .ref g2] ∧ KnownAt K CK H kn xs ρ ∧ SqL K H a (seats.map V.str) ∧ SeatsOk seats xs ∧ SqT K H g ((b :: t).map V.str) ∧ SqT K H g2 ((b2 :: t2).map V.str) ∧ TwoOk seats b t b2 t2 ∧ smallR ρ seats ∧ G.narrow ρ (told2 seats b t b2 t2) = none ∧
  ∀ (H' : Hp), Same H H' → E (.ref NO) none H'
structure Refuses (P : Program) (w : World) (K : PySem.W.Frag) (mg : Str → Option Value) (base : Heap) (CK NO : Addr) : Prop where
  ex : ∃ (f : Addr) (fd : FuncData), FnOk P w K mg base (L2.CX P w) 7 f fd ["known", "seats", "one", "other"] (spSlipsTwoX K CK NO) ∧ mg "slips_for_two" = some (.ref f) ∧ PySem.W.keepIn K (.ref f) = true ∧ Binds K fd ["known", "seats", "one", "other"] []
theorem ok_slips_for_twoX (D : DefAt K mg "slips_for_two" s_slips_for_two) (T : Txt K mg CK CW) (F : ExcF K mg NO GE) (c_rests_for_two : C8.Cal P w K mg base 6 "rests_for_two" (spRestsTwo K CK) []) : Refuses P w K mg base CK NO := by
  obtain ⟨f, fd, FD, gm⟩ := D.ex
  refine ⟨f, fd, FD.ok sc_slips_for_two (fun vs H Q E h => ?_) fun cdv A outer s H vs Q E hr hsp => ?_, gm, FD.kp, FD.bindsN (fun _ _ _ _ _ _ us hl => match us, hl with | [_, _, _, _], _ => rfl)⟩
  · obtain ⟨kn, a, g, g2, b, b2, t, t2, xs, seats, ρ, rfl, _⟩ := h
    rfl
  · obtain ⟨kn, a, g, g2, b, b2, t, t2, xs, seats, ρ, rfl, hK, ha, so, hg, hg2, tw, hρ, hN0, q⟩ := hsp
    refine ⟨_, (pss_cons (ps_set (i := 4) sc_slips_for_two.nd rfl (Or.inl rfl) (C8.pe_c c_rests_for_two hr (by omega) rfl (pa_cons (pv 0) (pa_cons (pv 1) (pa_cons (pv 2) (pa_cons (pv 3) pa_nil))))))
      (pss_cons (ps_if (pt_cmpR op_isN (pv 4) pe_non (nomark _))
        (pss_one (ps_raise rfl (takes_of rfl rfl rfl rfl) (pmk_own PySem.F.excBase_ValueError F.xN F.gN F.kN (raises_own F.bN F.tN) rfl))) pss_nil)
      (pss_one ps_never))), ?_⟩
    refine ⟨_, rfl, _, rfl, _, rfl, _, rfl, kn, a, g, g2, b, b2, t, t2, xs, seats, ρ, rfl, hK, ha, so, hg, hg2, tw, hρ, fun H1 s1 hN => ?_, fun D kvs' ρ2 H5 s5 hD0 hN hD hR' => ?_⟩
    · refine ⟨_, rfl, rfl, true, rfl, ?_⟩
      refine iteT ?_
      exact q H1 s1
    · rw [hN0] at hN
      cases hN
theorem pss_by {X : Cx} {b : List Stmt} {t0 : TS} (h : ∀ D σ H, t0 D σ H → ∃ t, PSs X b t ∧ t D σ H) : PSs X b t0 := ⟨fun pins s σ H D I hw => let ⟨t, h1, h2⟩ := h D σ H hw; h1.run pins s σ H D I h2⟩
/-- the slots are as many as the names -/
theorem takes_len {X : Cx} {W : WX} (tk : Takes X fun cls d σ H => W cls d σ H) : Takes X fun cls d σ H => σ.length = X.N.length → W cls d σ H := fun u s' ⟨a, B, sI, pins, σ, H, cls, d, e, I, nb, up, sky, na, os, ag, w⟩ => tk u s' ⟨a, B, sI, pins, σ, H, cls, d, e, I, nb, up, sky, na, os, ag, w I.len⟩
/-- a call that the law makes: True where it raises NoOrder -/
def TRef (NO : Addr) : (XK → Hp → VK → Prop) → Hp → VK → Prop := fun tl H Q => tl (fun cls d H' => cls = .ref NO ∧ d = none ∧ Q (.bl true) H') H fun _ _ => False
theorem sc__law_is_refused : FnScope ["_law_work", "_law_caught", "e"] ["_law_work"] (defScope s__law_is_refused) := ⟨rfl, rfl, rfl, by decide +kernel, rfl, by decide +kernel, by decide +kernel⟩
theorem ref_gives {X : Cx} {g : Addr} {cdg : Value} {q : Str} (F : ExcF X.K X.mg NO GE) (hb : X.mg "isinstance" = none) : LamX.GivesTo X ["_law_work", "_law_caught", "e"] "_law_is_refused" (defScope s__law_is_refused) g cdg (defBody s__law_is_refused) "_law_work" q (TRef NO) := by
  intro f c' s H Q tl act hc h
  refine ⟨_, pss_cons (ps_set (i := 1) sc__law_is_refused.nd rfl (Or.inl rfl) pe_non) (pss_try_pin (X := (cxOf C8.CX0 X.prog X.w X.K X.mg X.base ["_law_work", "_law_caught", "e"] "_law_is_refused" (defScope s__law_is_refused) g cdg X.A X.stack s H C8.E0).nox) (c := .ref GE) (i := 2)
      (tb := fun W D σ H => ∃ Ech : XK, (∀ cls d σ' H', Ech cls d H' → σ'.length = 3 → W cls d σ' H') ∧ σ[0]? = some (some (.ref f)) ∧ H c' = some (LamX.CodeO c' q) ∧ tl Ech H fun _ H1 => D.nx σ H1)
      (tr := fun a cls d D σ H => cls = .ref NO ∧ d = none ∧ σ[1]? = some (some (.ref a)) ∧ D.rt (.bl true) H)
      rfl rfl sc__law_is_refused.nd rfl rfl ⟨rfl, by decide, .inl F.gG⟩ (fun W pn xe tk _ => ?_) (fun a oe cls d pn hz hf => pss_one (ps_set (i := 1) sc__law_is_refused.nd rfl (Or.inl rfl) (pv 2))) (fun a oe cls d pn hz hf => ?_)), ?_⟩
  · refine pss_by fun D σ H' h' => ?_
    obtain ⟨Ech, hW, h1, h2, h3⟩ := h'
    have tk2 := takes_len tk
    exact ⟨_, pss_one (ps_expr (act _ pn xe Ech _ _ tk2 (fun cls d σ' H' h l => hW cls d σ' H' h l))), h1, h2, h3⟩
  · refine pss_by fun D σ H' h' => ?_
    obtain ⟨rfl, rfl, h1, h2⟩ := h'
    exact ⟨_, pss_one (ps_ret (pe_callB (call_isP F.cN hz hf) (by rfl) hb (by decide +kernel) (pa_cons (pv 1) (pa_cons (pe_glob (v := .ref NO) rfl F.gN rfl) pa_nil)))), _, h1, .ref NO, .ref NO, true, rfl, fun u h => h, kit_self _ _ (by simp), h2⟩
  · refine ⟨fun cls d H' => cls = .ref NO ∧ d = none ∧ Q (.bl true) H', fun cls d σ' H' ⟨e1, e2, e3⟩ hl => ?_, rfl, hc, h⟩
    obtain ⟨x0, x1, x2, rfl⟩ : ∃ x0 x1 x2, σ' = [x0, x1, x2] := by
      match σ', hl with
      | [x0, x1, x2], _ => exact ⟨x0, x1, x2, rfl⟩
    subst e1 e2
    exact ⟨F.eG, fun a ha => ⟨_, rfl, rfl, rfl, rfl, e3⟩⟩
end
end GK
set_option Elab.async false
set_option linter.all false
set_option maxRecDepth 100000
set_option maxHeartbeats 4000000
/-! what stays where the law's own things change; the lambda's call -/
namespace GK
open PySem PySem.Spec PyProof.Rows L2
abbrev lamQ : Str := (envOfC "_law_two_right" (defScope s__law_two_right) 0 0 .none).qual ++ "<lambda>"
/-- all but the state and the tables stay -/
def Lf (d g : Addr) (H H' : Hp) : Prop := ∀ b o, b ≠ d → b ≠ g → (∀ ps, o ≠ .tbl ps) → H b = some o → H' b = some o
section
variable {K : PySem.W.Frag} {CK : Addr} {d g c P p : Addr} {H H' H2 : Hp} {t : Nat} {ps : Array Value} {xs : List Str} {ρ : Str → Nat × Nat} {kvs : List (Key × V)} {us : List V}
theorem Lf.refl : Lf d g H H := fun _ _ _ _ _ h => h
theorem Lf.trans (a : Lf d g H H') (b : Lf d g H' H2) : Lf d g H H2 := fun c o h1 h2 h3 h => b c o h1 h2 h3 (a c o h1 h2 h3 h)
theorem Lf.of (e : Same H H') : Lf d g H H' := fun b o _ _ _ h => e b o h
theorem Lf.sf (e : Sf d g H H') : Lf d g H H' := fun b o h1 h2 _ h => e b o h1 h2 h
theorem Lf.ext (e : LamX.ExtN H H') : Lf d g H H' := fun b o _ _ h3 h => e b o h h3
theorem Lf.mutN {o : HO} (f : Lf d g H H') (h : H p = none) : Lf d g H (upd H' p o) := fun b u x1 x2 x3 hb => by
  rw [upd_ne (ne_of_none hb h)]
  exact f b u x1 x2 x3 hb
structure LSt (K : PySem.W.Frag) (H : Hp) (d g c P : Addr) (t : Nat) : Prop where
  st : StAt K H d g c t
  tb : LamX.TabS H P lamQ
theorem LSt.tk (s : LSt K H d g c P t) (f : Lf d g H H') : Tk H H' := by
  obtain ⟨l, gs, cs, hd, hg, _⟩ := s.st.ex
  exact ⟨fun b xs h => f b _ (ne_of h hd (by intro z; cases z)) (ne_of h hg (by intro z; cases z)) (by intro ps z; cases z) h, fun b u xs h => f b _ (ne_of h hd (by intro z; cases z)) (ne_of h hg (by intro z; cases z)) (by intro ps z; cases z) h⟩
theorem LSt.seq (s : LSt K H d g c P t) (f : Lf d g H H') (hp : p ≠ g) (h : SqL K H p us) : SqL K H' p us := by
  obtain ⟨l, gs, cs, hd, hg, _⟩ := s.st.ex
  rcases h with (h | ⟨u, h⟩) | h
  · exact .inl (.inl (f _ _ (ne_of h hd (by intro z; cases z)) hp (by intro ps z; cases z) h))
  · exact .inl (.inr ⟨u, f _ _ (ne_of h hd (by intro z; cases z)) hp (by intro ps z; cases z) h⟩)
  · exact .inr h
theorem LSt.ext' {φ : Heap → Prop} (s : LSt K H d g c P t) (f : Lf d g H H') (h : H p = some (.ext φ)) : H' p = some (.ext φ) := by
  obtain ⟨l, gs, cs, hd, hg, _⟩ := s.st.ex
  exact f _ _ (ne_of h hd (by intro z; cases z)) (ne_of h hg (by intro z; cases z)) (by intro ps z; cases z) h
/-- a dict of rests isn't the state -/
theorem LSt.rests_ne (s : LSt K H d g c P t) (h : H p = some (.dK kvs)) (r : RestsD K H kvs xs ρ) : p ≠ d ∧ p ≠ g := by
  obtain ⟨l, gs, cs, hd, hg, _⟩ := s.st.ex
  refine ⟨fun e => ?_, ne_of h hg (by intro z; cases z)⟩
  subst e
  rw [hd] at h
  have e2 : stK g c l (t : Nat) = kvs := by
    injection h with h
    injection h
  have hk : (Sum.inr "left" : Key) ∈ kvs.map (·.1) := by
    rw [← e2]
    unfold stK
    simp
  rw [r.keys] at hk
  obtain ⟨x, hx, ex⟩ := List.mem_map.mp hk
  obtain ⟨v, hv, a, hva, _⟩ := r.val x hx
  rw [ex, ← e2, st_left] at hv
  rw [← Option.some.inj hv] at hva
  cases hva
theorem LSt.rests (s : LSt K H d g c P t) (f : Lf d g H H') (h : H p = some (.dK kvs)) (r : RestsD K H kvs xs ρ) : H' p = some (.dK kvs) ∧ RestsD K H' kvs xs ρ := by
  obtain ⟨h1, h2⟩ := s.rests_ne h r
  exact ⟨f _ _ h1 h2 (by intro ps z; cases z) h, r.tk (s.tk f)⟩
theorem LSt.known (s : LSt K H d g c P t) (f : Lf d g H H') (h : KnownAt K CK H p xs ρ) : KnownAt K CK H' p xs ρ := by
  obtain ⟨dx, tt, dd, ss, kvs, h1, h2, h3, h4⟩ := h
  obtain ⟨l, gs, cs, hd, hg, _⟩ := s.st.ex
  obtain ⟨r1, r2⟩ := s.rests f h3 h4
  exact ⟨dx, tt, dd, ss, kvs, f _ _ (ne_of h1 hd (by intro z; cases z)) (ne_of h1 hg (by intro z; cases z)) (by intro ps z; cases z) h1, (s.tk f).sq h2, r1, r2⟩
theorem LSt.same (s : LSt K H d g c P t) (e : Same H H') : LSt K H' d g c P t := ⟨s.st.same e, s.tb.ext e⟩
theorem LSt.sf {t' : Nat} (s : LSt K H d g c P t) (f : Sf d g H H') (s' : StAt K H' d g c t') : LSt K H' d g c P t' := by
  obtain ⟨l, gs, cs, hd, hg, _⟩ := s.st.ex
  obtain ⟨ps, hP, h2, h3⟩ := s.tb
  refine ⟨s', ps, f _ _ (ne_of hP hd (by intro z; cases z)) (ne_of hP hg (by intro z; cases z)) hP, h2, fun pos cv hc => ?_⟩
  obtain ⟨c0, e, hc0⟩ := h3 pos cv hc
  exact ⟨c0, e, f _ _ (ne_of hc0 hd (by intro z; unfold LamX.CodeO at z; cases z)) (ne_of hc0 hg (by intro z; unfold LamX.CodeO at z; cases z)) hc0⟩
theorem LSt.extn (s : LSt K H d g c P t) (e : LamX.ExtN H H') (tb : LamX.TabS H' P lamQ) : LSt K H' d g c P t := by
  obtain ⟨l, gs, cs, hd, hg, hc, h⟩ := s.st.ex
  exact ⟨⟨l, gs, cs, e _ _ hd (by intro ps z; cases z), e _ _ hg (by intro ps z; cases z), e _ _ hc (by intro ps z; cases z), h⟩, tb⟩
theorem KeyAt.lf {k : PK} {q : Addr} (s : LSt K H d g c P t) (f : Lf d g H H') (h : KeyAt H k q) : KeyAt H' k q := h.tk (s.tk f).1
end
/-- the law's def whose code object is known -/
structure DefAtC (K : PySem.W.Frag) (mg : Str → Option Value) (x : Str) (st : Stmt) (c : Addr) : Prop where
  ex : ∃ (f : Addr) (oc : Value) (od : Option Addr) (kV doc pm : Value) (an : Option Addr) (ct : Value) (osl : Array (Option Value)),
    K.lookup f = some ⟨oc, od, .func (PySem.W.fnOf x x (defArgs st) (defBody st) (defScope st) .none kV doc pm an (.ref c) ct), osl⟩ ∧ PySem.W.codeIn K (.ref c) x = true ∧ PySem.W.keepIn K (.ref f) = true ∧ mg x = some (.ref f)
section
variable {P : Program} {w : World} {K : PySem.W.Frag} {mg : Str → Option Value} {base : Heap}
theorem calC_of {x : Str} {st : Stmt} {N ps : List Str} {k : Nat} {sp : Sp} {c : Addr} (D : DefAtC K mg x st c) (S : FnScope N ps (defScope st)) (hbind : BindF x x st ps) (len : ∀ vs H Q E, sp vs H Q E → vs.length = ps.length)
    (hbody : ∀ (f : Addr) (A : Around) (outer : List Env) (s : Shared) (H : Hp) (vs : List V) (Q : VK) (E : XK), Room k (A.deeper (envOfC x (defScope st) s.heap.objs.size f (.ref c))) → sp vs H Q E →
      ∃ t, PSs (cxOf C8.CX0 P w K mg base N x (defScope st) f (.ref c) A outer s H E).nox (defBody st) t ∧ t { nx := fun _ H' => Q .non H', rt := Q } (start N vs) H) : C8.Cal P w K mg base (k + 1) x sp [] := by
  obtain ⟨f, oc, od, kV, doc, pm, an, ct, osl, lk, hcd, kp, gm⟩ := D.ex
  refine ⟨f, _, ps, [], fn_of lk hcd S len fun A outer s H vs Q E hr hsp => ?_, gm, kp, .all (hbind kV doc pm an (.ref c) ct), .nil⟩
  obtain ⟨t, h, q⟩ := hbody f A outer s H vs Q E hr hsp
  exact ⟨t, h.nox, q⟩
/-- _law_is_refused(lambda: slips_for_two(..)) -/
def tRefused (K : PySem.W.Frag) (CK NO P : Addr) : TE := fun σ H Q => LamX.TabS H P lamQ ∧ ∀ H1, LamX.ExtN H H1 → LamX.TabS H1 P lamQ →
  ∃ (v1 v2 v3 v4 : V), σ[1]? = some (some v1) ∧ σ[2]? = some (some v2) ∧ σ[6]? = some (some v3) ∧ σ[7]? = some (some v4) ∧ spSlipsTwoX K CK NO [v1, v2, v3, v4] H1 (fun _ _ => False) fun cls d H' => cls = .ref NO ∧ d = none ∧ Q (.bl true) H'

theorem pe_ref {X : Cx} {CK NO GE c P : Addr} {j : Nat} {params : Arguments} {scope : Scope} {p p2 p3 q1 q2 q3 q4 lpos pos : Pos} (RF : Refuses X.prog X.w X.K X.mg X.base CK NO) (F : ExcF X.K X.mg NO GE) (D : DefAt X.K X.mg "_law_is_refused" s__law_is_refused) (hi : X.mg "isinstance" = none)
    (TB : LamX.TabB X.base X.mg c P) (hcode : X.env.code = .ref c) (hq : X.env.qual ++ "<lambda>" = lamQ) (hr : Room j X.A) (hj : 9 ≤ j) (hg : Gl X "_law_is_refused") (L : LamX.LamS X.env.scope scope) (hdef : defaultsOf params X.env = ([], []))
    (hs : scope.names.lookup ("slips_for_two" : Str) = some .globalImplicit) (hN1 : X.N[1]? = some ("_law_wise" : Str)) (hN2 : X.N[2]? = some ("_law_line" : Str)) (hN6 : X.N[6]? = some ("_law_one" : Str)) (hN7 : X.N[7]? = some ("_law_other" : Str))
    (v1 : Vis scope ("_law_wise" : Str)) (v2 : Vis scope ("_law_line" : Str)) (v6 : Vis scope ("_law_one" : Str)) (v7 : Vis scope ("_law_other" : Str))
    (hbind : ∀ (q : Str) (cl : List (Str × Addr)) (pm cv ctv : Value), bindArgs (PySem.W.kla_fn "<lambda>" q params (.Call (.Name "slips_for_two" p2) [.Name "_law_wise" q1, .Name "_law_line" q2, .Name "_law_one" q3, .Name "_law_other" q4] [] p3) scope cl pm cv ctv) ⟨[], []⟩ = pure []) :
    PE X (.Call (.Name "_law_is_refused" p) [.Lambda params (.Call (.Name "slips_for_two" p2) [.Name "_law_wise" q1, .Name "_law_line" q2, .Name "_law_one" q3, .Name "_law_other" q4] [] p3) scope lpos] [] pos) (tRefused X.K CK NO P) := by
  obtain ⟨g, fd, FD, gm⟩ := D.ex
  have hB : Binds X.K fd ["_law_work"] [] := FD.bindsN (fun _ _ _ _ _ _ us hl => match us, hl with | [_], _ => rfl)
  obtain ⟨oc, od, dV, kV, doc, pm, an, cdv, ct, osl, rfl, lk, hcd, hD, hK⟩ := FD.ex
  obtain ⟨f2, fd2, R2, m2, k2, b2⟩ := RF.ex
  have key := LamX.pe_lamcall (X := X) (T := [(P, X.env.qual ++ "<lambda>")]) (TT := TRef NO) (x := "_law_is_refused") (a := "_law_work") (g := g) (c := c) (P := P) (k := 7) (Ng := ["_law_work", "_law_caught", "e"])
    (params := params) (body := .Call (.Name "slips_for_two" p2) [.Name "_law_wise" q1, .Name "_law_line" q2, .Name "_law_one" q3, .Name "_law_other" q4] [] p3) (scope := scope) (p := p) (lpos := lpos) (pos := pos)
    (t := fun E => tCallS (spSlipsTwoX X.K CK NO) (WE fun cls d _ H => E cls d H) (tCons (tVar 1) (tCons (tVar 2) (tCons (tVar 6) (tCons (tVar 7) tNil)))))
    hg gm FD.kp lk hcd hB sc__law_is_refused rfl (.inl rfl) (ref_gives F hi) TB hcode (List.mem_singleton.mpr rfl) (fun q hq _ => by rw [List.mem_singleton.mp hq]) (hr.mono hj) L hdef hbind
    (fun A outer s H E f c' hr' => pe_callS R2 hr' hs m2 k2 b2 (fun σ => passAt (takes_of rfl rfl rfl rfl) σ) (pa_cons (pv 1 hN1 v1) (pa_cons (pv 2 hN2 v2) (pa_cons (pv 6 hN6 v6) (pa_cons (pv 7 hN7 v7) pa_nil)))))
  refine ⟨fun pins s σ H Q I h => key.run pins s σ H Q I ?_⟩
  obtain ⟨h1, h2⟩ := h
  rw [← hq] at h1
  refine ⟨fun q hq => by rw [List.mem_singleton.mp hq]; exact h1, fun H1 eN T1 => ?_⟩
  have T2 := T1 _ (List.mem_singleton.mpr rfl)
  obtain ⟨x1, x2, x3, x4, e1, e2, e3, e4, h⟩ := h2 H1 eN (by rw [← hq]; exact T2)
  exact ⟨x1, e1, x2, e2, x3, e3, x4, e4, h⟩
end
end GK
set_option Elab.async false
set_option linter.all false
set_option maxRecDepth 100000
set_option maxHeartbeats 4000000
namespace GK
open PySem PySem.Spec PyProof.Rows L2
def goD (l : List Str) (c : Str) : PyData := .tuple [.tuple (l.map PyData.str), .str c]
theorem eqv_goD (l : List Str) (c : Str) : PyData.eqv (goD l c) (goD l c) = true := by
  have h := eqv_strT l l
  have h2 := eqv_str c c
  unfold goD
  simp only [PyData.eqv, PyData.eqvAll, Bool.and_true] at *
  rw [h, h2]
  simp
theorem shaped_goD {l : List Str} {c : Str} (h : ∀ x ∈ l, TOk x) (hc : TOk c) : SeqAt.shaped (goD l c) = true := by
  unfold SeqAt.shaped goD
  have h1 := tup_lay h
  have h2 := tup_depth l
  have hc' : (PyData.str c).canLay0 = true := hc
  rw [Bool.and_eq_true]
  constructor
  · simp [PyData.canLay0, PyData.canLayAll0] at *
    exact ⟨h1, hc'⟩
  · refine decide_eq_true ?_
    have h3 := str_depth c
    simp only [PyData.depth, PyData.depthAll] at *
    omega
theorem pair_two {line : List Str} {b : Str} {s : Str → Nat} (hn : line.Nodup) (hb : b ∈ line) : ∃ t c t2, G.pairOf s line b = (b :: t, c :: t2) ∧ TwoOk line b t c t2 := by
  obtain ⟨a1, a2, a3⟩ := G.go_full (s := s) hn hb
  have hla : G.endOf b (G.go s line (line.length - 1) [b] b) ∈ line := a2 _ (List.getLast_mem _)
  have hc := G.nextAt_mem (s := s) hla
  obtain ⟨b1, b2, b3⟩ := G.go_full (s := s) hn hc
  have hp : 0 < line.length := List.length_pos_of_mem hb
  have full : ∀ {l : List Str}, l.Nodup → (∀ x ∈ l, x ∈ line) → l.length = line.length → ∀ x, x ∈ l ↔ x ∈ line := fun {l} h1 h2 h3 x => by
    refine ⟨h2 x, fun hx => ?_⟩
    have h4 := G.split_len hn h1 h2
    have h5 : (line.filter fun y => decide (y ∉ l)) = [] := List.eq_nil_of_length_eq_zero (by omega)
    have h6 := List.filter_eq_nil_iff.mp h5 x hx
    simpa using h6
  refine ⟨_, _, _, rfl, ⟨a1, full a1 a2 ?_, b1, full b1 b2 ?_⟩⟩
  · rw [List.length_cons, a3]
    omega
  · rw [List.length_cons, b3]
    omega
section
variable {K : PySem.W.Frag} {d g c P p : Addr} {H H' : Hp} {t : Nat} {ys : List V} {o : HO}
theorem LSt.mutL (s : LSt K H d g c P t) (hp : H p = some (.lst ys)) (h : p ≠ g ∧ p ≠ d ∧ p ≠ c) : LSt K (upd H p o) d g c P t := by
  obtain ⟨ps, hP, h2, h3⟩ := s.tb
  refine ⟨s.st.mut h, ps, (upd_ne (ne_of hP hp (by intro z; cases z))).trans hP, h2, fun pos cv hc => ?_⟩
  obtain ⟨c0, e, hc0⟩ := h3 pos cv hc
  exact ⟨c0, e, (upd_ne (ne_of hc0 hp (by intro z; unfold LamX.CodeO at z; cases z))).trans hc0⟩
theorem LSt.ng (s : LSt K H d g c P t) (h : H p = none) : p ≠ g ∧ p ≠ d ∧ p ≠ c := s.st.ng h
end
end GK
set_option Elab.async false
set_option linter.all false
set_option maxRecDepth 100000
set_option maxHeartbeats 4000000
namespace GK
open PySem PySem.Spec PyProof.Rows L2
theorem iteF_ {α : Prop} {β : Prop} {c : Bool} (hc : c = false) (h : β) : if c = true then α else β := by rw [hc]; exact h
section
variable {P : Program} {w : World} {K : PySem.W.Frag} {mg : Str → Option Value} {base : Heap} {CK CW NO GE : Addr}
def spTwoRight (P : Program) (w : World) (K : PySem.W.Frag) (CK tP : Addr) : Sp := fun vs H Q _ => ∃ (d g c kn a pd : Addr) (t : Nat) (b : Str) (xs line : List Str) (ρ : Str → Nat × Nat) (PS : List (PK × Addr)), vs = [.ref d, .ref kn, .ref a, .str b, .ref pd] ∧ LSt K H d g c tP t ∧ t < 2 ^ 30 ∧ KnownAt K CK H kn xs ρ ∧ SqL K H a (line.map V.str) ∧ a ≠ g ∧ SeatsOk line xs ∧ NamesOk xs ∧ b ∈ line ∧ tinyR ρ line ∧ line.length ≤ 4 ∧
  H pd = some (PO P w pd PS) ∧ KeysAt H PS ∧ PS.length < 100000 ∧ (∀ k, k ∈ PS.map (·.1) ↔ ∃ s, G.Fits ρ line s ∧ G.pairOf s line b = k) ∧ ∀ (t' : Nat) (H' : Hp), Lf d g H H' → t' ≤ t + 200 → LSt K H' d g c tP t' → Q (.bl true) H'
theorem sc__law_two_right : FnScope ["_law_state", "_law_wise", "_law_line", "_law_begin", "_law_pairs", "_law_rows", "_law_one", "_law_other", "_law_slips", "_law_turn", "_law_k", "_law_name"] ["_law_state", "_law_wise", "_law_line", "_law_begin", "_law_pairs"] (defScope s__law_two_right) := ⟨rfl, rfl, rfl, by decide +kernel, rfl, by decide +kernel, by decide +kernel⟩
theorem ok__law_two_right {co tP : Addr} (D : DefAtC K mg "_law_two_right" s__law_two_right co) (T : Txt K mg CK CW) (RF : Refuses P w K mg base CK NO) (F : ExcF K mg NO GE) (DR : DefAt K mg "_law_is_refused" s__law_is_refused) (TB : LamX.TabB base mg co tP) (c_two_may : C8.Cal P w K mg base 7 "two_may" (spTwoMay K CK) []) (c__law_order : C8.Cal P w K mg base 3 "_law_order" (spOrder K) []) (c__law_pick : C8.Cal P w K mg base 3 "_law_pick" (spPick K) []) (c__law_goes : C8.Cal P w K mg base 2 "_law_goes" (spGoes K) []) (c_slips_for_two : C8.Cal P w K mg base 7 "slips_for_two" (spSlipsTwo K CK) []) (c_how_many_two : C8.Cal P w K mg base 20 "how_many_two" (spHowManyTwo K CK) []) : C8.Cal P w K mg base 21 "_law_two_right" (spTwoRight P w K CK tP) [] := by
  refine calC_of D sc__law_two_right (ps := ["_law_state", "_law_wise", "_law_line", "_law_begin", "_law_pairs"]) (fun _ _ _ _ _ _ us hl => match us, hl with | [_, _, _, _, _], _ => rfl) (fun vs H Q E h => ?_) fun f A outer s H vs Q E hr h => ?_
  · obtain ⟨d, g, c, kn, a, pd, t, b, xs, line, ρ, PS, rfl, hL, ht, hK, ha, hag, so, ok, hb, hρ, hl4, hpd, ks, hpl, hPm, q⟩ := h
    rfl
  · obtain ⟨d, g, c, kn, a, pd, t, b, xs, line, ρ, PS, rfl, hL, ht, hK, ha, hag, so, ok, hb, hρ, hl4, hpd, ks, hpl, hPm, q⟩ := h
    refine ⟨_, (pss_cons (ps_if (pt_cmpR op_ne (C8.pe_c c_how_many_two hr (by omega) rfl (pa_cons (pv 1) (pa_cons (pv 2) (pa_cons (pv 3) pa_nil)))) (pe_callB call_lenN (by rfl) T.b_len (by decide +kernel) (pa_cons (pv 4) pa_nil)) (nomark _)) 
      (pss_one (ps_ret pe_bl)) pss_nil)
    (pss_cons (ps_set (i := 5) sc__law_two_right.nd rfl (Or.inr rfl) (pe_callB (cr_sortedN rfl hr.units) (by rfl) T.b_sorted (by decide +kernel) (pa_cons (pv 4) pa_nil)))
    (pss_cons (ps_for PassesOwn.never rfl (pi_list (pe_lc (own := [("_law_k", 10)]) rfl sc__law_two_right.nd (pi_range1 (by rfl) T.b_range (pa_cons pe_int pa_nil)) (blkOk_by (own := [("_law_k", 10)]) (N := ["_law_state", "_law_wise", "_law_line", "_law_begin", "_law_pairs", "_law_rows", "_law_one", "_law_other", "_law_slips", "_law_turn", "_law_k", "_law_name"]) (sc := defScope s__law_two_right) (by decide +kernel)) (fun _ _ _ _ _ => pg_name (i := 10) sc__law_two_right.nd rfl (Or.inl rfl)) (fun _ _ _ _ _ => pts_nil) (fun _ _ _ _ _ => (C8.pe_c c__law_pick hr (by omega) rfl (pa_cons (pv 0) (pa_cons (pv 5) pa_nil)))))) (pg_tup (by rfl) (pgs_cons (pg_name (i := 6) sc__law_two_right.nd rfl (Or.inr rfl)) (pgs_cons (pg_name (i := 7) sc__law_two_right.nd rfl (Or.inr rfl)) pgs_nil))) 
      (pss_cons (ps_set (i := 8) sc__law_two_right.nd rfl (Or.inl rfl) (C8.pe_c c_slips_for_two hr (by omega) rfl (pa_cons (pv 1) (pa_cons (pv 2) (pa_cons (pv 6) (pa_cons (pv 7) pa_nil))))))
      (pss_cons (ps_if (PW.pt (pw_or (pt_not (pt_val (C8.pe_c c_two_may hr (by omega) rfl (pa_cons (pv 1) (pa_cons (pv 2) (pa_cons (pv 6) (pa_cons (pv 7) pa_nil))))))) (pw_or1 (pt_cmpR (op_neD hr.units) (C8.pe_c c__law_goes hr (by omega) rfl (pa_cons (pv 2) (pa_cons (pv 8) (pa_cons (pv 3) pa_nil)))) (pe_tup (pa_cons (pv 6) (pa_cons (pe_ix ix_tup (pv 7) pe_int (fun _ _ => rfl)) pa_nil))) (nomark _))))) 
        (pss_one (ps_ret pe_bl)) pss_nil)
      (pss_one (ps_if (pt_cmpR (op_neD hr.units) (pe_ix ix_tup (C8.pe_c c__law_goes hr (by omega) rfl (pa_cons (pv 2) (pa_cons (pv 8) (pa_cons (pe_ix ix_tup (pv 7) pe_int (fun _ _ => rfl)) pa_nil)))) pe_int (fun _ _ => rfl)) (pv 7) (nomark _)) 
        (pss_one (ps_ret pe_bl)) pss_nil)))))
    (pss_cons (ps_for PassesOwn.never rfl (pi_range1 (by rfl) T.b_range (pa_cons pe_int pa_nil)) (pg_name (i := 9) sc__law_two_right.nd rfl (Or.inl rfl)) 
      (pss_cons (ps_set (i := 6) sc__law_two_right.nd rfl (Or.inr rfl) (pe_op op_catA (pe_tup (pa_cons (pv 3) pa_nil)) (pe_callTy call_tuple_of (by rfl) T.b_tuple (by decide +kernel) (pa_cons (C8.pe_c c__law_order hr (by omega) rfl (pa_cons (pv 0) (pa_cons (pe_lc (own := [("_law_name", 11)]) rfl sc__law_two_right.nd (pi_list (pv 2)) (blkOk_by (own := [("_law_name", 11)]) (N := ["_law_state", "_law_wise", "_law_line", "_law_begin", "_law_pairs", "_law_rows", "_law_one", "_law_other", "_law_slips", "_law_turn", "_law_k", "_law_name"]) (sc := defScope s__law_two_right) (by decide +kernel)) (fun _ _ _ _ _ => pg_name (i := 11) sc__law_two_right.nd rfl (Or.inl rfl)) (fun _ _ _ _ _ => (pts_one (pt_cmpR op_ne (pv 11) (pv 3) (nomark _)))) (fun _ _ _ _ _ => (pv 11))) pa_nil))) pa_nil))))
      (pss_cons (ps_set (i := 7) sc__law_two_right.nd rfl (Or.inr rfl) (pe_callTy call_tuple_of (by rfl) T.b_tuple (by decide +kernel) (pa_cons (C8.pe_c c__law_order hr (by omega) rfl (pa_cons (pv 0) (pa_cons (pv 2) pa_nil))) pa_nil)))
      (pss_cons (ps_if (pt_cmpR op_ne (C8.pe_c c_two_may hr (by omega) rfl (pa_cons (pv 1) (pa_cons (pv 2) (pa_cons (pv 6) (pa_cons (pv 7) pa_nil))))) (pe_cmpR (op_inN hr.units) (pe_tup (pa_cons (pv 6) (pa_cons (pv 7) pa_nil))) (pv 4) (by rfl)) (nomark _)) 
        (pss_one (ps_ret pe_bl)) pss_nil)
      (pss_one (ps_if (PW.pt (pw_and (pt_cmpR (op_notInN hr.units) (pe_tup (pa_cons (pv 6) (pa_cons (pv 7) pa_nil))) (pv 4) (by rfl)) (pw_and1 (pt_not (pt_val (pe_ref RF F DR T.b_isinstance TB rfl rfl hr (by omega) rfl (by show LamX.LamS (defScope s__law_two_right) _; exact LamX.lamS_by (by decide +kernel)) rfl rfl rfl rfl rfl rfl (.inr (.inr rfl)) (.inr (.inr rfl)) (.inr (.inr rfl)) (.inr (.inr rfl)) (fun _ _ _ _ _ => rfl))))))) 
        (pss_one (ps_ret pe_bl)) pss_nil))))))
    (pss_one (ps_ret pe_bl)))))), ?_⟩
    -- slots: _law_state 0, _law_wise 1, _law_line 2, _law_begin 3, _law_pairs 4, _law_rows 5, _law_one 6, _law_other 7, _law_slips 8, _law_turn 9, _law_k 10, _law_name 11
    have o1 := so.few
    have hsl := so.len
    have hl : line.length ≤ 12 := by omega
    have hwf := hρ.small.wf
    have hsl2 : (line.map V.str).length = line.length := List.length_map ..
    have hm2 := G.many2_eq so.nd hb hwf ks.nd hPm
    have htok : ∀ x ∈ line, TOk x := fun x hx => (ok.ok x ((so.mem x).mp hx)).tok
    refine ⟨_, rfl, _, rfl, _, rfl, kn, a, b, xs, line, ρ, rfl, hK, ha, so, ok, hb, hρ, by omega, fun H1 s1 => ?_⟩
    refine ⟨_, rfl, pd, PS, rfl, s1 _ _ hpd, ks.tk (fun _ _ h => s1 _ _ h), hpl, rfl, _, rfl, ?_⟩
    rw [show decide (V.int ((G.many2 ρ line b : Nat) : Int) = V.int (PS.length : Nat)) = true from decide_eq_true (by rw [← hm2, List.length_map])]
    refine iteF ?_
    refine ⟨_, rfl, pd, PS, rfl, s1 _ _ hpd, ks.tk (fun _ _ h => s1 _ _ h), hpl, fun zs RL hperm hRL => ?_⟩
    have e2 : Same H1 (upd H1 RL (.lst (zs.map fun x => V.ref x.2))) := same_upd hRL
    have h2 : upd H1 RL (.lst (zs.map fun x => V.ref x.2)) RL = some (.lst (zs.map fun x => V.ref x.2)) := upd_same
    generalize upd H1 RL (.lst (zs.map fun x => V.ref x.2)) = H2 at *
    have s2 := s1.trans e2
    have hL2 := hL.same s2
    have RLn : H RL = none := s1.free hRL
    have RLg := hL.ng RLn
    have hzl : zs.length = PS.length := hperm.length_eq
    have hne : 0 < zs.length := by
      have hex : G.pairOf (fun x => (ρ x).1) line b ∈ PS.map (·.1) := (hPm _).mpr ⟨_, G.fits_least hwf, rfl⟩
      rw [hzl, ← List.length_map (as := PS) (f := (·.1))]
      exact List.length_pos_of_mem hex
    have ks2 : KeysAt H2 PS := ks.tk (fun _ _ h => s2 _ _ h)
    have hz_ : ∀ x ∈ zs, KeyAt H2 x.1 x.2 ∧ x.1 ∈ PS.map (·.1) := fun x hx => ⟨ks2.at_ x (hperm.mem_iff.mp hx), List.mem_map_of_mem (hperm.mem_iff.mp hx)⟩
    refine ⟨_, rfl, by decide, by decide, fun L3 hL3 => ?_⟩
    have L3g := hL2.ng hL3
    refine lc_it walk_range (fun i H' => ∃ (ys : List (PK × Addr)) (t' : Nat), H' L3 = some (.lst (ys.map fun x => V.ref x.2)) ∧ ys.length = i ∧ (∀ y ∈ ys, y ∈ zs) ∧ Lf d g H2 H' ∧ t' ≤ t + i ∧ LSt K H' d g c tP t') ⟨[], t, upd_same, rfl, by simp, Lf.of (same_upd hL3), by omega, hL2.same (same_upd hL3)⟩ (fun _ _ _ _ => trivial) (fun i z H' H'' hi pv yy => ?_) fun H6 pv => ?_
    · obtain ⟨rfl, hz4⟩ := yy
      obtain ⟨ys, t5, hL5, hyl, hyo, f6, ht5, hS6⟩ := pv
      have hRL5 := f6 _ _ RLg.2.1 RLg.1 (by intro ps z; cases z) h2
      have hi4 : i < 4 := hi
      refine ⟨rfl, yes_in ?_⟩
      refine ⟨_, rfl, _, rfl, d, g, c, t5, .ref RL, rfl, hS6.st, by omega, .inl ⟨RL, _, rfl, RLg.1, SqL.of hRL5, by rw [List.length_map]; omega, by rw [List.length_map]; omega, fun i2 t6 v H7 hv f7 ht6 hS7 => ?_⟩⟩
      rw [List.getElem?_map] at hv
      obtain ⟨x, hx, rfl⟩ := Option.map_eq_some_iff.mp hv
      have hL7 := f7 _ _ L3g.2.1 L3g.1 hL5
      refine ⟨_, hL7, sz_lt (by rw [List.length_map]; omega), ys ++ [x], t6, by rw [upd_same, List.map_append]; rfl, by rw [List.length_append, hyl]; rfl, fun y hy => ?_, (f6.trans (Lf.sf f7)).mutN hL3, by omega, (hS6.sf f7 hS7).mutL hL7 L3g⟩
      rcases List.mem_append.mp hy with h | h
      · exact hyo y h
      · rw [List.mem_singleton.mp h]
        exact List.mem_of_getElem? hx
    · obtain ⟨ys, t5, hL5, hyl, hyo, f6, ht5, hS6⟩ := pv
      have hyl4 : ys.length = 4 := hyl
      have ht5' : t5 ≤ t + 4 := ht5
      refine ⟨L3, rfl, ⟨_, SqL.of hL5⟩, ?_⟩
      refine for_it walk_list (fun i σ H' => ∃ (n6 n7 n8 n9 n10 n11 : Option V), σ = [some (.ref d), some (.ref kn), some (.ref a), some (.str b), some (.ref pd), some (.ref RL), n6, n7, n8, n9, n10, n11] ∧ Same H6 H') ⟨_, _, _, _, _, _, rfl, Same.refl _⟩ (fun i σ H' _ ⟨_, _, _, _, _, _, _, pv⟩ => SqL.of (pv _ _ hL5)) (fun i z σ H' H'' hi pv y => ?_) fun σ H' pv => ?_
      · obtain ⟨m6, m7, m8, m9, m10, m11, rfl, s7⟩ := pv
        obtain ⟨rfl, hz⟩ := y
        rw [List.getElem?_map] at hz
        obtain ⟨x, hx, rfl⟩ := Option.map_eq_some_iff.mp hz
        obtain ⟨hx1, hx2⟩ := hz_ x (hyo x (List.mem_of_getElem? hx))
        obtain ⟨s0, hs0, es0⟩ := (hPm _).mp hx2
        obtain ⟨u1, c1, u2, ep, tw⟩ := pair_two (s := s0) so.nd hb
        have ek : x.1 = (b :: u1, c1 :: u2) := es0.symm.trans ep
        rw [ek] at hx1
        have fx := f6.trans (Lf.of s7)
        have hx6 := hx1.lf hL2 fx
        obtain ⟨o1', o2', hq, hqu, hqv⟩ := hx6
        have hK6 := hL2.known fx (hK.same s2)
        have ha6 := hL2.seq fx hag (s2.seq ha)
        have hsome := (told2_some tw so.nd hwf).mpr ⟨s0, hs0, ep⟩
        obtain ⟨ρ', hN⟩ := Option.isSome_iff_exists.mp hsome
        have hleast := told2_least tw so.nd hwf hN
        refine ⟨x.2, _, rfl, SqT.of hq, rfl, _, _, rfl, _, _, rfl, rfl, ?_⟩
        refine ⟨_, rfl, _, rfl, _, rfl, _, rfl, kn, a, o1', o2', b, c1, u1, u2, xs, line, ρ, ρ', rfl, hK6, ha6, so, SqT.of hqu, SqT.of hqv, tw, hρ.small, hN, fun D kvs H8 e8 hD0 hD hSl => ?_⟩
        have hg6 := G.go_full (s := fun x => (ρ' x).1) so.nd hb
        refine ⟨_, rfl, _, rfl, _, rfl, _, rfl, kn, a, o1', o2', b, c1, u1, u2, xs, line, ρ, rfl, hK6.same e8, e8.seq ha6, so, SqT.of (e8 _ _ hqu), SqT.of (e8 _ _ hqv), tw, hρ.small, fun H9 e9 => ?_⟩
        rw [hsome]
        refine ⟨true, rfl, ?_⟩
        have e79 := e8.trans e9
        refine ⟨_, rfl, _, rfl, _, rfl, a, D, line, b, kvs, _, rfl, e79.seq ha6, e9 _ _ hD, hSl, so.nd, hl, hb, fun p u t' H10 e10 ht' hu10 hp10 => ?_⟩
        have e710 := e79.trans e10
        refine ⟨_, rfl, _, rfl, o2', _, 0, _, rfl, rfl, SqT.of (e710 _ _ hqv), atI_nat (j := 0) rfl, by show 2 ≤ sizeLine; decide, fun T11 hT11 => ?_⟩
        have e11 : Same H10 (upd H10 T11 (.tup [.ref o1', .str c1])) := same_upd hT11
        have h11 : upd H10 T11 (.tup [.ref o1', .str c1]) T11 = some (.tup [.ref o1', .str c1]) := upd_same
        generalize upd H10 T11 (.tup [.ref o1', .str c1]) = H11 at *
        have hpr : b :: t' = b :: u1 ∧ nextOf line (fun x => (ρ' x).1) (G.endOf b t') = c1 ∧ G.go (fun x => (ρ' x).1) line (line.length - 1) [c1] c1 = u2 := by
          have h1 := Prod.mk.inj hleast
          have h2 := List.cons.inj h1.2
          rw [← ht'] at h1 h2
          exact ⟨h1.1, h2.1, by rw [← h2.1]; exact h2.2⟩
        obtain ⟨p1, p2, p3⟩ := hpr
        rw [p2] at hp10
        rw [p1] at hu10
        have tk1 : ∀ x ∈ b :: u1, TOk x := fun x hx => htok x ((tw.m1 x).mp hx)
        have tk2 : ∀ x ∈ c1 :: u2, TOk x := fun x hx => htok x ((tw.m2 x).mp hx)
        refine ⟨goD (b :: u1) c1, goD (b :: u1) c1, .tup (SqT.of (e11 _ _ hp10)) (.cons (dp_strT (SqT.of (e11 _ _ hu10))) (.cons (.str c1) .nil)), .tup (SqT.of h11) (.cons (dp_strT (SqT.of (e11 _ _ (e710 _ _ hqu)))) (.cons (.str c1) .nil)), shaped_goD tk1 (tk2 _ (by simp)), shaped_goD tk1 (tk2 _ (by simp)), false, by rw [eqv_goD]; rfl, ?_⟩
        refine iteF ?_
        have e711 := e710.trans e11
        have hc1 : c1 ∈ line := (tw.m2 c1).mp (by simp)
        refine ⟨_, rfl, _, rfl, _, rfl, o2', _, 0, _, rfl, rfl, SqT.of (e711 _ _ hqv), atI_nat (j := 0) rfl, a, D, line, c1, kvs, _, rfl, e711.seq ha6, e11 _ _ (e10 _ _ (e9 _ _ hD)), hSl, so.nd, hl, hc1, fun p2' u3 t3' H12 e12 ht3 hu12 hp12 => ?_⟩
        rw [p3] at ht3
        rw [ht3] at hu12
        refine ⟨p2', _, 0, _, rfl, rfl, SqT.of hp12, atI_nat (j := 0) rfl, _, rfl, _, _, dp_strT (SqT.of hu12), dp_strT (SqT.of (e12 _ _ (e711 _ _ hqv))), shaped_strT tk2, shaped_strT tk2, false, by rw [eqv_strT, decide_eq_true rfl]; rfl, ?_⟩
        refine iteF ?_
        exact ⟨_, _, _, _, _, _, rfl, s7.trans (e711.trans e12)⟩
      · obtain ⟨m6, m7, m8, m9, m10, m11, rfl, s7⟩ := pv
        have f7 := f6.trans (Lf.of s7)
        have hS7 := hS6.same s7
        refine ⟨_, rfl, by decide, by decide, ?_⟩
        refine for_it walk_range (fun i σ H' => ∃ (t' : Nat) (n6 n7 n8 n9 n10 n11 : Option V), σ = [some (.ref d), some (.ref kn), some (.ref a), some (.str b), some (.ref pd), some (.ref RL), n6, n7, n8, n9, n10, n11] ∧ Lf d g H2 H' ∧ t' ≤ t + 4 + 24 * i ∧ LSt K H' d g c tP t') ⟨t5, _, _, _, _, _, _, rfl, f7, by omega, hS7⟩ (fun _ _ _ _ _ => trivial) (fun i z σ H' H'' hi pv y => ?_) fun σ H' pv => ?_
        · obtain ⟨rfl, hz⟩ := y
          obtain ⟨t8, n6, n7, n8, n9, n10, n11, rfl, f8, ht8, hS8⟩ := pv
          have hi6 : i < 6 := hi
          have ha8 := hL2.seq f8 hag (s2.seq ha)
          refine ⟨_, rfl, by show 1 ≤ sizeLine; decide, fun T1 hT1 => ?_⟩
          have e9 : Same H'' (upd H'' T1 (.tup [.str b])) := same_upd hT1
          have h9 : upd H'' T1 (.tup [.str b]) T1 = some (.tup [.str b]) := upd_same
          generalize upd H'' T1 (.tup [.str b]) = H9 at *
          have hS9 := hS8.same e9
          refine ⟨_, rfl, _, rfl, a, rfl, ⟨_, e9.seq ha8⟩, fun D hD => ?_⟩
          have Dg := hS9.ng hD
          refine lc_it walk_list (Told H9 D fun i => ((line.take i).filter fun x => decide (x ≠ b)).map V.str) (Told.start hD rfl) (fun i H' _ pv => pv.same.seq (e9.seq ha8)) (fun i z H' H10 hi pv yy => ?_) fun H10 pv => ?_
          · obtain ⟨rfl, hz1⟩ := yy
            rw [List.getElem?_map] at hz1
            obtain ⟨x, hx, rfl⟩ := Option.map_eq_some_iff.mp hz1
            refine ⟨rfl, ?_⟩
            refine ⟨_, rfl, _, rfl, rfl, _, rfl, ?_⟩
            by_cases c0 : x = b
            · subst c0
              rw [show decide (V.str x = V.str x) = true from decide_eq_true rfl]
              refine iteF ?_
              refine pv.skip (Same.refl _) ?_
              rw [take_snoc hx, List.filter_append, List.map_append, List.filter_cons, if_neg (by simp), List.filter_nil]
              simp
            · rw [show decide (V.str x = V.str b) = false from decide_eq_false fun e => c0 (V.str.inj e)]
              refine iteT ?_
              refine ⟨_, rfl, ?_⟩
              refine pv.put hD (Same.refl _) ?_ ?_
              · rw [take_snoc hx, List.filter_append, List.map_append, List.filter_cons, if_pos (by simp [c0]), List.filter_nil]
                rfl
              · rw [List.length_map]
                refine Nat.lt_of_le_of_lt (List.length_filter_le ..) ?_
                rw [List.length_take]
                omega
          · have hsl3 : (line.map V.str).length = line.length := List.length_map ..
            rw [hsl3] at pv
            have hD10 := pv.at_
            rw [List.take_length] at hD10
            have e10 := pv.same
            have hS10 := hS9.same e10
            obtain ⟨fl, hfl⟩ : ∃ fl, fl = line.filter fun x => decide (x ≠ b) := ⟨_, rfl⟩
            rw [← hfl] at hD10
            have hfll : fl.length ≤ line.length := by rw [hfl]; exact List.length_filter_le ..
            have hflm : ∀ x, x ∈ fl ↔ x ∈ line ∧ x ≠ b := fun x => by rw [hfl, List.mem_filter]; simp
            have hfln : fl.Nodup := by rw [hfl]; exact so.nd.filter _
            refine ⟨d, g, c, D, t8, fl, rfl, hS10.st, by omega, SqL.of hD10, by omega, fun x hx => htok x ((hflm x).mp hx).1, fun L1 t11 ys H11 hL10 hL1 hys f11 ht11 hS11 => ?_⟩
            refine ⟨L1, _, rfl, .inl ⟨SqL.of hL1, fun l1 hl1 => ?_⟩⟩
            have e12 : Same H11 (upd H11 l1 (.tup (ys.map V.str))) := same_upd hl1
            have h12 : upd H11 l1 (.tup (ys.map V.str)) l1 = some (.tup (ys.map V.str)) := upd_same
            generalize upd H11 l1 (.tup (ys.map V.str)) = H12 at *
            have hS12 := (hS10.sf f11 hS11).same e12
            have f912 : Lf d g H9 H12 := ((Lf.of e10).trans (Lf.sf f11)).trans (Lf.of e12)
            have hT12 := (hS9.tk f912).1 _ _ h9
            have n1 : (b :: ys).Nodup := List.nodup_cons.mpr ⟨fun h => ((hflm b).mp (hys.mem_iff.mp h)).2 rfl, hys.nodup_iff.mpr hfln⟩
            have m1 : ∀ x, x ∈ b :: ys ↔ x ∈ line := fun x => by
              rw [List.mem_cons, hys.mem_iff, hflm]
              constructor
              · rintro (h | h)
                · rw [h]
                  exact hb
                · exact h.1
              · intro h
                by_cases c : x = b
                · exact .inl c
                · exact .inr ⟨h, c⟩
            have l1e : ys.length + 1 = line.length := ((List.perm_ext_iff_of_nodup n1 so.nd).mpr m1).length_eq
            have yne : ys.map V.str ≠ [] := fun h => by
              rw [List.map_eq_nil_iff.mp h] at l1e
              simp at l1e
              omega
            refine ⟨T1, l1, [.str b], ys.map V.str, rfl, rfl, SqT.of hT12, SqT.of h12, sz_le (by rw [List.length_map, List.length_singleton]; omega), ?_, ?_, ?_⟩
            · intro h
              cases h
            · intro _ h
              exact absurd h yne
            intro _ _ p hp
            have e13 : Same H12 (upd H12 p (.tup ([.str b] ++ ys.map V.str))) := same_upd hp
            have h13 : upd H12 p (.tup ([.str b] ++ ys.map V.str)) p = some (.tup ((b :: ys).map V.str)) := upd_same
            generalize upd H12 p (.tup ([.str b] ++ ys.map V.str)) = H13 at *
            have hS13 := hS12.same e13
            have f213 : Lf d g H2 H13 := (f8.trans (Lf.of e9)).trans (f912.trans (Lf.of e13))
            have ha13 := hL2.seq f213 hag (s2.seq ha)
            refine ⟨_, rfl, _, rfl, d, g, c, a, t11, line, rfl, hS13.st, by omega, ha13, hl, htok, fun L2 t14 zs2 H14 _ hL2' hzs f14 ht14 hS14 => ?_⟩
            refine ⟨L2, _, rfl, .inl ⟨SqL.of hL2', fun l2 hl2 => ?_⟩⟩
            obtain ⟨c2, v2, rfl⟩ : ∃ c2 v2, zs2 = c2 :: v2 := by
              cases zs2 with
              | nil =>
                have := hzs.length_eq
                simp at this
                omega
              | cons c2 v2 => exact ⟨c2, v2, rfl⟩
            have e15 : Same H14 (upd H14 l2 (.tup ((c2 :: v2).map V.str))) := same_upd hl2
            have h15 : upd H14 l2 (.tup ((c2 :: v2).map V.str)) l2 = some (.tup ((c2 :: v2).map V.str)) := upd_same
            generalize upd H14 l2 (.tup ((c2 :: v2).map V.str)) = H15 at *
            have hS15 := (hS13.sf f14 hS14).same e15
            have f1315 : Lf d g H13 H15 := (Lf.sf f14).trans (Lf.of e15)
            have hp15 := (hS13.tk f1315).1 _ _ h13
            have f215 := f213.trans f1315
            have hK15 := hL2.known f215 (hK.same s2)
            have ha15 := hL2.seq f215 hag (s2.seq ha)
            have tw : TwoOk line b ys c2 v2 := ⟨n1, m1, hzs.nodup_iff.mpr so.nd, fun x => hzs.mem_iff⟩
            have hpd15 := hL2.ext' f215 (s2 _ _ hpd)
            have ks15 : KeysAt H15 PS := ks2.tk (hL2.tk f215).1
            have hiff : (G.narrow ρ (told2 line b ys c2 v2)).isSome = decide ((b :: ys, c2 :: v2) ∈ PS.map (·.1)) := by
              rw [Bool.eq_iff_iff, told2_some tw so.nd hwf, decide_eq_true_iff, hPm]
            refine ⟨_, rfl, _, rfl, _, rfl, _, rfl, kn, a, p, l2, b, c2, ys, v2, xs, line, ρ, rfl, hK15, ha15, so, SqT.of hp15, SqT.of h15, tw, hρ.small, fun H16 e16 => ?_⟩
            refine ⟨_, rfl, _, rfl, by show 2 ≤ sizeLine; decide, fun q1 hq1 => ?_⟩
            have e17 : Same H16 (upd H16 q1 (.tup [.ref p, .ref l2])) := same_upd hq1
            have h17 : upd H16 q1 (.tup [.ref p, .ref l2]) q1 = some (.tup [.ref p, .ref l2]) := upd_same
            generalize upd H16 q1 (.tup [.ref p, .ref l2]) = H17 at *
            have e1517 := e16.trans e17
            refine ⟨_, rfl, pd, PS, (b :: ys, c2 :: v2), q1, rfl, rfl, e1517 _ _ hpd15, ks15.tk (fun _ _ h => e1517 _ _ h), ⟨p, l2, h17, e1517 _ _ hp15, e1517 _ _ h15⟩, rfl, _, rfl, ?_⟩
            rw [hiff]
            refine iteF_ (by simp) ?_
            refine ⟨_, rfl, _, rfl, by show 2 ≤ sizeLine; decide, fun q2 hq2 => ?_⟩
            have e18 : Same H17 (upd H17 q2 (.tup [.ref p, .ref l2])) := same_upd hq2
            have h18 : upd H17 q2 (.tup [.ref p, .ref l2]) q2 = some (.tup [.ref p, .ref l2]) := upd_same
            generalize upd H17 q2 (.tup [.ref p, .ref l2]) = H18 at *
            have e1518 := e1517.trans e18
            refine ⟨_, rfl, pd, PS, (b :: ys, c2 :: v2), q2, rfl, rfl, e1518 _ _ hpd15, ks15.tk (fun _ _ h => e1518 _ _ h), ⟨p, l2, h18, e1518 _ _ hp15, e1518 _ _ h15⟩, ?_⟩
            have hS18 := hS15.same e1518
            have f218 := f215.trans (Lf.of e1518)
            by_cases cm : (b :: ys, c2 :: v2) ∈ PS.map (·.1)
            · refine ⟨false, by rw [if_pos rfl, decide_eq_true cm]; rfl, ?_⟩
              refine iteF ?_
              refine iteF ?_
              exact ⟨t14, _, _, _, _, _, _, rfl, f218, by omega, hS18⟩
            · refine ⟨true, by rw [if_pos rfl, decide_eq_false cm]; rfl, ?_⟩
              refine iteT ?_
              have hnone : G.narrow ρ (told2 line b ys c2 v2) = none := by
                rw [decide_eq_false cm] at hiff
                exact Option.isNone_iff_eq_none.mp (by rw [← Option.not_isSome, hiff]; rfl)
              refine ⟨hS18.tb, fun H19 eN T19 => ?_⟩
              have f19 : Lf d g H18 H19 := Lf.ext eN
              have hS19 := hS18.extn eN T19
              refine ⟨_, _, _, _, rfl, rfl, rfl, rfl, kn, a, p, l2, b, c2, ys, v2, xs, line, ρ, rfl, hS18.known f19 (hK15.same e1518), hS18.seq f19 hag (e1518.seq ha15), so, SqT.of ((hS18.tk f19).1 _ _ (e1518 _ _ hp15)), SqT.of ((hS18.tk f19).1 _ _ (e1518 _ _ h15)), tw, hρ.small, hnone, fun H20 e20 => ⟨rfl, rfl, true, rfl, ?_⟩⟩
              refine iteF ?_
              exact ⟨t14, _, _, _, _, _, _, rfl, f218.trans (f19.trans (Lf.of e20)), by omega, hS19.same e20⟩
        · obtain ⟨t8, n6, n7, n8, n9, n10, n11, rfl, f8, ht8, hS8⟩ := pv
          exact q t8 H' (((Lf.of s2).trans f8)) (Nat.le_trans ht8 (by omega)) hS8
end
end GK
set_option Elab.async false
set_option linter.all false
set_option maxRecDepth 100000
set_option maxHeartbeats 4000000
namespace GK
open PySem PySem.Spec PyProof.Rows L2
theorem mergeK_app : ∀ (more : List (Key × V)) (ys xs : List Str) (kvs : List (Key × V)), kvs.map (·.1) = ys.map Sum.inr → more.map (·.1) = xs.map Sum.inr → (ys ++ xs).Nodup → mergeK kvs more = kvs ++ more
  | [], _, _, kvs, _, _, _ => by
    unfold mergeK
    simp
  | kv :: more, ys, xs, kvs, h1, h2, hn => by
    cases xs with
    | nil => simp at h2
    | cons x xs =>
      rw [List.map_cons, List.map_cons] at h2
      obtain ⟨e1, e2⟩ := List.cons.inj h2
      have hx : x ∉ ys := fun h => by
        have := List.nodup_append.mp hn
        exact this.2.2 x h x (by simp) rfl
      have e3 : putK kvs kv.1 kv.2 = kvs ++ [kv] := by
        rw [e1, putK_snoc kv.2 h1 hx, ← e1]
      have e4 : mergeK kvs (kv :: more) = mergeK (putK kvs kv.1 kv.2) more := rfl
      rw [e4, e3, mergeK_app more (ys ++ [x]) xs (kvs ++ [kv]) (by rw [List.map_append, List.map_append, h1, List.map_singleton, List.map_singleton, e1]) e2 (by rw [List.append_assoc]; exact hn), List.append_assoc]
      rfl
theorem mergeK_nd {kvs : List (Key × V)} {xs : List Str} (h : kvs.map (·.1) = xs.map Sum.inr) (hn : xs.Nodup) : mergeK [] kvs = kvs := by
  rw [mergeK_app kvs [] xs [] rfl h (by simpa using hn), List.nil_append]
theorem RestsD.congr {K : PySem.W.Frag} {H : Hp} {kvs : List (Key × V)} {xs : List Str} {ρ ρ' : Str → Nat × Nat} (h : RestsD K H kvs xs ρ) (e : ∀ x ∈ xs, ρ x = ρ' x) : RestsD K H kvs xs ρ' := ⟨h.keys, fun x hx => by
  rw [← e x hx]
  exact h.val x hx⟩
theorem divs_of {n : Nat} (h2 : 2 ≤ n) (h4 : n ≤ 4) : ∃ W, [2, 6, 12][n - 2]? = some W ∧ G.Divs n W ∧ 0 < W ∧ W ≤ 12 := by
  have : n = 2 ∨ n = 3 ∨ n = 4 := by omega
  rcases this with rfl | rfl | rfl
  · skip
    refine ⟨2, rfl, fun k h1 h3 => ?_, by decide, by decide⟩
    have : k = 1 ∨ k = 2 := by omega
    rcases this with rfl | rfl <;> decide
  · refine ⟨6, rfl, fun k h1 h3 => ?_, by decide, by decide⟩
    have : k = 1 ∨ k = 2 ∨ k = 3 := by omega
    rcases this with rfl | rfl | rfl <;> decide
  · refine ⟨12, rfl, fun k h1 h3 => ?_, by decide, by decide⟩
    have : k = 1 ∨ k = 2 ∨ k = 3 ∨ k = 4 := by omega
    rcases this with rfl | rfl | rfl | rfl <;> decide
theorem slips_at {line : List Str} {vs : List Nat} (hn : line.Nodup) (hl : vs.length = line.length) : SlipsD (zipKV line vs) line (G.slipOf line vs) := ⟨fun x hx => by
  obtain ⟨i, hi, e⟩ := List.mem_iff_getElem.mp hx
  have h1 : line[i]? = some x := by rw [List.getElem?_eq_getElem hi, e]
  have h2 : vs[i]? = some vs[i] := List.getElem?_eq_getElem (by omega)
  rw [zipKV_get hn h1 h2, G.slipOf_get hn h1 h2]⟩
/-- the orders and pairs that the slips of the list bring, are those that fitting slips bring -/
theorem orders_are {line : List Str} {ρ : Str → Nat × Nat} {b : Str} {W : Nat} (hn : line.Nodup) (hb : b ∈ line) (w : G.WF ρ line) (hW : 0 < W) (hd : G.Divs line.length W) (t : List Str) :
    (∃ vs ∈ G.allP ρ W line, G.go (G.slipOf line vs) line (line.length - 1) [b] b = t) ↔ t ∈ G.tails ρ line (line.length - 1) [b] b := by
  obtain ⟨h1, h2⟩ := G.allP_fits hn w hW
  have hp : 0 < line.length := List.length_pos_of_mem hb
  have hA := G.At.first (k := line.length - 1) hn hb (by omega)
  rw [G.mem_tails w hA]
  constructor
  · rintro ⟨vs, hvs, rfl⟩
    obtain ⟨s, hs, e⟩ := h1 vs hvs
    exact ⟨s, hs, G.go_mod hd hA e⟩
  · rintro ⟨s, hs, rfl⟩
    obtain ⟨vs, hvs, e⟩ := h2 s hs
    exact ⟨vs, hvs, (G.go_mod hd hA e).symm⟩
theorem pairs_are {line : List Str} {ρ : Str → Nat × Nat} {b : Str} {W : Nat} (hn : line.Nodup) (hb : b ∈ line) (w : G.WF ρ line) (hW : 0 < W) (hd : G.Divs line.length W) (k : PK) :
    (∃ vs ∈ G.allP ρ W line, G.pairOf (G.slipOf line vs) line b = k) ↔ ∃ s, G.Fits ρ line s ∧ G.pairOf s line b = k := by
  obtain ⟨h1, h2⟩ := G.allP_fits hn w hW
  constructor
  · rintro ⟨vs, hvs, rfl⟩
    obtain ⟨s, hs, e⟩ := h1 vs hvs
    exact ⟨s, hs, G.pair_mod hd hn hb e⟩
  · rintro ⟨s, hs, rfl⟩
    obtain ⟨vs, hvs, e⟩ := h2 s hs
    exact ⟨vs, hvs, (G.pair_mod hd hn hb e).symm⟩
theorem LSt.mutD {K : PySem.W.Frag} {d g c P p : Addr} {H : Hp} {t : Nat} {kvs : List (Key × V)} {o : HO} (s : LSt K H d g c P t) (hp : H p = some (.dK kvs)) (h : p ≠ g ∧ p ≠ d ∧ p ≠ c) : LSt K (upd H p o) d g c P t := by
  obtain ⟨ps, hP, h2, h3⟩ := s.tb
  refine ⟨s.st.mut h, ps, (upd_ne (ne_of hP hp (by intro z; cases z))).trans hP, h2, fun pos cv hc => ?_⟩
  obtain ⟨c0, e, hc0⟩ := h3 pos cv hc
  exact ⟨c0, e, (upd_ne (ne_of hc0 hp (by intro z; unfold LamX.CodeO at z; cases z))).trans hc0⟩
theorem putK_keysT {oks : List (List Key × V)} {TS : List (List Str)} {b : Str} {t : List Str} {v : V} (h : oks.map (·.1) = TS.map fun t => (b :: t).map Sum.inr) :
    (putK oks ((b :: t).map Sum.inr) v).map (·.1) = (if t ∈ TS then TS else TS ++ [t]).map fun t => (b :: t).map Sum.inr := by
  have inj : ∀ {x y : List Str}, ((b :: x).map Sum.inr : List Key) = (b :: y).map Sum.inr → x = y := fun {x y} e => by
    have e2 := (List.map_inj_right (f := (Sum.inr : Str → Key)) (fun _ _ h => Sum.inr.inj h)).mp e
    exact (List.cons.inj e2).2
  have hany : (oks.any fun kv => decide (kv.1 = (b :: t).map Sum.inr)) = decide (t ∈ TS) := by
    rw [Bool.eq_iff_iff, List.any_eq_true, decide_eq_true_iff]
    constructor
    · rintro ⟨kv, hkv, e⟩
      have h1 : kv.1 ∈ oks.map (·.1) := List.mem_map_of_mem hkv
      rw [h] at h1
      obtain ⟨t', ht', e'⟩ := List.mem_map.mp h1
      rw [of_decide_eq_true e] at e'
      rw [← inj e']
      exact ht'
    · intro ht
      have h1 : ((b :: t).map Sum.inr : List Key) ∈ oks.map (·.1) := by
        rw [h]
        exact List.mem_map_of_mem (f := fun t => ((b :: t).map Sum.inr : List Key)) ht
      obtain ⟨kv, hkv, e⟩ := List.mem_map.mp h1
      exact ⟨kv, hkv, decide_eq_true e⟩
  unfold putK
  rw [hany]
  by_cases c : t ∈ TS
  · rw [if_pos (decide_eq_true c), if_pos c, ← h, List.map_map]
    refine List.map_congr_left fun kv _ => ?_
    show (if kv.1 = _ then (kv.1, v) else kv).1 = kv.1
    split <;> rfl
  · rw [if_neg (by rw [decide_eq_false c]; decide), if_neg c, List.map_append, List.map_append, h]
    rfl
theorem fnok_of {P : Program} {w : World} {K : PySem.W.Frag} {mg : Str → Option Value} {base : Heap} {x : Str} {st : Stmt} {N ps : List Str} {k : Nat} {sp : Sp} {f : Addr} {fd : FuncData} (F : FunD K x x (defArgs st) (defBody st) (defScope st) [] [] f fd) (S : FnScope N ps (defScope st)) (len : ∀ vs H Q E, sp vs H Q E → vs.length = ps.length)
    (hbody : BodyOk P w K mg base x st N k sp) : FnOk P w K mg base C8.CX0 (k + 1) f fd ps sp := by
  refine F.ok S len fun cdv A outer s H vs Q E hr hsp => ?_
  obtain ⟨t, h, q⟩ := hbody f cdv A outer s H vs Q E hr hsp
  exact ⟨t, h.nox, q⟩
theorem tupL_keys {K : PySem.W.Frag} {H : Hp} {b : Str} {oks : List (List Key × V)} {bs : List Addr} (h : IsKeys H oks bs) : ∀ {TS : List (List Str)}, (oks.map (·.1) = TS.map fun t => (b :: t).map Sum.inr) → TupL K H (bs.map V.ref) (TS.map (b :: ·)) := by
  unfold IsKeys at h
  induction h with
  | nil =>
    intro TS e
    cases TS with
    | nil => exact .nil
    | cons t r => simp at e
  | @cons x q l m h1 _ ih =>
    intro TS e
    cases TS with
    | nil => simp at e
    | cons t r =>
      rw [List.map_cons, List.map_cons] at e
      obtain ⟨e1, e2⟩ := List.cons.inj e
      have h2 := ih e2
      have h3 : SqT K H q ((b :: t).map V.str) := SqT.of (by
        rw [h1, e1, List.map_map]
        rfl)
      exact (TupL.one h3).append h2
theorem mem_ins {TS : List (List Str)} {t t' : List Str} : t' ∈ (if t ∈ TS then TS else TS ++ [t]) ↔ t' ∈ TS ∨ t' = t := by
  by_cases h : t ∈ TS
  · rw [if_pos h]
    exact ⟨Or.inl, fun z => z.elim id fun e => by rw [e]; exact h⟩
  · rw [if_neg h, List.mem_append, List.mem_singleton]
theorem nd_ins {TS : List (List Str)} {t : List Str} (h : TS.Nodup) : (if t ∈ TS then TS else TS ++ [t]).Nodup := by
  by_cases c : t ∈ TS
  · rw [if_pos c]
    exact h
  · rw [if_neg c]
    exact G.nodup_snoc h c
theorem len_ins {TS : List (List Str)} {t : List Str} : (if t ∈ TS then TS else TS ++ [t]).length ≤ TS.length + 1 := by
  by_cases c : t ∈ TS
  · rw [if_pos c]
    omega
  · rw [if_neg c, List.length_append]
    exact Nat.le_refl _
theorem ex_snoc {α : Type} {l m : List α} {x : α} {p : α → Prop} (e : m = l ++ [x]) : (∃ v ∈ m, p v) ↔ (∃ v ∈ l, p v) ∨ p x := by
  subst e
  constructor
  · rintro ⟨v, hv, h⟩
    rcases List.mem_append.mp hv with q | q
    · exact .inl ⟨v, q, h⟩
    · rw [List.mem_singleton.mp q] at h
      exact .inr h
  · rintro (⟨v, hv, h⟩ | h)
    · exact ⟨v, List.mem_append_left _ hv, h⟩
    · exact ⟨x, List.mem_append_right _ (by simp), h⟩
end GK
set_option Elab.async false
set_option linter.all false
set_option maxRecDepth 100000
set_option maxHeartbeats 4000000
namespace GK
open PySem PySem.Spec PyProof.Rows L2
section
variable {P : Program} {w : World} {K : PySem.W.Frag} {mg : Str → Option Value} {base : Heap} {CK CW NO GE : Addr}
theorem sizes_ok {v : V} (h : v ∈ [V.int 2, .int 3, .int 3, .int 4]) : ∃ m : Nat, v = .int (m : Nat) ∧ 2 ≤ m ∧ m ≤ 4 := by
  simp only [List.mem_cons, List.not_mem_nil, or_false] at h
  rcases h with h | h | h | h
  · exact ⟨2, h, by decide, by decide⟩
  · exact ⟨3, h, by decide, by decide⟩
  · exact ⟨3, h, by decide, by decide⟩
  · exact ⟨4, h, by decide, by decide⟩
theorem tk_lst {H : Hp} {p : Addr} {ys : List V} {o : HO} (h : H p = some (.lst ys)) : Tk H (upd H p o) := ⟨fun b xs h1 => (upd_ne (ne_of h1 h (by intro z; cases z))).trans h1, fun b u xs h1 => (upd_ne (ne_of h1 h (by intro z; cases z))).trans h1⟩
theorem paired_app {α β : Type} {R : α → β → Prop} {a c : List α} {b d : List β} (h : Paired R a b) (h2 : Paired R c d) : Paired R (a ++ c) (b ++ d) := by
  induction h with
  | nil => exact h2
  | cons h1 _ ih => exact .cons h1 ih
def spLaw (K : PySem.W.Frag) (tP : Addr) : Sp := fun vs H Q _ => ∃ (a : Addr) (ns : List Int), vs = [.ref a] ∧ SqL K H a (ns.map V.int) ∧ ns.length ≤ 63 ∧ H tP = some (.tbl #[]) ∧ ∀ H', Q (.bl true) H'
theorem sc_law : FnScope ["_law_script", "_law_state", "_law_turn", "_law_names", "_law_rests", "_law_name", "_law_wise", "_law_line", "_law_begin", "_law_orders", "_law_pairs", "_law_slips", "_law_one", "_law_later"] ["_law_script"] (defScope s_law) := ⟨rfl, rfl, rfl, by decide +kernel, rfl, by decide +kernel, by decide +kernel⟩
theorem ok_law {f : Addr} {fd : FuncData} (F : FunD K "law" "law" (defArgs s_law) (defBody s_law) (defScope s_law) [] [] f fd) (T : Txt K mg CK CW) {tP : Addr} (c__law_two_right : C8.Cal P w K mg base 21 "_law_two_right" (spTwoRight P w K CK tP) []) (c__law_one_right : C8.Cal P w K mg base 21 "_law_one_right" (spOneRight K CK) []) (c__law_all_slips : C8.Cal P w K mg base 2 "_law_all_slips" (spAllSlips K) []) (c__law_goes : C8.Cal P w K mg base 2 "_law_goes" (spGoes K) []) (c__law_order : C8.Cal P w K mg base 3 "_law_order" (spOrder K) []) (c_of_rests : C8.Cal P w K mg base 6 "of_rests" (spOfRests K CK) []) (c__law_take : C8.Cal P w K mg base 2 "_law_take" (spTake K) []) (c__law_a_rest : C8.Cal P w K mg base 4 "_law_a_rest" (spARest K) []) (c__law_words : C8.Cal P w K mg base 4 "_law_words" (spWords K) []) (c__law_pick : C8.Cal P w K mg base 3 "_law_pick" (spPick K) []) (c__law_begun : C8.Cal P w K mg base 1 "_law_begun" (spBegun K) []) : FnOk P w K mg base C8.CX0 22 f fd ["_law_script"] (spLaw K tP) := by
  refine fnok_of F sc_law (ps := ["_law_script"]) (fun vs H Q E h => ?_) fun f cdv A outer s H vs Q E hr h => ?_
  · obtain ⟨a, ns, rfl, ha, hns, htP, q⟩ := h
    rfl
  · obtain ⟨a, ns, rfl, ha, hns, htP, q⟩ := h
    have hu := hu_of hr
    refine ⟨_, (pss_cons (ps_set (i := 1) sc_law.nd rfl (Or.inr rfl) (C8.pe_c c__law_begun hr (by omega) rfl (pa_cons (pv 0) pa_nil)))
    (pss_cons (ps_for PassesOwn.never rfl (pi_range1 (by rfl) T.b_range (pa_cons (pe_op op_add pe_int (pe_callB (call_min2 rfl) (by rfl) T.b_min (by decide +kernel) (pa_cons pe_int (pa_cons (pe_callB call_len_seq (by rfl) T.b_len (by decide +kernel) (pa_cons (pv 0) pa_nil)) pa_nil)))) pa_nil)) (pg_name (i := 2) sc_law.nd rfl (Or.inl rfl)) 
      (pss_cons (ps_set (i := 3) sc_law.nd rfl (Or.inl rfl) (C8.pe_c c__law_words hr (by omega) rfl (pa_cons (pv 1) (pa_cons (C8.pe_c c__law_pick hr (by omega) rfl (pa_cons (pv 1) (pa_cons (pe_lst (pa_cons pe_int (pa_cons pe_int (pa_cons pe_int (pa_cons pe_int pa_nil))))) pa_nil))) pa_nil))))
      (pss_cons (ps_set (i := 4) sc_law.nd rfl (Or.inl rfl) (pe_callTy (call_dictP rfl) (by rfl) T.b_dict (by decide +kernel) (pa_cons (pe_lc (own := [("_law_name", 5)]) rfl sc_law.nd (pi_list (pv 3)) (blkOk_by (own := [("_law_name", 5)]) (N := ["_law_script", "_law_state", "_law_turn", "_law_names", "_law_rests", "_law_name", "_law_wise", "_law_line", "_law_begin", "_law_orders", "_law_pairs", "_law_slips", "_law_one", "_law_later"]) (sc := defScope s_law) (by decide +kernel)) (fun _ _ _ _ _ => pg_name (i := 5) sc_law.nd rfl (Or.inl rfl)) (fun _ _ _ _ _ => pts_nil) (fun _ _ _ _ _ => (pe_tup (pa_cons (pv 5) (pa_cons (pe_ix (k_ixl K) (pe_lst (pa_cons (pe_tup (pa_cons pe_int (pa_cons pe_int pa_nil))) (pa_cons (C8.pe_c c__law_a_rest hr (by omega) rfl (pa_cons (pv 1) pa_nil)) pa_nil))) (C8.pe_c c__law_take hr (by omega) rfl (pa_cons (pv 1) (pa_cons pe_int pa_nil))) (fun _ _ => rfl)) pa_nil))))) pa_nil)))
      (pss_cons (ps_for PassesOwn.never rfl (pi_list (pe_op op_rep (pe_slice sl_list (pv 3) (po_some pe_int) po_none) (pe_callTy call_int1 (by rfl) T.b_int (by decide +kernel) (pa_cons (pe_cmpR op_eq (pe_callB call_len_seq (by rfl) T.b_len (by decide +kernel) (pa_cons (pv 3) pa_nil)) pe_int (nomark _)) pa_nil)))) (pg_name (i := 5) sc_law.nd rfl (Or.inl rfl)) 
        (pss_one (ps_dput hu (pv 4) (pv 5) (pe_tup (pa_cons (C8.pe_c c__law_take hr (by omega) rfl (pa_cons (pv 1) (pa_cons pe_int pa_nil))) (pa_cons pe_int pa_nil))) rfl)))
      (pss_cons (ps_par (i := 6) (j := 7) rfl sc_law.nd rfl rfl (by decide) rfl rfl (pa_cons (C8.pe_c c_of_rests hr (by omega) rfl (pa_cons (pv 3) (pa_cons (pv 4) pa_nil))) (pa_cons (C8.pe_c c__law_order hr (by omega) rfl (pa_cons (pv 1) (pa_cons (pv 3) pa_nil))) pa_nil)) (by rfl))
      (pss_cons (ps_par3 (i := 8) (j := 9) (l := 10) rfl sc_law.nd rfl rfl rfl (by decide) (by decide) (by decide) rfl rfl rfl (pa_cons (C8.pe_c c__law_pick hr (by omega) rfl (pa_cons (pv 1) (pa_cons (pv 7) pa_nil))) (pa_cons pe_dnewT (pa_cons pe_dnewN pa_nil))) (by rfl))
      (pss_cons (ps_for PassesOwn.never rfl (pi_list (C8.pe_c c__law_all_slips hr (by omega) rfl (pa_cons (pv 7) (pa_cons (pv 4) (pa_cons (pe_ix ix_list (pe_lst (pa_cons pe_int (pa_cons pe_int (pa_cons pe_int pa_nil)))) (pe_op op_sub (pe_callB call_len_seq (by rfl) T.b_len (by decide +kernel) (pa_cons (pv 7) pa_nil)) pe_int) (fun _ _ => rfl)) pa_nil))))) (pg_name (i := 11) sc_law.nd rfl (Or.inl rfl)) 
        (pss_cons (ps_asg (C8.pe_c c__law_goes hr (by omega) rfl (pa_cons (pv 7) (pa_cons (pv 11) (pa_cons (pv 8) pa_nil)))) (pg_tup (by rfl) (pgs_cons (pg_name (i := 12) sc_law.nd rfl (Or.inl rfl)) (pgs_cons (pg_name (i := 13) sc_law.nd rfl (Or.inl rfl)) pgs_nil))))
        (pss_cons (ps_dput hu (pv 9) (pv 12) pe_bl rfl)
        (pss_one (ps_nput hr.units (pv 10) (pe_tup (pa_cons (pv 12) (pa_cons (pe_ix ix_tup (C8.pe_c c__law_goes hr (by omega) rfl (pa_cons (pv 7) (pa_cons (pv 11) (pa_cons (pv 13) pa_nil)))) pe_int (fun _ _ => rfl)) pa_nil))) pe_bl rfl)))))
      (pss_cons (ps_if (pt_not (pt_val (C8.pe_c c__law_one_right hr (by omega) rfl (pa_cons (pv 6) (pa_cons (pv 7) (pa_cons (pv 8) (pa_cons (pe_callTy (call_list_dT rfl) (by rfl) T.b_list (by decide +kernel) (pa_cons (pv 9) pa_nil)) pa_nil))))))) 
        (pss_one (ps_ret pe_bl)) pss_nil)
      (pss_one (ps_if (pt_not (pt_val (C8.pe_c c__law_two_right hr (by omega) rfl (pa_cons (pv 1) (pa_cons (pv 6) (pa_cons (pv 7) (pa_cons (pv 8) (pa_cons (pv 10) pa_nil)))))))) 
        (pss_one (ps_ret pe_bl)) pss_nil))))))))))
    (pss_one (ps_ret pe_bl)))), ?_⟩
    -- slots: _law_script 0, _law_state 1, _law_turn 2, _law_names 3, _law_rests 4, _law_name 5, _law_wise 6, _law_line 7, _law_begin 8, _law_orders 9, _law_pairs 10, _law_slips 11, _law_one 12, _law_later 13
    have hnl : (ns.map V.int).length = ns.length := List.length_map ..
    refine ⟨_, rfl, a, ns, rfl, ha, hns, fun d g c H1 e1 hd0 hg0 hc0 hS1 => ?_⟩
    have hL1 : LSt K H1 d g c tP 0 := ⟨hS1, LamX.TabS.nil (e1 _ _ htP)⟩
    refine ⟨_, rfl, a, _, rfl, .inl (e1.seq ha), ?_⟩
    rw [hnl]
    refine ⟨_, _, rfl, _, _, rfl, rfl, ?_⟩
    obtain ⟨n, hn0, hn4⟩ : ∃ n : Nat, (2 + if (ns.length : Int) < 2 then (ns.length : Int) else 2) = (n : Nat) ∧ n ≤ 4 := by
      by_cases c : (ns.length : Int) < 2
      · exact ⟨2 + ns.length, by rw [if_pos c]; omega, by omega⟩
      · exact ⟨4, by rw [if_neg c]; rfl, by omega⟩
    refine ⟨n, congrArg (fun z => [V.int z]) hn0, by omega, by omega, ?_⟩
    rw [Int.toNat_natCast]
    refine for_it walk_range (fun i σ H' => ∃ (t' : Nat) (n2 n3 n4 n5 n6 n7 n8 n9 n10 n11 n12 n13 : Option V), σ = [some (.ref a), some (.ref d), n2, n3, n4, n5, n6, n7, n8, n9, n10, n11, n12, n13] ∧ t' ≤ 1000 * i ∧ LSt K H' d g c tP t') ⟨0, _, _, _, _, _, _, _, _, _, _, _, _, rfl, by omega, hL1⟩ (fun _ _ _ _ _ => trivial) (fun i z σ H' H'' hi pv y => ?_) fun σ H' pv => ?_
    · obtain ⟨rfl, hz⟩ := y
      obtain ⟨t1, n2, n3, n4, n5, n6, n7, n8, n9, n10, n11, n12, n13, rfl, ht1, hL1⟩ := pv
      have hi4 : i < n := hi
      refine ⟨_, rfl, _, rfl, by show 4 ≤ sizeLine; decide, fun PL hPL => ?_⟩
      have e2 : Same H'' (upd H'' PL (.lst [.int 2, .int 3, .int 3, .int 4])) := same_upd hPL
      have h2 : upd H'' PL (.lst [.int 2, .int 3, .int 3, .int 4]) PL = some (.lst [.int 2, .int 3, .int 3, .int 4]) := upd_same
      have PLg := hL1.ng hPL
      generalize upd H'' PL (.lst [.int 2, .int 3, .int 3, .int 4]) = H2 at *
      have hL2 := hL1.same e2
      refine ⟨d, g, c, t1, .ref PL, rfl, hL2.st, by omega, .inl ⟨PL, _, rfl, PLg.1, SqL.of h2, by decide, by decide, fun i3 t3 v H3 hv f3 ht3 hS3 => ?_⟩⟩
      obtain ⟨m, rfl, hm2, hm4⟩ := sizes_ok (List.mem_of_getElem? hv)
      have hL3 := hL2.sf f3 hS3
      refine ⟨d, g, c, t3, m, rfl, hS3, by omega, by omega, fun NL xs t4 H4 hN0 hNL hxl hxn hxo f4 ht4 hS4 => ?_⟩
      have hL4 := hL3.sf f4 hS4
      have NLg := hL3.ng hN0
      have hxm : (xs.map V.str).length = xs.length := List.length_map ..
      refine ⟨_, rfl, NL, rfl, ⟨_, SqL.of hNL⟩, fun D1 hD1 => ?_⟩
      have D1g := hL4.ng hD1
      refine lc_it walk_list (fun i H' => ∃ (ps : List Addr) (kvs : List (Key × V)) (ρ : Str → Nat × Nat) (t' : Nat), H' D1 = some (.lst (ps.map V.ref)) ∧ Paired (fun p (kv : Key × V) => SqT K H' p [kV kv.1, kv.2]) ps kvs ∧ RestsD K H' kvs (xs.take i) ρ ∧ (∀ x ∈ xs.take i, (ρ x).1 < (ρ x).2 ∧ (ρ x).2 ≤ 2 ^ 67) ∧ Lf d g H4 H' ∧ t' ≤ t4 + 3 * i ∧ LSt K H' d g c tP t')
        ⟨[], [], fun _ => (0, 1), t4, upd_same, .nil, restsD_nil, by simp, Lf.of (same_upd hD1), by omega, hL4.same (same_upd hD1)⟩ (fun i H' _ ⟨_, _, _, _, _, _, _, _, f, _⟩ => SqL.of (f _ _ NLg.2.1 NLg.1 (by intro ps z; cases z) hNL)) (fun i z H' H'' hi pv yy => ?_) fun H5 pv => ?_
      · obtain ⟨rfl, hz1⟩ := yy
        rw [List.getElem?_map] at hz1
        obtain ⟨x, hx, rfl⟩ := Option.map_eq_some_iff.mp hz1
        obtain ⟨ps, kvs, ρ, t5, hD5, hP5, hR5, hρ5, f5, ht5, hL5⟩ := pv
        have hix : i < xs.length := (List.getElem?_eq_some_iff.mp hx).1
        refine ⟨rfl, yes_in ?_⟩
        refine ⟨_, rfl, by show 2 ≤ sizeLine; decide, fun T0 hT0 => ?_⟩
        have e6 : Same H'' (upd H'' T0 (.tup [.int 0, .int 1])) := same_upd hT0
        have h6 : upd H'' T0 (.tup [.int 0, .int 1]) T0 = some (.tup [.int 0, .int 1]) := upd_same
        generalize upd H'' T0 (.tup [.int 0, .int 1]) = H6 at *
        have hL6 := hL5.same e6
        refine ⟨_, rfl, d, g, c, t5, rfl, hL6.st, by omega, fun v r t7 H7 hr1 hr2 hvr f7 ht7 hS7 => ?_⟩
        have hL7 := hL6.sf f7 hS7
        refine ⟨by show 2 ≤ sizeLine; decide, fun L8 hL8 => ?_⟩
        have e8 : Same H7 (upd H7 L8 (.lst [.ref T0, v])) := same_upd hL8
        have h8 : upd H7 L8 (.lst [.ref T0, v]) L8 = some (.lst [.ref T0, v]) := upd_same
        have L8g := hL7.ng hL8
        generalize upd H7 L8 (.lst [.ref T0, v]) = H8 at *
        have hL8' := hL7.same e8
        refine ⟨_, rfl, d, g, c, t7, 2, rfl, hL8'.st, by omega, by omega, big_ok (by omega), fun j t9 H9 hj f9 ht9 hS9 => ?_⟩
        have hL9 := hL8'.sf f9 hS9
        have f69 : Lf d g H6 H9 := ((Lf.sf f7).trans (Lf.of e8)).trans (Lf.sf f9)
        obtain ⟨u, ru, hju, hru, hru1, hru2⟩ : ∃ u ru, [V.ref T0, v][j]? = some u ∧ RestAt K H9 u ru ∧ ru.1 < ru.2 ∧ ru.2 ≤ 2 ^ 67 := by
          match j, hj with
          | 0, _ => exact ⟨_, (0, 1), rfl, ⟨T0, rfl, SqT.of ((hL6.tk f69).1 _ _ h6)⟩, by decide, by decide⟩
          | 1, _ => exact ⟨_, r, rfl, (hL7.tk ((Lf.of e8).trans (Lf.sf f9))).rest hvr, hr1, hr2⟩
        refine ⟨L8, _, j, u, rfl, rfl, SqL.of (f9 _ _ L8g.2.1 L8g.1 h8), atI_nat hju, ?_⟩
        refine ⟨by show 2 ≤ sizeLine; decide, fun T10 hT10 => ?_⟩
        have e10 : Same H9 (upd H9 T10 (.tup [.str x, u])) := same_upd hT10
        have h10 : upd H9 T10 (.tup [.str x, u]) T10 = some (.tup [.str x, u]) := upd_same
        generalize upd H9 T10 (.tup [.str x, u]) = H10 at *
        have hL10 := hL9.same e10
        have f510 : Lf d g H'' H10 := ((Lf.of e6).trans f69).trans (Lf.of e10)
        have hD10 := f510 _ _ D1g.2.1 D1g.1 (by intro ps z; cases z) hD5
        have hxi : x ∉ xs.take i := fun h => by
          obtain ⟨k, hk, e⟩ := List.mem_iff_getElem.mp h
          rw [List.getElem_take] at e
          rw [List.length_take] at hk
          have := (List.getElem_inj hxn).mp (e.trans (List.getElem?_eq_some_iff.mp hx).2.symm)
          omega
        have hpl : ps.length = i := by rw [hP5.length, hR5.len, List.length_take]; omega
        have tkU : Tk H'' (upd H10 D1 (.lst (ps.map V.ref ++ [.ref T10]))) := (hL5.tk f510).trans (tk_lst hD10)
        refine ⟨_, hD10, sz_lt (by rw [List.length_map]; omega), ps ++ [T10], kvs ++ [(Sum.inr x, u)], fun y => if y = x then ru else ρ y, t9, by rw [upd_same, List.map_append]; rfl, ?_, ?_, ?_, (f5.trans f510).mutN hD1, by omega, hL10.mutL hD10 D1g⟩
        · exact paired_app (L2.Paired.mapP hP5 fun p kv h => tkU.sq h) (.cons (SqT.of ((upd_ne (ne_of h10 hD10 (by intro z; cases z))).trans h10)) .nil)
        · rw [take_snoc hx, ← putK_snoc u hR5.keys hxi]
          refine RestsD.snoc ((hR5.tk tkU).congr fun y hy => ?_) hxi ?_
          · show ρ y = if y = x then ru else ρ y
            rw [if_neg (fun e : y = x => hxi (e ▸ hy))]
          · show RestAt K _ u (if x = x then ru else ρ x)
            rw [if_pos rfl]
            exact (Tk.of e10 |>.trans (tk_lst hD10)).rest hru
        · intro y hy
          rw [take_snoc hx] at hy
          show (if y = x then ru else ρ y).1 < (if y = x then ru else ρ y).2 ∧ (if y = x then ru else ρ y).2 ≤ 2 ^ 67
          by_cases c0 : y = x
          · rw [if_pos c0]
            exact ⟨hru1, hru2⟩
          · rw [if_neg c0]
            rcases List.mem_append.mp hy with h | h
            · exact hρ5 y h
            · exact absurd (List.mem_singleton.mp h) c0
      · obtain ⟨ps, kvs, ρ, t5, hD5, hP5, hR5, hρ5, f5, ht5, hL5⟩ := pv
        rw [hxm] at hR5 hρ5 ht5
        rw [List.take_length] at hR5 hρ5
        refine ⟨D1, ps, kvs, rfl, SqL.of hD5, hP5, fun RD hRD => ?_⟩
        rw [mergeK_nd hR5.keys hxn]
        have e6 : Same H5 (upd H5 RD (.dK kvs)) := same_upd hRD
        have h6 : upd H5 RD (.dK kvs) RD = some (.dK kvs) := upd_same
        generalize upd H5 RD (.dK kvs) = H6 at *
        have hL6 := hL5.same e6
        have hR6 := hR5.same e6
        have f46 : Lf d g H4 H6 := f5.trans (Lf.of e6)
        have hNL6 := f46 _ _ NLg.2.1 NLg.1 (by intro ps z; cases z) hNL
        refine ⟨_, rfl, _, rfl, ?_⟩
        refine no_part ?_
        refine sll_from (k := 2) (SqL.of hNL6) fun l2 H7 e7 hl20 hl2 => ?_
        have hL7 := hL6.same e7
        refine ⟨_, rfl, NL, _, rfl, .inl (SqL.of (e7 _ _ hNL6)), rfl, .inr ⟨_, rfl, ?_⟩⟩
        obtain ⟨bq, hbq⟩ : ∃ bq, bq = decide (V.int ((xs.map V.str).length : Nat) = V.int 4) := ⟨_, rfl⟩
        rw [← hbq]
        have hbk : ((if bq = true then 1 else 0 : Int)).toNat ≤ 1 := by cases bq <;> decide
        refine ⟨l2, _, _, rfl, rfl, hl2, by cases bq <;> decide, by cases bq <;> decide, ?_, fun XL hXL => ?_⟩
        · refine sz_le (Nat.le_trans (Nat.mul_le_mul_left _ hbk) ?_)
          rw [List.length_drop]
          omega
        obtain ⟨zl, hzl, hzm, hzn⟩ : ∃ zl : List Str, (List.replicate ((if bq = true then 1 else 0 : Int)).toNat ((xs.map V.str).drop 2)).flatten = zl.map V.str ∧ (∀ x ∈ zl, x ∈ xs) ∧ zl.length ≤ 4 := by
          cases bq with
          | false => exact ⟨[], rfl, by simp, by simp⟩
          | true =>
            refine ⟨xs.drop 2, ?_, fun x hx => List.mem_of_mem_drop hx, by rw [List.length_drop]; omega⟩
            show ((xs.map V.str).drop 2 ++ []) = _
            rw [List.append_nil, List.map_drop]
        rw [hzl]
        have e8 : Same H7 (upd H7 XL (.lst (zl.map V.str))) := same_upd hXL
        have h8 : upd H7 XL (.lst (zl.map V.str)) XL = some (.lst (zl.map V.str)) := upd_same
        have XLg := hL7.ng hXL
        generalize upd H7 XL (.lst (zl.map V.str)) = H8 at *
        have e68 := e7.trans e8
        have hL8 := hL6.same e68
        have RDg := hL5.ng hRD
        have RNL : RD ≠ NL := ne_of h6 hNL6 (by intro z; cases z)
        have RXL : RD ≠ XL := ne_of_none (e7 _ _ h6) hXL
        refine ⟨XL, rfl, ⟨_, SqL.of h8⟩, ?_⟩
        refine for_it walk_list (fun i σ H' => ∃ (kvs : List (Key × V)) (ρ : Str → Nat × Nat) (t' : Nat) (n5 : Option V), σ = [some (.ref a), some (.ref d), some z, some (.ref NL), some (.ref RD), n5, n6, n7, n8, n9, n10, n11, n12, n13] ∧ H' NL = some (.lst (xs.map V.str)) ∧ H' XL = some (.lst (zl.map V.str)) ∧ H' RD = some (.dK kvs) ∧ RestsD K H' kvs xs ρ ∧ (∀ x ∈ xs, (ρ x).1 < (ρ x).2 ∧ (ρ x).2 ≤ 2 ^ 67) ∧ t' ≤ t5 + i ∧ LSt K H' d g c tP t')
          ⟨kvs, ρ, t5, _, rfl, e68 _ _ hNL6, h8, e68 _ _ h6, hR6.same e68, hρ5, by omega, hL8⟩ (fun i σ H' _ ⟨_, _, _, _, _, _, h, _⟩ => SqL.of h) (fun i z2 σ H' H'' hi pv yy => ?_) fun σ H' pv => ?_
        · obtain ⟨rfl, hz2⟩ := yy
          obtain ⟨kvs, ρ, t6, m5, rfl, hN9, hX9, hD9, hR9, hρ9, ht9, hL9⟩ := pv
          have hiz : i < (zl.map V.str).length := hi
          rw [List.length_map] at hiz
          rw [List.getElem?_map] at hz2
          obtain ⟨x, hx, rfl⟩ := Option.map_eq_some_iff.mp hz2
          have hxx := hzm x (List.mem_of_getElem? hx)
          refine ⟨_, rfl, d, g, c, t6, 12, rfl, hL9.st, by omega, by omega, big_ok (by omega), fun j t10 H10 hj f10 ht10 hS10 => ?_⟩
          have hL10 := hL9.sf f10 hS10
          refine ⟨by show 2 ≤ sizeLine; decide, fun T11 hT11 => ?_⟩
          have e11 : Same H10 (upd H10 T11 (.tup [.int (j : Nat), .int 12])) := same_upd hT11
          have h11 : upd H10 T11 (.tup [.int (j : Nat), .int 12]) T11 = some (.tup [.int (j : Nat), .int 12]) := upd_same
          generalize upd H10 T11 (.tup [.int (j : Nat), .int 12]) = H11 at *
          have hL11 := hL10.same e11
          have f911 : Lf d g H'' H11 := (Lf.sf f10).trans (Lf.of e11)
          have hD11 := f911 _ _ RDg.2.1 RDg.1 (by intro ps z; cases z) hD9
          have hlen := hR9.len
          refine ⟨_, rfl, _, rfl, RD, _, rfl, DPut.k (k := Sum.inr x) hD11 (sz_lt (by omega)), ?_⟩
          have tkU : Tk H'' (upd H11 RD (.dK (putK kvs (Sum.inr x) (.ref T11)))) := (hL9.tk f911).trans (Tk.dK hD11)
          refine ⟨_, fun y => if y = x then (j, 12) else ρ y, t10, _, rfl, ?_, ?_, upd_same, RestsD.put (hR9.tk tkU) hxx ⟨T11, rfl, SqT.of ((upd_ne (ne_of h11 hD11 (by intro z; cases z))).trans h11)⟩, fun y hy => ?_, by omega, hL11.mutD hD11 RDg⟩
          · exact (upd_ne RNL.symm).trans (f911 _ _ NLg.2.1 NLg.1 (by intro ps z; cases z) hN9)
          · exact (upd_ne RXL.symm).trans (f911 _ _ XLg.2.1 XLg.1 (by intro ps z; cases z) hX9)
          · show (if y = x then (j, 12) else ρ y).1 < (if y = x then (j, 12) else ρ y).2 ∧ (if y = x then (j, 12) else ρ y).2 ≤ 2 ^ 67
            by_cases c0 : y = x
            · rw [if_pos c0]
              exact ⟨hj, (by decide : 12 ≤ 2 ^ 67)⟩
            · rw [if_neg c0]
              exact hρ9 y hy
        · obtain ⟨kvs, ρ, t6, m5, rfl, hN9, hX9, hD9, hR9, hρ9, ht9, hL9⟩ := pv
          have ht9' : t6 ≤ t5 + 4 := by
            rw [List.length_map] at ht9
            omega
          have hok : NamesOk xs := ⟨by omega, by omega, hxo, hxn⟩
          refine ⟨_, rfl, _, rfl, NL, RD, xs, ρ, kvs, rfl, SqL.of hN9, hok, hD9, hR9, fun x hx => (hρ9 x hx).1, fun kn H10 e10 hkn0 hK10 => ?_⟩
          have hL10 := hL9.same e10
          refine ⟨_, rfl, _, rfl, d, g, c, NL, t6, xs, rfl, hL10.st, by omega, SqL.of (e10 _ _ hN9), by omega, fun x hx => (hxo x hx).tok, fun LL t11 line H11 hLL0 hLL hperm f11 ht11 hS11 => ?_⟩
          have hL11 := hL10.sf f11 hS11
          have LLg := hL10.ng hLL0
          have so : SeatsOk line xs := ⟨hperm.nodup_iff.mpr hxn, fun x => hperm.mem_iff, hok.few, hok.most, hxn⟩
          have hlx : line.length = xs.length := hperm.length_eq
          refine ⟨_, _, rfl, ?_⟩
          refine ⟨_, rfl, _, rfl, d, g, c, t11, .ref LL, rfl, hS11, by omega, .inl ⟨LL, _, rfl, LLg.1, SqL.of hLL, by rw [List.length_map]; omega, by rw [List.length_map]; omega, fun i3 t12 v H12 hv f12 ht12 hS12 => ?_⟩⟩
          obtain ⟨b, hbi, rfl⟩ := str_at hv
          have hb : b ∈ line := List.mem_of_getElem? hbi
          have hL12 := hL11.sf f12 hS12
          intro oD hoD pD hpD
          refine ⟨_, _, _, rfl, ?_⟩
          have e13 : Same H12 (upd H12 oD (.dT [])) := same_upd hoD
          have h13 : upd H12 oD (.dT []) oD = some (.dT []) := upd_same
          have npD : H12 pD = none := e13.free hpD
          have nOP : oD ≠ pD := ne_of_none h13 hpD
          generalize upd H12 oD (.dT []) = H13 at *
          have e14 : Same H13 (upd H13 pD (PO P w pD [])) := same_upd hpD
          have h14 : upd H13 pD (PO P w pD []) pD = some (PO P w pD []) := upd_same
          obtain ⟨W, hW, hdv, hW0, hW12⟩ := divs_of (n := line.length) (by omega) (by omega)
          have f1012 : Lf d g H10 H12 := (Lf.sf f11).trans (Lf.sf f12)
          have hD12 := f1012 _ _ RDg.2.1 RDg.1 (by intro ps z; cases z) (e10 _ _ hD9)
          have hR12 : RestsD K H12 kvs xs ρ := (hR9.same e10).tk (hL10.tk f1012)
          have hLL12 := f12 _ _ LLg.2.1 LLg.1 hLL
          have hK12 := hL10.known f1012 hK10
          have hll : (line.map V.str).length = line.length := List.length_map ..
          have e1214 := e13.trans e14
          refine ⟨_, rfl, _, rfl, by show 3 ≤ sizeLine; decide, fun WL hWL => ?_⟩
          have e15 := same_upd (o := .lst [.int 2, .int 6, .int 12]) hWL
          refine ⟨_, rfl, LL, _, rfl, .inl (SqL.of (e15 _ _ (e1214 _ _ hLL12))), ?_⟩
          rw [hll]
          refine ⟨_, _, rfl, rfl, WL, _, ((line.length : Nat) - 2 : Int), .int (W : Nat), rfl, rfl, SqL.of upd_same, ?_, ?_⟩
          · rw [show ((line.length : Nat) - 2 : Int) = ((line.length - 2 : Nat) : Int) by omega]
            refine atI_nat ?_
            have : ([2, 6, 12].map fun n : Nat => V.int (n : Nat))[line.length - 2]? = some (.int (W : Nat)) := by rw [List.getElem?_map, hW]; rfl
            exact this
          refine ⟨LL, RD, W, line, xs, ρ, kvs, rfl, SqL.of (e15 _ _ (e1214 _ _ hLL12)), e15 _ _ (e1214 _ _ hD12), hR12.same (e1214.trans e15), fun x hx => (so.mem x).mp hx, so.nd, by omega, hW0, hW12, fun AL us H15 e16 hAL0 hAL hDL => ?_⟩
          have e1216 : Same H12 H15 := (e1214.trans e15).trans e16
          have hO15 : H15 oD = some (.dT []) := e16 _ _ (e15 _ _ (e14 _ _ h13))
          have hP15 : H15 pD = some (PO P w pD []) := e16 _ _ (e15 _ _ h14)
          have hL15 := hL12.same e1216
          have hal : us.length ≤ 20736 := by
            rw [hDL.len]
            refine Nat.le_trans (G.allP_len line.length line rfl) (Nat.le_trans (Nat.pow_le_pow_left hW12 _) (Nat.le_trans (Nat.pow_le_pow_right (by decide) (by omega : line.length ≤ 4)) (by decide)))
          refine ⟨AL, rfl, ⟨_, SqL.of hAL⟩, ?_⟩
          refine for_it walk_list (fun i σ H' => ∃ (oks : List (List Key × V)) (TS : List (List Str)) (PS : List (PK × Addr)) (m11 m12 m13 : Option V), σ = [some (.ref a), some (.ref d), some z, some (.ref NL), some (.ref RD), m5, some (.ref kn), some (.ref LL), some (.str b), some (.ref oD), some (.ref pD), m11, m12, m13] ∧ Sf oD pD H15 H' ∧ H' oD = some (.dT oks) ∧ oks.map (·.1) = TS.map (fun t => (b :: t).map Sum.inr) ∧ TS.Nodup ∧
              (∀ t, t ∈ TS ↔ ∃ vs ∈ (G.allP ρ W line).take i, G.go (G.slipOf line vs) line (line.length - 1) [b] b = t) ∧ H' pD = some (PO P w pD PS) ∧ KeysAt H' PS ∧ (∀ k, k ∈ PS.map (·.1) ↔ ∃ vs ∈ (G.allP ρ W line).take i, G.pairOf (G.slipOf line vs) line b = k) ∧ TS.length ≤ i ∧ PS.length ≤ i)
            ⟨[], [], [], _, _, _, rfl, Sf.refl, hO15, rfl, List.nodup_nil, fun t => by simp, hP15, ⟨by simp, by simp⟩, fun k => by simp, Nat.le_refl _, Nat.le_refl _⟩ (fun i σ H' _ ⟨_, _, _, _, _, _, _, f, _⟩ => SqL.of (f _ _ (ne_of hAL hO15 (by intro z; cases z)) (ne_of hAL hP15 (by intro z; unfold PO at z; cases z)) hAL)) (fun i z3 σ H' H'' hi pv yy => ?_) fun σ H' pv => ?_
          · obtain ⟨rfl, hz3⟩ := yy
            obtain ⟨oks, TS, PS, m11, m12, m13, rfl, f17, hO17, hok17, hTn, hTm, hP17, ks17, hPm, hTl, hPl⟩ := pv
            have hi' : i < (G.allP ρ W line).length := by rw [← hDL.len]; exact hi
            have hvi : (G.allP ρ W line)[i]? = some (G.allP ρ W line)[i] := List.getElem?_eq_getElem hi'
            have hvl : (G.allP ρ W line)[i].length = line.length := G.allP_mem_len _ _ rfl _ (List.getElem_mem hi')
            obtain ⟨dj, rfl, hdj⟩ := hDL.at_ i _ _ hz3 hvi
            have htk := take_snoc hvi
            generalize (G.allP ρ W line)[i] = vs at *
            have nO : ∀ {q : Addr} {o : HO}, H15 q = some o → (∀ l, o ≠ .dT l) → q ≠ oD := fun h n e => by
              rw [e, hO15] at h
              exact n _ (Option.some.inj h).symm
            have nP : ∀ {q : Addr} {o : HO}, H15 q = some o → (∀ φ, o ≠ .ext φ) → q ≠ pD := fun h n e => by
              rw [e, hP15] at h
              exact n _ (Option.some.inj h).symm
            have hLL15 := e1216 _ _ hLL12
            have hdj17 : H'' dj = some (.dK (zipKV line vs)) := f17 _ _ (nO hdj (by intro l z; cases z)) (nP hdj (by intro l z; cases z)) hdj
            have hLL17 := f17 _ _ (nO hLL15 (by intro l z; cases z)) (nP hLL15 (by intro l z; cases z)) hLL15
            refine ⟨_, rfl, _, rfl, _, rfl, LL, dj, line, b, _, G.slipOf line vs, rfl, SqL.of hLL17, hdj17, slips_at so.nd hvl, so.nd, by omega, hb, fun p u t18 H18 e18 ht18 hu18 hp18 => ?_⟩
            refine ⟨p, _, rfl, SqT.of hp18, rfl, _, _, rfl, _, _, rfl, rfl, ?_⟩
            have hkk : H18 u = some (.tup (((b :: t18).map Sum.inr : List Key).map kV)) := by
              rw [hu18, List.map_map]
              rfl
            have hol : oks.length = TS.length := by
              have := congrArg List.length hok17
              rwa [List.length_map, List.length_map] at this
            refine ⟨_, rfl, _, rfl, oD, _, rfl, DPut.t (k := (b :: t18).map Sum.inr) (e18 _ _ hO17) hkk (sz_lt (by omega)), ?_⟩
            have hO18 := e18 _ _ hO17
            have f19 : Sf oD pD H15 (upd H18 oD (.dT (putK oks ((b :: t18).map Sum.inr) (.bl true)))) := (f17.trans (Sf.of e18)).mutd
            have h19 : upd H18 oD (.dT (putK oks ((b :: t18).map Sum.inr) (.bl true))) oD = some (.dT (putK oks ((b :: t18).map Sum.inr) (.bl true))) := upd_same
            have hu19 : upd H18 oD (.dT (putK oks ((b :: t18).map Sum.inr) (.bl true))) u = some (.tup ((b :: t18).map V.str)) := (upd_ne (ne_of hu18 hO18 (by intro z; cases z))).trans hu18
            have hP19 : upd H18 oD (.dT (putK oks ((b :: t18).map Sum.inr) (.bl true))) pD = some (PO P w pD PS) := (upd_ne nOP.symm).trans (e18 _ _ hP17)
            have ks19 : KeysAt (upd H18 oD (.dT (putK oks ((b :: t18).map Sum.inr) (.bl true)))) PS := ks17.tk fun q ys h => (upd_ne (ne_of (e18 _ _ h) hO18 (by intro z; cases z))).trans (e18 _ _ h)
            generalize upd H18 oD (.dT (putK oks ((b :: t18).map Sum.inr) (.bl true))) = H19 at *
            have hdj19 : H19 dj = some (.dK (zipKV line vs)) := f19 _ _ (nO hdj (by intro l z; cases z)) (nP hdj (by intro l z; cases z)) hdj
            have hLL19 := f19 _ _ (nO hLL15 (by intro l z; cases z)) (nP hLL15 (by intro l z; cases z)) hLL15
            have hla : G.endOf b t18 ∈ line := by
              rw [ht18]
              exact (G.go_full (s := G.slipOf line vs) so.nd hb).2.1 _ (List.getLast_mem _)
            have hcl : nextOf line (G.slipOf line vs) (G.endOf b t18) ∈ line := G.nextAt_mem (s := G.slipOf line vs) hla
            refine ⟨_, rfl, _, rfl, _, rfl, _, rfl, _, rfl, LL, dj, line, _, _, G.slipOf line vs, rfl, SqL.of hLL19, hdj19, slips_at so.nd hvl, so.nd, by omega, hcl, fun p2 u2 t20 H20 e20 ht20 hu20 hp20 => ?_⟩
            refine ⟨p2, _, 0, _, rfl, rfl, SqT.of hp20, atI_nat (j := 0) rfl, by show 2 ≤ sizeLine; decide, fun T21 hT21 => ?_⟩
            have e21 : Same H20 (upd H20 T21 (.tup [.ref u, .ref u2])) := same_upd hT21
            have h21 : upd H20 T21 (.tup [.ref u, .ref u2]) T21 = some (.tup [.ref u, .ref u2]) := upd_same
            generalize upd H20 T21 (.tup [.ref u, .ref u2]) = H21 at *
            have e1921 := e20.trans e21
            have hP21 := e1921 _ _ hP19
            have ks21 : KeysAt H21 PS := ks19.tk fun q ys h => e1921 _ _ h
            have hk21 : KeyAt H21 (b :: t18, nextOf line (G.slipOf line vs) (G.endOf b t18) :: t20) T21 := ⟨u, u2, h21, e1921 _ _ hu19, e21 _ _ hu20⟩
            have hpr : G.pairOf (G.slipOf line vs) line b = (b :: t18, nextOf line (G.slipOf line vs) (G.endOf b t18) :: t20) := by
              rw [ht20, ht18]
              rfl
            refine ⟨pD, PS, _, T21, rfl, rfl, rfl, hP21, ks21, hk21, by omega, ?_⟩
            have tkP : ∀ q ys, H21 q = some (.tup ys) → upd H21 pD (PO P w pD (putN PS (b :: t18, nextOf line (G.slipOf line vs) (G.endOf b t18) :: t20) T21)) q = some (.tup ys) := fun q ys h => (upd_ne (ne_of h hP21 (by intro z; unfold PO at z; cases z))).trans h
            refine ⟨_, if t18 ∈ TS then TS else TS ++ [t18], _, _, _, _, rfl, (f19.trans (Sf.of e1921)).mutg, (upd_ne nOP).trans (e1921 _ _ h19), putK_keysT hok17, nd_ins hTn, fun t => ?_, upd_same, (ks21.put hk21).tk tkP, fun k => ?_, Nat.le_trans len_ins (by omega), Nat.le_trans putN_len (by omega)⟩
            · rw [mem_ins, ex_snoc htk, ← hTm t, ← ht18]
              exact or_congr_right eq_comm
            · rw [putN_mem, ex_snoc htk, ← hPm k, hpr]
              exact or_congr_right eq_comm
          · obtain ⟨oks, TS, PS, m11, m12, m13, rfl, f17, hO17, hok17, hTn, hTm, hP17, ks17, hPm, hTl, hPl⟩ := pv
            rw [List.take_of_length_le (Nat.le_of_eq hDL.len.symm)] at hTm hPm
            have e17 : Same H12 H' := fun q o h => f17 q o (ne_of_none h hoD) (ne_of_none h npD) (e1216 q o h)
            have hρl : tinyR ρ line := fun x hx => ⟨(hρ9 x ((so.mem x).mp hx)).1, Nat.le_trans (hρ9 x ((so.mem x).mp hx)).2 (Nat.pow_le_pow_right (by decide) (by decide))⟩
            have hwf : G.WF ρ line := fun x hx => (hρl x hx).1
            refine ⟨_, rfl, _, rfl, _, rfl, _, rfl, oD, oks, rfl, .inl hO17, fun Lo bs hLo hbs => ?_⟩
            have e18 : Same H' (upd H' Lo (.lst (bs.map V.ref))) := same_upd hLo
            have h18 : upd H' Lo (.lst (bs.map V.ref)) Lo = some (.lst (bs.map V.ref)) := upd_same
            have hT18 : TupL K (upd H' Lo (.lst (bs.map V.ref))) (bs.map V.ref) (TS.map (b :: ·)) := (tupL_keys hbs hok17).tk (Tk.of e18)
            generalize upd H' Lo (.lst (bs.map V.ref)) = H18 at *
            have e1218 := e17.trans e18
            refine ⟨kn, LL, Lo, b, xs, line, ρ, _, TS, rfl, hK12.same e1218, SqL.of (e1218 _ _ hLL12), so, hok, hb, hρl.small, by omega, SqL.of h18, hT18, hTn, fun t => (hTm t).trans (orders_are so.nd hb hwf hW0 hdv t), fun H19 e19 => ?_⟩
            refine ⟨true, rfl, ?_⟩
            refine iteF ?_
            have e1219 := e1218.trans e19
            have e1719 := e18.trans e19
            refine ⟨_, rfl, _, rfl, _, rfl, _, rfl, _, rfl, d, g, c, kn, LL, pD, t12, b, xs, line, ρ, PS, rfl, hL12.same e1219, by omega, hK12.same e1219, SqL.of (e1219 _ _ hLL12), LLg.1, so, hok, hb, hρl, by omega, e1719 _ _ hP17, ks17.tk fun q ys h => e1719 _ _ h, by omega, fun k => (hPm k).trans (pairs_are so.nd hb hwf hW0 hdv k), fun t20 H20 f20 ht20 hL20 => ?_⟩
            refine ⟨true, rfl, ?_⟩
            refine iteF ?_
            exact ⟨t20, _, _, _, _, _, _, _, _, _, _, _, _, rfl, by omega, hL20⟩
    · exact q H'
end
end GK
set_option Elab.async false
set_option linter.all false
set_option maxRecDepth 100000
set_option maxHeartbeats 0
/-! what the top leaves -/
namespace GK
open PySem PySem.Spec PyProof.Rows L2
def dD (x : Str) (st : Stmt) : He.DefD := ⟨(x, none), x, x, defArgs st, defBody st, defScope st, [], []⟩
def dM (C m qual : Str) (st : Stmt) : He.DefD := ⟨(C, some m), m, qual, defArgs st, defBody st, defScope st, [], []⟩
def hFn : List He.DefD := [dD "is_number" s_is_number, dD "is_name" s_is_name, dD "is_rest" s_is_rest, dD "require_rest" s_require_rest, dD "greatest_divisor" s_greatest_divisor, dD "inverse_modulo" s_inverse_modulo, dD "both" s_both, dD "by" s_by, dD "least" s_least, dD "are_names" s_are_names, dD "need_names" s_need_names, dM "Known" "__init__" "Known.__init__" s_Known_init, dM "Known" "take_over" "Known.take_over" s_Known_take_over, dM "Known" "names" "Known.names" s_Known_names, dM "Known" "rests" "Known.rests" s_Known_rests, dM "Known" "rest" "Known.rest" s_Known_rest, dD "of_rests" s_of_rests, dD "need_seats" s_need_seats, dD "need_begin" s_need_begin, dM "Ways" "__init__" "Ways.__init__" s_Ways_init, dM "Ways" "seat_of" "Ways.seat_of" s_Ways_seat_of, dM "Ways" "sitters" "Ways.sitters" s_Ways_sitters, dM "Ways" "nexts" "Ways.nexts" s_Ways_nexts, dM "Ways" "many" "Ways.many" s_Ways_many, dM "Ways" "led" "Ways.led" s_Ways_led, dD "next_ones" s_next_ones, dD "how_many" s_how_many, dD "order_may" s_order_may, dD "need_may" s_need_may, dD "number_may" s_number_may, dD "places_of" s_places_of, dD "narrowed" s_narrowed, dD "slips_for" s_slips_for, dD "sure" s_sure, dD "need_order" s_need_order, dD "begin_of" s_begin_of, dD "rests_for_two" s_rests_for_two, dD "two_may" s_two_may, dD "slips_for_two" s_slips_for_two, dD "many_behind" s_many_behind, dD "how_many_two" s_how_many_two, dD "_law_begun" s__law_begun, dD "_law_mixed" s__law_mixed, dD "_law_take" s__law_take, dD "_law_pick" s__law_pick, dD "_law_order" s__law_order, dD "_law_words" s__law_words, dD "_law_common" s__law_common, dD "_law_a_rest" s__law_a_rest, dD "_law_sitting" s__law_sitting, dD "_law_goes" s__law_goes, dD "_law_all_slips" s__law_all_slips, dD "_law_figures" s__law_figures, dD "_law_one_right" s__law_one_right, dD "_law_is_refused" s__law_is_refused, dD "_law_two_right" s__law_two_right, dD "law" s_law]
def hFa : List He.Fa := [.glo "is_number", .glo "is_name", .glo "is_rest", .glo "require_rest", .glo "greatest_divisor", .glo "inverse_modulo", .glo "both", .glo "by", .glo "least", .glo "are_names", .glo "need_names", .glo "of_rests", .glo "need_seats", .glo "need_begin", .glo "next_ones", .glo "how_many", .glo "order_may", .glo "need_may", .glo "number_may", .glo "places_of", .glo "narrowed", .glo "slips_for", .glo "sure", .glo "need_order", .glo "begin_of", .glo "rests_for_two", .glo "two_may", .glo "slips_for_two", .glo "many_behind", .glo "how_many_two", .glo "_law_begun", .glo "_law_mixed", .glo "_law_take", .glo "_law_pick", .glo "_law_order", .glo "_law_words", .glo "_law_common", .glo "_law_a_rest", .glo "_law_sitting", .glo "_law_goes", .glo "_law_all_slips", .glo "_law_figures", .glo "_law_one_right", .glo "_law_is_refused", .glo "_law_two_right", .glo "law", .glo "Known", .glo "Ways", .glo "NoOrder", .glo "GoerError", .glo "NOTHING", .glo "least_rests", .free "isinstance", .free "int", .free "bool", .free "str", .free "tuple", .free "list", .free "dict", .free "set", .free "len", .free "all", .free "range", .free "sum", .free "zip", .free "enumerate", .free "sorted", .free "min", .int "MOST_LETTERS" 8, .int "MOST_BY" 1000, .int "FEWEST" 2, .int "MOST" 12, .int "MOST_NAMES" 6, .str "LETTERS" "abcdefghijklmnopqrstuvwxyz", .cls "Known", .cls "Ways", .noat "Known" "own_names", .noat "Known" "own_rests", .noat "Known" "own_sights", .noat "Ways" "w_seats", .noat "Ways" "w_rests", .noat "Ways" "w_all", .noat "Ways" "w_many", .meth "Known" "take_over", .meth "Known" "names", .meth "Known" "rests", .meth "Known" "rest", .meth "Ways" "seat_of", .meth "Ways" "sitters", .meth "Ways" "nexts", .meth "Ways" "many", .meth "Ways" "led", .mkr "Known", .mkr "Ways", .exc "NoOrder", .exm "NoOrder" "GoerError" true]
def hLoose : List Str := (["_wall", "__name__", "GoerError", "NoRest", "NoNumber", "NoRing", "NoOrder", "NoName", "TooMany", "LETTERS", "MOST_LETTERS", "MOST_BY", "is_number", "is_name", "is_rest", "require_rest", "greatest_divisor", "inverse_modulo", "both", "by", "least", "least_rests", "FEWEST", "MOST", "are_names", "need_names", "NOTHING", "Known", "of_rests", "need_seats"] : List Str) ++ (["need_begin", "Ways", "next_ones", "how_many", "order_may", "need_may", "number_may", "places_of", "narrowed", "slips_for", "sure", "MOST_NAMES", "need_order", "begin_of", "rests_for_two", "two_may", "slips_for_two", "many_behind", "how_many_two", "_law_begun", "_law_mixed", "_law_take", "_law_pick", "_law_order", "_law_words", "_law_common", "_law_a_rest", "_law_sitting", "_law_goes", "_law_all_slips"] : List Str) ++ (["_law_figures", "_law_one_right", "_law_is_refused", "_law_two_right"] : List Str)
def exNO (K : PySem.W.Frag) : Bool := decide (He.ga K "least_rests" = He.ga K "least") && (He.eqO (PySem.W.findIn K (.ref (He.ga K "NoOrder")) "__getattribute__") (some (some (.builtin "BaseException.__getattribute__"))) && (He.eqO (PySem.W.findIn K (.ref (He.ga K "NoOrder")) "__getattr__") (some none) && (PySem.W.hasDictIn K (He.ga K "NoOrder") && (He.eqO (PySem.W.findIn K (.ref (He.ga K "NoOrder")) "__class__") (some (some (.builtin "object.__class__"))) && (He.eqO (PySem.W.specialIn K (.builtin "object.__class__") "__get__") (some (some (.builtin "getset_descriptor.__get__"))) && (decide (PySem.W.takesIn K (.builtin "object.__class__") = some true) && decide (PySem.W.mroIn K (He.ga K "NoOrder") (.type "object") = some true)))))))
def hTf : List He.Defn := [("_law_two_right", none)]
abbrev hR : PySem.W.OpenRow := PySem.W.OpenLaw.row PySem.Challenge.rw_goersay_k27_whole_what_some_slips_bring
abbrev hHk : PySem.W.Hook := He.hookX 5 hFa hFn [] hTf exNO
def hOb (s : PySem.W.SharedT) : He.AlX := He.obsX 5 hFa hFn [] hTf exNO (HandSHeadRun.getT s)
theorem hOb_eq (s : PySem.W.SharedT) : hOb s = hHk.obs s.abs := He.obsX_eq (HandSHeadRun.getT_eq s)
theorem hRun (w : World) : HandSHeadRun.RunEq hR (PySem.W.view hR.prog [70]) hHk hOb 20000 hLoose w := by
  intro os
  kernel_rfl
end GK
set_option Elab.async false
set_option linter.all false
set_option maxRecDepth 100000
set_option maxHeartbeats 4000000
/-! each def keeps its promise, from what the top leaves -/
namespace GK
open PySem PySem.Spec PyProof.Rows L2
section
variable {K : PySem.W.Frag} {mg : Str → Option Value} {h : Heap}
theorem hDef (c : He.SaysD hFa hFn K) (X : K.In h) (G : h.Ns mainGlobals mg) {x : Str} {st : Stmt} (i j : Nat) (h1 : hFn[i]? = some (dD x st)) (h2 : hFa[j]? = some (.glo x)) : DefAt K mg x st := by
  obtain ⟨fd, F⟩ := c.def_ i h1
  exact ⟨⟨_, fd, F, He.glo_ok X G (c.fact j h2)⟩⟩
theorem hMet (c : He.SaysD hFa hFn K) {C m qual : Str} {st : Stmt} (i j : Nat) (h1 : hFn[i]? = some (dM C m qual st)) (h2 : hFa[j]? = some (.meth C m)) : MetAt K (He.ga K C) m qual st := by
  obtain ⟨fd, F⟩ := c.def_ i h1
  exact ⟨⟨_, fd, F, He.meth_ok (c.fact j h2)⟩⟩
theorem hInit (c : He.SaysD hFa hFn K) (X : K.In h) (G : h.Ns mainGlobals mg) {C qual : Str} {st : Stmt} (i j l : Nat) (h1 : hFn[i]? = some (dM C "__init__" qual st)) (h2 : hFa[j]? = some (.mkr C)) (h3 : hFa[l]? = some (.glo C)) : InitAt K mg (He.ga K C) C qual st := by
  obtain ⟨fd, F⟩ := c.def_ i h1
  exact ⟨⟨_, fd, F, He.mkr_ok (c.fact j h2), He.glo_ok X G (c.fact l h3)⟩⟩
theorem hDefC (c : He.SaysD hFa hFn K) (X : K.In h) (G : h.Ns mainGlobals mg) {x : Str} {st : Stmt} (i j : Nat) (h1 : hFn[i]? = some (dD x st)) (h2 : hFa[j]? = some (.glo x)) : DefAtC K mg x st (He.cT K (x, none)).1 := by
  obtain ⟨fd, F⟩ := c.def_ i h1
  obtain ⟨oc, od, dV, kV, doc, pm, an, cdv, ct, osl, e, lk, hcd, hD, hK⟩ := F.ex
  obtain ⟨cc, rfl⟩ := He.codeIn_ref hcd
  have e2 : (He.cT K (x, none)).1 = cc := He.codeOf_eq lk (by rw [e])
  rw [e2]
  subst e
  rcases hD with ⟨_, rfl⟩ | ⟨hne, _⟩
  · exact ⟨⟨_, oc, od, kV, doc, pm, an, ct, osl, lk, hcd, F.kp, He.glo_ok X G (c.fact j h2)⟩⟩
  · exact absurd rfl hne
theorem hInt (c : He.SaysD hFa hFn K) (X : K.In h) (G : h.Ns mainGlobals mg) {x : Str} {n : Int} (j : Nat) (h2 : hFa[j]? = some (.int x n)) : ∃ u, mg x = some u ∧ RelV (.int n) u := by
  obtain ⟨t, e⟩ := He.int_ok X G (c.fact j h2)
  exact ⟨_, e, t, rfl⟩
theorem hTxt (c : He.SaysD hFa hFn K) (X : K.In h) (G : h.Ns mainGlobals mg) (x : exNO K = true) : Txt K mg (He.ga K "Known") (He.ga K "Ways") where
  b_isinstance := He.free_ok X G (c.fact 52 (by rfl))
  b_int := He.free_ok X G (c.fact 53 (by rfl))
  b_bool := He.free_ok X G (c.fact 54 (by rfl))
  b_str := He.free_ok X G (c.fact 55 (by rfl))
  b_tuple := He.free_ok X G (c.fact 56 (by rfl))
  b_list := He.free_ok X G (c.fact 57 (by rfl))
  b_dict := He.free_ok X G (c.fact 58 (by rfl))
  b_set := He.free_ok X G (c.fact 59 (by rfl))
  b_len := He.free_ok X G (c.fact 60 (by rfl))
  b_all := He.free_ok X G (c.fact 61 (by rfl))
  b_range := He.free_ok X G (c.fact 62 (by rfl))
  b_sum := He.free_ok X G (c.fact 63 (by rfl))
  b_zip := He.free_ok X G (c.fact 64 (by rfl))
  b_enumerate := He.free_ok X G (c.fact 65 (by rfl))
  b_sorted := He.free_ok X G (c.fact 66 (by rfl))
  b_min := He.free_ok X G (c.fact 67 (by rfl))
  g_LETTERS := by obtain ⟨t, e⟩ := He.str_ok X G (c.fact 73 (by rfl)); exact ⟨_, e, t, rfl⟩
  g_MOST_LETTERS := hInt c X G 68 (by rfl)
  g_MOST_BY := hInt c X G 69 (by rfl)
  g_FEWEST := hInt c X G 70 (by rfl)
  g_MOST := hInt c X G 71 (by rfl)
  g_MOST_NAMES := hInt c X G 72 (by rfl)
  g_NOTHING := ⟨_, He.glo_ok X G (c.fact 50 (by rfl))⟩
  al := by rw [He.glo_ok X G (c.fact 51 (by rfl)), He.glo_ok X G (c.fact 8 (by rfl)), of_decide_eq_true (He.ba x).1]
  cK := He.cls_ok (c.fact 74 (by rfl))
  cW := He.cls_ok (c.fact 75 (by rfl))
  n_own_names := He.noat_ok (c.fact 76 (by rfl))
  n_own_rests := He.noat_ok (c.fact 77 (by rfl))
  n_own_sights := He.noat_ok (c.fact 78 (by rfl))
  n_w_seats := He.noat_ok (c.fact 79 (by rfl))
  n_w_rests := He.noat_ok (c.fact 80 (by rfl))
  n_w_all := He.noat_ok (c.fact 81 (by rfl))
  n_w_many := He.noat_ok (c.fact 82 (by rfl))
theorem hExc (c : He.SaysD hFa hFn K) (X : K.In h) (G : h.Ns mainGlobals mg) (x : exNO K = true) : ExcF K mg (He.ga K "NoOrder") (He.ga K "GoerError") := by
  obtain ⟨x1, x2, x3, x4⟩ := He.exc_ok (c.fact 94 (by rfl))
  obtain ⟨_, y⟩ := He.ba x
  obtain ⟨y1, y⟩ := He.ba y
  obtain ⟨y2, y⟩ := He.ba y
  obtain ⟨y3, y⟩ := He.ba y
  obtain ⟨y4, y⟩ := He.ba y
  obtain ⟨y5, y⟩ := He.ba y
  obtain ⟨y6, y7⟩ := He.ba y
  exact ⟨He.glo_ok X G (c.fact 48 (by rfl)), He.glo_ok X G (c.fact 49 (by rfl)), x1, x2, x3, x4, ⟨He.eqO_ok y1, He.eqO_ok y2, x3, y3, He.eqO_ok y4, He.eqO_ok y5, of_decide_eq_true y6, of_decide_eq_true y7⟩, He.exm_ok (c.fact 95 (by rfl))⟩
end
abbrev hC (K : PySem.W.Frag) : Addr × Addr := He.cT K ("_law_two_right", none)
theorem hLaw {P : Program} {w : World} {K : PySem.W.Frag} {mg : Str → Option Value} {h base : Heap} {fd : FuncData} (X : K.In h) (G : h.Ns mainGlobals mg) (c : He.SaysD hFa hFn K) (x : exNO K = true) (TB : LamX.TabB base mg (hC K).1 (hC K).2)
    (D_law : FunD K "law" "law" (defArgs s_law) (defBody s_law) (defScope s_law) [] [] (He.ga K "law") fd) : FnOk P w K mg base C8.CX0 22 (He.ga K "law") fd ["_law_script"] (spLaw K (hC K).2) := by
  have T := hTxt c X G x
  have XF := hExc c X G x
  have D_is_number : DefAt K mg "is_number" s_is_number := hDef c X G 0 0 (by rfl) (by rfl)
  have D_is_name : DefAt K mg "is_name" s_is_name := hDef c X G 1 1 (by rfl) (by rfl)
  have D_is_rest : DefAt K mg "is_rest" s_is_rest := hDef c X G 2 2 (by rfl) (by rfl)
  have D_require_rest : DefAt K mg "require_rest" s_require_rest := hDef c X G 3 3 (by rfl) (by rfl)
  have D_greatest_divisor : DefAt K mg "greatest_divisor" s_greatest_divisor := hDef c X G 4 4 (by rfl) (by rfl)
  have D_inverse_modulo : DefAt K mg "inverse_modulo" s_inverse_modulo := hDef c X G 5 5 (by rfl) (by rfl)
  have D_both : DefAt K mg "both" s_both := hDef c X G 6 6 (by rfl) (by rfl)
  have D_by : DefAt K mg "by" s_by := hDef c X G 7 7 (by rfl) (by rfl)
  have D_least : DefAt K mg "least" s_least := hDef c X G 8 8 (by rfl) (by rfl)
  have D_are_names : DefAt K mg "are_names" s_are_names := hDef c X G 9 9 (by rfl) (by rfl)
  have D_need_names : DefAt K mg "need_names" s_need_names := hDef c X G 10 10 (by rfl) (by rfl)
  have D_Known_init : InitAt K mg _ "Known" "Known.__init__" s_Known_init := hInit c X G 11 92 46 (by rfl) (by rfl) (by rfl)
  have D_Known_take_over : MetAt K _ "take_over" "Known.take_over" s_Known_take_over := hMet (C := "Known") c 12 83 (by rfl) (by rfl)
  have D_Known_names : MetAt K _ "names" "Known.names" s_Known_names := hMet (C := "Known") c 13 84 (by rfl) (by rfl)
  have D_Known_rests : MetAt K _ "rests" "Known.rests" s_Known_rests := hMet (C := "Known") c 14 85 (by rfl) (by rfl)
  have D_Known_rest : MetAt K _ "rest" "Known.rest" s_Known_rest := hMet (C := "Known") c 15 86 (by rfl) (by rfl)
  have D_of_rests : DefAt K mg "of_rests" s_of_rests := hDef c X G 16 11 (by rfl) (by rfl)
  have D_need_seats : DefAt K mg "need_seats" s_need_seats := hDef c X G 17 12 (by rfl) (by rfl)
  have D_need_begin : DefAt K mg "need_begin" s_need_begin := hDef c X G 18 13 (by rfl) (by rfl)
  have D_Ways_init : InitAt K mg _ "Ways" "Ways.__init__" s_Ways_init := hInit c X G 19 93 47 (by rfl) (by rfl) (by rfl)
  have D_Ways_seat_of : MetAt K _ "seat_of" "Ways.seat_of" s_Ways_seat_of := hMet (C := "Ways") c 20 87 (by rfl) (by rfl)
  have D_Ways_sitters : MetAt K _ "sitters" "Ways.sitters" s_Ways_sitters := hMet (C := "Ways") c 21 88 (by rfl) (by rfl)
  have D_Ways_nexts : MetAt K _ "nexts" "Ways.nexts" s_Ways_nexts := hMet (C := "Ways") c 22 89 (by rfl) (by rfl)
  have D_Ways_many : MetAt K _ "many" "Ways.many" s_Ways_many := hMet (C := "Ways") c 23 90 (by rfl) (by rfl)
  have D_Ways_led : MetAt K _ "led" "Ways.led" s_Ways_led := hMet (C := "Ways") c 24 91 (by rfl) (by rfl)
  have D_next_ones : DefAt K mg "next_ones" s_next_ones := hDef c X G 25 14 (by rfl) (by rfl)
  have D_how_many : DefAt K mg "how_many" s_how_many := hDef c X G 26 15 (by rfl) (by rfl)
  have D_order_may : DefAt K mg "order_may" s_order_may := hDef c X G 27 16 (by rfl) (by rfl)
  have D_need_may : DefAt K mg "need_may" s_need_may := hDef c X G 28 17 (by rfl) (by rfl)
  have D_number_may : DefAt K mg "number_may" s_number_may := hDef c X G 29 18 (by rfl) (by rfl)
  have D_places_of : DefAt K mg "places_of" s_places_of := hDef c X G 30 19 (by rfl) (by rfl)
  have D_narrowed : DefAt K mg "narrowed" s_narrowed := hDef c X G 31 20 (by rfl) (by rfl)
  have D_slips_for : DefAt K mg "slips_for" s_slips_for := hDef c X G 32 21 (by rfl) (by rfl)
  have D_sure : DefAt K mg "sure" s_sure := hDef c X G 33 22 (by rfl) (by rfl)
  have D_need_order : DefAt K mg "need_order" s_need_order := hDef c X G 34 23 (by rfl) (by rfl)
  have D_begin_of : DefAt K mg "begin_of" s_begin_of := hDef c X G 35 24 (by rfl) (by rfl)
  have D_rests_for_two : DefAt K mg "rests_for_two" s_rests_for_two := hDef c X G 36 25 (by rfl) (by rfl)
  have D_two_may : DefAt K mg "two_may" s_two_may := hDef c X G 37 26 (by rfl) (by rfl)
  have D_slips_for_two : DefAt K mg "slips_for_two" s_slips_for_two := hDef c X G 38 27 (by rfl) (by rfl)
  have D_many_behind : DefAt K mg "many_behind" s_many_behind := hDef c X G 39 28 (by rfl) (by rfl)
  have D_how_many_two : DefAt K mg "how_many_two" s_how_many_two := hDef c X G 40 29 (by rfl) (by rfl)
  have D__law_begun : DefAt K mg "_law_begun" s__law_begun := hDef c X G 41 30 (by rfl) (by rfl)
  have D__law_mixed : DefAt K mg "_law_mixed" s__law_mixed := hDef c X G 42 31 (by rfl) (by rfl)
  have D__law_take : DefAt K mg "_law_take" s__law_take := hDef c X G 43 32 (by rfl) (by rfl)
  have D__law_pick : DefAt K mg "_law_pick" s__law_pick := hDef c X G 44 33 (by rfl) (by rfl)
  have D__law_order : DefAt K mg "_law_order" s__law_order := hDef c X G 45 34 (by rfl) (by rfl)
  have D__law_words : DefAt K mg "_law_words" s__law_words := hDef c X G 46 35 (by rfl) (by rfl)
  have D__law_common : DefAt K mg "_law_common" s__law_common := hDef c X G 47 36 (by rfl) (by rfl)
  have D__law_a_rest : DefAt K mg "_law_a_rest" s__law_a_rest := hDef c X G 48 37 (by rfl) (by rfl)
  have D__law_sitting : DefAt K mg "_law_sitting" s__law_sitting := hDef c X G 49 38 (by rfl) (by rfl)
  have D__law_goes : DefAt K mg "_law_goes" s__law_goes := hDef c X G 50 39 (by rfl) (by rfl)
  have D__law_all_slips : DefAt K mg "_law_all_slips" s__law_all_slips := hDef c X G 51 40 (by rfl) (by rfl)
  have D__law_figures : DefAt K mg "_law_figures" s__law_figures := hDef c X G 52 41 (by rfl) (by rfl)
  have D__law_one_right : DefAt K mg "_law_one_right" s__law_one_right := hDef c X G 53 42 (by rfl) (by rfl)
  have D__law_is_refused : DefAt K mg "_law_is_refused" s__law_is_refused := hDef c X G 54 43 (by rfl) (by rfl)
  have D__law_two_right : DefAtC K mg "_law_two_right" s__law_two_right _ := hDefC c X G 55 44 (by rfl) (by rfl)
  have c_is_number := ok_is_number (P := P) (w := w) (K := K) (mg := mg) (base := base) D_is_number T
  have c_is_rest := ok_is_rest (P := P) (w := w) (K := K) (mg := mg) (base := base) D_is_rest T c_is_number
  have c_require_rest := ok_require_rest (P := P) (w := w) (K := K) (mg := mg) (base := base) D_require_rest c_is_rest
  have c_greatest_divisor := ok_greatest_divisor (P := P) (w := w) (K := K) (mg := mg) (base := base) D_greatest_divisor
  have c_inverse_modulo := ok_inverse_modulo (P := P) (w := w) (K := K) (mg := mg) (base := base) D_inverse_modulo T
  have c_both := ok_both (P := P) (w := w) (K := K) (mg := mg) (base := base) D_both T c_inverse_modulo c_greatest_divisor c_require_rest
  have c_by := ok_by (P := P) (w := w) (K := K) (mg := mg) (base := base) D_by T c_greatest_divisor c_is_number c_require_rest
  have c_least := ok_least (P := P) (w := w) (K := K) (mg := mg) (base := base) D_least T c_require_rest
  have c_least_rests : C8.Cal P w K mg base 4 "least_rests" (spLeast K) [] := by obtain ⟨f, fd, ps, ds, h1, h2, h3⟩ := c_least.ex; exact ⟨f, fd, ps, ds, h1, T.al.trans h2, h3⟩
  have c_is_name := ok_is_name (P := P) (w := w) (K := K) (mg := mg) (base := base) D_is_name T
  have c_are_names := ok_are_names (P := P) (w := w) (K := K) (mg := mg) (base := base) D_are_names T c_is_name
  have c_need_names := ok_need_names (P := P) (w := w) (K := K) (mg := mg) (base := base) D_need_names T c_are_names
  have c_Known := ok_Known_init (P := P) (w := w) (K := K) (mg := mg) (base := base) D_Known_init T c_need_names
  have c_Known_take_over := ok_Known_take_over (P := P) (w := w) (K := K) (mg := mg) (base := base) D_Known_take_over T
  have c_Known_names := ok_Known_names (P := P) (w := w) (K := K) (mg := mg) (base := base) D_Known_names T
  have c_Known_rests := ok_Known_rests (P := P) (w := w) (K := K) (mg := mg) (base := base) D_Known_rests T
  have c_Known_rest := ok_Known_rest (P := P) (w := w) (K := K) (mg := mg) (base := base) D_Known_rest T
  have c_of_rests := ok_of_rests (P := P) (w := w) (K := K) (mg := mg) (base := base) D_of_rests T c_Known_take_over c_is_rest c_Known
  have c_need_seats := ok_need_seats (P := P) (w := w) (K := K) (mg := mg) (base := base) D_need_seats T c_Known_names
  have c_need_begin := ok_need_begin (P := P) (w := w) (K := K) (mg := mg) (base := base) D_need_begin T
  have c_Ways := ok_Ways_init (P := P) (w := w) (K := K) (mg := mg) (base := base) D_Ways_init T c_Known_rest
  have c_Ways_seat_of := ok_Ways_seat_of (P := P) (w := w) (K := K) (mg := mg) (base := base) D_Ways_seat_of T
  have c_Ways_sitters := ok_Ways_sitters (P := P) (w := w) (K := K) (mg := mg) (base := base) D_Ways_sitters T
  have c_Ways_nexts := ok_Ways_nexts (P := P) (w := w) (K := K) (mg := mg) (base := base) D_Ways_nexts T c_by c_Ways_sitters
  have c_Ways_many : C8.Met P w K mg base 18 (He.ga K "Ways") "many" (spMany K (He.ga K "Ways") 13) [] := many_all (P := P) (w := w) (K := K) (mg := mg) (base := base) D_Ways_many T c_Ways_nexts 13
  have c_Ways_led := ok_Ways_led (P := P) (w := w) (K := K) (mg := mg) (base := base) D_Ways_led T c_Ways_nexts c_Ways_seat_of
  have c_next_ones := ok_next_ones (P := P) (w := w) (K := K) (mg := mg) (base := base) D_next_ones T c_Ways_nexts c_Ways_led c_Ways c_need_seats
  have c_how_many := ok_how_many (P := P) (w := w) (K := K) (mg := mg) (base := base) D_how_many T c_Ways_many c_Ways_seat_of c_Ways c_need_begin c_need_seats
  have c_need_may := ok_need_may (P := P) (w := w) (K := K) (mg := mg) (base := base) D_need_may T c_Ways_led c_Ways c_need_seats
  have c_sure := ok_sure (P := P) (w := w) (K := K) (mg := mg) (base := base) D_sure T c_Ways_nexts c_Ways_seat_of c_Ways c_need_begin c_need_seats
  have c_order_may := ok_order_may (P := P) (w := w) (K := K) (mg := mg) (base := base) D_order_may T c_Ways_nexts c_Ways_many c_is_number c_Ways_seat_of c_Ways c_need_begin c_need_seats
  have c_number_may := ok_number_may (P := P) (w := w) (K := K) (mg := mg) (base := base) D_number_may T c_Ways_nexts c_Ways_many c_Ways_seat_of c_need_may
  have c_places_of := ok_places_of (P := P) (w := w) (K := K) (mg := mg) (base := base) D_places_of T
  have c_narrowed := ok_narrowed (P := P) (w := w) (K := K) (mg := mg) (base := base) D_narrowed T c_both
  have c_slips_for := ok_slips_for (P := P) (w := w) (K := K) (mg := mg) (base := base) D_slips_for T c_narrowed c_Known_rests c_places_of c_least_rests c_need_may
  have c_need_order := ok_need_order (P := P) (w := w) (K := K) (mg := mg) (base := base) D_need_order T c_Known_names
  have c_begin_of := ok_begin_of (P := P) (w := w) (K := K) (mg := mg) (base := base) D_begin_of T
  have c_rests_for_two := ok_rests_for_two (P := P) (w := w) (K := K) (mg := mg) (base := base) D_rests_for_two T c_narrowed c_Known_rests c_places_of c_begin_of c_need_order c_need_seats
  have c_two_may := ok_two_may (P := P) (w := w) (K := K) (mg := mg) (base := base) D_two_may T c_rests_for_two
  have c_slips_for_two := ok_slips_for_two (P := P) (w := w) (K := K) (mg := mg) (base := base) D_slips_for_two T c_least_rests c_rests_for_two
  have c_many_behind := ok_many_behind (P := P) (w := w) (K := K) (mg := mg) (base := base) D_many_behind T c_by c_Ways_many c_Ways_seat_of c_Ways c_of_rests c_Known_names c_narrowed
  have c_how_many_two := ok_how_many_two (P := P) (w := w) (K := K) (mg := mg) (base := base) D_how_many_two T c_many_behind c_narrowed c_places_of c_Known_rests c_Ways_nexts c_Ways_led c_Ways c_need_begin c_need_seats
  have c__law_begun := ok__law_begun (P := P) (w := w) (K := K) (mg := mg) (base := base) D__law_begun T
  have c__law_mixed := ok__law_mixed (P := P) (w := w) (K := K) (mg := mg) (base := base) D__law_mixed T
  have c__law_take := ok__law_take (P := P) (w := w) (K := K) (mg := mg) (base := base) D__law_take T c__law_mixed
  have c__law_pick := ok__law_pick (P := P) (w := w) (K := K) (mg := mg) (base := base) D__law_pick T c__law_take
  have c__law_order := ok__law_order (P := P) (w := w) (K := K) (mg := mg) (base := base) D__law_order T c__law_take
  have c__law_common := ok__law_common (P := P) (w := w) (K := K) (mg := mg) (base := base) D__law_common T
  have c__law_a_rest := ok__law_a_rest (P := P) (w := w) (K := K) (mg := mg) (base := base) D__law_a_rest T c__law_take c__law_pick
  have c__law_words := ok__law_words (P := P) (w := w) (K := K) (mg := mg) (base := base) D__law_words T c__law_take c__law_pick
  have c__law_sitting := ok__law_sitting (P := P) (w := w) (K := K) (mg := mg) (base := base) D__law_sitting T
  have c__law_figures := ok__law_figures (P := P) (w := w) (K := K) (mg := mg) (base := base) D__law_figures T c__law_sitting
  have c__law_goes := ok__law_goes (P := P) (w := w) (K := K) (mg := mg) (base := base) D__law_goes T c__law_sitting
  have c__law_all_slips := ok__law_all_slips (P := P) (w := w) (K := K) (mg := mg) (base := base) D__law_all_slips T c__law_common
  have c__law_one_right := ok__law_one_right (P := P) (w := w) (K := K) (mg := mg) (base := base) D__law_one_right T c_sure c_next_ones c__law_goes c_slips_for c_number_may c_order_may c_how_many c__law_figures
  have c_slips_for_twoX := ok_slips_for_twoX (P := P) (w := w) (K := K) (mg := mg) (base := base) D_slips_for_two T XF c_rests_for_two
  have c__law_two_right := ok__law_two_right (P := P) (w := w) (K := K) (mg := mg) (base := base) D__law_two_right T c_slips_for_twoX XF D__law_is_refused TB c_two_may c__law_order c__law_pick c__law_goes c_slips_for_two c_how_many_two
  exact ok_law (P := P) (w := w) (K := K) (mg := mg) (base := base) (tP := (hC K).2) D_law T c__law_two_right c__law_one_right c__law_all_slips c__law_goes c__law_order c_of_rests c__law_take c__law_a_rest c__law_words c__law_pick c__law_begun
/-- what is known of the law at the head's heap -/
theorem hAt {w : World} {K : PySem.W.Frag} {mg : Str → Option Value} {h : Heap} {fa : Addr} (X : K.In h) (G : h.Ns mainGlobals mg) (c : He.SaysX hFa hFn [] hTf exNO w h K) (hfa : mg ("law" : Str) = some (.ref fa)) :
    LamX.LawAtS PySem.Challenge.rw_goersay_k27_whole_what_some_slips_bring w K C8.CX0 22 63 "_law_script" mg fa h := by
  obtain ⟨fd, F⟩ := c.t.d.def_ 56 (d := dD "law" s_law) (by rfl)
  have e := hfa.symm.trans (He.glo_ok X G (c.t.d.fact 45 (f := .glo "law") (by rfl)))
  cases e
  have b := FunD.bindsA (ps := ["_law_script"]) F fun _ _ _ _ _ _ us hl => match us, hl with | [_], _ => rfl
  have mem : (("_law_two_right", none) : He.Defn) ∈ hTf := List.mem_singleton.mpr rfl
  refine ⟨fd, [hC K], spLaw K (hC K).2, fun p hp => ?_, fun p hp => ?_, fun p hp => ?_, fun s v => b s [v] rfl, fun H a ns hl _ hT hS => ?_, fun base KB GB TB => ?_⟩
  · rw [List.mem_singleton.mp hp]
    exact c.empty _ mem
  · rw [List.mem_singleton.mp hp]
    exact c.out _ mem
  · rw [List.mem_singleton.mp hp]
    exact PySem.W.codeHd_of_K X (c.hd _ mem)
  · exact ⟨a, ns, rfl, hS, hl, hT _ (List.mem_singleton.mpr rfl), fun _ => rfl⟩
  · exact hLaw X G c.t.d c.more (TB _ (List.mem_singleton.mpr rfl)) F
end GK
open PySem PySem.W PySem.Calls PyProof.Rows
theorem PySem.Challenge.cw_goersay_k27_whole_what_some_slips_bring_holds : PySem.Challenge.rw_goersay_k27_whole_what_some_slips_bring.Holds := by
  w_on; o_law
  refine HandSHeadRun.head_any (r := GK.hR) (q := view GK.hR.prog [70]) (H := GK.hHk) (ob := GK.hOb) (M := 20000) (loose := GK.hLoose) (d := HandSHeadRun.topDef GK.hR.prog 70) (kwd := []) GK.hOb_eq
    (by kernel_rfl) (fun s => by kernel_rfl) GK.hRun (by kernel_rfl) (by kernel_rfl) (by kernel_rfl) (by rfl) (by first | assumption | decide +kernel) (by decide +kernel) ⟨rfl, rfl, rfl, rfl, rfl, by decide +kernel⟩ ?hw ?hc
  case hw => w_witness2
  case hc =>
    refine LamX.walk_ofTsE (l := PySem.Challenge.rw_goersay_k27_whole_what_some_slips_bring) (n := 63) (k := 22) (x := "_law_script") (CX := fun _ => C8.CX0) rfl (by decide) (by kernel_rfl) ⟨rfl, by decide, by decide⟩ ?F (fun _ _ _ _ _ z => z)
    intro w mg fa h Y G hmg0
    obtain ⟨K, KX, c⟩ := Y
    have hmg : mg ("law" : PySem.Str) = some (.ref fa) := by
      have e : (HandSHeadRun.topDef GK.hR.prog 70).name = ("law" : PySem.Str) := by kernel_rfl
      rw [← e]
      exact hmg0
    exact ⟨K, KX, GK.hAt KX G c hmg⟩
