import PyProof.Rows.All
import Wide.All
import OpenK.AllK
import Wide.FinOn
import HandS.ForMost
import HandS.ForExc
import HandS.Flow
import HandS.Style
import HandS.StrMore
import HandS.IsInst
import HandS.CallSlots
import HandS.TupLe
import HandS.FStr
import HandS.Small
import HandS.Lambda
import HandS.TryOnly
import HandS.Deep
import HandS.Wide
import HandS.TupAny
import HandS.TupMul
import KE.KRevSl
import HandS.Zip
import HandS.MakeKwOnly
import HandS.ExcInit
import HandS.ExcOwn
import HandS.ExcField
import HandS.ExcIs
import HandS.HotCalls
import KE.KExcIs
import KE.KUnpackStar
import KE.KCallOwn
import KE.SortCalls
import KE.DataCmp
import KE.SortKeyed
import HandS.ExcValue
import PyProof.InstNe
import HandS.More
import PyProof.NeKinds
import PyProof.StrHeap
import HandS.SetKeys
import HandS.SetBool
import HandS.Set
import KE.GoesEnum
import HandS.Iter
import HandS.Text
import KE.KDictPairs
import PyProof.Rows.StrMeet
import PyProof.CollectWalk
import KE.KDictZip
import HandS.Codes
import KE.GoesEnumKw
import HandS.SortKw
import HandS.DictComp
import PyProof.SumWalkG
import HandS.TryMany
import KE.KTryMore
import PyProof.Claim2Refuses
import HandS.DictTup
import KE.KDictWalk
import PyProof.RulesFinally
import HandS.Finally
import KE.KEqDict
import KE.KDictItemsList
import KE.KDictCopyH
import PyProof.StrCalls6
import KE.SortData
import KE.SortLaws
import PyProof.MinMaxWalk
import HandS.SetFor
import HandS.Head0
import HandS.Head1
import HandS.Head2
import HandS.HeadHook1
import HandS.ReplaceLit
import PyProof.EvalArms
import KE.SortKeyHeap
import HandS.Nested
import PySem.Challenge.RW_madestore_k05_blanks_and_marks_of_things
section
set_option linter.all false
namespace MM
def mmA : String := "MM.Q.bind_ok MM.Q.bind_exc MM.Q.go_ok MM.Q.go_exc MM.Q.nox_ok MM.Q.vr_some MM.Q.ev_var MM.Q.ev_c MM.Q.ev_k MM.Q.frzO_none MM.Q.frzO_some MM.Q.tupO_some MM.Q.tupO_none MM.Q.bear_val MM.Q.bear_frz MM.Q.bear_ref MM.Q.bear_own MM.Q.bear_tup MM.Q.allD_nil MM.Q.allD_cons MM.Q.allD_map MM.Q.bearO_some MM.Q.ev_bin MM.Q.ev_bin1 MM.Q.ev_bin2 MM.Q.add_int MM.Q.mul_int MM.Q.mod_int MM.Q.fdiv_int MM.Q.pow_int MM.Q.intB_int MM.Q.datO_f MM.Q.datO_t MM.Q.data_d MM.Q.data_ref MM.Q.data_own MM.Q.ev_eq_r MM.Q.ev_eq_o MM.Q.ev_eq_l MM.Q.ev_eq_t MM.Q.ev_eq_i MM.Q.ev_eq_b MM.Q.ev_eq_n MM.Q.ev_eq_st MM.Q.ev_eq_sf MM.Q.eqO_some MM.Q.eqC_t MM.Q.eqC_f MM.Q.eqv_nil MM.Q.eqv_int MM.Q.eqv_bool MM.Q.in_str MM.Q.notIn_str MM.Q.is_bool MM.Q.isnot_bool MM.Q.tst_bool MM.Q.ev_tst MM.Q.ev_truth MM.Q.ev_tru MM.Q.truO_some MM.Q.truth_bool MM.Q.truth_int MM.Q.truth_none MM.Q.truth_list MM.Q.truth_tup MM.Q.ev_andB MM.Q.ev_orB MM.Q.ev_notB MM.Q.andB_t MM.Q.andB_f MM.Q.orB_t MM.Q.orB_f MM.Q.ev_notB1 MM.Q.ev_and MM.Q.and_tB MM.Q.and_fB MM.Q.ev_ifE MM.Q.ifE_t MM.Q.ifE_f MM.Q.ev_nil MM.Q.ev_cons MM.Q.ev_cons1 MM.Q.ev_cons2 MM.Q.ev_disp MM.Q.disp_lst MM.Q.disp_tup MM.Q.frees_nil MM.Q.frees_cons MM.Q.free_d MM.Q.free_ref MM.Q.free_adr MM.Q.dI_snoc MM.Q.dI_len MM.Q.allD_dI MM.Q.dI_nil MM.Q.allD_dIs MM.Q.frees_map MM.Q.ev_cb MM.Q.ev_cb1 MM.Q.ev_call MM.Q.ev_call1 MM.Q.ev_call0 MM.Q.ev_callK MM.Q.ev_callK1 MM.Q.ev_callK2 MM.Q.ldd_some MM.Q.laid_nil MM.Q.laid_k MM.Q.laid_p MM.Q.laid_v MM.Q.ixO_some MM.Q.ev_ix MM.Q.ev_ix1 MM.Q.ev_ix2 MM.Q.ix_list MM.Q.ix_tup MM.Q.refS_lst MM.Q.refS_tup MM.Q.seq_ref MM.Q.seq_own MM.Q.seq_list MM.Q.seq_tup MM.Q.ixK_some MM.Q.ix_ref MM.Q.ix_own MM.Q.listO_f MM.Q.ev_list MM.Q.at0 MM.Q.at1 MM.Q.at2 MM.Q.at3 MM.Q.at4 MM.Q.ixN0 MM.Q.ixN1 MM.Q.ixN2 MM.Q.ev_oN MM.Q.ev_oS MM.Q.oS_int MM.Q.ev_sl MM.Q.ev_sl1 MM.Q.ev_sl2 MM.Q.ev_sl3 MM.Q.rev_tup MM.Q.ev_rev MM.Q.rev_list MM.Q.ev_bm MM.Q.ev_bm1 MM.Q.cBM_t MM.Q.ev_bm2 MM.Q.buO_some MM.Q.ev_bu MM.Q.ev_bu1 MM.Q.cBU_t MM.Q.ev_bu2 MM.Q.ty_str MM.Q.tyO_some MM.Q.ty_ref MM.Q.ty_own MM.Q.ty_list MM.Q.beq_ll MM.Q.beq_ss MM.Q.celO_some MM.Q.cell_ref MM.Q.cell_own MM.Q.ev_append MM.Q.appO_some MM.Q.ev_pop MM.Q.popO_snoc MM.Q.ev_ind MM.Q.ev_ind1 MM.Q.ev_neg MM.Q.neg_int MM.Q.ev_iter MM.Q.ev_it MM.Q.itO_some MM.Q.items_list MM.Q.items_tup MM.Q.ev_rg1 MM.Q.rg1_int MM.Q.ev_lc MM.Q.ev_lc1 MM.Q.ev_lc2 MM.Q.wipe_nil MM.Q.wipe_cons MM.Q.ev_seq MM.Q.seq_nx MM.Q.seq_rt MM.Q.seq_exc MM.Q.seq_bk MM.Q.seq_ct MM.Q.ev_asg MM.Q.ev_asg1 MM.Q.nxO_some MM.Q.mg_name MM.Q.mg_nil MM.Q.mg_consN MM.Q.mg_tup MM.Q.ev_expr MM.Q.ev_expr1 MM.Q.ev_ret MM.Q.ev_ret1 MM.Q.ev_skip MM.Q.ev_if MM.Q.if_t MM.Q.if_f MM.Q.ev_for MM.Q.ev_for1 MM.Q.ev_fz MM.Q.fz_own MM.Q.fzC_some MM.Q.fzO_some MM.Q.fzO_none MM.Q.fz_d MM.Q.fz_ref MM.Q.stO_some MM.Q.ev_st MM.Q.ev_st1 MM.Q.ev_st2 MM.Q.ev_st3 MM.Q.ev_setIx MM.Q.siO_some MM.Q.ev_par MM.Q.ev_par1 MM.Q.nones_zero MM.Q.nones_succ MM.Q.begin_eq "
def mmE : String := "MM.Q.isN_int "
def mmC : String := "MM.Q.ev_fn MM.Q.fin_rt MM.Q.fin_ref MM.Q.fin_nx MM.Q.trim_same MM.Q.trim_app MM.Q.ev_len MM.Q.ev_lst_l MM.Q.ev_lst_t MM.Q.ev_lst_r MM.Q.ev_lst_o MM.Q.ev_sum MM.Q.ev_all MM.Q.ev_isi MM.Q.kind_str MM.Q.kind_int MM.Q.kind_bool MM.Q.kind_none MM.Q.kind_dict MM.Q.kind_list MM.Q.kind_tup MM.Q.kit_ss MM.Q.kit_is MM.Q.kit_bs MM.Q.kit_ns MM.Q.kit_ds MM.Q.kit_ls MM.Q.kit_ts MM.Q.ev_join MM.Q.lenO_some MM.Q.len_list MM.Q.len_tup MM.Q.lnO_some MM.Q.len_ref MM.Q.len_own MM.Q.lisO_some MM.Q.l1O_some MM.Q.ints_map MM.Q.bools_map MM.Q.strs_map MM.Q.isiO_some MM.Q.jnO_some MM.Q.len_st MM.Q.add_st MM.Q.mul_st MM.Q.ix_st MM.Q.sl_st MM.Q.rev_st MM.Q.eqv_st MM.Q.st_dec MM.Q.divmod_int MM.Q.items_st MM.Q.allD_mapf MM.Q.strs_mapf MM.Q.ints_mapf MM.Q.bools_mapf MM.Q.join_ones_some MM.Q.sl_own MM.Q.sl_ref MM.Q.sl_list MM.Q.slO_some MM.Q.add_own MM.Q.add_ref MM.Q.add_list MM.Q.catO_some MM.Q.cutL_map MM.Q.mg_tupL MM.Q.ev_ch MM.Q.ev_ch1 MM.Q.ev_ch2 MM.Q.ch_t MM.Q.ch_f MM.Q.ev_ch3 MM.Q.starts_str MM.Q.ends_str MM.Q.upper_str MM.Q.part_str MM.Q.ev_fmt MM.Q.fmt_st MM.Q.fmt_int MM.Q.ev_js_nil MM.Q.ev_js_cons MM.Q.ev_js1 MM.Q.ev_js2 MM.Q.jsF_some MM.Q.js_st MM.Q.ev_pr_nil MM.Q.ev_pr_cons MM.Q.ev_pr1 MM.Q.ev_pr2 MM.Q.ev_pr3 MM.Q.ev_dct MM.Q.ev_dct1 MM.Q.keys_one MM.Q.dctF_one MM.Q.lst_st MM.Q.mul_list MM.Q.mul_tup MM.Q.ev_popK MM.Q.in_own MM.Q.in_ref MM.Q.in_list MM.Q.inO_t MM.Q.inO_f MM.Q.b2i_t MM.Q.b2i_f MM.Q.sl_tupD MM.Q.ev_dp MM.Q.dp_tup MM.Q.dp_list MM.Q.ev_dix MM.Q.ev_dix1 MM.Q.ev_dix2 MM.Q.ev_din MM.Q.ev_din1 MM.Q.ev_din2 MM.Q.ev_dg MM.Q.ev_dg1 MM.Q.ev_dg2 MM.Q.ev_dg3 MM.Q.ev_en MM.Q.en_list MM.Q.en_tup MM.Q.en_st MM.Q.rep0 MM.Q.clr_nx MM.Q.clr_rt MM.Q.mg_tpl MM.Q.mg_tupM MM.Q.isN_str MM.Q.isN_none MM.Q.isN_tup MM.Q.isN_bool MM.Q.isN_ins MM.Q.free_ins MM.Q.items_frl MM.Q.items_tupM MM.Q.seq_frl MM.Q.seq_tupM List.map_cons List.map_nil List.length_cons List.length_nil List.append_nil List.nil_append List.cons_append List.getElem?_cons_zero List.getElem?_cons_succ List.set_cons_zero List.set_cons_succ Bool.and_true Bool.true_and Option.bind_some Option.map_some Nat.reduceAdd Nat.reduceSub Nat.add_sub_cancel Nat.sub_self"
def mmI (b : Bool) (x : String) : Lean.MacroM (Array (Lean.TSyntax ``Lean.Parser.Tactic.simpLemma)) := ((mmA ++ x ++ (if b then mmE else "") ++ mmC).splitOn " ").toArray.filter (fun y => y != "") |>.mapM fun y => do
  let i : Lean.TSyntax `term := ⟨(Lean.mkIdent y.toName).raw⟩
  `(Lean.Parser.Tactic.simpLemma| $i:term)
end MM
end
section
set_option Elab.async false
set_option linter.all false
set_option maxRecDepth 100000
set_option maxHeartbeats 4000000
set_option autoImplicit false
namespace MM
open PySem PySem.Spec PyProof.Rows L2
/-- a class of exceptions: a class of the module by its name, a built-in one -/
inductive Xc where
  | own (x : Str) | bi (T : String)
  deriving DecidableEq
def Xc.val (K : PySem.W.Frag) : Xc → Value
  | .bi T => .type T
  | .own x => match PySem.W.nsIn K mainGlobals x with | some (some v) => v | _ => .none
/-- a value: data that never changes, a cell of the store that may be handed on, a cell of one frame's own, a thing of the written part -/
inductive Mv where
  | d (x : PyData) | ref (i : Nat) | own (i : Nat) | adr (a : Addr) | ty (n : String)
  /-- a def or a class of the module, by its name -/
  | fn (x : Str)
  /-- an exception that is handled: where it and its dict lie, its class, its fields -/
  | exc (a : Addr) (d : Option Addr) (c : Xc) (ns : List Str) (vs : List Mv)
  /-- tuples, lists that are written no more, of anything; things of a class that are written no more -/
  | tup (xs : List Mv) | frl (xs : List Mv) | ins (C : Str) (ns : List Str) (vs : List Mv)
  /-- a tuple, its object not told: to be unpacked -/
  | tpl (xs : List Mv)
  /-- a function object made in a def: where it lies, what is tracked of it, what its captured names hold -/
  | cap (f : Addr) (es : List (Addr × HO)) (us : List V) (xs : List Mv)
inductive Mo where
  | lst (xs : List Mv) | tup (xs : List Mv) | dct (kvs : List (Key × Mv)) | ins (C : Str) (fs : List (Str × Mv)) | gone
  /-- the table of code objects of a def of the module -/
  | tab (n x : Str)
abbrev Sg := List (Bool × Mo)
abbrev Rho := List (Option Mv)
abbrev Io := List (Bool × Addr)
structure Ex where
  cls : Xc
  ns : List Str
  vs : List Mv
inductive Res (α : Type) where
  | ok (x : α) (S : Sg) | exc (e : Ex) (S : Sg) | bad
def Res.bind {α β : Type} : Res α → (α → Sg → Res β) → Res β
  | .ok x S, f => f x S
  | .exc e S, _ => .exc e S
  | .bad, _ => .bad
abbrev ME := Rho → Sg → Res Mv
abbrev MT := Rho → Sg → Res Bool
abbrev MA := Rho → Sg → Res (List Mv)
inductive RS where
  | nx (ρ : Rho) (S : Sg) | rt (x : Mv) (S : Sg) | bk (ρ : Rho) (S : Sg) | ct (ρ : Rho) (S : Sg) | exc (e : Ex) (ρ : Rho) (S : Sg) | bad
abbrev MS := Rho → Sg → RS
def FzL (K : PySem.W.Frag) (H : Hp) (a : Addr) (xs : List V) : Prop :=
  (∃ o, H a = some (.frz o (.lst xs))) ∨ ∃ (its : Array Value) (n : Nat), K.lookup a = some { cls := .type "list", data := .seq its n } ∧ its.size ≤ sizeLine ∧ Vals xs its.toList
/-- a list whose object is a plain one -/
def PlnL (K : PySem.W.Frag) (H : Hp) (a : Addr) (xs : List V) : Prop := H a = some (.lst xs) ∨ FzL K H a xs
theorem FzL.sq {K : PySem.W.Frag} {H : Hp} {a : Addr} {xs : List V} (h : FzL K H a xs) : SqL K H a xs := by
  rcases h with h | ⟨its, n, h1, h2, h3⟩
  · exact .inl (.inr h)
  · exact .inr ⟨_, its, n, h1, rfl, rfl, rfl, h2, h3⟩
theorem PlnL.sq {K : PySem.W.Frag} {H : Hp} {a : Addr} {xs : List V} (h : PlnL K H a xs) : SqL K H a xs := by
  rcases h with h | h
  · exact .inl (.inl h)
  · exact h.sq
theorem PlnL.obj {X : Cx} {pins : List (Addr × Obj)} {σ : L2.St} {H : Hp} {s : Shared} {a : Addr} {xs : List V} (I : Inv X pins σ H s) (h : PlnL X.K H a xs) :
    ∃ (its : List Value) (n : Nat), s.heap.get? a = some { cls := .type "list", data := .seq its.toArray n } ∧ Vals xs its ∧ xs.length ≤ sizeLine := by
  rcases h with h | ⟨o, h⟩ | ⟨its, n, h1, h2, h3⟩
  · obtain ⟨z, its, n, r, e⟩ := I.hok a _ h
    exact ⟨its, n, e, r, z⟩
  · obtain ⟨_, z, its, n, r, e⟩ := I.hok a _ h
    exact ⟨its, n, e, r, z⟩
  · refine ⟨its.toList, n, ?_, h3, by rw [h3.length]; simpa using h2⟩
    have e := I.kIn _ _ h1
    simpa using e
/-- a tuple whose object has no dict of its own, and never changes -/
def PlnT (K : PySem.W.Frag) (H : Hp) (a : Addr) (xs : List V) : Prop :=
  (∃ o : Obj, o.dict = none ∧ H a = some (.frz o (.tup xs))) ∨ ∃ (o : Obj) (its : Array Value) (n : Nat), K.lookup a = some o ∧ o.cls = .type "tuple" ∧ o.dict = none ∧ o.data = .seq its n ∧ its.size ≤ sizeLine ∧ Vals xs its.toList
theorem PlnT.sq {K : PySem.W.Frag} {H : Hp} {a : Addr} {xs : List V} (h : PlnT K H a xs) : SqT K H a xs := by
  rcases h with ⟨o, _, h⟩ | ⟨o, its, n, h1, h2, h3, h4, h5, h6⟩
  · exact .inl (.inr ⟨o, h⟩)
  · exact .inr ⟨o, its, n, h1, h2, h4, h5, h6⟩
theorem PlnT.obj {X : Cx} {pins : List (Addr × Obj)} {σ : L2.St} {H : Hp} {s : Shared} {a : Addr} {xs : List V} (I : Inv X pins σ H s) (h : PlnT X.K H a xs) :
    ∃ (o : Obj) (its : List Value) (n : Nat), s.heap.get? a = some o ∧ o.cls = .type "tuple" ∧ o.dict = none ∧ o.data = .seq its.toArray n ∧ Vals xs its ∧ xs.length ≤ sizeLine := by
  rcases h with ⟨o, hd, h⟩ | ⟨o, its, n, h1, h2, h3, h4, h5, h6⟩
  · obtain ⟨ho, z, its, r, o', e, hc, n, hdat⟩ := I.hok a _ h
    rw [ho] at e; cases e
    exact ⟨o, its, n, ho, hc, hd, hdat, r, z⟩
  · exact ⟨o, its.toList, n, I.kIn _ _ h1, h2, h3, by simpa using h4, h6, by rw [h6.length]; simpa using h5⟩
def keyD : Key → PyData
  | .inl i => .int i
  | .inr x => .str x
mutual
inductive FD (K : PySem.W.Frag) (H : Hp) : PyData → V → Prop
  | non : FD K H .none .non
  | bl (b : Bool) : FD K H (.bool b) (.bl b)
  | int (i : Int) : FD K H (.int i) (.int i)
  | str (x : Str) : FD K H (.str x) (.str x)
  | lst {a : Addr} {xs : List V} {ds : List PyData} : FzL K H a xs → FDs K H ds xs → FD K H (.list ds) (.ref a)
  | tup {a : Addr} {xs : List V} {ds : List PyData} : PlnT K H a xs → FDs K H ds xs → FD K H (.tuple ds) (.ref a)
  | dct {a : Addr} {o : Obj} {kvs : List (Key × V)} {ds : List (PyData × PyData)} : H a = some (.frz o (.dK kvs)) → FDk K H ds kvs → FD K H (.dict ds) (.ref a)
inductive FDs (K : PySem.W.Frag) (H : Hp) : List PyData → List V → Prop
  | nil : FDs K H [] []
  | cons {v : V} {vs : List V} {d : PyData} {ds : List PyData} : FD K H d v → FDs K H ds vs → FDs K H (d :: ds) (v :: vs)
inductive FDk (K : PySem.W.Frag) (H : Hp) : List (PyData × PyData) → List (Key × V) → Prop
  | nil : FDk K H [] []
  | cons {k : Key} {v : V} {vs : List (Key × V)} {d : PyData} {ds : List (PyData × PyData)} : FD K H d v → FDk K H ds vs → FDk K H ((keyD k, d) :: ds) ((k, v) :: vs)
end
/-- a function object at f: its words, but for its text, its module, its code's text -/
def FobO (f : Addr) (g : Value → Value → Value → FuncData) : HO := .ext fun h => ∃ (od : Option Addr) (sl : Array (Option Value)) (doc pm ctv : Value), h.get? f = some (⟨.type "function", od, .func (g doc pm ctv), sl⟩ : Obj)
/-- what is tracked by its object, and never changes -/
def Kst (a : Addr) (o : HO) : Prop := (∃ q, o = LamX.CodeO a q) ∨ ∃ g, o = FobO a g
/-- what never changes stays -/
structure Grow (H H' : Hp) : Prop where
  tup : ∀ a xs, H a = some (.tup xs) → H' a = some (.tup xs)
  frz : ∀ a o u, H a = some (.frz o u) → H' a = some (.frz o u)
  xd : ∀ a kv, H a = some (.xd kv) → H' a = some (.xd kv)
  cod : ∀ a o, Kst a o → H a = some o → H' a = some o
theorem Grow.refl (H : Hp) : Grow H H := ⟨fun _ _ h => h, fun _ _ _ h => h, fun _ _ h => h, fun _ _ _ h => h⟩
theorem Grow.trans {H H1 H2 : Hp} (a : Grow H H1) (b : Grow H1 H2) : Grow H H2 := ⟨fun c xs h => b.tup c xs (a.tup c xs h), fun c o u h => b.frz c o u (a.frz c o u h), fun c o h => b.xd c o (a.xd c o h), fun c o k h => b.cod c o k (a.cod c o k h)⟩
theorem Grow.new {H : Hp} {p : Addr} {o : HO} (h : H p = none) : Grow H (upd H p o) :=
  ⟨fun a xs e => by rw [upd_ne (ne_of_none e h)]; exact e, fun a ob u e => by rw [upd_ne (ne_of_none e h)]; exact e, fun a ob e => by rw [upd_ne (ne_of_none e h)]; exact e, fun a ob _ e => by rw [upd_ne (ne_of_none e h)]; exact e⟩
theorem Grow.write {H : Hp} {p : Addr} {o u : HO} (h : H p = some u) (m : Mut (some u)) (nx : ¬ Kst p u := by (intro h; rcases h with ⟨_, h⟩ | ⟨_, h⟩ <;> first | (unfold LamX.CodeO at h; cases h) | (unfold FobO at h; cases h))) : Grow H (upd H p o) :=
  ⟨fun a xs e => by rw [upd_ne (fun z => by rw [z, h] at e; cases e; exact m)]; exact e, fun a ob w e => by rw [upd_ne (fun z => by rw [z, h] at e; cases e; exact m)]; exact e, fun a ob e => by rw [upd_ne (fun z => by rw [z, h] at e; cases e; exact m)]; exact e, fun a q k e => by rw [upd_ne (fun z => by subst z; rw [h] at e; cases e; exact nx k)]; exact e⟩
section
variable {K : PySem.W.Frag} {H H' : Hp}
theorem FzL.mono {a : Addr} {xs : List V} (g : Grow H H') (h : FzL K H a xs) : FzL K H' a xs := by
  rcases h with ⟨o, h⟩ | h
  · exact .inl ⟨o, g.frz _ _ _ h⟩
  · exact .inr h
theorem PlnT.mono {a : Addr} {xs : List V} (g : Grow H H') (h : PlnT K H a xs) : PlnT K H' a xs := by
  rcases h with ⟨o, hd, h⟩ | h
  · exact .inl ⟨o, hd, g.frz _ _ _ h⟩
  · exact .inr h
theorem SqT_mono {a : Addr} {xs : List V} (g : Grow H H') (h : SqT K H a xs) : SqT K H' a xs := by
  rcases h with (h | ⟨o, h⟩) | h
  · exact .inl (.inl (g.tup _ _ h))
  · exact .inl (.inr ⟨o, g.frz _ _ _ h⟩)
  · exact .inr h
mutual
theorem FD.mono (g : Grow H H') : ∀ {d : PyData} {v : V}, FD K H d v → FD K H' d v
  | _, _, .non => .non
  | _, _, .bl b => .bl b
  | _, _, .int i => .int i
  | _, _, .str x => .str x
  | _, _, .lst h hs => .lst (h.mono g) (FDs.mono g hs)
  | _, _, .tup h hs => .tup (h.mono g) (FDs.mono g hs)
  | _, _, .dct h hs => .dct (g.frz _ _ _ h) (FDk.mono g hs)
theorem FDs.mono (g : Grow H H') : ∀ {ds : List PyData} {vs : List V}, FDs K H ds vs → FDs K H' ds vs
  | _, _, .nil => .nil
  | _, _, .cons h hs => .cons (FD.mono g h) (FDs.mono g hs)
theorem FDk.mono (g : Grow H H') : ∀ {ds : List (PyData × PyData)} {vs : List (Key × V)}, FDk K H ds vs → FDk K H' ds vs
  | _, _, .nil => .nil
  | _, _, .cons h hs => .cons (FD.mono g h) (FDk.mono g hs)
end
def Mv.free : Mv → Bool
  | .own _ => false
  | _ => true
mutual
def XV (K : PySem.W.Frag) (ι : Io) (H : Hp) : Mv → V → Prop
  | .d x, v => FD K H x v
  | .ref i, v => ∃ a, ι[i]? = some (false, a) ∧ v = .ref a
  | .own i, v => ∃ a, ι[i]? = some (true, a) ∧ v = .ref a
  | .adr a, v => v = .ref a
  | .ty n, v => v = .ty n
  | .fn x, v => ∃ a, PySem.W.nsIn K mainGlobals x = some (some (.ref a)) ∧ v = .ref a
  | .exc a d _ ns xs, v => v = .ref a ∧ (ns = [] ∨ ∃ dd us, d = some dd ∧ H dd = some (.xd (ns.zip us)) ∧ ns.length = xs.length ∧ XVl K ι H xs us)
  | .tup xs, v => ∃ a vs, v = .ref a ∧ PlnT K H a vs ∧ XVl K ι H xs vs
  | .frl xs, v => ∃ a vs, v = .ref a ∧ FzL K H a vs ∧ XVl K ι H xs vs
  | .tpl xs, v => ∃ a vs, v = .ref a ∧ SqT K H a vs ∧ XVl K ι H xs vs
  | .cap f es us xs, v => v = .ref f ∧ (∀ p ∈ es, Kst p.1 p.2 ∧ H p.1 = some p.2) ∧ XVl K ι H xs us
  | .ins C ns xs, v => ∃ a o Ca dx us, v = .ref a ∧ H a = some (.frz o (.ins Ca dx (ns.zip us))) ∧ PySem.W.nsIn K mainGlobals C = some (some (.ref Ca)) ∧ ns.length = xs.length ∧ XVl K ι H xs us
termination_by structural x => x
def XVl (K : PySem.W.Frag) (ι : Io) (H : Hp) : List Mv → List V → Prop
  | [], us => us = []
  | x :: xs, us => ∃ u r, us = u :: r ∧ (x.free = true ∧ XV K ι H x u) ∧ XVl K ι H xs r
termination_by structural x => x
end
/-- a value that may be stored -/
def XC (K : PySem.W.Frag) (ι : Io) (H : Hp) (x : Mv) (v : V) : Prop := x.free = true ∧ XV K ι H x v
theorem XVl_nil {K : PySem.W.Frag} {ι : Io} {H : Hp} {us : List V} : XVl K ι H [] us ↔ us = [] := by
  unfold XVl; exact Iff.rfl
theorem XVl_cons {K : PySem.W.Frag} {ι : Io} {H : Hp} {x : Mv} {xs : List Mv} {us : List V} : XVl K ι H (x :: xs) us ↔ ∃ u r, us = u :: r ∧ XC K ι H x u ∧ XVl K ι H xs r := by
  rw [XVl]; exact Iff.rfl
theorem XVl_iff {K : PySem.W.Frag} {ι : Io} {H : Hp} : ∀ {xs : List Mv} {us : List V}, XVl K ι H xs us ↔ Paired (XC K ι H) xs us
  | [], us => ⟨fun h => by rw [XVl_nil.mp h]; exact .nil, fun h => by cases h; exact XVl_nil.mpr rfl⟩
  | x :: xs, us => ⟨fun h => by
      obtain ⟨u, r, rfl, h1, h2⟩ := XVl_cons.mp h
      exact .cons h1 (XVl_iff.mp h2), fun h => by
      cases h with
      | cons r t => exact XVl_cons.mpr ⟨_, _, rfl, r, XVl_iff.mpr t⟩⟩
abbrev XVs (K : PySem.W.Frag) (ι : Io) (H : Hp) : List Mv → List V → Prop := Paired (XV K ι H)
abbrev XCs (K : PySem.W.Frag) (ι : Io) (H : Hp) : List Mv → List V → Prop := Paired (XC K ι H)
/-- a is the code table of the def n, whose lambdas bear the name q -/
def LamTab (K : PySem.W.Frag) (a : Addr) (n x q : Str) : Prop := ∃ (f c : Addr) (oc : Value) (od : Option Addr) (fd : FuncData) (osl : Array (Option Value)) (o : Obj) (us : Array Value),
  PySem.W.nsIn K mainGlobals n = some (some (.ref f)) ∧ K.lookup f = some ⟨oc, od, .func fd, osl⟩ ∧ fd.code = .ref c ∧ K.lookup c = some o ∧ o.data = .fields us ∧ us[11]? = some (.ref a) ∧ q = fd.qualname ++ ".<locals>." ++ x
def OV (K : PySem.W.Frag) (ι : Io) (H : Hp) (a : Addr) : Mo → Prop
  | .lst xs => ∃ vs, H a = some (.lst vs) ∧ XCs K ι H xs vs
  | .tup xs => ∃ vs, (∃ o : Obj, o.dict = none ∧ H a = some (.frz o (.tup vs))) ∧ XCs K ι H xs vs
  | .dct kvs => ∃ kv, H a = some (.dK kv) ∧ Paired (fun (p : Key × Mv) (q : Key × V) => p.1 = q.1 ∧ XC K ι H p.2 q.2) kvs kv
  | .ins C fs => ∃ Ca dx fv, H a = some (.ins Ca dx fv) ∧ PySem.W.nsIn K mainGlobals C = some (some (.ref Ca)) ∧ Paired (fun (p : Str × Mv) (q : Str × V) => p.1 = q.1 ∧ XC K ι H p.2 q.2) fs fv
  | .gone => True
  | .tab n x => ∃ q, LamTab K a n x q ∧ LamX.TabS H a q
structure Rl (K : PySem.W.Frag) (ι : Io) (S : Sg) (H : Hp) : Prop where
  flag : ι.map (·.1) = S.map (·.1)
  nd : (ι.map (·.2)).Nodup
  live : ∀ p ∈ ι, H p.2 ≠ none
  cell : ∀ (i : Nat) (b : Bool) (o : Mo) (a : Addr), S[i]? = some (b, o) → ι[i]? = some (b, a) → OV K ι H a o
/-- the store grew, what never changes stays, what is no cell stays -/
structure Sub (ι : Io) (H : Hp) (ι' : Io) (H' : Hp) : Prop where
  pre : ∃ t, ι' = ι ++ t ∧ ∀ q ∈ t, H q.2 = none
  grow : Grow H H'
  keep : ∀ p o, H p = some o → (∀ q ∈ ι, q.2 ≠ p) → H' p = some o
  live : ∀ p, H p ≠ none → H' p ≠ none
theorem Sub.same {ι : Io} {H H' : Hp} (g : Grow H H') (k : ∀ p o, H p = some o → (∀ q ∈ ι, q.2 ≠ p) → H' p = some o) (l : ∀ p, H p ≠ none → H' p ≠ none) : Sub ι H ι H' :=
  ⟨⟨[], (List.append_nil _).symm, fun _ h => nomatch h⟩, g, k, l⟩
theorem Sub.refl (ι : Io) (H : Hp) : Sub ι H ι H := Sub.same (Grow.refl H) (fun _ _ h _ => h) fun _ h => h
theorem Sub.trans {ι ι1 ι2 : Io} {H H1 H2 : Hp} (a : Sub ι H ι1 H1) (b : Sub ι1 H1 ι2 H2) : Sub ι H ι2 H2 := by
  obtain ⟨t, rfl, ht⟩ := a.pre
  obtain ⟨u, rfl, hu⟩ := b.pre
  refine ⟨⟨t ++ u, by rw [List.append_assoc], fun q hq => ?_⟩, a.grow.trans b.grow, fun p o h hp => ?_, fun p h => b.live p (a.live p h)⟩
  · rcases List.mem_append.mp hq with hq | hq
    · exact ht q hq
    · cases e : H q.2 with
      | none => rfl
      | some o => exact (a.live q.2 (by rw [e]; exact fun z => nomatch z) (hu q hq)).elim
  · refine b.keep p o (a.keep p o h hp) fun q hq => ?_
    rcases List.mem_append.mp hq with hq | hq
    · exact hp q hq
    · exact fun z => by rw [← z, ht q hq] at h; cases h
theorem Sub.at {ι ι' : Io} {H H' : Hp} (s : Sub ι H ι' H') {i : Nat} {p : Bool × Addr} (h : ι[i]? = some p) : ι'[i]? = some p := by
  obtain ⟨t, rfl, _⟩ := s.pre
  rw [List.getElem?_append_left (List.getElem?_eq_some_iff.mp h).1]; exact h
theorem Sub.new {ι : Io} {H : Hp} {p : Addr} {u : HO} (hp : H p = none) : Sub ι H ι (upd H p u) :=
  Sub.same (Grow.new hp) (fun q o e _ => by rw [upd_ne (ne_of_none e hp)]; exact e) fun q h => by
    by_cases e : q = p
    · rw [e, upd_same]; exact fun z => nomatch z
    · rw [upd_ne e]; exact h
theorem Sub.put {ι : Io} {H : Hp} {p : Addr} {b : Bool} {u v : HO} (hi : (b, p) ∈ ι) (hv : H p = some v) (m : Mut (some v)) (nx : ¬ Kst p v := by (intro h; rcases h with ⟨_, h⟩ | ⟨_, h⟩ <;> first | (unfold LamX.CodeO at h; cases h) | (unfold FobO at h; cases h))) : Sub ι H ι (upd H p u) :=
  Sub.same (Grow.write hv m nx) (fun q o e ne => by rw [upd_ne (fun z => ne _ hi z.symm)]; exact e) fun q h => by
    by_cases e : q = p
    · rw [e, upd_same]; exact fun z => nomatch z
    · rw [upd_ne e]; exact h
/-- a fresh thing is changed again -/
theorem Sub.again {ι ι' : Io} {H H' : Hp} {p : Addr} {u v : HO} (s : Sub ι H ι' H') (h0 : H p = none) (hv : H' p = some v) : Sub ι H ι' (upd H' p u) := by
  have ne : ∀ q o, H q = some o → q ≠ p := fun q o e z => by rw [z, h0] at e; cases e
  refine ⟨s.pre, ⟨fun a xs e => ?_, fun a o w e => ?_, fun a o e => ?_, fun a o k e => ?_⟩, fun q o e hq => ?_, fun q h => ?_⟩
  · rw [upd_ne (ne a _ e)]; exact s.grow.tup a xs e
  · rw [upd_ne (ne a _ e)]; exact s.grow.frz a o w e
  · rw [upd_ne (ne a _ e)]; exact s.grow.xd a o e
  · rw [upd_ne (ne a _ e)]; exact s.grow.cod a o k e
  · rw [upd_ne (ne q _ e)]; exact s.keep q o e hq
  · by_cases e : q = p
    · rw [e, upd_same]; exact fun z => nomatch z
    · rw [upd_ne e]; exact s.live q h
/-- a fresh thing becomes a cell -/
theorem Sub.cell {ι ι' : Io} {H H' : Hp} {p : Addr} {b : Bool} (s : Sub ι H ι' H') (h0 : H p = none) : Sub ι H (ι' ++ [(b, p)]) H' := by
  obtain ⟨t, rfl, ht⟩ := s.pre
  refine ⟨⟨t ++ [(b, p)], by rw [List.append_assoc], fun q hq => ?_⟩, s.grow, s.keep, s.live⟩
  rcases List.mem_append.mp hq with hq | hq
  · exact ht q hq
  · have : q = (b, p) := by simpa using hq
    rw [this]; exact h0
variable {ι ι' : Io} {S S' : Sg}
mutual
theorem XV.grown (hp : ∃ t, ι' = ι ++ t) (g : Grow H H') : ∀ (x : Mv) {v : V}, XV K ι H x v → XV K ι' H' x v
  | .d _, _, h => by unfold XV at h ⊢; exact FD.mono g h
  | .ref i, _, h => by
    unfold XV at h ⊢
    obtain ⟨a, h, e⟩ := h
    exact ⟨a, by obtain ⟨t, rfl⟩ := hp; rw [List.getElem?_append_left (List.getElem?_eq_some_iff.mp h).1]; exact h, e⟩
  | .own i, _, h => by
    unfold XV at h ⊢
    obtain ⟨a, h, e⟩ := h
    exact ⟨a, by obtain ⟨t, rfl⟩ := hp; rw [List.getElem?_append_left (List.getElem?_eq_some_iff.mp h).1]; exact h, e⟩
  | .adr _, _, h => by unfold XV at h ⊢; exact h
  | .ty _, _, h => by unfold XV at h ⊢; exact h
  | .fn _, _, h => by unfold XV at h ⊢; exact h
  | .exc a d c ns xs, _, h => by
    rw [XV] at h ⊢
    obtain ⟨e1, h⟩ := h
    refine ⟨e1, ?_⟩
    rcases h with h | ⟨dd, us, d1, d2, d3, d4⟩
    · exact .inl h
    · exact .inr ⟨dd, us, d1, g.xd _ _ d2, d3, XVl.grown hp g xs d4⟩
  | .tup xs, _, h => by
    rw [XV] at h ⊢
    obtain ⟨a, vs, e1, e2, e3⟩ := h
    exact ⟨a, vs, e1, e2.mono g, XVl.grown hp g xs e3⟩
  | .frl xs, _, h => by
    rw [XV] at h ⊢
    obtain ⟨a, vs, e1, e2, e3⟩ := h
    exact ⟨a, vs, e1, e2.mono g, XVl.grown hp g xs e3⟩
  | .tpl xs, _, h => by
    rw [XV] at h ⊢
    obtain ⟨a, vs, e1, e2, e3⟩ := h
    exact ⟨a, vs, e1, SqT_mono g e2, XVl.grown hp g xs e3⟩
  | .cap f es us xs, _, h => by
    rw [XV] at h ⊢
    obtain ⟨e1, e2, e3⟩ := h
    exact ⟨e1, fun p hp => ⟨(e2 p hp).1, g.cod _ _ (e2 p hp).1 (e2 p hp).2⟩, XVl.grown hp g xs e3⟩
  | .ins C ns xs, _, h => by
    rw [XV] at h ⊢
    obtain ⟨a, o, Ca, dx, us, e1, e2, e3, e4, e5⟩ := h
    exact ⟨a, o, Ca, dx, us, e1, g.frz _ _ _ e2, e3, e4, XVl.grown hp g xs e5⟩
theorem XVl.grown (hp : ∃ t, ι' = ι ++ t) (g : Grow H H') : ∀ (xs : List Mv) {vs : List V}, XVl K ι H xs vs → XVl K ι' H' xs vs
  | [], _, h => XVl_nil.mpr (XVl_nil.mp h)
  | x :: xs, _, h => by
    obtain ⟨u, r, e, h1, h2⟩ := XVl_cons.mp h
    exact XVl_cons.mpr ⟨u, r, e, ⟨h1.1, XV.grown hp g x h1.2⟩, XVl.grown hp g xs h2⟩
end
theorem Sub.pre' {ι ι' : Io} {H H' : Hp} (s : Sub ι H ι' H') : ∃ t, ι' = ι ++ t := let ⟨t, e, _⟩ := s.pre; ⟨t, e⟩
theorem XV.mono (s : Sub ι H ι' H') {x : Mv} {v : V} (h : XV K ι H x v) : XV K ι' H' x v := XV.grown s.pre' s.grow x h
theorem XC.mono (s : Sub ι H ι' H') {x : Mv} {v : V} (h : XC K ι H x v) : XC K ι' H' x v := ⟨h.1, h.2.mono s⟩
theorem XVs.mono (s : Sub ι H ι' H') {xs : List Mv} {vs : List V} (h : XVs K ι H xs vs) : XVs K ι' H' xs vs := L2.Paired.mapP h fun _ _ r => r.mono s
theorem XCs.mono (s : Sub ι H ι' H') {xs : List Mv} {vs : List V} (h : XCs K ι H xs vs) : XCs K ι' H' xs vs := L2.Paired.mapP h fun _ _ r => r.mono s
theorem XCs.grown (hp : ∃ t, ι' = ι ++ t) (g : Grow H H') {xs : List Mv} {vs : List V} (h : XCs K ι H xs vs) : XCs K ι' H' xs vs := L2.Paired.mapP h fun x _ r => ⟨r.1, XV.grown hp g x r.2⟩
theorem XCs.xv {xs : List Mv} {vs : List V} (h : XCs K ι H xs vs) : XVs K ι H xs vs := L2.Paired.mapP h fun _ _ r => r.2
/-- contents carried over -/
theorem OV.grown (hp : ∃ t, ι' = ι ++ t) (g : Grow H H') {a : Addr} {o : Mo} (e : H' a = H a) (h : OV K ι H a o) : OV K ι' H' a o := by
  cases o with
  | lst xs => obtain ⟨vs, e1, r⟩ := h; exact ⟨vs, e.trans e1, XCs.grown hp g r⟩
  | tup xs => obtain ⟨vs, ⟨o, hd, e1⟩, r⟩ := h; exact ⟨vs, ⟨o, hd, e.trans e1⟩, XCs.grown hp g r⟩
  | dct kvs => obtain ⟨kv, e1, r⟩ := h; exact ⟨kv, e.trans e1, L2.Paired.mapP r fun p _ q => ⟨q.1, q.2.1, XV.grown hp g p.2 q.2.2⟩⟩
  | ins C fs => obtain ⟨Ca, dx, fv, e1, e2, r⟩ := h; exact ⟨Ca, dx, fv, e.trans e1, e2, L2.Paired.mapP r fun p _ q => ⟨q.1, q.2.1, XV.grown hp g p.2 q.2.2⟩⟩
  | gone => trivial
  | tab n x =>
    obtain ⟨q, h1, ps, h2, h3, h4⟩ := h
    refine ⟨q, h1, ps, e.trans h2, h3, fun pos cv hc => ?_⟩
    obtain ⟨c, e1, e2⟩ := h4 pos cv hc
    exact ⟨c, e1, g.cod _ _ (.inl ⟨_, rfl⟩) e2⟩
theorem OV.carry (s : Sub ι H ι' H') {a : Addr} {o : Mo} (e : H' a = H a) (h : OV K ι H a o) : OV K ι' H' a o := OV.grown s.pre' s.grow e h
def LR (K : PySem.W.Frag) (ι : Io) (H : Hp) (ρ : Rho) (σ : L2.St) : Prop :=
  ρ.length = σ.length ∧ ∀ (i : Nat) (x : Mv), ρ[i]? = some (some x) → ∃ v, σ[i]? = some (some v) ∧ XV K ι H x v
theorem LR.mono (s : Sub ι H ι' H') {ρ : Rho} {σ : L2.St} (h : LR K ι H ρ σ) : LR K ι' H' ρ σ :=
  ⟨h.1, fun i x e => let ⟨v, e1, r⟩ := h.2 i x e; ⟨v, e1, r.mono s⟩⟩
theorem LR.set {ρ : Rho} {σ : L2.St} (h : LR K ι H ρ σ) (i : Nat) {x : Mv} {v : V} (r : XV K ι H x v) : LR K ι H (ρ.set i (some x)) (σ.set i (some v)) := by
  refine ⟨by rw [List.length_set, List.length_set]; exact h.1, fun j y e => ?_⟩
  by_cases hj : i = j
  · subst hj
    by_cases hl : i < ρ.length
    · rw [List.getElem?_set_self hl] at e
      cases e
      exact ⟨v, by rw [List.getElem?_set_self (h.1 ▸ hl)], r⟩
    · rw [List.getElem?_eq_none (by rw [List.length_set]; omega)] at e; cases e
  · rw [List.getElem?_set_ne hj] at e
    obtain ⟨u, e1, r1⟩ := h.2 j y e
    exact ⟨u, by rw [List.getElem?_set_ne hj]; exact e1, r1⟩
def ExR (K : PySem.W.Frag) (ι : Io) (H : Hp) (e : Ex) (d : Option Addr) : Prop :=
  (e.ns = [] ∧ ((∃ T, e.cls = .bi T) ∨ d = none)) ∨ (e.ns ≠ [] ∧ ∃ dd us, d = some dd ∧ H dd = some (.xd (e.ns.zip us)) ∧ e.ns.length = e.vs.length ∧ XVl K ι H e.vs us)
theorem Rl.len (h : Rl K ι S H) : ι.length = S.length := by
  have := congrArg List.length h.flag
  simpa using this
theorem Rl.at (h : Rl K ι S H) {i : Nat} {b : Bool} {o : Mo} (e : S[i]? = some (b, o)) : ∃ a, ι[i]? = some (b, a) ∧ OV K ι H a o := by
  have h1 : (ι.map (·.1))[i]? = some b := by rw [h.flag, List.getElem?_map, e]; rfl
  rw [List.getElem?_map] at h1
  cases q : ι[i]? with
  | none => rw [q] at h1; cases h1
  | some p =>
    obtain ⟨b', a⟩ := p
    rw [q] at h1
    cases h1
    exact ⟨a, rfl, h.cell i b' o a e q⟩
/-- a new cell -/
theorem Rl.push (h : Rl K ι S H) {p : Addr} {u : HO} {b : Bool} {o : Mo} (hp : H p = none) (hu : OV K (ι ++ [(b, p)]) (upd H p u) p o) :
    Rl K (ι ++ [(b, p)]) (S ++ [(b, o)]) (upd H p u) ∧ Sub ι H (ι ++ [(b, p)]) (upd H p u) := by
  have sb : Sub ι H (ι ++ [(b, p)]) (upd H p u) := (Sub.new hp).cell hp
  refine ⟨⟨by simp [h.flag], ?_, fun q hq => ?_, fun i c w a e1 e2 => ?_⟩, sb⟩
  · rw [List.map_append]
    refine List.nodup_append.mpr ⟨h.nd, by simp, fun x hx y hy e => ?_⟩
    have hy' : y = p := by simpa using hy
    obtain ⟨q, hq, rfl⟩ := List.mem_map.mp hx
    exact h.live q hq (by rw [e, hy', hp])
  · rcases List.mem_append.mp hq with hq | hq
    · have : q.2 ≠ p := fun z => h.live q hq (by rw [z]; exact hp)
      rw [upd_ne this]; exact h.live q hq
    · have : q = (b, p) := by simpa using hq
      rw [this, upd_same]; exact fun z => by cases z
  · by_cases hi : i < S.length
    · rw [List.getElem?_append_left hi] at e1
      rw [List.getElem?_append_left (by rw [h.len]; exact hi)] at e2
      refine OV.carry sb ?_ (h.cell i c w a e1 e2)
      have hm : (c, a) ∈ ι := List.mem_of_getElem? e2
      exact upd_ne fun z => h.live _ hm (by rw [show ((c, a) : Bool × Addr).2 = a from rfl, z]; exact hp)
    · have hl : (S ++ [(b, o)]).length = S.length + 1 := by simp
      have hlt := (List.getElem?_eq_some_iff.mp e1).1
      have ei : i = S.length := by omega
      subst ei
      rw [List.getElem?_append_right (Nat.le_refl _)] at e1
      rw [List.getElem?_append_right (by rw [h.len]; exact Nat.le_refl _), h.len] at e2
      simp at e1 e2
      obtain ⟨rfl, rfl⟩ := e1
      obtain ⟨_, rfl⟩ := e2
      exact hu
/-- something new beside the store -/
theorem Rl.beside (h : Rl K ι S H) {p : Addr} {u : HO} (hp : H p = none) : Rl K ι S (upd H p u) ∧ Sub ι H ι (upd H p u) := by
  have sb : Sub ι H ι (upd H p u) := Sub.new hp
  have ne : ∀ q ∈ ι, q.2 ≠ p := fun q hq z => h.live q hq (by rw [z]; exact hp)
  refine ⟨⟨h.flag, h.nd, fun q hq => by rw [upd_ne (ne q hq)]; exact h.live q hq, fun i c w a e1 e2 => ?_⟩, sb⟩
  exact OV.carry sb (upd_ne (ne _ (List.mem_of_getElem? e2))) (h.cell i c w a e1 e2)
/-- what is tracked and no cell of the store changes -/
theorem Rl.aside (h : Rl K ι S H) {p : Addr} {u v : HO} (hp : H p = some v) (m : Mut (some v)) (ne : ∀ q ∈ ι, q.2 ≠ p) (nx : ¬ Kst p v := by (intro h; rcases h with ⟨_, h⟩ | ⟨_, h⟩ <;> first | (unfold LamX.CodeO at h; cases h) | (unfold FobO at h; cases h))) : Rl K ι S (upd H p u) := by
  refine ⟨h.flag, h.nd, fun q hq => by rw [upd_ne (ne q hq)]; exact h.live q hq, fun i c w a e1 e2 => ?_⟩
  exact OV.grown ⟨[], (List.append_nil _).symm⟩ (Grow.write hp m nx) (upd_ne (ne _ (List.mem_of_getElem? e2))) (h.cell i c w a e1 e2)
theorem nodup_at {ι : Io} (nd : (ι.map (·.2)).Nodup) {i j : Nat} {b c : Bool} {a : Addr} (hi : ι[i]? = some (b, a)) (hj : ι[j]? = some (c, a)) : i = j := by
  have h1 := List.getElem?_eq_some_iff.mp hi
  have h2 := List.getElem?_eq_some_iff.mp hj
  obtain ⟨l1, e1⟩ := h1
  obtain ⟨l2, e2⟩ := h2
  have n1 : i < (ι.map (·.2)).length := by simpa using l1
  have n2 : j < (ι.map (·.2)).length := by simpa using l2
  refine (List.getElem_inj (h₀ := n1) (h₁ := n2) nd).mp ?_
  rw [List.getElem_map, List.getElem_map, e1, e2]
/-- a cell is written -/
theorem Rl.put (h : Rl K ι S H) {i : Nat} {b : Bool} {o : Mo} {a : Addr} {u v : HO} (hS : ∃ o', S[i]? = some (b, o')) (hi : ι[i]? = some (b, a)) (hv : H a = some v) (m : Mut (some v))
    (ho : OV K ι (upd H a u) a o) (nx : ¬ Kst a v := by (intro h; rcases h with ⟨_, h⟩ | ⟨_, h⟩ <;> first | (unfold LamX.CodeO at h; cases h) | (unfold FobO at h; cases h))) : Rl K ι (S.set i (b, o)) (upd H a u) ∧ Sub ι H ι (upd H a u) := by
  have sb : Sub ι H ι (upd H a u) := Sub.put (List.mem_of_getElem? hi) hv m nx
  obtain ⟨o', hS⟩ := hS
  have hl := (List.getElem?_eq_some_iff.mp hS).1
  refine ⟨⟨?_, h.nd, fun q hq => ?_, fun j c w x e1 e2 => ?_⟩, sb⟩
  · rw [h.flag]
    refine List.ext_getElem? fun j => ?_
    rw [List.getElem?_map, List.getElem?_map]
    by_cases hj : i = j
    · subst hj
      rw [List.getElem?_set_self hl, hS]; rfl
    · rw [List.getElem?_set_ne hj]
  · by_cases hq2 : q.2 = a
    · rw [hq2, upd_same]; exact fun z => by cases z
    · rw [upd_ne hq2]; exact h.live q hq
  · by_cases hj : i = j
    · subst hj
      rw [List.getElem?_set_self hl] at e1
      rw [hi] at e2
      cases e1; cases e2
      exact ho
    · rw [List.getElem?_set_ne hj] at e1
      refine OV.carry sb (upd_ne fun z => ?_) (h.cell j c w x e1 e2)
      subst z
      exact hj (nodup_at h.nd hi e2)
/-- a cell is given up -/
theorem Rl.drop (h : Rl K ι S H) {i : Nat} {b : Bool} (hS : ∃ o', S[i]? = some (b, o')) : Rl K ι (S.set i (b, .gone)) H := by
  obtain ⟨o', hS⟩ := hS
  have hl := (List.getElem?_eq_some_iff.mp hS).1
  refine ⟨?_, h.nd, h.live, fun j c w x e1 e2 => ?_⟩
  · rw [h.flag]
    refine List.ext_getElem? fun j => ?_
    rw [List.getElem?_map, List.getElem?_map]
    by_cases hj : i = j
    · subst hj
      rw [List.getElem?_set_self hl, hS]; rfl
    · rw [List.getElem?_set_ne hj]
  · by_cases hj : i = j
    · subst hj
      rw [List.getElem?_set_self hl] at e1
      cases e1
      trivial
    · rw [List.getElem?_set_ne hj] at e1
      exact h.cell j c w x e1 e2
mutual
theorem XV.trim {t : Io} (ht : ∀ p ∈ t, p.1 = true) : ∀ (x : Mv) {v : V}, x.free = true → XV K (ι ++ t) H x v → XV K ι H x v
  | .d _, _, _, h => by unfold XV at h ⊢; exact h
  | .ref i, _, _, h => by
    unfold XV at h ⊢
    obtain ⟨a, h, e⟩ := h
    refine ⟨a, ?_, e⟩
    by_cases hi : i < ι.length
    · rw [List.getElem?_append_left hi] at h; exact h
    · rw [List.getElem?_append_right (by omega)] at h
      have := ht _ (List.mem_of_getElem? h)
      cases this
  | .own _, _, hf, _ => nomatch hf
  | .adr _, _, _, h => by unfold XV at h ⊢; exact h
  | .ty _, _, _, h => by unfold XV at h ⊢; exact h
  | .fn _, _, _, h => by unfold XV at h ⊢; exact h
  | .exc a d c ns xs, _, _, h => by
    rw [XV] at h ⊢
    obtain ⟨e1, h⟩ := h
    refine ⟨e1, ?_⟩
    rcases h with h | ⟨dd, us, d1, d2, d3, d4⟩
    · exact .inl h
    · exact .inr ⟨dd, us, d1, d2, d3, XVl.trim ht xs d4⟩
  | .tup xs, _, _, h => by
    rw [XV] at h ⊢
    obtain ⟨a, vs, e1, e2, e3⟩ := h
    exact ⟨a, vs, e1, e2, XVl.trim ht xs e3⟩
  | .frl xs, _, _, h => by
    rw [XV] at h ⊢
    obtain ⟨a, vs, e1, e2, e3⟩ := h
    exact ⟨a, vs, e1, e2, XVl.trim ht xs e3⟩
  | .tpl xs, _, _, h => by
    rw [XV] at h ⊢
    obtain ⟨a, vs, e1, e2, e3⟩ := h
    exact ⟨a, vs, e1, e2, XVl.trim ht xs e3⟩
  | .cap f es us xs, _, _, h => by
    rw [XV] at h ⊢
    obtain ⟨e1, e2, e3⟩ := h
    exact ⟨e1, e2, XVl.trim ht xs e3⟩
  | .ins C ns xs, _, _, h => by
    rw [XV] at h ⊢
    obtain ⟨a, o, Ca, dx, us, e1, e2, e3, e4, e5⟩ := h
    exact ⟨a, o, Ca, dx, us, e1, e2, e3, e4, XVl.trim ht xs e5⟩
theorem XVl.trim {t : Io} (ht : ∀ p ∈ t, p.1 = true) : ∀ (xs : List Mv) {vs : List V}, XVl K (ι ++ t) H xs vs → XVl K ι H xs vs
  | [], _, h => XVl_nil.mpr (XVl_nil.mp h)
  | x :: xs, _, h => by
    obtain ⟨u, r, e, h1, h2⟩ := XVl_cons.mp h
    exact XVl_cons.mpr ⟨u, r, e, ⟨h1.1, XV.trim ht x h1.1 h1.2⟩, XVl.trim ht xs h2⟩
end
theorem Rl.trim {t : Io} {T : Sg} (h : Rl K (ι ++ t) (S ++ T) H) (hl : ι.length = S.length) (hT : ∀ p ∈ T, p.1 = true) : Rl K ι S H := by
  have hf : ι.map (·.1) = S.map (·.1) ∧ t.map (·.1) = T.map (·.1) := by
    have e := h.flag
    rw [List.map_append, List.map_append] at e
    exact List.append_inj e (by simpa using hl)
  have ht : ∀ p ∈ t, p.1 = true := fun p hp => by
    have : p.1 ∈ T.map (·.1) := by rw [← hf.2]; exact List.mem_map_of_mem hp
    obtain ⟨q, hq, e⟩ := List.mem_map.mp this
    rw [← e]; exact hT q hq
  have tr : ∀ {x : Mv} {v : V}, XC K (ι ++ t) H x v → XC K ι H x v := fun {x v} r => ⟨r.1, XV.trim ht x r.1 r.2⟩
  refine ⟨hf.1, ?_, fun p hp => h.live p (List.mem_append_left _ hp), fun i b o a e1 e2 => ?_⟩
  · have := h.nd
    rw [List.map_append] at this
    exact (List.nodup_append.mp this).1
  · have i1 := (List.getElem?_eq_some_iff.mp e1).1
    have i2 := (List.getElem?_eq_some_iff.mp e2).1
    have q := h.cell i b o a (by rw [List.getElem?_append_left i1]; exact e1) (by rw [List.getElem?_append_left i2]; exact e2)
    cases o with
    | lst xs => obtain ⟨vs, e, r⟩ := q; exact ⟨vs, e, L2.Paired.mapP r fun _ _ z => tr z⟩
    | tup xs => obtain ⟨vs, e, r⟩ := q; exact ⟨vs, e, L2.Paired.mapP r fun _ _ z => tr z⟩
    | dct kvs => obtain ⟨kv, e, r⟩ := q; exact ⟨kv, e, L2.Paired.mapP r fun _ _ z => ⟨z.1, tr z.2⟩⟩
    | ins C fs => obtain ⟨Ca, dx, fv, e, e2, r⟩ := q; exact ⟨Ca, dx, fv, e, e2, L2.Paired.mapP r fun _ _ z => ⟨z.1, tr z.2⟩⟩
    | gone => trivial
    | tab n x => exact q
end
section
variable {X : Cx} {pins : List (Addr × Obj)} {σ : L2.St} {H : Hp} {s : Shared}
/-- a new tuple, its object told -/
theorem laidT {h' : Heap} {t' : Nat} {a : Addr} {us : Array Value} {xs : List V} (I : Inv X pins σ H s) (k : ∀ b o, s.heap.get? b = some o → h'.get? b = some o) (ha : s.heap.objs.size ≤ a) (hg : h'.get? a = some { cls := .type "tuple", data := .seq us }) (r : Vals xs us.toList) (hz : xs.length ≤ sizeLine) :
    Inv X pins σ (upd H a (.frz { cls := .type "tuple", data := .seq us } (.tup xs))) { s with heap := h', toks := t' } :=
  I.laid (t' := t') k ha ⟨hg, hz, us.toList, r, ⟨_, hg, rfl, 0, by simp⟩⟩
end
end MM
end
section
set_option Elab.async false
set_option linter.all false
set_option maxRecDepth 100000
set_option maxHeartbeats 4000000
set_option autoImplicit false
namespace MM
open PySem PySem.Spec PyProof.Rows L2
section
variable {α β γ δ : Type}
def Post (R : Io → Hp → α → β → Prop) (K : PySem.W.Frag) (W : WX) (ι : Io) (σ : L2.St) (H : Hp) (Q : β → Hp → Prop) : Res α → Prop
  | .ok x S' => ∀ ι' H' v, Sub ι H ι' H' → Rl K ι' S' H' → R ι' H' x v → Q v H'
  | .exc e S' => ∀ ι' H' d, Sub ι H ι' H' → Rl K ι' S' H' → ExR K ι' H' e d → W (e.cls.val K) d σ H'
  | .bad => False
def tG (R : Io → Hp → α → β → Prop) (K : PySem.W.Frag) (W : WX) (m : Rho → Sg → Res α) : L2.St → Hp → (β → Hp → Prop) → Prop :=
  fun σ H Q => ∃ ι S ρ, LR K ι H ρ σ ∧ Rl K ι S H ∧ Post R K W ι σ H Q (m ρ S)
variable {R : Io → Hp → α → β → Prop} {R' : Io → Hp → γ → δ → Prop} {K : PySem.W.Frag} {W : WX} {ι ι1 : Io} {σ : L2.St} {H H1 : Hp} {S : Sg}
theorem Post.sub {Q : β → Hp → Prop} {r : Res α} (s : Sub ι H ι1 H1) (h : Post R K W ι σ H Q r) : Post R K W ι1 σ H1 Q r := by
  cases r with
  | ok x S' => exact fun ι' H' v s' => h ι' H' v (s.trans s')
  | exc e S' => exact fun ι' H' d s' => h ι' H' d (s.trans s')
  | bad => exact h
theorem step {Q : δ → Hp → Prop} {T : β → Hp → Prop} {m : Res α} {f : α → Sg → Res γ} (hp : Post R' K W ι σ H Q (m.bind f))
    (k : ∀ x v ι1 H1 S1, Sub ι H ι1 H1 → Rl K ι1 S1 H1 → R ι1 H1 x v → Post R' K W ι1 σ H1 Q (f x S1) → T v H1) : Post R K W ι σ H T m := by
  cases m with
  | ok x S' => exact fun ι' H' v s r x' => k x v ι' H' S' s r x' (hp.sub s)
  | exc e S' => exact hp
  | bad => exact hp
theorem Post.imp {Q T : β → Hp → Prop} {r : Res α} (h : Post R K W ι σ H Q r) (k : ∀ v H, Q v H → T v H) : Post R K W ι σ H T r := by
  cases r with
  | ok x S' => exact fun ι' H' v s r q => k _ _ (h ι' H' v s r q)
  | exc e S' => exact h
  | bad => exact h
end
abbrev RB : Io → Hp → Bool → Bool → Prop := fun _ _ b c => b = c
def PM (X : Cx) (W : WX) (e : Expr) (m : ME) : Prop := PE X e (tG (XV X.K) X.K W m)
def PB (X : Cx) (W : WX) (e : Expr) (m : MT) : Prop := PT X e (tG RB X.K W m)
def PWB (X : Cx) (W : WX) (e : Expr) (m : MT) : Prop := PW X e (tG RB X.K W m)
def PL (X : Cx) (W : WX) (es : List Expr) (m : MA) : Prop := PA X es (tG (XVs X.K) X.K W m)
theorem pe_imp {X : Cx} {e : Expr} {t t' : TE} (h : PE X e t) (i : ∀ σ H Q, t' σ H Q → t σ H Q) : PE X e t' := ⟨fun pins s σ H Q I q => h.run pins s σ H Q I (i _ _ _ q)⟩
theorem pt_imp {X : Cx} {e : Expr} {t t' : TT} (h : PT X e t) (i : ∀ σ H Q, t' σ H Q → t σ H Q) : PT X e t' := ⟨fun pins s σ H Q I q => h.run pins s σ H Q I (i _ _ _ q)⟩
theorem pw_imp {X : Cx} {e : Expr} {t t' : TT} (h : PW X e t) (i : ∀ σ H Q, t' σ H Q → t σ H Q) : PW X e t' := ⟨fun whole pins s σ H Q I q => h.run whole pins s σ H Q I (i _ _ _ q)⟩
theorem pa_imp {X : Cx} {e : List Expr} {t t' : TA} (h : PA X e t) (i : ∀ σ H Q, t' σ H Q → t σ H Q) : PA X e t' := ⟨fun pos pins s σ H Q I q => h.run pos pins s σ H Q I (i _ _ _ q)⟩
theorem ps_imp {X : Cx} {e : Stmt} {t t' : TS} (h : PS X e t) (i : ∀ D σ H, t' D σ H → t D σ H) : PS X e t' := ⟨fun pins s σ H Q I q => h.run pins s σ H Q I (i _ _ _ q)⟩
theorem pss_imp {X : Cx} {e : List Stmt} {t t' : TS} (h : PSs X e t) (i : ∀ D σ H, t' D σ H → t D σ H) : PSs X e t' := ⟨fun pins s σ H Q I q => h.run pins s σ H Q I (i _ _ _ q)⟩
theorem OpR.imp {X : Cx} {f : Value → Value → Sem Value} {r r' : R2} (h : OpR X f r) (i : ∀ x y H Q, r' x y H Q → r x y H Q) : OpR X f r' := fun pins s σ H x y v u Q I rx ry q => h pins s σ H x y v u Q I rx ry (i _ _ _ _ q)
inductive Nw where
  | val (z : Mv) | lst (xs : List Mv) | tup (xs : List Mv)
inductive Bi where
  | frz | ref | own
def allD : List Mv → Option (List PyData)
  | [] => some []
  | .d x :: r => (allD r).map (x :: ·)
  | _ :: _ => none
def frees (xs : List Mv) : Bool := xs.all (·.free)
def bear (b : Bi) (n : Nw) (S : Sg) : Res Mv :=
  match n with
  | .val z => .ok z S
  | .lst xs =>
    match b with
    | .frz => match allD xs with | some ds => .ok (.d (.list ds)) S | none => .ok (.frl xs) S
    | .ref => .ok (.ref S.length) (S ++ [(false, .lst xs)])
    | .own => .ok (.own S.length) (S ++ [(true, .lst xs)])
  | .tup xs => match allD xs with | some ds => .ok (.d (.tuple ds)) S | none => .ok (.tup xs) S
def Raw (K : PySem.W.Frag) (ι : Io) (H : Hp) (Q : VK) : Nw → Prop
  | .val z => ∀ w, XV K ι H z w → Q w H
  | .lst xs => ∀ vs p, XCs K ι H xs vs → H p = none → Q (.ref p) (upd H p (.lst vs))
  | .tup xs => ∀ vs p, XCs K ι H xs vs → H p = none → ∀ o : Obj, o.dict = none → Q (.ref p) (upd H p (.frz o (.tup vs)))
def Qf (b : Bi) (Q : VK) : VK := fun v H => match b with
  | .frz => Q v H ∨ ∃ a u, v = .ref a ∧ H a = some u ∧ Mut (some u) ∧ ∀ o, Q v (upd H a (.frz o u))
  | _ => Q v H
theorem pe_b {X : Cx} {e : Expr} {t : TE} (b : Bi) (h : PE X e t) : PE X e (fun σ H Q => t σ H (Qf b Q)) := by
  cases b with
  | frz =>
    refine ⟨fun pins s σ H Q I q => thn (h.run pins s σ H _ I q) fun v s1 ⟨x, H1, I1, r, q⟩ => ?_⟩
    rcases q with q | ⟨a, u, rfl, ha, mu, q⟩
    · exact ⟨x, H1, I1, r, q⟩
    · obtain ⟨od, I2⟩ := I1.lock ha mu
      exact ⟨_, _, I2, r, q od⟩
  | ref => exact h
  | own => exact h
section
variable {K : PySem.W.Frag} {ι : Io} {H : Hp} {S : Sg}
theorem allD_FDs {xs : List Mv} {ds : List PyData} {vs : List V} (h : XCs K ι H xs vs) (e : allD xs = some ds) : FDs K H ds vs := by
  induction h generalizing ds with
  | nil => cases e; exact .nil
  | @cons x v xs vs r t ih =>
    cases x with
    | d y =>
      simp only [allD, Option.map_eq_some_iff] at e
      obtain ⟨r', e1, rfl⟩ := e
      exact .cons r.2 (ih e1)
    | ref i => cases e
    | _ => cases e
/-- something fresh beside the store is taken into it -/
theorem Rl.adopt (h : Rl K ι S H) {p : Addr} {b : Bool} {o : Mo} (hp : H p ≠ none) (hq : ∀ q ∈ ι, q.2 ≠ p) (hu : OV K (ι ++ [(b, p)]) H p o) : Rl K (ι ++ [(b, p)]) (S ++ [(b, o)]) H := by
  refine ⟨by simp [h.flag], ?_, fun q hq2 => ?_, fun i c w a e1 e2 => ?_⟩
  · rw [List.map_append]
    refine List.nodup_append.mpr ⟨h.nd, by simp, fun x hx y hy e => ?_⟩
    have hy' : y = p := by simpa using hy
    obtain ⟨q, hq2, rfl⟩ := List.mem_map.mp hx
    exact hq q hq2 (e.trans hy')
  · rcases List.mem_append.mp hq2 with hq2 | hq2
    · exact h.live q hq2
    · have : q = (b, p) := by simpa using hq2
      rw [this]; exact hp
  · by_cases hi : i < S.length
    · rw [List.getElem?_append_left hi] at e1
      rw [List.getElem?_append_left (by rw [h.len]; exact hi)] at e2
      exact OV.grown ⟨_, rfl⟩ (Grow.refl H) rfl (h.cell i c w a e1 e2)
    · have hlt := (List.getElem?_eq_some_iff.mp e1).1
      have hl : (S ++ [(b, o)]).length = S.length + 1 := by simp
      have ei : i = S.length := by omega
      subst ei
      rw [List.getElem?_append_right (Nat.le_refl _)] at e1
      rw [List.getElem?_append_right (by rw [h.len]; exact Nat.le_refl _), h.len] at e2
      simp at e1 e2
      obtain ⟨rfl, rfl⟩ := e1
      obtain ⟨_, rfl⟩ := e2
      exact hu
theorem last_at {ι : Io} {x : Bool × Addr} {n : Nat} (h : ι.length = n) : (ι ++ [x])[n]? = some x := by
  subst h
  rw [List.getElem?_append_right (Nat.le_refl _), Nat.sub_self]; rfl
/-- what bear tells of a list that lies beside the store; ahead (ι0, H0) it was not there -/
theorem bear_lst {W : WX} {σ : L2.St} {Q : VK} {b : Bi} {xs : List Mv} {vs : List V} {p : Addr} {ι0 : Io} {H0 : Hp} (s0 : Sub ι0 H0 ι H) (h0 : H0 p = none) (hr : Rl K ι S H) (hp : H p = some (.lst vs)) (hq : ∀ q ∈ ι, q.2 ≠ p) (hx : XCs K ι H xs vs)
    (h : Post (XV K) K W ι0 σ H0 Q (bear b (.lst xs) S)) : Qf b Q (.ref p) H := by
  cases b with
  | frz =>
    refine .inr ⟨p, _, rfl, hp, trivial, fun o => ?_⟩
    simp only [bear] at h
    cases e : allD xs with
    | none =>
      rw [e] at h
      have r1 := hr.aside (u := .frz o (.lst vs)) hp trivial hq
      exact h _ _ _ (s0.again h0 hp) r1 (by
        rw [XV]
        exact ⟨p, vs, rfl, .inl ⟨o, upd_same⟩, XVl_iff.mpr (XCs.grown ⟨[], (List.append_nil _).symm⟩ (Grow.write hp trivial) hx)⟩)
    | some ds =>
      rw [e] at h
      have r1 := hr.aside (u := .frz o (.lst vs)) hp trivial hq
      exact h _ _ _ (s0.again h0 hp) r1 (.lst (.inl ⟨o, upd_same⟩) (FDs.mono (Grow.write hp trivial) (allD_FDs hx e)))
  | ref =>
    have r1 := hr.adopt (b := false) (o := .lst xs) (by rw [hp]; exact fun z => nomatch z) hq ⟨vs, hp, XCs.grown ⟨_, rfl⟩ (Grow.refl H) hx⟩
    exact h _ _ _ (s0.cell h0) r1 ⟨p, last_at hr.len, rfl⟩
  | own =>
    have r1 := hr.adopt (b := true) (o := .lst xs) (by rw [hp]; exact fun z => nomatch z) hq ⟨vs, hp, XCs.grown ⟨_, rfl⟩ (Grow.refl H) hx⟩
    exact h _ _ _ (s0.cell h0) r1 ⟨p, last_at hr.len, rfl⟩
theorem bear_raw {W : WX} {σ : L2.St} {Q : VK} {b : Bi} {n : Nw} (hr : Rl K ι S H) (h : Post (XV K) K W ι σ H Q (bear b n S)) : Raw K ι H (Qf b Q) n := by
  cases n with
  | val z =>
    intro w hz
    have q : Q w H := h _ _ _ (Sub.refl _ _) hr hz
    cases b with
    | frz => exact .inl q
    | ref => exact q
    | own => exact q
  | lst xs =>
    intro vs p hx hp
    obtain ⟨r1, s1⟩ := hr.beside (u := .lst vs) hp
    exact bear_lst s1 hp r1 upd_same (fun q hq z => hr.live q hq (by rw [z]; exact hp)) (XCs.mono s1 hx) h
  | tup xs =>
    intro vs p hx hp o hd
    have q : Q (.ref p) (upd H p (.frz o (.tup vs))) := by
      simp only [bear] at h
      cases e : allD xs with
      | none =>
        rw [e] at h
        obtain ⟨r1, s1⟩ := hr.beside (u := .frz o (.tup vs)) hp
        exact h _ _ _ s1 r1 (by
          rw [XV]
          exact ⟨p, vs, rfl, .inl ⟨o, hd, upd_same⟩, XVl_iff.mpr (XCs.mono s1 hx)⟩)
      | some ds =>
        rw [e] at h
        obtain ⟨r1, s1⟩ := hr.beside (u := .frz o (.tup vs)) hp
        exact h _ _ _ s1 r1 (.tup (.inl ⟨o, hd, upd_same⟩) (FDs.mono s1.grow (allD_FDs hx e)))
    cases b with
    | frz => exact .inl q
    | ref => exact q
    | own => exact q
end
def mVar (i : Nat) : ME := fun ρ S => match ρ[i]? with | some (some x) => .ok x S | _ => .bad
def mC (d : PyData) : ME := fun _ S => .ok (.d d) S
def mK (x : Mv) : ME := fun _ S => .ok x S
section
variable {X : Cx} {W : WX}
theorem pm_var (i : Nat) {x : Str} {pos : Pos} (hN : X.N[i]? = some x := by rfl) (hv : Vis X.env.scope x := by first | exact Or.inl rfl | exact Or.inr (Or.inl rfl) | exact Or.inr (Or.inr rfl)) (hd : (x == ("__debug__" : Str)) = false := by decide)
    (hcd : (x == ("__classdict__" : Str)) = false := by decide) : PM X W (.Name x pos) (mVar i) := by
  refine pe_imp (pe_var hN hv hd hcd) fun σ H Q ⟨ι, S, ρ, hl, hr, h⟩ => ?_
  unfold mVar at h
  cases e : ρ[i]? with
  | none => rw [e] at h; exact h.elim
  | some y =>
    cases y with
    | none => rw [e] at h; exact h.elim
    | some y =>
      rw [e] at h
      obtain ⟨v, e1, r⟩ := hl.2 i y e
      exact ⟨v, e1, h _ _ _ (Sub.refl _ _) hr r⟩
theorem pm_c {e : Expr} {v : V} {d : PyData} (h : PE X e (tC v)) (hd : ∀ H, FD X.K H d v) : PM X W e (mC d) :=
  pe_imp h fun σ H Q ⟨ι, S, ρ, hl, hr, h⟩ => h _ _ _ (Sub.refl _ _) hr (hd H)
theorem pm_int {i : Int} {j : Nat} {pos : Pos} : PM X W (.Constant (.int i) j pos) (mC (.int i)) := pm_c pe_int fun _ => .int i
theorem pm_bl {b : Bool} {j : Nat} {pos : Pos} : PM X W (.Constant (.bool b) j pos) (mC (.bool b)) := pm_c pe_bl fun _ => .bl b
theorem pm_non {j : Nat} {pos : Pos} : PM X W (.Constant .none j pos) (mC .none) := pm_c pe_non fun _ => .non
theorem pm_str {x : Str} {j : Nat} {pos : Pos} : PM X W (.Constant (.str x) j pos) (mC (.str x)) := pm_c pe_str fun _ => .str x
theorem pm_globI {x : Str} {i : Int} {t : Tok} {pos : Pos} (hg : Gl X x) (hm : X.mg x = some (.int i t)) (hd : (x == ("__debug__" : Str)) = false := by decide) : PM X W (.Name x pos) (mC (.int i)) :=
  pm_c (v := .int i) (pe_glob hg hm ⟨t, rfl⟩ hd) fun _ => .int i
theorem pm_globS {x : Str} {i : Str} {t : Tok} {pos : Pos} (hg : Gl X x) (hm : X.mg x = some (.str i t)) (hd : (x == ("__debug__" : Str)) = false := by decide) : PM X W (.Name x pos) (mC (.str i)) :=
  pm_c (v := .str i) (pe_glob hg hm ⟨t, rfl⟩ hd) fun _ => .str i
def opt {α : Type} (o : Option α) (f : α → Res Mv) : Res Mv := match o with | some z => f z | none => .bad
def mBin (b : Bi) (g : Sg → Mv → Mv → Option Nw) (ma mb : ME) : ME := fun ρ S => (ma ρ S).bind fun x S1 => (mb ρ S1).bind fun y S2 => opt (g S2 x y) fun z => bear b z S2
/-- an operator by values -/
def OpP (X : Cx) (f : Value → Value → Sem Value) (g : Sg → Mv → Mv → Option Nw) : Prop :=
  OpR X f fun v u H Q => ∃ ι S x y z, Rl X.K ι S H ∧ XV X.K ι H x v ∧ XV X.K ι H y u ∧ g S x y = some z ∧ Raw X.K ι H Q z
theorem bin_core {g : Sg → Mv → Mv → Option Nw} {ma mb : ME} {b : Bi} {σ : L2.St} {H : Hp} {Q : VK} (h : tG (XV X.K) X.K W (mBin b g ma mb) σ H Q) :
    tOp (fun v u H Q => ∃ ι S x y z, Rl X.K ι S H ∧ XV X.K ι H x v ∧ XV X.K ι H y u ∧ g S x y = some z ∧ Raw X.K ι H Q z) (tG (XV X.K) X.K W ma) (tG (XV X.K) X.K W mb) σ H (Qf b Q) := by
  obtain ⟨ι, S, ρ, hl, hr, h⟩ := h
  refine ⟨ι, S, ρ, hl, hr, step h fun x v ι1 H1 S1 s1 r1 hx h1 => ?_⟩
  refine ⟨ι1, S1, ρ, hl.mono s1, r1, step h1 fun y u ι2 H2 S2 s2 r2 hy h2 => ?_⟩
  unfold opt at h2
  cases e : g S2 x y with
  | none => rw [e] at h2; exact h2.elim
  | some z =>
    rw [e] at h2
    exact ⟨ι2, S2, x, y, z, r2, hx.mono s2, hy, e, bear_raw r2 h2⟩
theorem pm_bin {op : Operator} {a c : Expr} {g : Sg → Mv → Mv → Option Nw} {ma mc : ME} {pos : Pos} (b : Bi) (o : OpP X (binaryOp op) g) (ha : PM X W a ma) (hc : PM X W c mc) : PM X W (.BinOp a op c pos) (mBin b g ma mc) :=
  pe_imp (pe_b b (pe_op o ha hc)) fun σ H Q h => bin_core h
theorem pm_cmp {op : CmpOp} {a c : Expr} {g : Sg → Mv → Mv → Option Nw} {ma mc : ME} {pos : Pos} (o : OpP X (compareOp op) g) (hm : behindInMarks op c = false) (ha : PM X W a ma) (hc : PM X W c mc) : PM X W (.Compare a [op] [c] pos) (mBin .ref g ma mc) :=
  pe_imp (pe_b .ref (pe_cmpR o ha hc hm)) fun σ H Q h => bin_core h
/-- a value's truth as a result -/
def mTst (m : ME) : MT := fun ρ S => (m ρ S).bind fun x S1 => match x with | .d (.bool b) => .ok b S1 | _ => .bad
theorem pb_cmp {op : CmpOp} {a c : Expr} {g : Sg → Mv → Mv → Option Nw} {ma mc : ME} {pos : Pos} (o : OpP X (compareOp op) g) (hm : behindInMarks op c = false) (ha : PM X W a ma) (hc : PM X W c mc) : PB X W (.Compare a [op] [c] pos) (mTst (mBin .ref g ma mc)) := by
  refine pt_imp (pt_cmpR o ha hc hm) fun σ H Q ⟨ι, S, ρ, hl, hr, h⟩ => ?_
  refine bin_core (b := .ref) (Q := fun x H' => ∃ k, x = .bl k ∧ Q k H') ⟨ι, S, ρ, hl, hr, step h fun x v ι1 H1 S1 s1 r1 hx h1 => ?_⟩
  cases x with
  | d y =>
    cases y with
    | bool k => cases hx; exact ⟨k, rfl, h1 _ _ _ (Sub.refl _ _) r1 rfl⟩
    | _ => exact h1.elim
  | _ => exact h1.elim
def Mv.seq (S : Sg) : Mv → Option (Bool × List Mv)
  | .d (.list xs) => some (false, xs.map .d)
  | .d (.tuple xs) => some (true, xs.map .d)
  | .tup xs => some (true, xs)
  | .frl xs => some (false, xs)
  | .ref i => match S[i]? with | some (false, .lst xs) => some (false, xs) | some (false, .tup xs) => some (true, xs) | _ => none
  | .own i => match S[i]? with | some (true, .lst xs) => some (false, xs) | some (true, .tup xs) => some (true, xs) | _ => none
  | _ => none
theorem FDs.xcs {K : PySem.W.Frag} {ι : Io} {H : Hp} : ∀ {ds : List PyData} {vs : List V}, FDs K H ds vs → XCs K ι H (ds.map .d) vs
  | _, _, .nil => .nil
  | _, _, .cons h hs => .cons ⟨rfl, h⟩ (FDs.xcs hs)
theorem Mv.seq_okP {K : PySem.W.Frag} {ι : Io} {S : Sg} {H : Hp} (hr : Rl K ι S H) {x : Mv} {v : V} (hx : XV K ι H x v) {t : Bool} {xs : List Mv} (e : x.seq S = some (t, xs)) :
    ∃ a vs, v = .ref a ∧ (if t = true then PlnT K H a vs else PlnL K H a vs) ∧ XCs K ι H xs vs := by
  have cellc : ∀ (b : Bool) (i : Nat) (a : Addr), ι[i]? = some (b, a) → (match S[i]? with | some (c, .lst xs) => if c = b then some (false, xs) else none | some (c, .tup xs) => if c = b then some (true, xs) else none | _ => none) = some (t, xs) →
      ∃ vs, (if t = true then PlnT K H a vs else PlnL K H a vs) ∧ XCs K ι H xs vs := by
    intro b i a hi e
    cases q : S[i]? with
    | none => rw [q] at e; cases e
    | some p =>
      obtain ⟨c, o⟩ := p
      rw [q] at e
      cases o with
      | lst ys =>
        by_cases hc : c = b
        · subst hc
          simp at e
          obtain ⟨rfl, rfl⟩ := e
          obtain ⟨vs, h1, h2⟩ := hr.cell i c _ a q hi
          exact ⟨vs, .inl h1, h2⟩
        · simp [hc] at e
      | tup ys =>
        by_cases hc : c = b
        · subst hc
          simp at e
          obtain ⟨rfl, rfl⟩ := e
          obtain ⟨vs, h1, h2⟩ := hr.cell i c _ a q hi
          exact ⟨vs, .inl h1, h2⟩
        · simp [hc] at e
      | dct _ => cases e
      | ins _ _ => cases e
      | gone => cases e
      | tab _ => cases e
  cases x with
  | d y =>
    cases y with
    | list ds =>
      cases hx with
      | lst h hs =>
        cases e
        exact ⟨_, _, rfl, .inr h, FDs.xcs hs⟩
    | tuple ds =>
      cases hx with
      | tup h hs =>
        cases e
        exact ⟨_, _, rfl, h, FDs.xcs hs⟩
    | _ => cases e
  | tup ys =>
    cases e
    rw [XV] at hx
    obtain ⟨a, vs, h1, h2, h3⟩ := hx
    exact ⟨a, vs, h1, h2, XVl_iff.mp h3⟩
  | frl ys =>
    cases e
    rw [XV] at hx
    obtain ⟨a, vs, h1, h2, h3⟩ := hx
    exact ⟨a, vs, h1, .inr h2, XVl_iff.mp h3⟩
  | ref i =>
    obtain ⟨a, hi, rfl⟩ := hx
    obtain ⟨vs, h1, h2⟩ := cellc false i a hi (by
      simp only [Mv.seq] at e
      rw [← e]
      cases S[i]? with
      | none => rfl
      | some p => obtain ⟨c, o⟩ := p; cases o <;> cases c <;> rfl)
    exact ⟨a, vs, rfl, h1, h2⟩
  | own i =>
    obtain ⟨a, hi, rfl⟩ := hx
    obtain ⟨vs, h1, h2⟩ := cellc true i a hi (by
      simp only [Mv.seq] at e
      rw [← e]
      cases S[i]? with
      | none => rfl
      | some p => obtain ⟨c, o⟩ := p; cases o <;> cases c <;> rfl)
    exact ⟨a, vs, rfl, h1, h2⟩
  | _ => cases e
theorem Mv.seq_ok {K : PySem.W.Frag} {ι : Io} {S : Sg} {H : Hp} (hr : Rl K ι S H) {x : Mv} {v : V} (hx : XV K ι H x v) {t : Bool} {xs : List Mv} (e : x.seq S = some (t, xs)) :
    ∃ a vs, v = .ref a ∧ (if t = true then SqT K H a vs else PlnL K H a vs) ∧ XCs K ι H xs vs := by
  obtain ⟨a, vs, h1, h2, h3⟩ := Mv.seq_okP hr hx e
  refine ⟨a, vs, h1, ?_, h3⟩
  cases t with
  | true => exact PlnT.sq h2
  | false => exact h2
def Mv.truth (S : Sg) (x : Mv) : Option Bool :=
  match x with
  | .d .none => some false
  | .d (.bool b) => some b
  | .d (.int i) => some (i != 0)
  | .d (.str y) => if y.length ≤ sizeLine then some ((y.length : Int) != 0) else none
  | .d (.list xs) => some (!xs.isEmpty)
  | .d (.tuple xs) => some (!xs.isEmpty)
  | x => (x.seq S).map fun q => !q.2.isEmpty
theorem Paired.isEmpty {α β : Type} {F : α → β → Prop} {xs : List α} {ys : List β} (h : Paired F xs ys) : xs.isEmpty = ys.isEmpty := by
  cases h <;> rfl
theorem Mv.truth_ok {K : PySem.W.Frag} {ι : Io} {S : Sg} {H : Hp} (hr : Rl K ι S H) {x : Mv} {v : V} (hx : XV K ι H x v) {k : Bool} (e : x.truth S = some k) : TruV K v H k := by
  have sq : ∀ t xs, x.seq S = some (t, xs) → k = !xs.isEmpty → TruV K v H k := by
    intro t xs e1 e2
    obtain ⟨a, vs, rfl, h1, h2⟩ := Mv.seq_ok hr hx e1
    cases t with
    | true => exact .inr (.inl ⟨vs, h1, by rw [e2, Paired.isEmpty h2]⟩)
    | false => exact .inl ⟨vs, PlnL.sq h1, by rw [e2, Paired.isEmpty h2]⟩
  cases x with
  | d y =>
    cases y with
    | none => cases hx; cases e; rfl
    | bool b => cases hx; cases e; rfl
    | int i => cases hx; cases e; rfl
    | str z =>
      cases hx
      simp only [Mv.truth] at e
      by_cases hz : z.length ≤ sizeLine
      · rw [if_pos hz] at e; cases e; exact ⟨hz, rfl⟩
      · rw [if_neg hz] at e; cases e
    | list xs => exact sq _ _ rfl (by simp only [Mv.truth] at e; cases e; cases xs <;> rfl)
    | tuple xs => exact sq _ _ rfl (by simp only [Mv.truth] at e; cases e; cases xs <;> rfl)
    | dict _ => cases e
  | tup xs => cases e; exact sq _ _ rfl rfl
  | frl xs => cases e; exact sq _ _ rfl rfl
  | ref i =>
    simp only [Mv.truth, Option.map_eq_some_iff] at e
    obtain ⟨⟨t, xs⟩, e1, e2⟩ := e
    exact sq t xs e1 e2.symm
  | own i =>
    simp only [Mv.truth, Option.map_eq_some_iff] at e
    obtain ⟨⟨t, xs⟩, e1, e2⟩ := e
    exact sq t xs e1 e2.symm
  | _ => cases e
def mTruth (m : ME) : MT := fun ρ S => (m ρ S).bind fun x S1 => match x.truth S1 with | some k => .ok k S1 | none => .bad
theorem pb_of {e : Expr} {m : ME} (h : PM X W e m) (he : ∀ whole, isTrue e X.env whole = (do let v ← whole; standAt e.pos; holding [v] (truthy v)) := by intro _; rfl) : PB X W e (mTruth m) := by
  refine pt_imp (pt_truth h he) fun σ H Q ⟨ι, S, ρ, hl, hr, h⟩ => ?_
  refine ⟨ι, S, ρ, hl, hr, step h fun x v ι1 H1 S1 s1 r1 hx h1 => ?_⟩
  cases e : x.truth S1 with
  | none => simp only [e] at h1; exact h1.elim
  | some k =>
    simp only [e] at h1
    exact ⟨k, Mv.truth_ok r1 hx e, h1 _ _ _ (Sub.refl _ _) r1 rfl⟩
def mAndB (a b : MT) : MT := fun ρ S => (a ρ S).bind fun k S1 => if k = true then b ρ S1 else .ok false S1
def mOrB (a b : MT) : MT := fun ρ S => (a ρ S).bind fun k S1 => if k = true then .ok true S1 else b ρ S1
def mNotB (a : MT) : MT := fun ρ S => (a ρ S).bind fun k S1 => .ok (!k) S1
theorem pwb {e : Expr} {m : MT} (h : PWB X W e m) : PB X W e m := PW.pt h
theorem pw_andM {a b : Expr} {rest : List Expr} {ma mb : MT} {pos : Pos} (ha : PB X W a ma) (hb : PWB X W (.BoolOp .And (b :: rest) pos) mb) : PWB X W (.BoolOp .And (a :: b :: rest) pos) (mAndB ma mb) := by
  refine pw_imp (pw_and ha hb) fun σ H Q ⟨ι, S, ρ, hl, hr, h⟩ => ?_
  refine ⟨ι, S, ρ, hl, hr, step h fun x v ι1 H1 S1 s1 r1 hx h1 => ?_⟩
  cases hx
  cases x with
  | true => exact iteT ⟨ι1, S1, ρ, hl.mono s1, r1, by simpa using h1⟩
  | false => exact iteF ((show Post RB _ _ _ _ _ _ (.ok false S1) from by simpa using h1) _ _ _ (Sub.refl _ _) r1 rfl)
theorem pw_orM {a b : Expr} {rest : List Expr} {ma mb : MT} {pos : Pos} (ha : PB X W a ma) (hb : PWB X W (.BoolOp .Or (b :: rest) pos) mb) : PWB X W (.BoolOp .Or (a :: b :: rest) pos) (mOrB ma mb) := by
  refine pw_imp (pw_or ha hb) fun σ H Q ⟨ι, S, ρ, hl, hr, h⟩ => ?_
  refine ⟨ι, S, ρ, hl, hr, step h fun x v ι1 H1 S1 s1 r1 hx h1 => ?_⟩
  cases hx
  cases x with
  | true => exact iteT ((show Post RB _ _ _ _ _ _ (.ok true S1) from by simpa using h1) _ _ _ (Sub.refl _ _) r1 rfl)
  | false => exact iteF ⟨ι1, S1, ρ, hl.mono s1, r1, by simpa using h1⟩
theorem pw_andM1 {a : Expr} {ma : MT} {pos : Pos} (ha : PB X W a ma) : PWB X W (.BoolOp .And [a] pos) ma := pw_and1 ha
theorem pw_orM1 {a : Expr} {ma : MT} {pos : Pos} (ha : PB X W a ma) : PWB X W (.BoolOp .Or [a] pos) ma := pw_or1 ha
theorem pb_not {a : Expr} {ma : MT} {pos : Pos} (ha : PB X W a ma) : PB X W (.UnaryOp .Not a pos) (mNotB ma) := by
  refine pt_imp (pt_not ha) fun σ H Q ⟨ι, S, ρ, hl, hr, h⟩ => ?_
  refine ⟨ι, S, ρ, hl, hr, step h fun x v ι1 H1 S1 s1 r1 hx h1 => ?_⟩
  cases hx
  exact h1 _ _ _ (Sub.refl _ _) r1 rfl
/-- and, or, not as values -/
def mAnd (a b : ME) : ME := fun ρ S => (a ρ S).bind fun x S1 => match x.truth S1 with | some true => b ρ S1 | some false => .ok x S1 | none => .bad
theorem pm_and {a b : Expr} {rest : List Expr} {ma mb : ME} {pos : Pos} (ha : PM X W a ma) (hb : PM X W (.BoolOp .And (b :: rest) pos) mb) : PM X W (.BoolOp .And (a :: b :: rest) pos) (mAnd ma mb) := by
  refine pe_imp (pe_andT ha hb) fun σ H Q ⟨ι, S, ρ, hl, hr, h⟩ => ?_
  refine ⟨ι, S, ρ, hl, hr, step h fun x v ι1 H1 S1 s1 r1 hx h1 => ?_⟩
  cases e : x.truth S1 with
  | none => simp only [e] at h1; exact h1.elim
  | some k =>
    simp only [e] at h1
    refine ⟨k, Mv.truth_ok r1 hx e, ?_⟩
    cases k with
    | true => exact iteT ⟨ι1, S1, ρ, hl.mono s1, r1, h1⟩
    | false => exact iteF (h1 _ _ _ (Sub.refl _ _) r1 hx)
theorem pm_one {op : BoolOp} {a : Expr} {ma : ME} {pos : Pos} (ha : PM X W a ma) : PM X W (.BoolOp op [a] pos) ma := pe_one ha
def mIf (c : MT) (a b : ME) : ME := fun ρ S => (c ρ S).bind fun k S1 => if k = true then a ρ S1 else b ρ S1
theorem pm_if {c a b : Expr} {mc : MT} {ma mb : ME} {pos : Pos} (hc : PB X W c mc) (ha : PM X W a ma) (hb : PM X W b mb) : PM X W (.IfExp c a b pos) (mIf mc ma mb) := by
  refine pe_imp (pe_ifExp hc ha hb) fun σ H Q ⟨ι, S, ρ, hl, hr, h⟩ => ?_
  refine ⟨ι, S, ρ, hl, hr, step h fun x v ι1 H1 S1 s1 r1 hx h1 => ?_⟩
  cases hx
  cases x with
  | true => exact iteT ⟨ι1, S1, ρ, hl.mono s1, r1, by simpa using h1⟩
  | false => exact iteF ⟨ι1, S1, ρ, hl.mono s1, r1, by simpa using h1⟩
def mNil : MA := fun _ S => .ok [] S
def mCons (a : ME) (r : MA) : MA := fun ρ S => (a ρ S).bind fun x S1 => (r ρ S1).bind fun xs S2 => .ok (x :: xs) S2
theorem pl_nil : PL X W [] mNil := pa_imp pa_nil fun σ H Q ⟨ι, S, ρ, hl, hr, h⟩ => h _ _ _ (Sub.refl _ _) hr .nil
theorem pl_cons {e : Expr} {es : List Expr} {m : ME} {ms : MA} (h : PM X W e m) (hs : PL X W es ms) (he : starEach (e :: es) X.env = (false, eval e X.env) :: starEach es X.env := by rfl) : PL X W (e :: es) (mCons m ms) := by
  refine pa_imp (pa_cons h hs he) fun σ H Q ⟨ι, S, ρ, hl, hr, h⟩ => ?_
  refine ⟨ι, S, ρ, hl, hr, step h fun x v ι1 H1 S1 s1 r1 hx h1 => ?_⟩
  refine ⟨ι1, S1, ρ, hl.mono s1, r1, step h1 fun y u ι2 H2 S2 s2 r2 hy h2 => ?_⟩
  exact h2 _ _ _ (Sub.refl _ _) r2 (.cons (hx.mono s2) hy)
theorem Paired_frees {K : PySem.W.Frag} {ι : Io} {H : Hp} {xs : List Mv} {vs : List V} (h : XVs K ι H xs vs) (e : frees xs = true) : XCs K ι H xs vs := by
  induction h with
  | nil => exact .nil
  | cons r t ih =>
    simp only [frees, List.all_cons, Bool.and_eq_true] at e
    exact .cons ⟨e.1, r⟩ (ih e.2)
def mDisp (b : Bi) (tup : Bool) (a : MA) : ME := fun ρ S => (a ρ S).bind fun xs S1 => if frees xs = true ∧ xs.length ≤ sizeLine then bear b (if tup = true then .tup xs else .lst xs) S1 else .bad
theorem pm_lst {es : List Expr} {ms : MA} {pos : Pos} (b : Bi) (h : PL X W es ms) : PM X W (.List es pos) (mDisp b false ms) := by
  refine pe_imp (pe_b b (pe_lst h)) fun σ H Q ⟨ι, S, ρ, hl, hr, h⟩ => ?_
  refine ⟨ι, S, ρ, hl, hr, step h fun x v ι1 H1 S1 s1 r1 hx h1 => ?_⟩
  by_cases hc : frees x = true ∧ x.length ≤ sizeLine
  · rw [if_pos hc] at h1
    exact ⟨by rw [← hx.length]; exact hc.2, fun p hp => bear_raw (n := .lst x) r1 h1 v p (Paired_frees hx hc.1) hp⟩
  · rw [if_neg hc] at h1; exact h1.elim
/-- a tuple's display, its object told -/
def tTupP (t : TA) : TE := fun σ H Q => t σ H fun xs H1 => xs.length ≤ sizeLine ∧ ∀ p, H1 p = none → ∀ o : Obj, o.dict = none → Q (.ref p) (upd H1 p (.frz o (.tup xs)))
theorem pe_tupP {X : Cx} {es : List Expr} {x1 : Nat} {pos : Pos} {t : TA} (h : PA X es t) : PE X (.Tuple es x1 pos) (tTupP t) := by
  refine ⟨fun pins s σ H Q I hq => ?_⟩
  refine wpAny_Tuple_spliced (thn (h.run pos pins s σ H _ I hq) fun us s1 ⟨xs, H1, I1, r, z, q⟩ => ⟨by rw [← r.length]; exact z, ?_⟩)
  have hf : H1 s1.heap.objs.size = none := I1.hok.fresh (Nat.le_refl _)
  have hg := Heap.get?_push_size s1.heap (o := { cls := .type "tuple", data := .seq us.toArray }) rfl
  refine ⟨.ref s1.heap.objs.size, _, I1.laid (t' := s1.toks) (fun b u e => Heap.get?_push_of_some _ e) (Nat.le_refl _) ?_, rfl, q _ hf { cls := .type "tuple", data := .seq us.toArray } rfl⟩
  exact ⟨hg, z, us, r, ⟨_, hg, rfl, _, rfl⟩⟩
theorem pm_tup {es : List Expr} {x1 : Nat} {ms : MA} {pos : Pos} (h : PL X W es ms) : PM X W (.Tuple es x1 pos) (mDisp .ref true ms) := by
  refine pe_imp (pe_b .ref (pe_tupP h)) fun σ H Q ⟨ι, S, ρ, hl, hr, h⟩ => ?_
  refine ⟨ι, S, ρ, hl, hr, step h fun x v ι1 H1 S1 s1 r1 hx h1 => ?_⟩
  by_cases hc : frees x = true ∧ x.length ≤ sizeLine
  · rw [if_pos hc] at h1
    exact ⟨by rw [← hx.length]; exact hc.2, fun p hp o hd => bear_raw (n := .tup x) r1 h1 v p (Paired_frees hx hc.1) hp o hd⟩
  · rw [if_neg hc] at h1; exact h1.elim
end
end MM
end
section
set_option Elab.async false
set_option linter.all false
set_option maxRecDepth 100000
set_option maxHeartbeats 4000000
set_option autoImplicit false
namespace MM
open PySem PySem.Spec PyProof.Rows L2
/-- what runs when a def is called: no repr, or any -/
def GdP : Bool → Option (List Code) → Prop
  | true, g => g = some []
  | false, g => ∃ l, g = some l
variable {gb : Bool}
def PostS (K : PySem.W.Frag) (W : WX) (ι : Io) (H : Hp) (D : Ends) : RS → Prop
  | .nx ρ S => ∀ ι' H' σ', Sub ι H ι' H' → Rl K ι' S H' → LR K ι' H' ρ σ' → D.nx σ' H'
  | .rt x S => ∀ ι' H' v, Sub ι H ι' H' → Rl K ι' S H' → XV K ι' H' x v → D.rt v H'
  | .bk ρ S => ∀ ι' H' σ', Sub ι H ι' H' → Rl K ι' S H' → LR K ι' H' ρ σ' → D.bk σ' H'
  | .ct ρ S => ∀ ι' H' σ', Sub ι H ι' H' → Rl K ι' S H' → LR K ι' H' ρ σ' → D.ct σ' H'
  | .exc e ρ S => ∀ ι' H' d σ', Sub ι H ι' H' → Rl K ι' S H' → LR K ι' H' ρ σ' → ExR K ι' H' e d → W (e.cls.val K) d σ' H'
  | .bad => False
def tS (K : PySem.W.Frag) (W : WX) (m : MS) : TS := fun D σ H => ∃ ι S ρ, LR K ι H ρ σ ∧ Rl K ι S H ∧ PostS K W ι H D (m ρ S)
def PMS (X : Cx) (W : WX) (st : Stmt) (m : MS) : Prop := PS X st (tS X.K W m)
def PMB (X : Cx) (W : WX) (st : List Stmt) (m : MS) : Prop := PSs X st (tS X.K W m)
def Res.go {α : Type} (r : Res α) (ρ : Rho) (f : α → Sg → RS) : RS := match r with | .ok x S => f x S | .exc e S => .exc e ρ S | .bad => .bad
section
variable {K : PySem.W.Frag} {W : WX} {ι ι1 : Io} {H H1 : Hp} {S : Sg} {ρ : Rho} {σ : L2.St} {D D' : Ends}
theorem PostS.sub {r : RS} (s : Sub ι H ι1 H1) (h : PostS K W ι H D r) : PostS K W ι1 H1 D r := by
  cases r with
  | nx ρ S => exact fun ι' H' v s' => h ι' H' v (s.trans s')
  | rt x S => exact fun ι' H' v s' => h ι' H' v (s.trans s')
  | bk ρ S => exact fun ι' H' v s' => h ι' H' v (s.trans s')
  | ct ρ S => exact fun ι' H' v s' => h ι' H' v (s.trans s')
  | exc e ρ S => exact fun ι' H' d v s' => h ι' H' d v (s.trans s')
  | bad => exact h
theorem stepS {α β : Type} {R : Io → Hp → α → β → Prop} {T : β → Hp → Prop} {r : Res α} {f : α → Sg → RS} (hp : PostS K W ι H D (r.go ρ f)) (hl : LR K ι H ρ σ)
    (k : ∀ x v ι1 H1 S1, Sub ι H ι1 H1 → Rl K ι1 S1 H1 → R ι1 H1 x v → PostS K W ι1 H1 D (f x S1) → T v H1) : Post R K W ι σ H T r := by
  cases r with
  | ok x S' => exact fun ι' H' v s r x' => k x v ι' H' S' s r x' (PostS.sub s hp)
  | exc e S' => exact fun ι' H' d s r x => hp ι' H' d σ s r (hl.mono s) x
  | bad => exact hp
end
/-- targets: names, tuples of them -/
abbrev MG := Sg → Mv → Rho → Option Rho
abbrev MGs := Sg → List Mv → Rho → Option Rho
def Off (ts : List Nat) (σ σ' : L2.St) : Prop := σ'.length = σ.length ∧ ∀ j, j ∉ ts → σ'[j]? = σ[j]?
theorem Off.refl (ts : List Nat) (σ : L2.St) : Off ts σ σ := ⟨rfl, fun _ _ => rfl⟩
def PMG (X : Cx) (ts : List Nat) (tg : Expr) (m : MG) : Prop := PG X tg fun v σ H Q => ∃ ι S ρ x ρ', LR X.K ι H ρ σ ∧ Rl X.K ι S H ∧ XV X.K ι H x v ∧ m S x ρ = some ρ' ∧ ∀ σ', LR X.K ι H ρ' σ' → Off ts σ σ' → Q σ' H
def PMGs (X : Cx) (ts : List Nat) (tg : List Expr) (m : MGs) : Prop := PGs X tg fun vs σ H Q => ∃ ι S ρ xs ρ', LR X.K ι H ρ σ ∧ Rl X.K ι S H ∧ XVs X.K ι H xs vs ∧ m S xs ρ = some ρ' ∧ ∀ σ', LR X.K ι H ρ' σ' → Off ts σ σ' → Q σ' H
theorem pg_imp {X : Cx} {e : Expr} {t t' : TG} (h : PG X e t) (i : ∀ v σ H Q, t' v σ H Q → t v σ H Q) : PG X e t' := ⟨fun pins s σ H v u Q I r q => h.run pins s σ H v u Q I r (i _ _ _ _ q)⟩
theorem pgs_imp {X : Cx} {e : List Expr} {t t' : TGs} (h : PGs X e t) (i : ∀ v σ H Q, t' v σ H Q → t v σ H Q) : PGs X e t' := ⟨fun pins s σ H v u Q I r q => h.run pins s σ H v u Q I r (i _ _ _ _ q)⟩
def mgName (i : Nat) : MG := fun _ x ρ => some (ρ.set i (some x))
def mgNil : MGs := fun _ xs ρ => match xs with | [] => some ρ | _ => none
def mgCons (g : MG) (r : MGs) : MGs := fun S xs ρ => match xs with | x :: t => (g S x ρ).bind fun ρ' => r S t ρ' | [] => none
def Mv.seqT (S : Sg) : Mv → Option (Bool × List Mv)
  | .tpl xs => some (true, xs)
  | x => x.seq S
theorem Mv.seqT_ok {K : PySem.W.Frag} {ι : Io} {S : Sg} {H : Hp} (hr : Rl K ι S H) {x : Mv} {v : V} (hx : XV K ι H x v) {t : Bool} {xs : List Mv} (e : x.seqT S = some (t, xs)) :
    ∃ a vs, v = .ref a ∧ (if t = true then SqT K H a vs else PlnL K H a vs) ∧ XCs K ι H xs vs := by
  cases x with
  | tpl ys =>
    cases e
    rw [XV] at hx
    obtain ⟨a, vs, h1, h2, h3⟩ := hx
    exact ⟨a, vs, h1, h2, XVl_iff.mp h3⟩
  | _ => exact Mv.seq_ok hr hx e
def mgTup (n : Nat) (g : MGs) : MG := fun S x ρ => match x.seqT S with | some (_, xs) => if xs.length = n then g S xs ρ else none | none => none
section
variable {X : Cx} {W : WX} {pos : Pos}
theorem pmg_name {i : Nat} {x : Str} (hN : X.N.Nodup) (hi : X.N[i]? = some x) (hx : Loc X.env.scope x) (hf : X.fn x = true ∨ X.env.scope.names.lookup x = some .local := by first | exact .inl rfl | exact .inr rfl | assumption) : PMG X [i] (.Name x pos) (mgName i) :=
  pg_imp (pg_name hN hi hx hf) fun v σ H Q ⟨ι, S, ρ, y, ρ', hl, hr, hx, e, h⟩ => by
    cases e
    exact h _ (hl.set i hx) ⟨List.length_set, fun j hj => List.getElem?_set_ne (fun z => hj (by simp [z]))⟩
theorem pmgs_nil : PMGs X [] [] mgNil := pgs_imp pgs_nil fun v σ H Q ⟨ι, S, ρ, xs, ρ', hl, hr, hx, e, h⟩ => by
  cases hx with
  | nil => cases e; exact ⟨rfl, h _ hl (Off.refl _ _)⟩
  | cons a b => cases e
theorem pmgs_cons {t1 t2 : List Nat} {e : Expr} {es : List Expr} {g : MG} {r : MGs} (h1 : PMG X t1 e g) (h2 : PMGs X t2 es r)
    (hs : (assignEach (e :: es) X.env).map (·.2) = assign e X.env :: (assignEach es X.env).map (·.2) := by rfl) : PMGs X (t1 ++ t2) (e :: es) (mgCons g r) :=
  pgs_imp (pgs_cons h1 h2 hs) fun v σ H Q ⟨ι, S, ρ, xs, ρ', hl, hr, hx, e, h⟩ => by
    cases hx with
    | nil => cases e
    | @cons a b l1 l2 rr t =>
      simp only [mgCons, Option.bind_eq_some_iff] at e
      obtain ⟨ρ1, e1, e2⟩ := e
      exact ⟨b, l2, rfl, ι, S, ρ, a, ρ1, hl, hr, rr, e1, fun σ1 hl1 o1 => ⟨ι, S, ρ1, l1, ρ', hl1, hr, t, e2, fun σ2 hl2 o2 => h σ2 hl2 ⟨o2.1.trans o1.1, fun j hj => (o2.2 j fun z => hj (List.mem_append_right _ z)).trans (o1.2 j fun z => hj (List.mem_append_left _ z))⟩⟩⟩
theorem pg_or {X : Cx} {tg : Expr} {t u : TG} (h : PG X tg t) (h' : PG X tg u) : PG X tg (fun v σ H Q => t v σ H Q ∨ u v σ H Q) := ⟨fun pins s σ H v w Q I r q => by
  rcases q with q | q
  · exact h.run pins s σ H v w Q I r q
  · exact h'.run pins s σ H v w Q I r q⟩
theorem pmg_tup {ts : List Nat} {es : List Expr} {k : Nat} {g : MGs} {n : Nat} (hc : X.calm = true) (h : PMGs X ts es g)
    (hn : (assignEach es X.env).length = n := by rfl) (hst : (assignEach es X.env).findIdx? (·.1) = none := by rfl) : PMG X ts (.Tuple es k pos) (mgTup n g) :=
  pg_imp (pg_or (pg_tup hc h hn hst) (pg_lst hc h hn hst)) fun v σ H Q ⟨ι, S, ρ, x, ρ', hl, hr, hx, e, q⟩ => by
    unfold mgTup at e
    cases e1 : x.seqT S with
    | none => rw [e1] at e; cases e
    | some p =>
      obtain ⟨t, xs⟩ := p
      rw [e1] at e
      simp only at e
      by_cases hl2 : xs.length = n
      · rw [if_pos hl2] at e
        obtain ⟨a, vs, rfl, h1, h2⟩ := Mv.seqT_ok hr hx e1
        cases t with
        | true => exact .inl ⟨a, vs, rfl, h1, by rw [← h2.length]; exact hl2, ι, S, ρ, xs, ρ', hl, hr, XCs.xv h2, e, q⟩
        | false => exact .inr ⟨a, vs, rfl, PlnL.sq h1, by rw [← h2.length]; exact hl2, ι, S, ρ, xs, ρ', hl, hr, XCs.xv h2, e, q⟩
      · rw [if_neg hl2] at e; cases e
def mSkip : MS := fun ρ S => .nx ρ S
def mExpr (m : ME) : MS := fun ρ S => (m ρ S).go ρ fun _ S1 => .nx ρ S1
def mAsg (m : ME) (g : MG) : MS := fun ρ S => (m ρ S).go ρ fun x S1 => match g S1 x ρ with | some ρ' => .nx ρ' S1 | none => .bad
def mRet (m : ME) : MS := fun ρ S => (m ρ S).go ρ fun x S1 => .rt x S1
def mIfS (c : MT) (a b : MS) : MS := fun ρ S => (c ρ S).go ρ fun k S1 => if k = true then a ρ S1 else b ρ S1
def mSeq (a b : MS) : MS := fun ρ S => match a ρ S with | .nx ρ' S' => b ρ' S' | r => r
theorem pms_expr {e : Expr} {m : ME} (h : PM X W e m) (hs : swapsWith e none pos.line X.env = pure false := by rfl) : PMS X W (.Expr e pos) (mExpr m) :=
  ps_imp (ps_expr h hs) fun D σ H ⟨ι, S, ρ, hl, hr, h⟩ => ⟨ι, S, ρ, hl, hr, stepS h hl fun x v ι1 H1 S1 s1 r1 hx h1 => h1 _ _ _ (Sub.refl _ _) r1 (hl.mono s1)⟩
theorem asg_core {ts : List Nat} {m : ME} {g : MG} {D : Ends} {σ : L2.St} {H : Hp} (h : tS X.K W (mAsg m g) D σ H) :
    tAsg (tG (XV X.K) X.K W m) (fun v σ H Q => ∃ ι S ρ x ρ', LR X.K ι H ρ σ ∧ Rl X.K ι S H ∧ XV X.K ι H x v ∧ g S x ρ = some ρ' ∧ ∀ σ', LR X.K ι H ρ' σ' → Off ts σ σ' → Q σ' H) D σ H := by
  obtain ⟨ι, S, ρ, hl, hr, h⟩ := h
  refine ⟨ι, S, ρ, hl, hr, stepS h hl fun x v ι1 H1 S1 s1 r1 hx h1 => ?_⟩
  cases e : g S1 x ρ with
  | none => simp only [e] at h1; exact h1.elim
  | some ρ' =>
    simp only [e] at h1
    exact ⟨ι1, S1, ρ, x, ρ', hl.mono s1, r1, hx, e, fun σ' l' _ => h1 _ _ _ (Sub.refl _ _) r1 l'⟩
theorem pms_asg {ts : List Nat} {tg e : Expr} {m : ME} {g : MG} (h : PM X W e m) (hg : PMG X ts tg g) (hs : swapsWithSole [tg] e pos.line X.env = pure false := by rfl) (hw : swappedStores [tg] e X.env = pure none := by rfl)
    (h1 : (assignEach [tg] X.env).map (·.2) = [assign tg X.env] := by rfl) : PMS X W (.Assign [tg] e pos) (mAsg m g) := ps_imp (ps_asg h hg hs hw h1) fun D σ H h => asg_core h
theorem pms_set {i : Nat} {x : Str} {e : Expr} {m : ME} {pos' : Pos} (hN : X.N.Nodup) (hi : X.N[i]? = some x) (hx : Loc X.env.scope x) (h : PM X W e m) (hs : swapsWith e (some (.Name x pos')) pos.line X.env = pure false := by rfl)
    (hf : X.fn x = true ∨ X.env.scope.names.lookup x = some .local := by first | exact .inl rfl | exact .inr rfl | assumption) : PMS X W (.Assign [.Name x pos'] e pos) (mAsg m (mgName i)) := by
  refine ps_imp (ps_set hN hi hx h hs hf) fun D σ H h => ?_
  obtain ⟨ι, S, ρ, hl, hr, h⟩ := h
  refine ⟨ι, S, ρ, hl, hr, stepS h hl fun x v ι1 H1 S1 s1 r1 hx h1 => ?_⟩
  exact h1 _ _ _ (Sub.refl _ _) r1 ((hl.mono s1).set i hx)
theorem pms_ret {e : Expr} {m : ME} (h : PM X W e m) : PMS X W (.Return (some e) pos) (mRet m) :=
  ps_imp (ps_ret h) fun D σ H ⟨ι, S, ρ, hl, hr, h⟩ => ⟨ι, S, ρ, hl, hr, stepS h hl fun x v ι1 H1 S1 s1 r1 hx h1 => h1 _ _ _ (Sub.refl _ _) r1 hx⟩
theorem pmb_nil : PMB X W [] mSkip := pss_imp pss_nil fun D σ H ⟨ι, S, ρ, hl, hr, h⟩ => h _ _ _ (Sub.refl _ _) hr hl
theorem pmb_one {st : Stmt} {m : MS} (h : PMS X W st m) : PMB X W [st] m := pss_one h
theorem pmb_cons {st : Stmt} {rest : List Stmt} {a b : MS} (h1 : PMS X W st a) (h2 : PMB X W rest b) : PMB X W (st :: rest) (mSeq a b) := by
  refine pss_imp (pss_cons h1 h2) fun D σ H ⟨ι, S, ρ, hl, hr, h⟩ => ⟨ι, S, ρ, hl, hr, ?_⟩
  unfold mSeq at h
  cases e : a ρ S with
  | nx ρ' S' => rw [e] at h; exact fun ι' H' σ' s r l => ⟨ι', S', ρ', l, r, h.sub s⟩
  | rt x S' => rw [e] at h; exact h
  | bk x S' => rw [e] at h; exact h
  | ct x S' => rw [e] at h; exact h
  | exc x y S' => rw [e] at h; exact h
  | bad => rw [e] at h; exact h
theorem pms_if {c : Expr} {a b : List Stmt} {mc : MT} {ma mb : MS} (hc : PB X W c mc) (ha : PMB X W a ma) (hb : PMB X W b mb) : PMS X W (.If c a b pos) (mIfS mc ma mb) := by
  refine ps_imp (ps_if hc ha hb) fun D σ H ⟨ι, S, ρ, hl, hr, h⟩ => ?_
  refine ⟨ι, S, ρ, hl, hr, stepS h hl fun x v ι1 H1 S1 s1 r1 hx h1 => ?_⟩
  cases hx
  cases x with
  | true => exact iteT ⟨ι1, S1, ρ, hl.mono s1, r1, by simpa using h1⟩
  | false => exact iteF ⟨ι1, S1, ρ, hl.mono s1, r1, by simpa using h1⟩
end
def fz (x : Mv) (S : Sg) : Res Mv :=
  match x with
  | .own i => match S[i]? with
    | some (true, .lst xs) => match allD xs with | some ds => .ok (.d (.list ds)) (S.set i (true, .gone)) | none => .ok (.frl xs) (S.set i (true, .gone))
    | _ => .bad
  | x => .ok x S
def mFz (m : ME) : ME := fun ρ S => (m ρ S).bind fz
theorem pm_fz {X : Cx} {W : WX} {e : Expr} {m : ME} (h : PM X W e m) : PM X W e (mFz m) := by
  refine pe_imp (pe_b .frz h) fun σ H Q ⟨ι, S, ρ, hl, hr, h⟩ => ⟨ι, S, ρ, hl, hr, step h fun x v ι1 H1 S1 s1 r1 hx h1 => ?_⟩
  cases x with
  | own i =>
    obtain ⟨a, hi, rfl⟩ := hx
    simp only [fz] at h1
    cases e : S1[i]? with
    | none => simp only [e] at h1; exact h1.elim
    | some p =>
      obtain ⟨b, o⟩ := p
      simp only [e] at h1
      cases b with
      | false => exact h1.elim
      | true =>
        cases o with
        | lst xs =>
          simp only at h1
          cases e2 : allD xs with
          | none =>
            simp only [e2] at h1
            obtain ⟨vs, hp, hx⟩ := r1.cell i true _ a e hi
            refine .inr ⟨a, _, rfl, hp, trivial, fun o => ?_⟩
            obtain ⟨r2, s2⟩ := r1.put (u := .frz o (.lst vs)) (o := .gone) ⟨_, e⟩ hi hp trivial trivial
            exact h1 _ _ _ s2 r2 (by rw [XV]; exact ⟨a, vs, rfl, .inl ⟨o, upd_same⟩, XVl_iff.mpr (XCs.mono s2 hx)⟩)
          | some ds =>
            simp only [e2] at h1
            obtain ⟨vs, hp, hx⟩ := r1.cell i true _ a e hi
            refine .inr ⟨a, _, rfl, hp, trivial, fun o => ?_⟩
            obtain ⟨r2, s2⟩ := r1.put (u := .frz o (.lst vs)) (o := .gone) ⟨_, e⟩ hi hp trivial trivial
            exact h1 _ _ _ s2 r2 (.lst (.inl ⟨o, upd_same⟩) (FDs.mono s2.grow (allD_FDs hx e2)))
        | _ => exact h1.elim
  | _ => exact .inl (h1 _ _ _ (Sub.refl _ _) r1 hx)
def trim (n : Nat) (S : Sg) : Sg := if (S.drop n).all (·.1) = true then S.take n else S
def fin (n : Nat) : RS → Res Mv
  | .nx _ S => .ok (.d .none) (trim n S)
  | .rt x S => if x.free = true then .ok x (trim n S) else .bad
  | .exc e _ S => .exc e (trim n S)
  | _ => .bad
def fnM (n : Nat) (m : MS) : List Mv → Sg → Res Mv := fun xs S => fin S.length (m (xs.map some ++ List.replicate (n - xs.length) none) S)
def spM (K : PySem.W.Frag) (n : Nat) (m : List Mv → Sg → Res Mv) : Sp := fun vs H Q E => ∃ ι S xs, XCs K ι H xs vs ∧ xs.length = n ∧ Rl K ι S H ∧ Post (XV K) K (fun c d _ H => E c d H) ι [] H Q (m xs S)
/-- a def's promise, called where no repr runs -/
structure FnM (gb : Bool) (P : Program) (w : World) (K : PySem.W.Frag) (mg : Str → Option Value) (base : Heap) (k : Nat) (f : Addr) (fd : FuncData) (ps : List Str) (m : List Mv → Sg → Res Mv) : Prop where
  run : ∀ (A : Around) (outer : List Env) (s : Shared) (H : Hp) (args : Args) (us : List Value) (vs : List V) (Q : VK) (E : XK), Room k A → GdP gb A.guards → Env0 P w K mg base A outer s H → BindsTo s fd args (ps.zip us) → Vals vs us →
    spM K ps.length m vs H Q E → codeAny (model P w) A (.call (.ref f) args) (CR (L2.CX P w) outer P w H s Q E) s
theorem FnM.mono {P : Program} {w : World} {K : PySem.W.Frag} {mg : Str → Option Value} {base : Heap} {j k : Nat} {f : Addr} {fd : FuncData} {ps : List Str} {m : List Mv → Sg → Res Mv} (F : FnM gb P w K mg base j f fd ps m) (h : j ≤ k) : FnM gb P w K mg base k f fd ps m :=
  ⟨fun A outer s H args us vs Q E hr => F.run A outer s H args us vs Q E (hr.mono h)⟩
section
variable {K : PySem.W.Frag} {ι ι1 : Io} {H H1 : Hp} {S S1 : Sg}
theorem trim_ok (hr : Rl K ι S H) (s : Sub ι H ι1 H1) (r1 : Rl K ι1 S1 H1) : ∃ ι2, Sub ι H ι2 H1 ∧ Rl K ι2 (trim S.length S1) H1 ∧ (∀ x v, x.free = true → XV K ι1 H1 x v → XV K ι2 H1 x v) := by
  unfold trim
  by_cases c : (S1.drop S.length).all (·.1) = true
  · rw [if_pos c]
    obtain ⟨t, rfl, _⟩ := s.pre
    have hl : S.length ≤ S1.length := by
      have := r1.len
      rw [List.length_append, hr.len] at this
      omega
    have e : S1.take S.length ++ S1.drop S.length = S1 := List.take_append_drop _ _
    have hlen : ι.length = (S1.take S.length).length := by rw [List.length_take, hr.len]; omega
    have hT : ∀ p ∈ S1.drop S.length, p.1 = true := fun p hp => List.all_eq_true.mp c p hp
    rw [← e] at r1
    have r2 := Rl.trim r1 hlen hT
    refine ⟨ι, Sub.same s.grow s.keep s.live, r2, fun x v hf hx => XV.trim (t := t) (fun p hp => ?_) x hf hx⟩
    have hf2 : ι.map (·.1) = (S1.take S.length).map (·.1) ∧ t.map (·.1) = (S1.drop S.length).map (·.1) := by
      have e := r1.flag
      rw [List.map_append, List.map_append] at e
      exact List.append_inj e (by simpa using hlen)
    have : p.1 ∈ (S1.drop S.length).map (·.1) := by rw [← hf2.2]; exact List.mem_map_of_mem hp
    obtain ⟨q, hq, e⟩ := List.mem_map.mp this
    rw [← e]; exact hT q hq
  · rw [if_neg c]
    exact ⟨ι1, s, r1, fun _ _ _ h => h⟩
theorem lr_start {xs : List Mv} {vs : List V} (h : XCs K ι H xs vs) (n : Nat) : LR K ι H (xs.map some ++ List.replicate (n - xs.length) none) (vs.map some ++ List.replicate (n - vs.length) none) := by
  have hl := h.length
  refine ⟨by simp [hl], fun i x e => ?_⟩
  by_cases hi : i < xs.length
  · rw [List.getElem?_append_left (by simpa using hi), List.getElem?_map] at e
    cases q : xs[i]? with
    | none => rw [q] at e; cases e
    | some y =>
      rw [q] at e
      cases e
      have get : ∀ {xs : List Mv} {vs : List V} {i : Nat} {x : Mv}, XCs K ι H xs vs → xs[i]? = some x → ∃ v, vs[i]? = some v ∧ XC K ι H x v := by
        intro xs vs i x h
        induction h generalizing i with
        | nil => intro e; cases e
        | cons r t ih =>
          cases i with
          | zero => intro e; cases e; exact ⟨_, rfl, r⟩
          | succ i => intro e; exact ih e
      obtain ⟨v, e1, r⟩ := get h q
      refine ⟨v, ?_, r.2⟩
      rw [List.getElem?_append_left (by simpa [← hl] using hi), List.getElem?_map, e1]; rfl
  · rw [List.getElem?_append_right (by simpa using hi)] at e
    have := List.mem_of_getElem? e
    have := (List.mem_replicate.mp this).2
    cases this
end
section
variable {P : Program} {w : World} {K : PySem.W.Frag} {mg : Str → Option Value} {base : Heap}
/-- from a body's mirror to the frame's end -/
theorem body_end {X : Cx} {k n : Nat} {m : MS} {xs : List Mv} {vs : List V} {ι : Io} {S : Sg} {H : Hp} {Q : VK} {E : XK} (hx : XCs X.K ι H xs vs) (hR : Rl X.K ι S H)
    (h : Post (XV X.K) X.K (fun c d _ H => E c d H) ι [] H Q (fnM n m xs S)) : tS X.K (fun c d _ H => E c d H) m { nx := fun _ H' => Q .non H', rt := Q } (vs.map some ++ List.replicate (n - vs.length) none) H := by
  refine ⟨ι, S, _, lr_start hx n, hR, ?_⟩
  unfold fnM at h
  generalize (xs.map some ++ List.replicate (n - xs.length) none) = ρ at h ⊢
  cases e : m ρ S with
  | nx ρ' S' =>
    rw [e] at h
    intro ι1 H1 σ' s1 r1 l1
    obtain ⟨ι2, s2, r2, _⟩ := trim_ok hR s1 r1
    exact h _ _ _ s2 r2 .non
  | rt y S' =>
    rw [e] at h
    intro ι1 H1 v s1 r1 hy
    simp only [fin] at h
    by_cases c : y.free = true
    · rw [if_pos c] at h
      obtain ⟨ι2, s2, r2, tr⟩ := trim_ok hR s1 r1
      exact h _ _ _ s2 r2 (tr _ _ c hy)
    · rw [if_neg c] at h; exact h.elim
  | bk ρ' S' => rw [e] at h; exact h.elim
  | ct ρ' S' => rw [e] at h; exact h.elim
  | exc ex ρ' S' =>
    rw [e] at h
    intro ι1 H1 d σ' s1 r1 l1 hy
    simp only [fin] at h
    obtain ⟨ι2, s2, r2, tr⟩ := trim_ok hR s1 r1
    refine h _ _ _ s2 r2 ?_
    rcases hy with hy | ⟨h0, dd, us, h1, h2, h3, h4⟩
    · exact .inl hy
    · exact .inr ⟨h0, dd, us, h1, h2, h3, XVl_iff.mpr (L2.Paired.mapP (XVl_iff.mp h4) fun x v r => ⟨r.1, tr x v r.1 r.2⟩)⟩
  | bad => rw [e] at h; exact h.elim
theorem fn_m {x qual : Str} {st : Stmt} {f : Addr} {fd : FuncData} {N ps : List Str} {k : Nat} {m : MS} (F : Fun K x qual st f fd) (Sc : FnScope N ps (defScope st))
    (hb : ∀ (cdv : Value) (A : Around) (outer : List Env) (s : Shared) (H : Hp) (E : XK), Room k (A.deeper (envOfC qual (defScope st) s.heap.objs.size f cdv)) → GdP gb (A.deeper (envOfC qual (defScope st) s.heap.objs.size f cdv)).guards →
      Takes (cxOf (L2.CX P w) P w K mg base N qual (defScope st) f cdv A outer s H E) (fun c d _ H => E c d H) →
      PassesOwn (model P w) (A.deeper (envOfC qual (defScope st) s.heap.objs.size f cdv)) (envOfC qual (defScope st) s.heap.objs.size f cdv) (cxOf (L2.CX P w) P w K mg base N qual (defScope st) f cdv A outer s H E).xe →
      PMB (cxOf (L2.CX P w) P w K mg base N qual (defScope st) f cdv A outer s H E) (fun c d _ H => E c d H) (defBody st) m) : FnM gb P w K mg base (k + 1) f fd ps (fnM N.length m) := by
  obtain ⟨oc, od, kV, doc, pm, an, cdv, ct, osl, rfl, lk, hcd⟩ := F.ex
  refine ⟨fun A outer s H args us vs Q E room gds ent bnd rel want => ?_⟩
  obtain ⟨ι, S, xs, hx, hlen, hR, want⟩ := want
  have hlv : vs.length = ps.length := by rw [← hx.length]; exact hlen
  have kin : K.In s.heap := ent.mod.kin.keeps fun b o e => (ent.bs b o e).1
  have lim : s.heap.NoLimit := ent.mod.nolimit.keeps fun b o e => (ent.bs b o e).1
  have places : ∀ y ∈ ps.zip us, (defScope st).names.lookup y.1 = some .local ∨ ((defScope st).names.lookup y.1 = some .cell ∧ ((cellsFrom (s.heap.objs.size + 1) (defScope st).names []).lookup y.1).isSome = true) := by
    rintro ⟨n, v⟩ hy
    rcases Sc.par n (List.of_mem_zip hy).1 with q | q
    · exact .inl q
    · exact .inr ⟨q, PySem.W.cellsFrom_some _ _ _ (.inl q)⟩
  refine codeAny_call_function room.depth (kin _ _ lk) rfl Sc.co Sc.gen rfl (PySem.W.codeRec_of kin hcd) (bnd _ _ _ _ ?_)
  refine wpAny_newFunctionEnv_cells Sc.kind places fun env he s1 begun => ?_
  subst he
  refine ⟨lim.keeps begun.toInCall.keep, codeAny_func ?_⟩
  have I := inv_start (CX := L2.CX P w) (E := E) (cd := cdv) (qual := qual) (f := f) Sc room.hd ent hlv rel begun
  have body := hb cdv A outer s H E (room.deeper _) gds (takes_of (X := cxOf (L2.CX P w) P w K mg base N qual (defScope st) f cdv A outer s H E) rfl rfl rfl rfl) (passes_of (X := cxOf (L2.CX P w) P w K mg base N qual (defScope st) f cdv A outer s H E) rfl)
  refine wpAny_mono (body.run [] s1 (start N vs) H _ I (body_end (X := cxOf (L2.CX P w) P w K mg base N qual (defScope st) f cdv A outer s H E) (k := k) hx hR want)) (fun fl s' got => ?_) fun e s' got => got
  cases fl with
  | ret u => exact let ⟨v, _, H', J, rv, q⟩ := got; ⟨v, H', J.os, J.bare, J.base, J.hok, rv, q⟩
  | next => exact let ⟨_, H', J, q⟩ := got; ⟨V.non, H', J.os, J.bare, J.base, J.hok, rfl, q⟩
  | brk => exact let ⟨_, _, _, q⟩ := got; False.elim q
  | cont => exact let ⟨_, _, _, q⟩ := got; False.elim q
end
/-- calls of a def by its name -/
def mCall (n : Nat) (f : List Mv → Sg → Res Mv) (ds : List Mv) (a : MA) : ME := fun ρ S => (a ρ S).bind fun xs S1 => if frees xs = true ∧ (xs ++ ds).length = n then f (xs ++ ds) S1 else .bad
section
variable {X : Cx} {W : WX} {k : Nat} {f : Addr} {fd : FuncData} {ps : List Str} {m : List Mv → Sg → Res Mv} {x : Str} {p pos : Pos} {e : Expr} {es : List Expr} {ms : MA} {ds : List Mv} {dvs : List V} {dus : List Value}
theorem Paired.append {α β : Type} {F : α → β → Prop} {xs xs' : List α} {ys ys' : List β} (h : Paired F xs ys) (h' : Paired F xs' ys') : Paired F (xs ++ xs') (ys ++ ys') := by
  induction h with
  | nil => exact h'
  | cons r t ih => exact .cons r ih
/-- the callee runs -/
theorem run_m {pins : List (Addr × Obj)} {σ : L2.St} {H : Hp} {s : Shared} {Q : VK} {us : List Value} {vs : List V} {args : Args} (F : FnM gb X.prog X.w X.K X.mg X.base k f fd ps m) (hr : Room k X.A) (gds : GdP gb X.A.guards) (tk : Takes X W) (hb : BindsTo s fd args (ps.zip us))
    (I : Inv X pins σ H s) (r : Vals vs us) (h : spM X.K ps.length m vs H Q (WE W σ)) : codeAny (model X.prog X.w) X.A (.call (.ref f) args) (fun r s' => match r with | .ok (.ret u) => EP X pins σ Q u s' | .ok _ => False | .error e => X.xe e s') s := by
  refine codeAny_mono (F.run X.A X.stack s H args us vs Q (WE W σ) hr gds I.env0 hb r h) fun res s' got => ?_
  cases res with
  | error e => exact passAt tk σ pins H s e s' I got
  | ok fl =>
    cases fl with
    | ret u => exact I.after got
    | next => exact got
    | brk => exact got
    | cont => exact got
theorem pm_call {n : Nat} (F : FnM gb X.prog X.w X.K X.mg X.base k f fd ps m) (hr : Room k X.A) (gds : GdP gb X.A.guards) (tk : Takes X W) (hg : Gl X x) (hm : X.mg x = some (.ref f)) (hk : PySem.W.keepIn X.K (.ref f) = true) (hb : L2.Binds X.K fd ps dus) (hd : Vals dvs dus)
    (hds : ∀ ι H, XCs X.K ι H ds dvs) (ha : PL X W (e :: es) ms) (hn : ps.length = n := by rfl) (hdb : (x == ("__debug__" : Str)) = false := by decide) (he : starEach (e :: es) X.env = (false, eval e X.env) :: starEach es X.env := by rfl) (hpl : (backTo pos (starEach es X.env)).any (·.1) = false := by rfl) :
    PM X W (.Call (.Name x p) (e :: es) [] pos) (mCall n m ds ms) := by
  subst hn
  refine ⟨fun pins s σ H Q I ⟨ι, S, ρ, hl, hR, h⟩ => ?_⟩
  refine wpAny_Call_Name_kw (ld_glob I hg hm ?_ hdb)
  have want : tG (XVs X.K) X.K W ms σ H fun vs H1 => spM X.K ps.length m (vs ++ dvs) H1 Q (WE W σ) := ⟨ι, S, ρ, hl, hR, step h fun xs vs ι1 H1 S1 s1 r1 hx h1 => by
    by_cases c : frees xs = true ∧ (xs ++ ds).length = ps.length
    · rw [if_pos c] at h1
      refine ⟨ι1, S1, xs ++ ds, Paired.append (Paired_frees hx c.1) (hds _ _), c.2, r1, ?_⟩
      cases e : m (xs ++ ds) S1 with
      | ok y S' => rw [e] at h1; exact h1
      | exc y S' => rw [e] at h1; exact h1
      | bad => rw [e] at h1; exact h1
    · rw [if_neg c] at h1; exact h1.elim⟩
  refine PySem.W.callWith_K (h₀ := X.base) I.ok.mod.kin hk (thn (ha.run pos pins s σ H _ I want) fun us s1 ⟨vs, H1, I1, r, q⟩ => ⟨I1.kIn, ?_⟩) he hpl
  have rr : Vals (vs ++ dvs) (us ++ dus) := r.append hd
  have hlen : (us ++ dus).length = ps.length := by
    obtain ⟨_, _, xs, hx, hl2, _⟩ := id q
    rw [← rr.length, ← hx.length]; exact hl2
  refine wpAny_call (codeAny_mono (run_m F hr gds tk (hb s1 us I1.kIn hlen) I1 rr q) fun res s' got => ?_)
  cases res with
  | error e => exact got
  | ok fl => cases fl <;> exact got
end
end MM
end
section
set_option Elab.async false
set_option linter.all false
set_option maxRecDepth 100000
set_option maxHeartbeats 4000000
set_option autoImplicit false
namespace MM
open PySem PySem.Spec PyProof.Rows L2
def mWhile (c : MT) (b : MS) : Nat → MS
  | 0 => fun _ _ => .bad
  | n + 1 => fun ρ S => (c ρ S).go ρ fun k S1 => if k = true then (match b ρ S1 with
      | .nx ρ' S' => mWhile c b n ρ' S' | .ct ρ' S' => mWhile c b n ρ' S' | .bk ρ' S' => .nx ρ' S' | r => r) else .nx ρ S1
section
variable {X : Cx} {W : WX} {pos : Pos}
theorem pms_while {c : Expr} {body : List Stmt} {mc : MT} {mb : MS} (n : Nat) (hp : PassesOwn (model X.prog X.w) X.A X.env X.xe) (hc : PB X W c mc) (hb : PMB X W body mb) : PMS X W (.While c body [] pos) (mWhile mc mb n) := by
  refine ps_imp (ps_while hp hc hb) fun D σ H ⟨ι, S, ρ, hl, hr, h⟩ => ?_
  refine ⟨fun n σ H => ∃ ι S ρ, LR X.K ι H ρ σ ∧ Rl X.K ι S H ∧ PostS X.K W ι H D (mWhile mc mb n ρ S), ⟨n, ι, S, ρ, hl, hr, h⟩, fun n σ H hW => ?_⟩
  obtain ⟨ι, S, ρ, hl, hr, h⟩ := hW
  cases n with
  | zero => exact h.elim
  | succ n =>
    refine ⟨ι, S, ρ, hl, hr, stepS h hl fun x v ι1 H1 S1 s1 r1 hx h1 => ?_⟩
    cases hx
    cases x with
    | false => exact iteF ((show PostS _ _ _ _ _ (.nx ρ S1) by simpa using h1) _ _ _ (Sub.refl _ _) r1 (hl.mono s1))
    | true =>
      refine iteT ⟨fun σ H => ∃ ι S ρ, LR X.K ι H ρ σ ∧ Rl X.K ι S H ∧ PostS X.K W ι H D (mWhile mc mb n ρ S), fun σ' H' q => ⟨n, Nat.lt_succ_self n, q⟩, ι1, S1, ρ, hl.mono s1, r1, ?_⟩
      rw [if_pos rfl] at h1
      cases e : mb ρ S1 with
      | nx ρ' S' => rw [e] at h1; exact fun ι' H' σ' s r l => ⟨ι', S', ρ', l, r, h1.sub s⟩
      | ct ρ' S' => rw [e] at h1; exact fun ι' H' σ' s r l => ⟨ι', S', ρ', l, r, h1.sub s⟩
      | bk ρ' S' => rw [e] at h1; exact h1
      | rt ρ' S' => rw [e] at h1; exact h1
      | exc _ ρ' S' => rw [e] at h1; exact h1
      | bad => rw [e] at h1; exact h1
def ItM (K : PySem.W.Frag) (ι : Io) (H : Hp) (xs : List Mv) (J : It) : Prop :=
  ∀ ι1 H1 S1, Sub ι H ι1 H1 → Rl K ι1 S1 H1 → ∀ i, (∀ x, xs[i]? = some x → J.go i H1 ∧ ∀ v H2, J.yld i H1 v H2 → Rl K ι1 S1 H2 ∧ Sub ι1 H1 ι1 H2 ∧ XV K ι1 H2 x v) ∧ (xs.length ≤ i → J.stop i H1)
def PIM (X : Cx) (W : WX) (tg iter : Expr) (m : MA) : Prop := PI X tg iter (tG (ItM X.K) X.K W m)
theorem pi_imp {tg e : Expr} {t t' : TI} (h : PI X tg e t) (i : ∀ σ H Q, t' σ H Q → t σ H Q) : PI X tg e t' := ⟨fun pins s σ H Q I q => h.run pins s σ H Q I (i _ _ _ q)⟩
theorem pi_or {tg e : Expr} {t t' : TI} (h : PI X tg e t) (h' : PI X tg e t') : PI X tg e (fun σ H Q => t σ H Q ∨ t' σ H Q) := ⟨fun pins s σ H Q I q => by
  rcases q with q | q
  · exact h.run pins s σ H Q I q
  · exact h'.run pins s σ H Q I q⟩
theorem ItM.mono {K : PySem.W.Frag} {ι ι1 : Io} {H H1 : Hp} {xs : List Mv} {J : It} (h : ItM K ι H xs J) (s : Sub ι H ι1 H1) : ItM K ι1 H1 xs J := fun ι2 H2 S2 s2 => h ι2 H2 S2 (s.trans s2)
theorem Paired.at {α β : Type} {F : α → β → Prop} {xs : List α} {ys : List β} (h : Paired F xs ys) {i : Nat} {x : α} (e : xs[i]? = some x) : ∃ y, ys[i]? = some y ∧ F x y := by
  induction h generalizing i with
  | nil => cases e
  | cons r t ih =>
    cases i with
    | zero => cases e; exact ⟨_, rfl, r⟩
    | succ i => exact ih e
/-- a text's signs -/
def signs (z : Str) : List Mv := z.cps.toList.map fun c => .d (.str ⟨#[c]⟩)
theorem itm_lst {K : PySem.W.Frag} {ι : Io} {H : Hp} {a : Addr} {vs : List V} {xs : List Mv} (h : FzL K H a vs) (hs : XCs K ι H xs vs) : ItM K ι H xs (Itl K a) := by
  intro ι1 H1 S1 s r i
  have h1 := (h.mono s.grow).sq
  have p : XCs K ι1 H1 xs vs := XCs.mono s hs
  refine ⟨fun x e => ?_, fun e => ⟨vs, h1, by rw [← p.length]; exact e⟩⟩
  obtain ⟨v, e1, r1⟩ := Paired.at p e
  refine ⟨⟨vs, v, h1, e1⟩, fun v' H2 ⟨e2, q⟩ => ?_⟩
  have e3 := q vs h1
  rw [e1] at e3
  cases e3
  rw [e2]
  exact ⟨r, Sub.refl _ _, r1.2⟩
theorem itm_tup {K : PySem.W.Frag} {ι : Io} {H : Hp} {a : Addr} {vs : List V} {xs : List Mv} (h : SqT K H a vs) (hs : XCs K ι H xs vs) : ItM K ι H xs (Itt K a) := by
  intro ι1 H1 S1 s r i
  have h1 := SqT_mono s.grow h
  have p : XCs K ι1 H1 xs vs := XCs.mono s hs
  refine ⟨fun x e => ?_, fun e => ⟨vs, h1, by rw [← p.length]; exact e⟩⟩
  obtain ⟨v, e1, r1⟩ := Paired.at p e
  refine ⟨⟨vs, v, h1, e1⟩, fun v' H2 ⟨e2, q⟩ => ?_⟩
  have e3 := q vs h1
  rw [e1] at e3
  cases e3
  rw [e2]
  exact ⟨r, Sub.refl _ _, r1.2⟩
theorem itm_str {K : PySem.W.Frag} {ι : Io} {H : Hp} (z : Str) : ItM K ι H (signs z) (Its z) := by
  intro ι1 H1 S1 s r i
  have hz : (signs z).length = z.cps.size := by simp [signs]
  refine ⟨fun x e => ?_, fun e => by show z.cps.size ≤ i; rw [← hz]; exact e⟩
  have hi : i < z.cps.size := by rw [← hz]; exact (List.getElem?_eq_some_iff.mp e).1
  refine ⟨hi, fun v' H2 ⟨e2, c, e3, e4⟩ => ?_⟩
  rw [e2, e4]
  refine ⟨r, Sub.refl _ _, ?_⟩
  unfold signs at e
  rw [List.getElem?_map, Array.getElem?_toList, e3] at e
  cases e
  exact .str _
def Mv.items (x : Mv) : Option (List Mv) := match x with
  | .d (.list xs) => some (xs.map .d)
  | .d (.tuple xs) => some (xs.map .d)
  | .d (.str z) => some (signs z)
  | .tup xs => some xs
  | .frl xs => some xs
  | _ => none
def mIter (m : ME) : MA := fun ρ S => (m ρ S).bind fun x S1 => match x.items with | some xs => .ok xs S1 | none => .bad
theorem pim_seq {tg e : Expr} {m : ME} (h : PM X W e m) : PIM X W tg e (mIter m) := by
  refine pi_imp (pi_or (pi_list h) (pi_or (pi_tup h) (pi_str h))) fun σ H R ⟨ι, S, ρ, hl, hr, h⟩ => ?_
  cases e : m ρ S with
  | bad => unfold mIter at h; rw [e] at h; exact h.elim
  | exc ex S' =>
    unfold mIter at h; rw [e] at h
    exact .inl ⟨ι, S, ρ, hl, hr, by rw [e]; exact h⟩
  | ok x S1 =>
    have h0 := h
    unfold mIter at h; rw [e] at h
    cases x with
    | d y =>
      cases y with
      | list ds =>
        refine .inl ⟨ι, S, ρ, hl, hr, ?_⟩
        rw [e]
        intro ι1 H1 v s1 r1 hx
        cases hx with
        | lst hf hs => exact ⟨_, rfl, ⟨_, hf.sq⟩, h _ _ _ s1 r1 (itm_lst hf (FDs.xcs hs))⟩
      | tuple ds =>
        refine .inr (.inl ⟨ι, S, ρ, hl, hr, ?_⟩)
        rw [e]
        intro ι1 H1 v s1 r1 hx
        cases hx with
        | tup hf hs => exact ⟨_, rfl, ⟨_, hf.sq⟩, h _ _ _ s1 r1 (itm_tup hf.sq (FDs.xcs hs))⟩
      | str z =>
        refine .inr (.inr ⟨ι, S, ρ, hl, hr, ?_⟩)
        rw [e]
        intro ι1 H1 v s1 r1 hx
        cases hx with
        | str z => exact ⟨z, rfl, h _ _ _ s1 r1 (itm_str z)⟩
      | _ => exact h.elim
    | frl xs =>
      refine .inl ⟨ι, S, ρ, hl, hr, ?_⟩
      rw [e]
      intro ι1 H1 v s1 r1 hx
      rw [XV] at hx
      obtain ⟨a, vs, rfl, hf, hs⟩ := hx
      exact ⟨_, rfl, ⟨_, hf.sq⟩, h _ _ _ s1 r1 (itm_lst hf (XVl_iff.mp hs))⟩
    | tup xs =>
      refine .inr (.inl ⟨ι, S, ρ, hl, hr, ?_⟩)
      rw [e]
      intro ι1 H1 v s1 r1 hx
      rw [XV] at hx
      obtain ⟨a, vs, rfl, hf, hs⟩ := hx
      exact ⟨_, rfl, ⟨_, hf.sq⟩, h _ _ _ s1 r1 (itm_tup hf.sq (XVl_iff.mp hs))⟩
    | _ => exact h.elim
def rangeL (lo : Int) (n : Nat) : List Mv := (List.range n).map fun i : Nat => .d (.int (lo + i))
theorem itm_rng {K : PySem.W.Frag} {ι : Io} {H : Hp} (lo : Int) (n : Nat) : ItM K ι H (rangeL lo n) (Itr lo n) := by
  intro ι1 H1 S1 s r i
  have hz : (rangeL lo n).length = n := by simp [rangeL]
  refine ⟨fun x e => ?_, fun e => by show n ≤ i; rw [← hz]; exact e⟩
  have hi : i < n := by rw [← hz]; exact (List.getElem?_eq_some_iff.mp e).1
  refine ⟨hi, fun v' H2 ⟨e2, e3⟩ => ?_⟩
  rw [e2, e3]
  refine ⟨r, Sub.refl _ _, ?_⟩
  unfold rangeL at e
  rw [List.getElem?_map, List.getElem?_range hi] at e
  cases e
  exact .int _
noncomputable def mRange1 (a : MA) : MA := fun ρ S => (a ρ S).bind fun xs S1 => match xs with | [.d (.int j)] => @ite _ (-(2 ^ 62) ≤ j ∧ j < 2 ^ 62) (Classical.propDecidable _) (.ok (rangeL 0 j.toNat) S1) .bad | _ => .bad
theorem pim_range1 {tg a : Expr} {ma : MA} {p : Pos} (hg : Gl X "range") (hm : X.mg "range" = none) (ha : PL X W [a] ma) (hs : starEach [a] X.env = [(false, eval a X.env)] := by rfl) : PIM X W tg (.Call (.Name "range" p) [a] [] pos) (mRange1 ma) := by
  refine pi_imp (pi_range1 hg hm ha hs) fun σ H R ⟨ι, S, ρ, hl, hr, h⟩ => ⟨ι, S, ρ, hl, hr, step h fun xs vs ι1 H1 S1 s1 r1 hx h1 => ?_⟩
  cases hx with
  | nil => exact h1.elim
  | @cons x v xs vs r t =>
    cases t with
    | cons r2 t2 => cases x <;> first | exact h1.elim | (rename_i y; cases y <;> exact h1.elim)
    | nil =>
      cases x with
      | d y =>
        cases y with
        | int j =>
          cases r
          simp only at h1
          by_cases c : -(2 ^ 62) ≤ j ∧ j < 2 ^ 62
          · rw [if_pos c] at h1
            exact ⟨j, rfl, c.1, c.2, h1 _ _ _ (Sub.refl _ _) r1 (itm_rng _ _)⟩
          · rw [if_neg c] at h1; exact h1.elim
        | _ => exact h1.elim
      | _ => exact h1.elim
def mLoop (g : MG) (b : MS) : List Mv → MS
  | [] => fun ρ S => .nx ρ S
  | x :: xs => fun ρ S => match g S x ρ with
    | none => .bad
    | some ρ1 => match b ρ1 S with
      | .nx ρ' S' => mLoop g b xs ρ' S' | .ct ρ' S' => mLoop g b xs ρ' S' | .bk ρ' S' => .nx ρ' S' | r => r
def mFor (mi : MA) (g : MG) (b : MS) : MS := fun ρ S => (mi ρ S).go ρ fun xs S1 => mLoop g b xs ρ S1
theorem drop_at {α : Type} {xs : List α} {i : Nat} {x : α} {r : List α} (e : xs.drop i = x :: r) : xs[i]? = some x ∧ xs.drop (i + 1) = r := by
  have h1 : (xs.drop i)[0]? = some x := by rw [e]; rfl
  rw [List.getElem?_drop] at h1
  refine ⟨by simpa using h1, ?_⟩
  rw [← List.drop_drop, e]; rfl
theorem pms_for {ts : List Nat} {tg iter : Expr} {body : List Stmt} {mi : MA} {g : MG} {mb : MS} (hp : PassesOwn (model X.prog X.w) X.A X.env X.xe) (hc : X.calm = true) (hi : PIM X W tg iter mi) (hg : PMG X ts tg g) (hb : PMB X W body mb)
    (hs : ∀ x, foldedSetIterable iter X.env x = pure x := by intro _; rfl) : PMS X W (.For tg iter body [] pos) (mFor mi g mb) := by
  refine ps_imp (ps_for hp hc hi hg hb hs) fun D σ H ⟨ι, S, ρ, hl, hr, h⟩ => ?_
  refine ⟨ι, S, ρ, hl, hr, stepS h hl fun xs J ι1 H1 S1 s1 r1 hJ h1 => ?_⟩
  refine ⟨fun i n σ H => ∃ ι S ρ, Sub ι1 H1 ι H ∧ LR X.K ι H ρ σ ∧ Rl X.K ι S H ∧ n = xs.length - i ∧ PostS X.K W ι H D (mLoop g mb (xs.drop i) ρ S), ⟨xs.length, ι1, S1, ρ, Sub.refl _ _, hl.mono s1, r1, rfl, h1⟩, fun i n σ H hW => ?_⟩
  clear hl hr h s1 r1 h1
  obtain ⟨ι, S, ρ, s, hl, hr, hn, h⟩ := hW
  cases e : xs.drop i with
  | nil =>
    rw [e] at h
    have : xs.length ≤ i := by
      have := congrArg List.length e
      simp at this; omega
    exact .inl ⟨(hJ ι H S s hr i).2 this, h _ _ _ (Sub.refl _ _) hr hl⟩
  | cons x r =>
    obtain ⟨e1, e2⟩ := drop_at e
    rw [e] at h
    obtain ⟨go, yl⟩ := (hJ ι H S s hr i).1 x e1
    refine .inr ⟨go, fun σ H => ∃ ι S ρ, Sub ι1 H1 ι H ∧ LR X.K ι H ρ σ ∧ Rl X.K ι S H ∧ PostS X.K W ι H D (mLoop g mb r ρ S), fun σ' H' q => ⟨xs.length - (i + 1), ?_, ?_⟩, fun v H2 hy => ?_⟩
    · have := (List.getElem?_eq_some_iff.mp e1).1
      omega
    · obtain ⟨ι', S', ρ', a, b, c, d⟩ := q
      exact ⟨ι', S', ρ', a, b, c, rfl, by rw [e2]; exact d⟩
    · obtain ⟨r2, s2, hx⟩ := yl v H2 hy
      simp only [mLoop] at h
      cases eg : g S x ρ with
      | none => rw [eg] at h; exact h.elim
      | some ρ1 =>
        rw [eg] at h
        refine ⟨ι, S, ρ, x, ρ1, hl.mono s2, r2, hx, eg, fun σ' l' _ => ⟨ι, S, ρ1, l', r2, ?_⟩⟩
        have h := h.sub s2
        simp only at h
        cases eb : mb ρ1 S with
        | nx ρ' S' => rw [eb] at h; exact fun ι' H' σ' s' r l => ⟨ι', S', ρ', (s.trans s2).trans s', l, r, h.sub s'⟩
        | ct ρ' S' => rw [eb] at h; exact fun ι' H' σ' s' r l => ⟨ι', S', ρ', (s.trans s2).trans s', l, r, h.sub s'⟩
        | bk ρ' S' => rw [eb] at h; exact h
        | rt ρ' S' => rw [eb] at h; exact h
        | exc _ ρ' S' => rw [eb] at h; exact h
        | bad => rw [eb] at h; exact h
abbrev W0 : WX := fun _ _ _ _ => False
def okP {α : Type} (r : Res α) (k : α → Sg → Prop) : Prop := match r with | .ok x S => k x S | _ => False
theorem stepN {α β γ : Type} {R : Io → Hp → α → β → Prop} {K : PySem.W.Frag} {ι : Io} {σ : L2.St} {H : Hp} {T : β → Hp → Prop} {m : Res α} {f : α → Sg → Res γ} {q : γ → Sg → Prop} (hp : okP (m.bind f) q)
    (k : ∀ x v ι1 H1 S1, Sub ι H ι1 H1 → Rl K ι1 S1 H1 → R ι1 H1 x v → okP (f x S1) q → T v H1) : Post R K W0 ι σ H T m := by
  cases m with
  | ok x S' => exact fun ι' H' v s r x' => k x v ι' H' S' s r x' hp
  | exc e S' => exact hp.elim
  | bad => exact hp
def wipeM (ρ : Rho) : List Nat → Rho
  | [] => ρ
  | v :: vs => (wipeM ρ vs).set v none
def lcLoop (g : MG) (tt : MT) (te : ME) (ρ : Rho) : List Mv → List Mv → Sg → Res (List Mv)
  | [], acc, S => .ok acc S
  | x :: xs, acc, S => match g S x ρ with
    | none => .bad
    | some ρ1 => (tt ρ1 S).bind fun k S1 => if k = true then (te ρ1 S1).bind fun y S2 => if y.free = true ∧ acc.length < sizeLine then lcLoop g tt te ρ xs (acc ++ [y]) S2 else .bad else lcLoop g tt te ρ xs acc S1
def Res.nox {α : Type} : Res α → Res α
  | .exc _ _ => .bad
  | r => r
def mLc (b : Bi) (mi : MA) (g : MG) (tt : MT) (te : ME) (vs : List Nat) : ME := fun ρ S => (mi ρ S).bind fun xs S1 => (lcLoop g tt te (wipeM ρ vs) xs [] S1).nox.bind fun acc S2 => bear b (.lst acc) S2
def PTM (X : Cx) (W : WX) (ifs : List Expr) (m : MT) : Prop := PTs X ifs (tG RB X.K W m)
theorem pts_imp {ifs : List Expr} {t t' : TT} (h : PTs X ifs t) (i : ∀ σ H Q, t' σ H Q → t σ H Q) : PTs X ifs t' := ⟨fun pins s σ H Q I q => h.run pins s σ H Q I (i _ _ _ q)⟩
def mYes : MT := fun _ S => .ok true S
theorem ptm_nil : PTM X W [] mYes := pts_imp pts_nil fun σ H Q ⟨ι, S, ρ, hl, hr, h⟩ => h _ _ _ (Sub.refl _ _) hr rfl
theorem ptm_one {c : Expr} {m : MT} (h : PB X W c m) : PTM X W [c] m := pts_one h
theorem lr_wipe {K : PySem.W.Frag} {ι : Io} {H : Hp} {ρ : Rho} {σ : L2.St} (h : LR K ι H ρ σ) : ∀ vs : List Nat, LR K ι H (wipeM ρ vs) (wipe σ vs)
  | [] => h
  | v :: vs => by
    have ih := lr_wipe h vs
    refine ⟨by simp only [wipeM, wipe, List.length_set]; exact ih.1, fun i x e => ?_⟩
    simp only [wipeM] at e
    simp only [wipe]
    by_cases hi : v = i
    · subst hi
      by_cases hl : v < (wipeM ρ vs).length
      · rw [List.getElem?_set_self hl] at e; cases e
      · rw [List.getElem?_eq_none (by rw [List.length_set]; omega)] at e; cases e
    · rw [List.getElem?_set_ne hi] at e ⊢
      exact ih.2 i x e
theorem wipe_get (σ : L2.St) (i : Nat) : ∀ vs : List Nat, (wipe σ vs)[i]? = if i ∈ vs then (if i < σ.length then some none else none) else σ[i]?
  | [] => by simp [wipe]
  | v :: vs => by
    simp only [wipe]
    by_cases hi : v = i
    · subst hi
      by_cases hl : v < σ.length
      · rw [List.getElem?_set_self (by rw [wipe_length]; exact hl)]; simp [hl]
      · rw [List.getElem?_eq_none (by rw [List.length_set, wipe_length]; omega)]; simp [hl]
    · rw [List.getElem?_set_ne hi, wipe_get σ i vs]
      have : (i ∈ v :: vs) ↔ i ∈ vs := ⟨fun z => (List.mem_cons.mp z).resolve_left fun e => hi e.symm, fun z => List.mem_cons_of_mem _ z⟩
      simp only [this]
theorem wipe_off {σ σ' : L2.St} {ts vs : List Nat} (hs : ∀ t ∈ ts, t ∈ vs) (o : Off ts (wipe σ vs) σ') : wipe σ' vs = wipe σ vs := by
  refine List.ext_getElem? fun i => ?_
  have hl : σ'.length = σ.length := by rw [o.1, wipe_length]
  rw [wipe_get, wipe_get, hl]
  by_cases hi : i ∈ vs
  · simp [hi]
  · rw [if_neg hi, if_neg hi]
    rw [o.2 i (fun z => hi (hs i z)), wipe_get, if_neg hi]
theorem lc_coreM {ts vs : List Nat} {mi : MA} {g : MG} {tt : MT} {te : ME} {b : Bi} {σ : L2.St} {H : Hp} {Q : VK} (hs : ∀ t ∈ ts, t ∈ vs) (h : tG (XV X.K) X.K W (mLc b mi g tt te vs) σ H Q) :
    tLc (tG (ItM X.K) X.K W mi) (fun v σ H Q => ∃ ι S ρ x ρ', LR X.K ι H ρ σ ∧ Rl X.K ι S H ∧ XV X.K ι H x v ∧ g S x ρ = some ρ' ∧ ∀ σ', LR X.K ι H ρ' σ' → Off ts σ σ' → Q σ' H)
      (tG RB X.K W0 tt) (tG (XV X.K) X.K W0 te) vs σ H (Qf b Q) := by
  obtain ⟨ι, S, ρ, hl, hr, h⟩ := h
  refine ⟨ι, S, ρ, hl, hr, step h fun xs J ι1 H1 S1 s1 r1 hJ h1 => ?_⟩
  intro D hD
  -- the loop's end
  have h2 : okP (lcLoop g tt te (wipeM ρ vs) xs [] S1) fun acc S2 => Post (XV X.K) X.K W ι1 σ H1 Q (bear b (.lst acc) S2) := by
    cases e : lcLoop g tt te (wipeM ρ vs) xs [] S1 with
    | ok x S' => rw [e] at h1; exact h1
    | exc x S' => rw [e] at h1; exact h1
    | bad => rw [e] at h1; exact h1
  clear h1
  obtain ⟨rD, sD⟩ := r1.beside (u := .lst []) hD
  have hl1 : LR X.K ι1 H1 (wipeM ρ vs) (wipe σ vs) := lr_wipe (hl.mono s1) vs
  refine ⟨fun i n H => ∃ ι S acc ws, Sub ι1 H1 ι H ∧ Rl X.K ι S H ∧ (∀ q ∈ ι, q.2 ≠ D) ∧ H D = some (.lst ws) ∧ XCs X.K ι H acc ws ∧ n = xs.length - i ∧
      okP (lcLoop g tt te (wipeM ρ vs) (xs.drop i) acc S) fun acc S2 => Post (XV X.K) X.K W ι1 σ H1 Q (bear b (.lst acc) S2),
    ⟨xs.length, ι1, S1, [], [], sD, rD, fun q hq z => r1.live q hq (by rw [z]; exact hD), upd_same, .nil, rfl, h2⟩, fun i n H hW => ?_⟩
  clear hl hr h s1 h2 rD sD
  obtain ⟨ι, S, acc, ws, s, hr, hq, hp, hx, hn, h⟩ := hW
  cases e : xs.drop i with
  | nil =>
    rw [e] at h
    have : xs.length ≤ i := by
      have := congrArg List.length e
      simp at this; omega
    exact .inl ⟨(hJ ι H S s hr i).2 this, bear_lst s hD hr hp hq hx h⟩
  | cons x r =>
    obtain ⟨e1, e2⟩ := drop_at e
    rw [e] at h
    obtain ⟨go, yl⟩ := (hJ ι H S s hr i).1 x e1
    refine .inr ⟨go, fun H => ∃ ι S acc ws, Sub ι1 H1 ι H ∧ Rl X.K ι S H ∧ (∀ q ∈ ι, q.2 ≠ D) ∧ H D = some (.lst ws) ∧ XCs X.K ι H acc ws ∧
      okP (lcLoop g tt te (wipeM ρ vs) r acc S) fun acc S2 => Post (XV X.K) X.K W ι1 σ H1 Q (bear b (.lst acc) S2), fun H' q => ⟨xs.length - (i + 1), ?_, ?_⟩, fun v H2 hy => ?_⟩
    · have := (List.getElem?_eq_some_iff.mp e1).1
      omega
    · obtain ⟨ι', S', a', w', a, b, c, d, f, k⟩ := q
      exact ⟨ι', S', a', w', a, b, c, d, f, rfl, by rw [e2]; exact k⟩
    · obtain ⟨r2, s2, hv⟩ := yl v H2 hy
      simp only [lcLoop] at h
      cases eg : g S x (wipeM ρ vs) with
      | none => rw [eg] at h; exact h.elim
      | some ρ1 =>
        rw [eg] at h
        simp only at h
        have sA := s.trans s2
        have hl2 := hl1.mono sA
        refine ⟨ι, S, wipeM ρ vs, x, ρ1, hl2, r2, hv, eg, fun σ' l' off => ⟨wipe_off hs off, ι, S, ρ1, l', r2, stepN h fun k k' ι3 H3 S3 s3 r3 ek h3 => ?_⟩⟩
        cases ek
        have hp2 := s2.keep D _ hp hq
        have hp3 := s3.keep D _ hp2 hq
        have hq3 : ∀ q ∈ ι3, q.2 ≠ D := fun q hm => by
          obtain ⟨t, rfl, ht⟩ := s3.pre
          rcases List.mem_append.mp hm with hm | hm
          · exact hq q hm
          · exact fun z => by rw [← z, ht q hm] at hp2; cases hp2
        have sB := sA.trans s3
        cases k with
        | false =>
          refine iteF ⟨ι3, S3, acc, ws, sB, r3, hq3, hp3, XCs.mono s3 (XCs.mono s2 hx), by simpa using h3⟩
        | true =>
          rw [if_pos rfl] at h3
          refine iteT ⟨ι3, S3, ρ1, l'.mono s3, r3, stepN h3 fun y v' ι4 H4 S4 s4 r4 hy h4 => ?_⟩
          have hp4 := s4.keep D _ hp3 hq3
          have hq4 : ∀ q ∈ ι4, q.2 ≠ D := fun q hm => by
            obtain ⟨t, rfl, ht⟩ := s4.pre
            rcases List.mem_append.mp hm with hm | hm
            · exact hq3 q hm
            · exact fun z => by rw [← z, ht q hm] at hp3; cases hp3
          by_cases c : y.free = true ∧ acc.length < sizeLine
          · rw [if_pos c] at h4
            have g4 : Grow H4 (upd H4 D (.lst (ws ++ [v']))) := Grow.write hp4 trivial
            have hx4 : XCs X.K ι4 H4 acc ws := XCs.mono s4 (XCs.mono s3 (XCs.mono s2 hx))
            refine ⟨ws, hp4, by rw [← hx.length]; exact c.2, ι4, S4, acc ++ [y], ws ++ [v'], (sB.trans s4).again hD hp4, r4.aside hp4 trivial hq4, hq4, upd_same, ?_, h4⟩
            exact Paired.append (XCs.grown ⟨[], (List.append_nil _).symm⟩ g4 hx4) (.cons ⟨c.1, hy.grown ⟨[], (List.append_nil _).symm⟩ g4⟩ .nil)
          · rw [if_neg c] at h4; exact h4.elim
abbrev tgM (X : Cx) (ts : List Nat) (g : MG) : TG := fun v σ H Q => ∃ ι S ρ x ρ', LR X.K ι H ρ σ ∧ Rl X.K ι S H ∧ XV X.K ι H x v ∧ g S x ρ = some ρ' ∧ ∀ σ', LR X.K ι H ρ' σ' → Off ts σ σ' → Q σ' H
theorem pm_lc {ts vs : List Nat} {elt tg iter : Expr} {ifs : List Expr} {scope : Scope} {own : List (Str × Nat)} {mi : MA} {g : MG} {tt : MT} {te : ME} (b : Bi) (hc : X.calm = true) (hN : X.N.Nodup) (hi : PIM X W tg iter mi) (ok : BlkOk X.N X.env.scope scope own)
    (hg : ∀ (s : Shared) (H : Hp) (C : Addr) (cl : List (Str × Addr)) (fp : List Addr), PMG (X.blk s H scope (compEnvC scope cl C X.env) fp) ts tg g) (ht : ∀ (s : Shared) (H : Hp) (C : Addr) (cl : List (Str × Addr)) (fp : List Addr), PTM (X.blk s H scope (compEnvC scope cl C X.env) fp) W0 ifs tt)
    (he : ∀ (s : Shared) (H : Hp) (C : Addr) (cl : List (Str × Addr)) (fp : List Addr), PM (X.blk s H scope (compEnvC scope cl C X.env) fp) W0 elt te) (hs : ∀ t ∈ ts, t ∈ vs) (hv : own.map (·.2) = vs := by rfl) (hf : ∀ x, foldedSetIterable iter X.env x = pure x := by intro _; rfl) :
    PM X W (.ListComp elt [⟨tg, iter, ifs, 0⟩] scope pos) (mLc b mi g tt te vs) := by
  subst hv
  exact pe_imp (pe_b b (pe_lc (g := tgM X ts g) (tt := tG RB X.K W0 tt) (te := tG (XV X.K) X.K W0 te) hc hN hi ok hg ht he hf)) fun σ H Q h => lc_coreM hs h
/-- name = [..] on one row -/
def Qs (b : Bi) (Q : L2.St → Hp → Prop) : L2.St → Hp → Prop := fun σ H => match b with
  | .frz => Q σ H ∨ ∃ a u, H a = some u ∧ Mut (some u) ∧ ∀ o, Q σ (upd H a (.frz o u))
  | _ => Q σ H
theorem ps_b {st : Stmt} {t : TS} (b : Bi) (h : PS X st t) : PS X st (fun D σ H => t { D with nx := Qs b D.nx } σ H) := by
  cases b with
  | frz =>
    refine ⟨fun pins s σ H D I q => thn (h.run pins s σ H _ I q) fun f s1 q => ?_⟩
    cases f with
    | next =>
      obtain ⟨σ', H', I1, q⟩ := q
      rcases q with q | ⟨a, u, ha, mu, q⟩
      · exact ⟨σ', H', I1, q⟩
      · obtain ⟨od, I2⟩ := I1.lock ha mu
        exact ⟨_, _, I2, q od⟩
    | ret v => exact q
    | brk => exact q
    | cont => exact q
  | ref => exact h
  | own => exact h
theorem pms_setLc {ts vs : List Nat} {i : Nat} {y : Str} {py spos : Pos} {elt tg iter : Expr} {ifs : List Expr} {scope : Scope} {own : List (Str × Nat)} {mi : MA} {g : MG} {tt : MT} {te : ME} (b : Bi) (hc : X.calm = true) (hN : X.N.Nodup) (hy : X.N[i]? = some y) (hyl : X.env.scope.names.lookup y = some .local)
    (hsw : swapsWith (.ListComp elt [⟨tg, iter, ifs, 0⟩] scope pos) (some (.Name y py)) spos.line X.env = pure true) (hi : PIM X W tg iter mi) (ok : BlkOk X.N X.env.scope scope own)
    (hg : ∀ (s : Shared) (H : Hp) (C : Addr) (cl : List (Str × Addr)) (fp : List Addr), PMG (X.blk s H scope (compEnvC scope cl C X.env) fp) ts tg g) (ht : ∀ (s : Shared) (H : Hp) (C : Addr) (cl : List (Str × Addr)) (fp : List Addr), PTM (X.blk s H scope (compEnvC scope cl C X.env) fp) W0 ifs tt)
    (he : ∀ (s : Shared) (H : Hp) (C : Addr) (cl : List (Str × Addr)) (fp : List Addr), PM (X.blk s H scope (compEnvC scope cl C X.env) fp) W0 elt te) (hs : ∀ t ∈ ts, t ∈ vs) (hv : own.map (·.2) = vs := by rfl) (hf : ∀ x, foldedSetIterable iter X.env x = pure x := by intro _; rfl) :
    PMS X W (.Assign [.Name y py] (.ListComp elt [⟨tg, iter, ifs, 0⟩] scope pos) spos) (mAsg (mLc b mi g tt te vs) (mgName i)) := by
  subst hv
  refine ps_imp (ps_b b (ps_setLc (g := tgM X ts g) (tt := tG RB X.K W0 tt) (te := tG (XV X.K) X.K W0 te) hc hN hy hyl hsw hi ok hg ht he hf)) fun D σ H h => ?_
  obtain ⟨ι, S, ρ, hl, hr, h⟩ := h
  have h' : tG (XV X.K) X.K W (mLc b mi g tt te (own.map (·.2))) σ H fun v H1 => D.nx (σ.set i (some v)) H1 :=
    ⟨ι, S, ρ, hl, hr, stepS h hl fun x v ι1 H1 S1 s1 r1 hx h1 => h1 _ _ _ (Sub.refl _ _) r1 ((hl.mono s1).set i hx)⟩
  have h2 := lc_coreM (b := b) hs h'
  show tLc _ _ _ _ _ σ H _
  cases b with
  | ref => exact h2
  | own => exact h2
  | frz =>
    have e : ∀ (v : V) (H1 : Hp), Qf .frz (fun v H1 => D.nx (σ.set i (some v)) H1) v H1 → Qs .frz D.nx (σ.set i (some v)) H1 := by
      rintro v H1 (q | ⟨a, u, rfl, ha, mu, q⟩)
      · exact .inl q
      · exact .inr ⟨a, u, ha, mu, q⟩
    obtain ⟨ι, S, ρ, hl, hr, hp⟩ := h2
    refine ⟨ι, S, ρ, hl, hr, hp.imp fun J H1 q D0 hD => ?_⟩
    obtain ⟨Wv, w0, tn⟩ := q D0 hD
    refine ⟨Wv, w0, fun j m H2 hw => ?_⟩
    rcases tn j m H2 hw with ⟨a, q⟩ | q
    · exact .inl ⟨a, e _ _ q⟩
    · exact .inr q
end
end MM
end
section
set_option Elab.async false
set_option linter.all false
set_option maxRecDepth 100000
set_option maxHeartbeats 4000000
set_option autoImplicit false
namespace MM
open PySem PySem.Spec PyProof.Rows L2
theorem ints_FDs {K : PySem.W.Frag} {H : Hp} : ∀ ns : List Int, FDs K H (ns.map PyData.int) (ns.map V.int)
  | [] => .nil
  | n :: r => .cons (.int n) (ints_FDs r)
end MM
end
section
set_option Elab.async false
set_option linter.all false
set_option maxRecDepth 100000
set_option maxHeartbeats 4000000
set_option autoImplicit false
namespace MM
open PySem PySem.Spec PyProof.Rows L2
section
variable {X : Cx} {W : WX}
theorem OpR.or2 {f : Value → Value → Sem Value} {r r' : R2} (h : OpR X f r) (h' : OpR X f r') : OpR X f (fun x y H Q => r x y H Q ∨ r' x y H Q) := fun pins s σ H x y v u Q I rx ry q => by
  rcases q with q | q
  · exact h pins s σ H x y v u Q I rx ry q
  · exact h' pins s σ H x y v u Q I rx ry q
/-- lists of any kind, one behind the other -/
def rCatL (K : PySem.W.Frag) : R2 := fun x y H Q => ∃ l b xs zs, x = .ref l ∧ y = .ref b ∧ SqL K H l xs ∧ SqL K H b zs ∧ xs.length + zs.length ≤ sizeLine ∧ ∀ p, H p = none → Q (.ref p) (upd H p (.lst (xs ++ zs)))
theorem op_catL : OpR X (binaryOp .Add) (rCatL X.K) := by
  intro pins s σ H x y v u Q I rx ry h
  obtain ⟨l, b, xs, zs, rfl, rfl, h1, h2, hz, q⟩ := h
  cases rx
  cases ry
  obtain ⟨its, r1, ⟨⟨cls, dd, data, sl⟩, n, e1, c1, d1, t1⟩, z1⟩ := I.list h1
  obtain ⟨its2, r2, ⟨⟨cls2, dd2, data2, sl2⟩, n2, e2, c2, d2, t2⟩, z2⟩ := I.list h2
  simp only at c1 d1 t1 c2 d2 t2
  subst c1 d1 t1 c2 d2 t2
  have la := r1.length
  have lb := r2.length
  refine concat_meets ⟨_, e1, rfl⟩ ⟨_, e2, rfl⟩ noFill_list_add seq_list_add PySem.F.slot_list_add PySem.F.entry_list_add (PySem.F.args_list_add_2 _ _) (PyProof.Rows.list_addW l b its.toArray its2.toArray n n2 none none sl sl2 (by simp; omega)) ⟨e1, e2, ?_⟩
  have ea : its.toArray ++ its2.toArray = (its ++ its2).toArray := by simp
  rw [ea]
  have hf : H s.heap.objs.size = none := I.hok.fresh (Nat.le_refl _)
  refine ⟨.ref s.heap.objs.size, upd H s.heap.objs.size (.lst (xs ++ zs)), I.laid (t' := s.toks) (fun b u e => Heap.get?_push_of_some _ e) (Nat.le_refl _) ?_, rfl, q _ hf⟩
  exact ⟨by rw [List.length_append]; exact hz, its ++ its2, 0, r1.append r2, Heap.get?_push_size _ rfl⟩
def Mv.isList (S : Sg) (x : Mv) : Option (List Mv) := match x.seq S with | some (false, xs) => some xs | _ => none
theorem Mv.isList_ok {K : PySem.W.Frag} {ι : Io} {S : Sg} {H : Hp} (hr : Rl K ι S H) {x : Mv} {v : V} (hx : XV K ι H x v) {xs : List Mv} (e : x.isList S = some xs) : ∃ a vs, v = .ref a ∧ PlnL K H a vs ∧ XCs K ι H xs vs := by
  unfold Mv.isList at e
  cases e1 : x.seq S with
  | none => rw [e1] at e; cases e
  | some p =>
    obtain ⟨t, ys⟩ := p
    rw [e1] at e
    cases t with
    | true => cases e
    | false =>
      cases e
      obtain ⟨a, vs, h1, h2, h3⟩ := Mv.seq_ok hr hx e1
      exact ⟨a, vs, h1, h2, h3⟩
def gAdd : Sg → Mv → Mv → Option Nw := fun S x y => match x, y with
  | .d (.int i), .d (.int j) => some (.val (.d (.int (i + j))))
  | .d (.str a), .d (.str b) => if a.length + b.length ≤ sizeLine then some (.val (.d (.str (a ++ b)))) else none
  | x, y => match x.isList S, y.isList S with
    | some xs, some ys => if xs.length + ys.length ≤ sizeLine then some (.lst (xs ++ ys)) else none
    | _, _ => none
theorem cat_case {K : PySem.W.Frag} {ι : Io} {S : Sg} {H : Hp} {Q : VK} {x y : Mv} {v u : V} {z : Nw} (hr : Rl K ι S H) (hx : XV K ι H x v) (hy : XV K ι H y u)
    (e : (match x.isList S, y.isList S with | some xs, some ys => if xs.length + ys.length ≤ sizeLine then some (Nw.lst (xs ++ ys)) else none | _, _ => none) = some z) (q : Raw K ι H Q z) : rCatL K v u H Q := by
  cases e1 : x.isList S with
  | none => rw [e1] at e; cases e
  | some xs =>
    cases e2 : y.isList S with
    | none => rw [e1, e2] at e; cases e
    | some ys =>
      rw [e1, e2] at e
      simp only at e
      by_cases c : xs.length + ys.length ≤ sizeLine
      · rw [if_pos c] at e
        cases e
        obtain ⟨a, vs, rfl, s1, p1⟩ := Mv.isList_ok hr hx e1
        obtain ⟨b, ws, rfl, s2, p2⟩ := Mv.isList_ok hr hy e2
        exact ⟨a, b, vs, ws, rfl, rfl, s1.sq, s2.sq, by rw [← p1.length, ← p2.length]; exact c, fun p hp => q _ p (Paired.append p1 p2) hp⟩
      · rw [if_neg c] at e; cases e
theorem o_add : OpP X (binaryOp .Add) gAdd := by
  refine OpR.imp (OpR.or2 op_add (OpR.or2 op_add_str op_catL)) fun v u H Q ⟨ι, S, x, y, z, hr, hx, hy, e, q⟩ => ?_
  unfold gAdd at e
  split at e
  · cases e; cases hx; cases hy
    exact .inl ⟨_, _, rfl, rfl, q _ (.int _)⟩
  · cases hx; cases hy
    split at e
    · rename_i c
      cases e
      exact .inr (.inl ⟨_, _, rfl, rfl, c, q _ (.str _)⟩)
    · cases e
  · exact .inr (.inr (cat_case hr hx hy e q))
/-- a text so many times -/
def strRep (x : Str) (n : Nat) : Str := ⟨(List.replicate n x.cps.toList).flatten.toArray⟩
theorem strRep_length (x : Str) (n : Nat) : (strRep x n).length = n * x.length := by
  unfold strRep Str.length
  simp [List.length_flatten]
theorem foldl_cat (a : Array Nat) : ∀ (n : Nat) (acc : Array Nat), (List.replicate n a).foldl (· ++ ·) acc = acc ++ (List.replicate n a.toList).flatten.toArray
  | 0, acc => by simp
  | n + 1, acc => by
    rw [List.replicate_succ, List.foldl_cons, foldl_cat a n, List.replicate_succ, List.flatten_cons]
    apply Array.ext'
    simp [Array.toList_append, List.append_assoc]
def rRepS : R2 := fun x y H Q => ∃ (z : Str) (n : Int), x = .str z ∧ y = .int n ∧ -(2 ^ 63) ≤ n ∧ n < 2 ^ 63 ∧ z.length * n.toNat ≤ sizeLine ∧ Q (.str (strRep z n.toNat)) H
theorem op_repS : OpR X (binaryOp .Mult) rRepS := by
  intro pins s σ H x y v u Q I rx ry h
  obtain ⟨z, n, rfl, rfl, h1, h2, hz, q⟩ := h
  obtain ⟨t, rfl⟩ := rx
  obtain ⟨t', rfl⟩ := ry
  have hsl : sizeLine = 16777216 := sizeLine_eq
  refine PySem.P.mul_str (by rw [decide_eq_false (by omega), decide_eq_false (by omega)]; rfl) (fun c1 c2 => ?_) (fun c1 c2 => ?_) ?_
  · intro c3
    simp only [Bool.or_eq_false_iff, beq_eq_false_iff_ne, ne_eq] at c2
    have hn : (0 : Int) < n := by omega
    have h3 : (z.length : Int) * n ≤ 16777216 := by
      have : ((z.length * n.toNat : Nat) : Int) ≤ 16777216 := by omega
      rw [Int.natCast_mul, Int.toNat_of_nonneg (by omega)] at this
      exact this
    have h4 : (z.length : Int) ≤ (2 ^ 63 - 1) / n := (Int.le_ediv_iff_mul_le hn).mpr (by omega)
    omega
  · unfold Builtin.Str.tooLong
    exact decide_eq_false (by omega)
  · by_cases c1 : n < 1
    · rw [if_pos c1]
      have e0 : n.toNat = 0 := by omega
      have e : strRep z n.toNat = Str.empty := by rw [e0]; rfl
      rw [e] at q
      exact ⟨Nat.zero_le _, .str _, H, I.tok _, ⟨_, rfl⟩, q⟩
    · rw [if_neg c1]
      by_cases c2 : (n == 1 || z.length == 0) = true
      · rw [if_pos c2]
        have e : strRep z n.toNat = z := by
          rcases Bool.or_eq_true_iff.mp c2 with c | c
          · have : n = 1 := by simpa using c
            subst this
            unfold strRep
            show (⟨(List.replicate 1 z.cps.toList).flatten.toArray⟩ : Str) = z
            simp
          · have c' : z.length = 0 := by simpa using c
            have : z.cps = #[] := Array.eq_empty_of_size_eq_zero c'
            unfold strRep
            obtain ⟨cps⟩ := z
            simp only at this
            subst this
            simp
        rw [e] at q
        exact ⟨.str _, H, I, ⟨t, rfl⟩, q⟩
      · rw [if_neg c2, foldl_cat]
        have e : (⟨#[] ++ (List.replicate n.toNat z.cps.toList).flatten.toArray⟩ : Str) = strRep z n.toNat := by unfold strRep; simp
        rw [e]
        exact ⟨by rw [strRep_length, Nat.mul_comm]; exact hz, .str _, H, I.tok _, ⟨_, rfl⟩, q⟩
theorem Paired.rep {α β : Type} {F : α → β → Prop} {xs : List α} {ys : List β} (h : Paired F xs ys) : ∀ n, Paired F (List.replicate n xs).flatten (List.replicate n ys).flatten
  | 0 => .nil
  | n + 1 => by
    rw [List.replicate_succ, List.replicate_succ, List.flatten_cons, List.flatten_cons]
    exact Paired.append h (Paired.rep h n)
/-- a list of any kind so many times -/
def rRepL (K : PySem.W.Frag) : R2 := fun x y H Q => ∃ l k xs, x = .ref l ∧ y = .int k ∧ PlnL K H l xs ∧ -(2 ^ 63) ≤ k ∧ k < 2 ^ 63 ∧ xs.length * k.toNat ≤ sizeLine ∧ ∀ p, H p = none → Q (.ref p) (upd H p (.lst (List.replicate k.toNat xs).flatten))
theorem op_repL : OpR X (binaryOp .Mult) (rRepL X.K) := by
  intro pins s σ H x y v u Q I rx ry h
  obtain ⟨l, k, xs, rfl, rfl, hH, b1, b2, hz, q⟩ := h
  cases rx
  obtain ⟨t, rfl⟩ := ry
  obtain ⟨its, n, e, r, few⟩ := PlnL.obj I hH
  have hl := r.length
  have room : its.toArray.size * k.toNat ≤ sizeLine := by rw [List.size_toArray, ← hl]; exact hz
  have cap : ¬ its.toArray.size * k.toNat > (2 ^ 63 - 1) / 8 := by
    have big : (sizeLine : Nat) ≤ (2 ^ 63 - 1) / 8 := by decide
    omega
  have fit : ¬ (!Builtin.List.listFitsIndex k) = true := by rw [fitsIndex_both b1 b2]; exact Bool.false_ne_true
  have long : ¬ Builtin.List.listTooLong (its.toArray.size * k.toNat) = true := by rw [notLongL room]; exact Bool.false_ne_true
  have made : List.foldl (fun x1 x2 => x1 ++ x2) #[] (List.replicate (if its.toArray.isEmpty = true then 0 else k.toNat) its.toArray) = (List.replicate k.toNat its).flatten.toArray := by
    have f0 : ∀ m : Nat, List.foldl (fun x1 x2 => x1 ++ x2) #[] (List.replicate m its.toArray) = (List.replicate m its).flatten.toArray := fun m => by
      have := foldl_rep its m []
      rw [List.nil_append] at this
      exact this
    rw [f0]
    cases its with
    | nil => simp
    | cons a r' => rw [if_neg (by simp)]
  refine wpAny_binaryOp_repeat_ref (T := "list") (U := "int") (by decide) ⟨_, e, rfl⟩ (fun s' => typeIs_int s' k t) noFill_list_mul PySem.F.fills_int_mul PySem.F.slot_int_rmul repeat_list PySem.F.slot_int_index.lookup
    (call_meets PySem.F.slot_int_rmul (typeIs_int s k t) PySem.F.entry_int_rmul (PySem.F.args_int_rmul_2 _ _) (int___rmul___int_list k t l its.toArray n)
      ⟨e, rfl, ⟨_, e, rfl⟩, call_meets PySem.F.slot_list_mul ⟨_, e, rfl⟩ PySem.F.entry_list_mul (PySem.F.args_list_mul_2 _ _) (AutoListH.list___mul___list_int_3 l its.toArray n k t fit cap long) ⟨e, ?_⟩⟩)
  rw [made]
  exact ⟨.ref _, _, I.lnew (t' := s.toks) (r.rep k.toNat) (by rw [PyProof.Rows.lm_len_rep_flat, Nat.mul_comm]; exact hz), rfl, q _ I.fresh⟩
def repSq (S : Sg) (x : Mv) (k : Int) : Option Nw := match x.seq S with
  | some (false, xs) => if -(2 ^ 63) ≤ k ∧ k < 2 ^ 63 ∧ xs.length * k.toNat ≤ sizeLine then some (.lst (List.replicate k.toNat xs).flatten) else none
  | some (true, xs) => if xs ≠ [] ∧ 2 ≤ k ∧ k ≤ 1000 ∧ xs.length ≤ 1000 then some (.tup (List.replicate k.toNat xs).flatten) else none
  | none => none
def gMul : Sg → Mv → Mv → Option Nw := fun S x y => match x, y with
  | .d (.int i), .d (.int j) => if (-(2 ^ 64) < i ∧ i < 2 ^ 64) ∨ (-(2 ^ 64) < j ∧ j < 2 ^ 64) then some (.val (.d (.int (i * j)))) else none
  | .d (.str z), .d (.int n) => if -(2 ^ 63) ≤ n ∧ n < 2 ^ 63 ∧ z.length * n.toNat ≤ sizeLine then some (.val (.d (.str (strRep z n.toNat)))) else none
  | x, .d (.int k) => repSq S x k
  | _, _ => none
/-- tuple * int, the new object told -/
theorem op_repTP : OpR X (binaryOp .Mult) (fun x y H Q => ∃ l k xs, x = .ref l ∧ y = .int k ∧ SqT X.K H l xs ∧ xs ≠ [] ∧ 2 ≤ k ∧ k ≤ 1000 ∧ xs.length ≤ 1000 ∧ ∀ p, H p = none → ∀ o : Obj, o.dict = none → Q (.ref p) (upd H p (.frz o (.tup (List.replicate k.toNat xs).flatten)))) := by
  intro pins s σ H x y v u Q I rx ry ⟨l, k, xs, e1, e2, hT, hne, k1, k2, hl, q⟩
  subst e1 e2
  cases rx
  obtain ⟨t, rfl⟩ := ry
  obtain ⟨its, r, ⟨⟨c, dd, dat, sl⟩, ho, hc, n, hd⟩, _⟩ := I.tuple hT
  cases (show c = _ from hc); cases (show dat = _ from hd)
  have len : its.length = xs.length := r.length.symm
  have pos : 0 < its.length := by rw [len]; exact List.length_pos_iff.mpr hne
  have emp : its.toArray.isEmpty = false := by cases its with | nil => exact absurd pos (Nat.lt_irrefl 0) | cons _ _ => rfl
  have big : ((its.toArray.size : Nat) : Int) * k ≤ 1000000 := by
    have : ((xs.length : Nat) : Int) * k ≤ 1000 * k := Int.mul_le_mul_of_nonneg_right (by omega) (by omega)
    rw [List.size_toArray, len]; omega
  have mul : k.toNat * xs.length ≤ 1000 * 1000 := Nat.mul_le_mul (by omega) hl
  have fl : (List.replicate k.toNat its).flatten.length ≤ sizeLine := by rw [PyProof.Rows.lm_len_rep_flat, len, sizeLine_eq]; omega
  have fx : (List.replicate k.toNat xs).flatten.length ≤ sizeLine := by rw [PyProof.Rows.lm_len_rep_flat, sizeLine_eq]; omega
  have T : s.TypeIs (.ref l) "tuple" := ⟨_, ho, rfl⟩
  have go := tuple_mulW l its.toArray n dd sl k t (by rw [decide_eq_false (show ¬ k < -(2 ^ 63) by omega), decide_eq_false (show ¬ k ≥ 2 ^ 63 by omega)]; rfl) (by rw [emp, Bool.false_or]; exact beq_eq_false_iff_ne.mpr (by omega)) (by rw [emp, Bool.or_false]; exact decide_eq_false (by omega)) (by omega)
    (by unfold Builtin.Tuple.tupleTooMany; rw [sizeLine_eq]; exact decide_eq_false (by omega)) (by rw [size_rep, List.size_toArray]; exact fl)
  refine wpAny_binaryOp_repeat_ref (T := "tuple") (U := "int") (by decide) T (fun s' => typeIs_int s' k t) noFill_tuple_mul F.fills_int_mul F.slot_int_rmul repeat_tuple F.slot_int_index.lookup
    (call_meets F.slot_int_rmul (typeIs_int s k t) F.entry_int_rmul (F.args_int_rmul_2 _ _) (int_rmul_tuple k t l its.toArray n dd sl) ⟨ho, rfl, T, call_meets F.slot_tuple_mul T F.entry_tuple_mul (F.args_tuple_mul_2 _ _) go ⟨ho, ?_⟩⟩)
  rw [size_rep]
  exact ⟨.ref s.heap.objs.size, _, laidT (t' := s.toks) I (fun b ob q => Heap.get?_push_of_some _ q) (Nat.le_refl _) (Heap.get?_push_size _ rfl) (r.rep k.toNat) fx, rfl, q _ (I.hok.fresh (Nat.le_refl _)) _ rfl⟩
theorem o_mul : OpP X (binaryOp .Mult) gMul := by
  refine OpR.imp (OpR.or2 (OpR.or2 op_mul op_repS) (OpR.or2 op_repL op_repTP)) fun v u H Q ⟨ι, S, x, y, z, hr, hx, hy, e, q⟩ => ?_
  unfold gMul at e
  split at e
  · split at e
    · rename_i c
      cases e; cases hx; cases hy
      exact .inl (.inl ⟨_, _, rfl, rfl, c, q _ (.int _)⟩)
    · cases e
  · split at e
    · rename_i c
      cases e; cases hx; cases hy
      exact .inl (.inr ⟨_, _, rfl, rfl, c.1, c.2.1, c.2.2, q _ (.str _)⟩)
    · cases e
  · rename_i k _ _
    unfold repSq at e
    cases hy
    split at e
    · rename_i xs e1
      obtain ⟨a, vs, rfl, s1, p1⟩ := Mv.seq_ok hr hx e1
      split at e
      · rename_i c
        cases e
        exact .inr (.inl ⟨a, k, vs, rfl, rfl, s1, c.1, c.2.1, by rw [← p1.length]; exact c.2.2, fun p hp => q _ p (Paired.rep p1 _) hp⟩)
      · cases e
    · rename_i xs e1
      obtain ⟨a, vs, rfl, s1, p1⟩ := Mv.seq_ok hr hx e1
      split at e
      · rename_i c
        cases e
        exact .inr (.inr ⟨a, k, vs, rfl, rfl, s1, fun h => c.1 (List.eq_nil_of_length_eq_zero (by rw [p1.length, h]; rfl)), c.2.1, c.2.2.1, by rw [← p1.length]; exact c.2.2.2, fun p hp o hd => q _ p (Paired.rep p1 _) hp o hd⟩)
      · cases e
    · cases e
  · cases e
def gMod : Sg → Mv → Mv → Option Nw := fun _ x y => match x, y with
  | .d (.int i), .d (.int j) => if 0 < j then some (.val (.d (.int (i % j)))) else none
  | _, _ => none
theorem o_mod : OpP X (binaryOp .Mod) gMod := by
  refine OpR.imp op_mod fun v u H Q ⟨ι, S, x, y, z, hr, hx, hy, e, q⟩ => ?_
  unfold gMod at e
  split at e
  · split at e
    · rename_i c
      cases e; cases hx; cases hy
      exact ⟨_, _, rfl, rfl, c, q _ (.int _)⟩
    · cases e
  · cases e
def gFdiv : Sg → Mv → Mv → Option Nw := fun _ x y => match x, y with
  | .d (.int i), .d (.int j) => if 0 < j ∧ j < 2 ^ 64 then some (.val (.d (.int (i / j)))) else none
  | _, _ => none
theorem o_fdiv : OpP X (binaryOp .FloorDiv) gFdiv := by
  refine OpR.imp op_fdivW fun v u H Q ⟨ι, S, x, y, z, hr, hx, hy, e, q⟩ => ?_
  unfold gFdiv at e
  split at e
  · split at e
    · rename_i i j c
      cases e; cases hx; cases hy
      exact ⟨_, _, rfl, rfl, wide_div (b := 64) c.1 (by omega) (by decide) (by decide), q _ (.int _)⟩
    · cases e
  · cases e
def gPow : Sg → Mv → Mv → Option Nw := fun _ x y => match x, y with
  | .d (.int i), .d (.int j) => if 0 ≤ j ∧ j ≤ 1000000 ∧ i.natAbs < 2 ^ 64 then some (.val (.d (.int (i ^ j.toNat)))) else none
  | _, _ => none
theorem o_pow : OpP X (binaryOp .Pow) gPow := by
  refine OpR.imp op_pow fun v u H Q ⟨ι, S, x, y, z, hr, hx, hy, e, q⟩ => ?_
  unfold gPow at e
  split at e
  · split at e
    · rename_i c
      cases e; cases hx; cases hy
      exact ⟨_, _, rfl, rfl, c, q _ (.int _)⟩
    · cases e
  · cases e
def gIntB (f : Int → Int → Bool) : Sg → Mv → Mv → Option Nw := fun _ x y => match x, y with
  | .d (.int i), .d (.int j) => some (.val (.d (.bool (f i j))))
  | _, _ => none
theorem o_intB {op : CmpOp} {f : Int → Int → Bool} (h : OpR X (compareOp op) (rI0 fun i j => .bl (f i j))) : OpP X (compareOp op) (gIntB f) := by
  refine OpR.imp h fun v u H Q ⟨ι, S, x, y, z, hr, hx, hy, e, q⟩ => ?_
  unfold gIntB at e
  split at e
  · cases e; cases hx; cases hy
    exact ⟨_, _, rfl, rfl, q _ (.bl _)⟩
  · cases e
abbrev gLt := gIntB fun i j => decide (i < j)
abbrev gLe := gIntB fun i j => decide (i ≤ j)
abbrev gGe := gIntB fun i j => decide (j ≤ i)
theorem o_lt : OpP X (compareOp .Lt) gLt := o_intB op_lt
theorem o_le : OpP X (compareOp .LtE) gLe := o_intB op_le
theorem o_ge : OpP X (compareOp .GtE) gGe := o_intB op_ge
/-- what a value is as data, a list of the store by its items -/
def Mv.data (S : Sg) (x : Mv) : Option PyData := match x with
  | .d x => some x
  | x => match x.seq S with
    | some (false, xs) => (allD xs).map .list
    | some (true, xs) => (allD xs).map .tuple
    | none => none
mutual
theorem FD.dp {K : PySem.W.Frag} {H : Hp} : ∀ {d : PyData} {v : V}, FD K H d v → d.hasDict = false → Dp K H v d
  | _, _, .non, _ => .non
  | _, _, .bl b, _ => .bl b
  | _, _, .int i, _ => .int i
  | _, _, .str x, _ => .str x
  | _, _, .lst h hs, e => .lst h.sq (FDs.dp hs (by simpa [PyData.hasDict] using e))
  | _, _, .tup h hs, e => .tup h.sq (FDs.dp hs (by simpa [PyData.hasDict] using e))
  | _, _, .dct _ _, e => by simp [PyData.hasDict] at e
theorem FDs.dp {K : PySem.W.Frag} {H : Hp} : ∀ {ds : List PyData} {vs : List V}, FDs K H ds vs → PyData.hasDictAll ds = false → DpAll K H vs ds
  | _, _, .nil, _ => .nil
  | _, _, .cons h hs, e => by
    simp only [PyData.hasDictAll, Bool.or_eq_false_iff] at e
    exact .cons (FD.dp h e.1) (FDs.dp hs e.2)
end
theorem noDict_of_shaped {d : PyData} (h : SeqAt.shaped d = true) : d.hasDict = false := PyData.hasDict_of_canLay d (SeqAt.canLay_of_shaped h)
theorem Mv.data_ok {K : PySem.W.Frag} {ι : Io} {S : Sg} {H : Hp} (hr : Rl K ι S H) {x : Mv} {v : V} (hx : XV K ι H x v) {d : PyData} (e : x.data S = some d) (hs : SeqAt.shaped d = true) : Dp K H v d := by
  have hd := noDict_of_shaped hs
  have sq : ∀ t xs, x.seq S = some (t, xs) → (∀ ds, allD xs = some ds → d = (if t = true then .tuple ds else .list ds) → Dp K H v d) := by
    intro t xs e1 ds e2 e3
    obtain ⟨a, vs, rfl, h1, h2⟩ := Mv.seq_ok hr hx e1
    have p := allD_FDs h2 e2
    subst e3
    cases t with
    | true => exact .tup h1 (FDs.dp p (by simpa [PyData.hasDict] using hd))
    | false => exact .lst (PlnL.sq h1) (FDs.dp p (by simpa [PyData.hasDict] using hd))
  cases x with
  | d y => cases e; exact FD.dp hx hd
  | _ =>
    simp only [Mv.data] at e
    split at e
    · rename_i xs e1
      obtain ⟨ds, e2, e3⟩ := Option.map_eq_some_iff.mp e
      exact sq _ _ e1 ds e2 e3.symm
    · rename_i xs e1
      obtain ⟨ds, e2, e3⟩ := Option.map_eq_some_iff.mp e
      exact sq _ _ e1 ds e2 e3.symm
    · cases e
def gEqN (neg : Bool) : Sg → Mv → Mv → Option Nw := fun S x y => match x, y with
  | .d (.str a), .d (.str b) => some (.val (.d (.bool (if neg then !decide (a = b) else decide (a = b)))))
  | x, y => match x.data S, y.data S with
    | some d, some e => if SeqAt.shaped d = true ∧ SeqAt.shaped e = true then some (.val (.d (.bool (if neg then !PyData.eqv d e else PyData.eqv d e)))) else none
    | _, _ => none
theorem eqN_case {K : PySem.W.Frag} {neg : Bool} {ι : Io} {S : Sg} {H : Hp} {Q : VK} {x y : Mv} {v u : V} {z : Nw} (hr : Rl K ι S H) (hx : XV K ι H x v) (hy : XV K ι H y u) (e : gEqN neg S x y = some z) (q : Raw K ι H Q z) :
    (∃ a b, v = .str a ∧ u = .str b ∧ Q (.bl (if neg then !decide (a = b) else decide (a = b))) H) ∨
      ∃ d e, Dp K H v d ∧ Dp K H u e ∧ SeqAt.shaped d = true ∧ SeqAt.shaped e = true ∧ Q (.bl (if neg then !PyData.eqv d e else PyData.eqv d e)) H := by
  unfold gEqN at e
  split at e
  · cases e; cases hx; cases hy
    exact .inl ⟨_, _, rfl, rfl, q _ (.bl _)⟩
  · cases e1 : x.data S with
    | none => rw [e1] at e; cases e
    | some d =>
      cases e2 : y.data S with
      | none => rw [e1, e2] at e; cases e
      | some d' =>
        rw [e1, e2] at e
        simp only at e
        by_cases c : SeqAt.shaped d = true ∧ SeqAt.shaped d' = true
        · rw [if_pos c] at e
          cases e
          exact .inr ⟨d, d', Mv.data_ok hr hx e1 c.1, Mv.data_ok hr hy e2 c.2, c.1, c.2, q _ (.bl _)⟩
        · rw [if_neg c] at e; cases e
theorem str_dec {a b : Str} : decide (V.str a = V.str b) = decide (a = b) := by
  by_cases h : a = b
  · subst h; rw [decide_eq_true rfl, decide_eq_true rfl]
  · rw [decide_eq_false h, decide_eq_false fun e => h (V.str.inj e)]
theorem o_eq (hu : X.A.units + 64 < cLine) : OpP X (compareOp .Eq) (gEqN false) := OpR.imp (OpR.or2 op_eq (op_eqD hu)) fun v u H Q ⟨ι, S, x, y, z, hr, hx, hy, e, q⟩ => by
  rcases eqN_case (neg := false) hr hx hy e q with ⟨a, b, rfl, rfl, h⟩ | h
  · exact .inl ⟨rfl, by rw [str_dec]; exact h⟩
  · exact .inr h
theorem o_ne (hu : X.A.units + 64 < cLine) : OpP X (compareOp .NotEq) (gEqN true) := OpR.imp (OpR.or2 op_ne (op_neD hu)) fun v u H Q ⟨ι, S, x, y, z, hr, hx, hy, e, q⟩ => by
  rcases eqN_case (neg := true) hr hx hy e q with ⟨a, b, rfl, rfl, h⟩ | h
  · exact .inl ⟨rfl, by rw [str_dec]; exact h⟩
  · exact .inr h
/-- in, not in: of a text, of a list -/
def inStr (i j : Str) : Bool := !(Builtin.Str.occurrences j i 0 j.length 1).isEmpty
def gInN (neg : Bool) : Sg → Mv → Mv → Option Nw := fun S x y => match x, y with
  | .d (.str i), .d (.str j) => some (.val (.d (.bool (if neg then !inStr i j else inStr i j))))
  | x, y => match x.data S, y.data S with
    | some d, some (.list ds) => if SeqAt.shaped d = true ∧ SeqAt.shaped (.list ds) = true then some (.val (.d (.bool (if neg then !ds.any (fun z => PyData.eqv z d) else ds.any (fun z => PyData.eqv z d))))) else none
    | _, _ => none
theorem inN_case {K : PySem.W.Frag} {neg : Bool} {ι : Io} {S : Sg} {H : Hp} {Q : VK} {x y : Mv} {v u : V} {z : Nw} (hr : Rl K ι S H) (hx : XV K ι H x v) (hy : XV K ι H y u) (e : gInN neg S x y = some z) (q : Raw K ι H Q z) :
    (∃ i j, v = .str i ∧ u = .str j ∧ Q (.bl (if neg then !inStr i j else inStr i j)) H) ∨
      ∃ d ds, Dp K H v d ∧ Dp K H u (.list ds) ∧ SeqAt.shaped d = true ∧ SeqAt.shaped (.list ds) = true ∧ Q (.bl (if neg then !ds.any (fun z => PyData.eqv z d) else ds.any (fun z => PyData.eqv z d))) H := by
  unfold gInN at e
  split at e
  · cases e; cases hx; cases hy
    exact .inl ⟨_, _, rfl, rfl, q _ (.bl _)⟩
  · split at e
    · rename_i d ds e1 e2
      split at e
      · rename_i c
        cases e
        exact .inr ⟨d, ds, Mv.data_ok hr hx e1 c.1, Mv.data_ok hr hy e2 c.2, c.1, c.2, q _ (.bl _)⟩
      · cases e
    · cases e
theorem o_in (hu : X.A.units + 65 < cLine) : OpP X (compareOp .In) (gInN false) := OpR.imp (OpR.or2 op_in_str (op_inD hu)) fun v u H Q ⟨ι, S, x, y, z, hr, hx, hy, e, q⟩ => inN_case (neg := false) hr hx hy e q
theorem o_notIn (hu : X.A.units + 65 < cLine) : OpP X (compareOp .NotIn) (gInN true) := by
  refine OpR.imp (OpR.or2 op_notin_str (op_notInD hu)) fun v u H Q ⟨ι, S, x, y, z, hr, hx, hy, e, q⟩ => ?_
  rcases inN_case (neg := true) hr hx hy e q with ⟨i, j, h1, h2, h3⟩ | h
  · refine .inl ⟨i, j, h1, h2, ?_⟩
    have h4 : Q (.bl (!inStr i j)) H := h3
    simpa [inStr] using h4
  · exact .inr h
/-- is, is not: none, truths -/
def gIsN (neg : Bool) : Sg → Mv → Mv → Option Nw := fun _ x y => match x, y with
  | .d x, .d .none => some (.val (.d (.bool (match x with | .none => !neg | _ => neg))))
  | .ref _, .d .none => some (.val (.d (.bool neg)))
  | .ins _ _ _, .d .none => some (.val (.d (.bool neg)))
  | .fn _, .d .none => some (.val (.d (.bool neg)))
  | .tup _, .d .none => some (.val (.d (.bool neg)))
  | .frl _, .d .none => some (.val (.d (.bool neg)))
  | .cap _ _ _ _, .d .none => some (.val (.d (.bool neg)))
  | .d (.bool a), .d (.bool b) => some (.val (.d (.bool (if neg then !decide (a = b) else decide (a = b)))))
  | _, _ => none
theorem isN_case {K : PySem.W.Frag} {neg : Bool} {ι : Io} {S : Sg} {H : Hp} {Q : VK} {x y : Mv} {v u : V} {z : Nw} (hx : XV K ι H x v) (hy : XV K ι H y u) (e : gIsN neg S x y = some z) (q : Raw K ι H Q z) :
    (u = .non ∧ Q (.bl (if neg then !decide (v = .non) else decide (v = .non))) H) ∨ ∃ a b, v = .bl a ∧ u = .bl b ∧ Q (.bl (if neg then !decide (a = b) else decide (a = b))) H := by
  unfold gIsN at e
  split at e
  · cases e; cases hy
    refine .inl ⟨rfl, ?_⟩
    have q := q _ (.bl _)
    cases neg <;> cases hx <;> simpa using q
  · cases e; cases hy
    obtain ⟨a, _, rfl⟩ := hx
    refine .inl ⟨rfl, ?_⟩
    have q := q _ (.bl _)
    cases neg <;> simpa using q
  · cases e; cases hy
    rw [XV] at hx
    obtain ⟨a, o, Ca, dx, us, rfl, _⟩ := hx
    refine .inl ⟨rfl, ?_⟩
    have q := q _ (.bl _)
    cases neg <;> simpa using q
  · cases e; cases hy
    rw [XV] at hx
    obtain ⟨a, _, rfl⟩ := hx
    refine .inl ⟨rfl, ?_⟩
    have q := q _ (.bl _)
    cases neg <;> simpa using q
  · cases e; cases hy
    rw [XV] at hx
    obtain ⟨a, vs, rfl, _⟩ := hx
    refine .inl ⟨rfl, ?_⟩
    have q := q _ (.bl _)
    cases neg <;> simpa using q
  · cases e; cases hy
    rw [XV] at hx
    obtain ⟨a, vs, rfl, _⟩ := hx
    refine .inl ⟨rfl, ?_⟩
    have q := q _ (.bl _)
    cases neg <;> simpa using q
  · cases e; cases hy
    rw [XV] at hx
    obtain ⟨rfl, _⟩ := hx
    refine .inl ⟨rfl, ?_⟩
    have q := q _ (.bl _)
    cases neg <;> simpa using q
  · cases e; cases hx; cases hy
    exact .inr ⟨_, _, rfl, rfl, q _ (.bl _)⟩
  · cases e
theorem o_is : OpP X (compareOp .Is) (gIsN false) := OpR.imp (OpR.or2 op_isN op_is_bl) fun v u H Q ⟨ι, S, x, y, z, hr, hx, hy, e, q⟩ => isN_case (neg := false) hx hy e q
theorem o_isnot : OpP X (compareOp .IsNot) (gIsN true) := OpR.imp (OpR.or2 op_notN op_isnot_bl) fun v u H Q ⟨ι, S, x, y, z, hr, hx, hy, e, q⟩ => isN_case (neg := true) hx hy e q
end
end MM
end
section
set_option Elab.async false
set_option linter.all false
set_option maxRecDepth 100000
set_option maxHeartbeats 4000000
set_option autoImplicit false
namespace MM
open PySem PySem.Spec PyProof.Rows L2
section
variable {X : Cx} {W : WX}
def CallP (X : Cx) (f : Value) (g : Sg → List Mv → Option Nw) : Prop :=
  CallR X f fun vs H Q => ∃ ι S xs z, Rl X.K ι S H ∧ XVs X.K ι H xs vs ∧ g S xs = some z ∧ Raw X.K ι H Q z
theorem CallR.imp {f : Value} {r r' : List V → Hp → VK → Prop} (h : CallR X f r) (i : ∀ x H Q, r' x H Q → r x H Q) : CallR X f r' := fun pins s σ H xs us Q I rx q => h pins s σ H xs us Q I rx (i _ _ _ q)
theorem CallR.or2 {f : Value} {r r' : List V → Hp → VK → Prop} (h : CallR X f r) (h' : CallR X f r') : CallR X f (fun x H Q => r x H Q ∨ r' x H Q) := fun pins s σ H xs us Q I rx q => by
  rcases q with q | q
  · exact h pins s σ H xs us Q I rx q
  · exact h' pins s σ H xs us Q I rx q
def mCB (b : Bi) (g : Sg → List Mv → Option Nw) (a : MA) : ME := fun ρ S => (a ρ S).bind fun xs S1 => opt (g S1 xs) fun z => bear b z S1
theorem cb_core {g : Sg → List Mv → Option Nw} {ma : MA} {b : Bi} {σ : L2.St} {H : Hp} {Q : VK} (h : tG (XV X.K) X.K W (mCB b g ma) σ H Q) :
    tCB (fun vs H Q => ∃ ι S xs z, Rl X.K ι S H ∧ XVs X.K ι H xs vs ∧ g S xs = some z ∧ Raw X.K ι H Q z) (tG (XVs X.K) X.K W ma) σ H (Qf b Q) := by
  obtain ⟨ι, S, ρ, hl, hr, h⟩ := h
  refine ⟨ι, S, ρ, hl, hr, step h fun xs vs ι1 H1 S1 s1 r1 hx h1 => ?_⟩
  unfold opt at h1
  cases e : g S1 xs with
  | none => rw [e] at h1; exact h1.elim
  | some z =>
    rw [e] at h1
    exact ⟨ι1, S1, xs, z, r1, hx, e, bear_raw r1 h1⟩
theorem pm_callB {x : Str} {id : String} {g : Sg → List Mv → Option Nw} {ma : MA} {e : Expr} {es : List Expr} {p pos : Pos} (b : Bi) (hc : CallP X (.builtin id) g) (hg : Gl X x) (hm : X.mg x = none) (hv : bootBuiltins x = some (.builtin id)) (ha : PL X W (e :: es) ma) (hn : x ≠ "__name__" := by decide) (hdb : (x == ("__debug__" : Str)) = false := by decide)
    (he : starEach (e :: es) X.env = (false, eval e X.env) :: starEach es X.env := by rfl) (hpl : (backTo pos (starEach es X.env)).any (·.1) = false := by rfl) : PM X W (.Call (.Name x p) (e :: es) [] pos) (mCB b g ma) :=
  pe_imp (pe_b b (pe_callB hc hg hm hv ha hn hdb he hpl)) fun σ H Q h => cb_core h
theorem pm_callTy {x : Str} {T : String} {g : Sg → List Mv → Option Nw} {ma : MA} {e : Expr} {es : List Expr} {p pos : Pos} (b : Bi) (hc : CallP X (.type T) g) (hg : Gl X x) (hm : X.mg x = none) (hv : bootBuiltins x = some (.type T)) (ha : PL X W (e :: es) ma) (hn : x ≠ "__name__" := by decide) (hdb : (x == ("__debug__" : Str)) = false := by decide)
    (he : starEach (e :: es) X.env = (false, eval e X.env) :: starEach es X.env := by rfl) (hpl : (backTo pos (starEach es X.env)).any (·.1) = false := by rfl) : PM X W (.Call (.Name x p) (e :: es) [] pos) (mCB b g ma) :=
  pe_imp (pe_b b (pe_callTy hc hg hm hv ha hn hdb he hpl)) fun σ H Q h => cb_core h
/-- a built-in class as a value -/
theorem pm_ty {x : Str} {T : String} {pos : Pos} (hg : Gl X x) (hm : X.mg x = none) (hv : bootBuiltins x = some (.type T)) (hn : x ≠ "__name__" := by decide) (hd : (x == ("__debug__" : Str)) = false := by decide) : PM X W (.Name x pos) (mK (.ty T)) :=
  pe_imp (pe_bltn (v := .ty T) hg hm hv rfl hn hd) fun σ H Q ⟨ι, S, ρ, hl, hr, h⟩ => h _ _ _ (Sub.refl _ _) hr rfl
theorem one_of {K : PySem.W.Frag} {ι : Io} {H : Hp} {x : Mv} {vs : List V} (h : XVs K ι H [x] vs) : ∃ v, vs = [v] ∧ XV K ι H x v := by
  cases h with | cons r t => cases t; exact ⟨_, rfl, r⟩
theorem two_of {K : PySem.W.Frag} {ι : Io} {H : Hp} {x y : Mv} {vs : List V} (h : XVs K ι H [x, y] vs) : ∃ v u, vs = [v, u] ∧ XV K ι H x v ∧ XV K ι H y u := by
  cases h with | cons r t => obtain ⟨u, rfl, q⟩ := one_of t; exact ⟨_, u, rfl, r, q⟩
/-- len -/
def Mv.len (S : Sg) (x : Mv) : Option Nat := match x with
  | .d (.str z) => if z.length ≤ sizeLine then some z.length else none
  | x => (x.seq S).map fun q => q.2.length
theorem Mv.len_ok {K : PySem.W.Frag} {ι : Io} {S : Sg} {H : Hp} (hr : Rl K ι S H) {x : Mv} {v : V} (hx : XV K ι H x v) {n : Nat} (e : x.len S = some n) : LenV K v H n := by
  have sq : ∀ t xs, x.seq S = some (t, xs) → n = xs.length → LenV K v H n := by
    intro t xs e1 e2
    obtain ⟨a, vs, rfl, h1, h2⟩ := Mv.seq_ok hr hx e1
    cases t with
    | true => exact .inr ⟨vs, h1, by rw [e2, h2.length]⟩
    | false => exact .inl ⟨vs, PlnL.sq h1, by rw [e2, h2.length]⟩
  unfold Mv.len at e
  split at e
  · split at e
    · cases e; cases hx
      exact ⟨by assumption, rfl⟩
    · cases e
  · obtain ⟨⟨t, xs⟩, e1, e2⟩ := Option.map_eq_some_iff.mp e
    exact sq t xs e1 e2.symm
def gLen : Sg → List Mv → Option Nw := fun S xs => match xs with
  | [x] => (x.len S).map fun n : Nat => .val (.d (.int n))
  | _ => none
theorem c_len : CallP X (.builtin "len") gLen := by
  refine CallR.imp call_len fun vs H Q ⟨ι, S, xs, z, hr, hx, e, q⟩ => ?_
  unfold gLen at e
  split at e
  · obtain ⟨n, e1, rfl⟩ := Option.map_eq_some_iff.mp e
    obtain ⟨v, rfl, h⟩ := one_of hx
    exact ⟨v, n, rfl, Mv.len_ok hr h e1, q _ (.int _)⟩
  · cases e
/-- lists of truths, of whole numbers, of texts -/
def boolsM : List Mv → Option (List Bool)
  | [] => some []
  | .d (.bool b) :: r => (boolsM r).map (b :: ·)
  | _ :: _ => none
def intsM : List Mv → Option (List Int)
  | [] => some []
  | .d (.int b) :: r => (intsM r).map (b :: ·)
  | _ :: _ => none
def strsM : List Mv → Option (List Str)
  | [] => some []
  | .d (.str b) :: r => (strsM r).map (b :: ·)
  | _ :: _ => none
section
variable {K : PySem.W.Frag} {ι : Io} {H : Hp}
theorem bools_ok : ∀ {xs : List Mv} {vs : List V} {bs : List Bool}, XCs K ι H xs vs → boolsM xs = some bs → vs = bs.map V.bl
  | _, _, _, .nil, e => by cases e; rfl
  | x :: xs, _, _, .cons r t, e => by
    cases x with
    | d y => cases y with
      | bool b =>
        obtain ⟨l, e1, rfl⟩ := Option.map_eq_some_iff.mp (show (boolsM xs).map (b :: ·) = _ from e)
        cases r.2
        rw [bools_ok t e1]; rfl
      | _ => cases e
    | _ => cases e
theorem ints_ok : ∀ {xs : List Mv} {vs : List V} {bs : List Int}, XCs K ι H xs vs → intsM xs = some bs → vs = bs.map V.int
  | _, _, _, .nil, e => by cases e; rfl
  | x :: xs, _, _, .cons r t, e => by
    cases x with
    | d y => cases y with
      | int b =>
        obtain ⟨l, e1, rfl⟩ := Option.map_eq_some_iff.mp (show (intsM xs).map (b :: ·) = _ from e)
        cases r.2
        rw [ints_ok t e1]; rfl
      | _ => cases e
    | _ => cases e
theorem strs_ok : ∀ {xs : List Mv} {vs : List V} {bs : List Str}, XCs K ι H xs vs → strsM xs = some bs → vs = bs.map V.str
  | _, _, _, .nil, e => by cases e; rfl
  | x :: xs, _, _, .cons r t, e => by
    cases x with
    | d y => cases y with
      | str b =>
        obtain ⟨l, e1, rfl⟩ := Option.map_eq_some_iff.mp (show (strsM xs).map (b :: ·) = _ from e)
        cases r.2
        rw [strs_ok t e1]; rfl
      | _ => cases e
    | _ => cases e
end
def gList1 {α : Type} (p : List Mv → Option α) (f : α → Nw) : Sg → List Mv → Option Nw := fun S xs => match xs with
  | [x] => (x.isList S).bind fun ys => (p ys).map f
  | _ => none
theorem list1_ok {α : Type} {p : List Mv → Option α} {f : α → Nw} {K : PySem.W.Frag} {ι : Io} {S : Sg} {H : Hp} {xs : List Mv} {vs : List V} {z : Nw} (hr : Rl K ι S H) (hx : XVs K ι H xs vs) (e : gList1 p f S xs = some z) :
    ∃ a ys ws c, vs = [.ref a] ∧ PlnL K H a ws ∧ XCs K ι H ys ws ∧ p ys = some c ∧ z = f c := by
  unfold gList1 at e
  split at e
  · obtain ⟨ys, e1, e2⟩ := Option.bind_eq_some_iff.mp e
    obtain ⟨c, e3, rfl⟩ := Option.map_eq_some_iff.mp e2
    obtain ⟨v, rfl, h⟩ := one_of hx
    obtain ⟨a, ws, rfl, h1, h2⟩ := Mv.isList_ok hr h e1
    exact ⟨a, ys, ws, c, rfl, h1, h2, e3, rfl⟩
  · cases e
def gAll := gList1 boolsM fun bs => .val (.d (.bool (bs.all id)))
def gSum := gList1 intsM fun ns => .val (.d (.int ns.sum))
theorem c_all (hc : X.calm = true) : CallP X (.builtin "all") gAll := by
  refine CallR.imp (cr_all hc) fun vs H Q ⟨ι, S, xs, z, hr, hx, e, q⟩ => ?_
  obtain ⟨a, ys, ws, c, rfl, h1, h2, e1, rfl⟩ := list1_ok hr hx e
  exact ⟨a, c, rfl, by rw [← bools_ok h2 e1]; exact h1.sq, q _ (.bl _)⟩
theorem c_sum (hc : X.calm = true) : CallP X (.builtin "sum") gSum := by
  refine CallR.imp (cr_sum hc) fun vs H Q ⟨ι, S, xs, z, hr, hx, e, q⟩ => ?_
  obtain ⟨a, ys, ws, c, rfl, h1, h2, e1, rfl⟩ := list1_ok hr hx e
  exact ⟨a, c, rfl, by rw [← ints_ok h2 e1]; exact h1.sq, q _ (.int _)⟩
theorem paired_of {α β : Type} {F : α → β → Prop} : ∀ {xs : List α} {ys : List β}, xs.length = ys.length → (∀ (i : Nat) (x : α) (y : β), xs[i]? = some x → ys[i]? = some y → F x y) → Paired F xs ys
  | [], [], _, _ => .nil
  | [], _ :: _, h, _ => by cases h
  | _ :: _, [], h, _ => by cases h
  | x :: xs, y :: ys, h, f => .cons (f 0 x y rfl rfl) (paired_of (by simpa using h) fun i a b ha hb => f (i + 1) a b ha hb)
def signsV (z : Str) : List V := z.cps.toList.map fun c => V.str ⟨#[c]⟩
theorem signsV_vals {z : Str} {acc : Array Value} (h : ItemsOf (SignAt z) acc z.cps.size) : Vals (signsV z) acc.toList := by
  refine paired_of (by simp [signsV, h.1]) fun i x y hx hy => ?_
  obtain ⟨c, u, hc, rfl⟩ := h.2 i y (by simpa using hy)
  simp only [signsV, List.getElem?_map, Array.getElem?_toList, hc, Option.map_some, Option.some.injEq] at hx
  subst hx
  exact ⟨u, rfl⟩
theorem signs_xcs {K : PySem.W.Frag} {ι : Io} {H : Hp} (z : Str) : XCs K ι H (signs z) (signsV z) := by
  unfold signs signsV
  induction z.cps.toList with
  | nil => exact .nil
  | cons c r ih => exact .cons ⟨rfl, .str _⟩ ih
theorem call_list_signs (hc : X.calm = true) : CallR X (.type "list") (fun xs H Q => ∃ z, xs = [.str z] ∧ z.length ≤ sizeLine ∧ ∀ l, H l = none → Q (.ref l) (upd H l (.lst (signsV z)))) := by
  intro pins s σ H xs us Q I r ⟨z, ez, hz, q⟩
  subst ez
  obtain ⟨u, rfl, ru⟩ := vals1 r
  obtain ⟨t, rfl⟩ := ru
  refine call_list_str (I.ok.hd hc) z t (fun h' tk acc c kp e its => ?_) hz
  exact ⟨.ref s.heap.objs.size, _, I.laid (t' := tk) kp (Nat.le_refl _) (show ObjOk X.prog X.w _ h' _ (.lst (signsV z)) from ⟨by simp only [signsV, List.length_map, Array.length_toList]; exact hz, acc.toList, c, signsV_vals its, e⟩), rfl, q _ (I.hok.fresh (Nat.le_refl _))⟩
theorem call_divmodP : CallR X (.builtin "divmod") (fun xs H Q => ∃ i j, xs = [.int i, .int j] ∧ (0 < j ∧ j < 1073741824) ∧ ∀ p, H p = none → ∀ o : Obj, o.dict = none → Q (.ref p) (upd H p (.frz o (.tup [.int (i / j), .int (i % j)])))) := by
  intro pins s σ H xs us Q I r ⟨i, j, e, ⟨h1, h2⟩, q⟩
  subst e
  obtain ⟨u, w', rfl, ⟨t, rfl⟩, ⟨t', rfl⟩⟩ := vals2 r
  refine divmod_int (by omega) ?_ (.inl (PyProof.noPylong_small (by omega)))
  rw [Int.fdiv_eq_ediv_of_nonneg i (by omega), Int.fmod_eq_emod_of_nonneg i (by omega)]
  exact ⟨.ref s.heap.objs.size, _, laidT (xs := [.int (i / j), .int (i % j)]) I (fun b o e => Heap.get?_push_of_some _ e) (Nat.le_refl _) (Heap.get?_push_size s.heap rfl) (.cons ⟨_, rfl⟩ (.cons ⟨_, rfl⟩ .nil)) (by show 2 ≤ sizeLine; decide), rfl, q _ (I.hok.fresh (Nat.le_refl _)) _ rfl⟩
/-- list(xs) of a list, a tuple, a text -/
def gList : Sg → List Mv → Option Nw := fun S xs => match xs with
  | [.d (.str z)] => if z.length ≤ sizeLine then some (.lst (signs z)) else none
  | [x] => (x.seq S).map fun q => .lst q.2
  | _ => none
theorem c_list (hc : X.calm = true) : CallP X (.type "list") gList := by
  refine CallR.imp (CallR.or2 call_list_of (call_list_signs hc)) fun vs H Q ⟨ι, S, xs, z, hr, hx, e, q⟩ => ?_
  unfold gList at e
  split at e
  · rename_i y
    split at e
    · rename_i c
      cases e
      obtain ⟨v, rfl, h⟩ := one_of hx
      cases h
      exact .inr ⟨y, rfl, c, fun l hl => q _ l (signs_xcs y) hl⟩
    · cases e
  · obtain ⟨⟨t, ys⟩, e1, rfl⟩ := Option.map_eq_some_iff.mp e
    obtain ⟨v, rfl, h⟩ := one_of hx
    obtain ⟨a, ws, rfl, h1, h2⟩ := Mv.seq_ok hr h e1
    refine .inl ⟨a, ws, rfl, ?_, fun l hl => q ws l h2 hl⟩
    cases t with
    | true => exact .inr h1
    | false => exact .inl (PlnL.sq h1)
  · cases e
/-- divmod by a small positive number -/
def gDivmod : Sg → List Mv → Option Nw := fun _ xs => match xs with
  | [.d (.int i), .d (.int j)] => if 0 < j ∧ j < 1073741824 then some (.tup [.d (.int (i / j)), .d (.int (i % j))]) else none
  | _ => none
theorem c_divmod : CallP X (.builtin "divmod") gDivmod := by
  refine CallR.imp call_divmodP fun vs H Q ⟨ι, S, xs, z, hr, hx, e, q⟩ => ?_
  unfold gDivmod at e
  split at e
  · split at e
    · rename_i c
      cases e
      obtain ⟨v, u, rfl, h1, h2⟩ := two_of hx
      cases h1; cases h2
      exact ⟨_, _, rfl, c, fun p hp o hd => q _ p (.cons ⟨rfl, .int _⟩ (.cons ⟨rfl, .int _⟩ .nil)) hp o hd⟩
    · cases e
  · cases e
/-- isinstance by a built-in class -/
def Mv.kind (S : Sg) (x : Mv) : Option String := match x with
  | .d .none => some "NoneType"
  | .d (.bool _) => some "bool"
  | .d (.int _) => some "int"
  | .d (.str _) => some "str"
  | .d (.dict _) => some "dict"
  | x => (x.seq S).map fun q => if q.1 = true then "tuple" else "list"
theorem SqT_ty {K : PySem.W.Frag} {H : Hp} {a : Addr} {vs : List V} (h : SqT K H a vs) : TyX K H (.ref a) (.type "tuple") := by
  rcases h with (h | ⟨o, h⟩) | ⟨o, its, n, h1, h2, _⟩
  · exact .base (.tup h)
  · exact .fTuple h
  · exact .kTuple h1 h2
theorem PlnL_ty {K : PySem.W.Frag} {H : Hp} {a : Addr} {vs : List V} (h : PlnL K H a vs) : TyX K H (.ref a) (.type "list") := by
  rcases h with h | ⟨o, h⟩ | ⟨its, n, h1, _⟩
  · exact .base (.lst h)
  · exact .base (.frz h)
  · exact .kList h1 rfl
theorem Mv.kind_ok {K : PySem.W.Frag} {ι : Io} {S : Sg} {H : Hp} (hr : Rl K ι S H) {x : Mv} {v : V} (hx : XV K ι H x v) {t : String} (e : x.kind S = some t) : TyX K H v (.type t) := by
  have sq : ∀ b xs, x.seq S = some (b, xs) → t = (if b = true then "tuple" else "list") → TyX K H v (.type t) := by
    intro b xs e1 e2
    obtain ⟨a, vs, rfl, h1, h2⟩ := Mv.seq_ok hr hx e1
    subst e2
    cases b with
    | true => exact SqT_ty h1
    | false => exact PlnL_ty h1
  unfold Mv.kind at e
  split at e
  · cases e; cases hx; exact .base .non
  · cases e; cases hx; exact .base (.bl _)
  · cases e; cases hx; exact .base (.int _)
  · cases e; cases hx; exact .base (.str _)
  · cases e
    cases hx with
    | dct h _ => exact .fDict h
  · obtain ⟨⟨b, xs⟩, e1, e2⟩ := Option.map_eq_some_iff.mp e
    exact sq b xs e1 e2.symm
def gIsi : Sg → List Mv → Option Nw := fun S xs => match xs with
  | [x, .ty c] => (x.kind S).bind fun t => (kitB t c).map fun b => .val (.d (.bool b))
  | _ => none
theorem c_isi : CallP X (.builtin "isinstance") gIsi := by
  refine CallR.imp call_isi fun vs H Q ⟨ι, S, xs, z, hr, hx, e, q⟩ => ?_
  unfold gIsi at e
  split at e
  · obtain ⟨t, e1, e2⟩ := Option.bind_eq_some_iff.mp e
    obtain ⟨b, e3, rfl⟩ := Option.map_eq_some_iff.mp e2
    obtain ⟨v, u, rfl, h1, h2⟩ := two_of hx
    cases h2
    exact ⟨v, _, _, _, b, rfl, .ty _, Mv.kind_ok hr h1 e1, kit_ty e3, q _ (.bl _)⟩
  · cases e
theorem atI_paired {α β : Type} {F : α → β → Prop} {xs : List α} {ys : List β} (h : Paired F xs ys) {i : Int} {x : α} (e : atI xs i = some x) : ∃ y, atI ys i = some y ∧ F x y := by
  unfold atI at e ⊢
  obtain ⟨j, e1, e2⟩ := Option.bind_eq_some_iff.mp e
  obtain ⟨y, e3, r⟩ := Paired.at h e2
  exact ⟨y, by rw [← h.length, e1]; exact e3, r⟩
def gIx : Sg → Mv → Mv → Option Mv := fun S x y => match x, y with
  | .d (.str z), .d (.int i) => if z.length ≤ sizeLine then (atI z.cps.toList i).map fun c => .d (.str ⟨#[c]⟩) else none
  | x, .d (.int i) => (x.seq S).bind fun q => atI q.2 i
  | _, _ => none
def mIx (a b : ME) : ME := fun ρ S => (a ρ S).bind fun x S1 => (b ρ S1).bind fun y S2 => match gIx S2 x y with | some z => .ok z S2 | none => .bad
theorem pm_ix {a b : Expr} {ma mb : ME} {pos : Pos} (ha : PM X W a ma) (hb : PM X W b mb) (hs : PlainIx b := by exact fun _ _ => rfl) : PM X W (.Subscript a b pos) (mIx ma mb) := by
  refine pe_imp (pe_ix ix_seq ha hb hs) fun σ H Q ⟨ι, S, ρ, hl, hr, h⟩ => ?_
  refine ⟨ι, S, ρ, hl, hr, step h fun x v ι1 H1 S1 s1 r1 hx h1 => ?_⟩
  refine ⟨ι1, S1, ρ, hl.mono s1, r1, step h1 fun y u ι2 H2 S2 s2 r2 hy h2 => ?_⟩
  have hx := hx.mono s2
  cases e : gIx S2 x y with
  | none => simp only [e] at h2; exact h2.elim
  | some z =>
    simp only [e] at h2
    have h3 : ∀ w, XV X.K ι2 H2 z w → Q w H2 := fun w hw => h2 _ _ _ (Sub.refl _ _) r2 hw
    unfold gIx at e
    split at e
    · split at e
      · rename_i c
        obtain ⟨c0, e1, rfl⟩ := Option.map_eq_some_iff.mp e
        cases hx; cases hy
        exact .inr (.inr ⟨_, _, c0, rfl, rfl, c, e1, h3 _ (.str _)⟩)
      · cases e
    · obtain ⟨⟨t, xs⟩, e1, e2⟩ := Option.bind_eq_some_iff.mp e
      obtain ⟨a, vs, rfl, h4, h5⟩ := Mv.seq_ok r2 hx e1
      obtain ⟨w, e3, r⟩ := atI_paired h5 e2
      cases hy
      cases t with
      | true => exact .inr (.inl ⟨a, vs, _, w, rfl, rfl, h4, e3, h3 w r.2⟩)
      | false => exact .inl ⟨a, vs, _, w, rfl, rfl, PlnL.sq h4, e3, h3 w r.2⟩
    · cases e
/-- a slice's parts -/
abbrev MO := Rho → Sg → Res (Option Int)
abbrev RO : Io → Hp → Option Int → Option Int → Prop := fun _ _ b c => b = c
def PMO (X : Cx) (W : WX) (e : Option Expr) (m : MO) : Prop := PO X e (tG RO X.K W m)
theorem po_imp {e : Option Expr} {t t' : TO} (h : PO X e t) (i : ∀ σ H Q, t' σ H Q → t σ H Q) : PO X e t' := ⟨fun pins s σ H Q I q => h.run pins s σ H Q I (i _ _ _ q)⟩
def mON : MO := fun _ S => .ok none S
def mOS (m : ME) : MO := fun ρ S => (m ρ S).bind fun x S1 => match x with | .d (.int i) => .ok (some i) S1 | _ => .bad
theorem pmo_none : PMO X W none mON := po_imp po_none fun σ H Q ⟨ι, S, ρ, hl, hr, h⟩ => h _ _ _ (Sub.refl _ _) hr rfl
theorem pmo_some {e : Expr} {m : ME} (h : PM X W e m) : PMO X W (some e) (mOS m) := by
  refine po_imp (po_some h) fun σ H Q ⟨ι, S, ρ, hl, hr, h⟩ => ⟨ι, S, ρ, hl, hr, step h fun x v ι1 H1 S1 s1 r1 hx h1 => ?_⟩
  split at h1
  · cases hx
    exact ⟨_, rfl, h1 _ _ _ (Sub.refl _ _) r1 rfl⟩
  · exact h1.elim
def cutM (xs : List Mv) (lo hi : Option Int) : List Mv := (xs.drop (HT.sIx xs.length 0 lo)).take (HT.sIx xs.length xs.length hi - HT.sIx xs.length 0 lo)
theorem Paired.drop {α β : Type} {F : α → β → Prop} : ∀ {xs : List α} {ys : List β} (n : Nat), Paired F xs ys → Paired F (xs.drop n) (ys.drop n)
  | _, _, 0, r => r
  | _, _, _ + 1, .nil => .nil
  | _, _, n + 1, .cons _ t => Paired.drop n t
theorem Paired.take {α β : Type} {F : α → β → Prop} : ∀ {xs : List α} {ys : List β} (n : Nat), Paired F xs ys → Paired F (xs.take n) (ys.take n)
  | _, _, 0, _ => .nil
  | _, _, _ + 1, .nil => .nil
  | _, _, n + 1, .cons r t => .cons r (Paired.take n t)
theorem cut_paired {F : Mv → V → Prop} {xs : List Mv} {ys : List V} (h : Paired F xs ys) (lo hi : Option Int) : Paired F (cutM xs lo hi) (cutV ys lo hi) := by
  unfold cutM cutV
  rw [h.length]
  exact Paired.take _ (Paired.drop _ h)
/-- a tuple's slice that is not the whole of it makes a new one; the whole is itself -/
def rSlTP (K : PySem.W.Frag) : V → Option Int → Option Int → Hp → VK → Prop := fun x lo hi H Q => ∃ a xs, x = .ref a ∧ SqT K H a xs ∧ (((HT.sIx xs.length 0 lo = 0 ∧ HT.sIx xs.length xs.length hi = xs.length) ∧ Q (.ref a) H) ∨
  (¬ (HT.sIx xs.length 0 lo = 0 ∧ HT.sIx xs.length xs.length hi = xs.length) ∧ ∀ p, H p = none → ∀ o : Obj, o.dict = none → Q (.ref p) (upd H p (.frz o (.tup (cutV xs lo hi))))))
theorem sl_tupP : SlR X (rSlTP X.K) := by
  intro pins s σ H x v vl vu lo hi sl Q I rx hs pl pu ⟨a, xs, ex, hx, h⟩
  subst ex
  cases rx
  obtain ⟨its, r, ht, hz⟩ := I.tuple hx
  have hlen : its.toArray.size = xs.length := by rw [List.size_toArray]; exact r.length.symm
  refine ⟨"tuple", _, PyProof.Rows.slot_tuple_getitem.lookup, ht.typeIs, ?_⟩
  rcases h with ⟨hw, q⟩ | ⟨hw, q⟩
  · exact L2.getItem_tuple_whole ht hs pl pu (by rw [hlen]; exact hw) ⟨.ref a, H, I, rfl, q⟩
  · refine HT.getItem_tuple_cut ht hs pl pu (by rw [hlen]; exact hw) ?_ (by rw [hlen]; exact hz)
    rw [hlen]
    exact ⟨.ref s.heap.objs.size, _, laidT (t' := s.toks) (xs := cutV xs lo hi) I (fun b ob q => Heap.get?_push_of_some _ q) (Nat.le_refl _) (Heap.get?_push_size _ rfl) ((r.drop (HT.sIx xs.length 0 lo)).take (HT.sIx xs.length xs.length hi - HT.sIx xs.length 0 lo)) (Nat.le_trans (cutV_length xs lo hi) hz), rfl, q _ (I.hok.fresh (Nat.le_refl _)) _ rfl⟩
def gSl (S : Sg) (x : Mv) (lo hi : Option Int) : Option Nw := match x with
  | .d (.tuple ds) => if HT.sIx ds.length 0 lo = 0 ∧ HT.sIx ds.length ds.length hi = ds.length then some (.val (.d (.tuple ds))) else some (.tup (cutM (ds.map .d) lo hi))
  | .d (.str z) => if z.length ≤ sizeLine then some (.val (.d (.str (cutS z lo hi)))) else none
  | x => match x.isList S with | some xs => some (.lst (cutM xs lo hi)) | none => none
def mSl (b : Bi) (a : ME) (lo hi : MO) : ME := fun ρ S => (a ρ S).bind fun x S1 => (lo ρ S1).bind fun l S2 => (hi ρ S2).bind fun u S3 => opt (gSl S3 x l u) fun z => bear b z S3
theorem pm_sl {e : Expr} {lo hi : Option Expr} {m : ME} {ml mh : MO} {p2 pos : Pos} (b : Bi) (h : PM X W e m) (hl : PMO X W lo ml) (hh : PMO X W hi mh) : PM X W (.Subscript e (.Slice lo hi none p2) pos) (mSl b m ml mh) := by
  refine pe_imp (pe_b b (pe_slice (SlR.or sl_tupP (SlR.or sl_list sl_str)) h hl hh)) fun σ H Q ⟨ι, S, ρ, hL, hr, h⟩ => ?_
  refine ⟨ι, S, ρ, hL, hr, step h fun x v ι1 H1 S1 s1 r1 hx h1 => ?_⟩
  refine ⟨ι1, S1, ρ, hL.mono s1, r1, step h1 fun l l' ι2 H2 S2 s2 r2 el h2 => ?_⟩
  refine ⟨ι2, S2, ρ, (hL.mono s1).mono s2, r2, step h2 fun u u' ι3 H3 S3 s3 r3 eu h3 => ?_⟩
  cases el; cases eu
  have hx := (hx.mono s2).mono s3
  unfold opt at h3
  cases e : gSl S3 x l u with
  | none => rw [e] at h3; exact h3.elim
  | some z =>
    rw [e] at h3
    have q := bear_raw r3 h3
    unfold gSl at e
    split at e
    · cases (show FD _ _ _ _ from hx) with
      | @tup a vs es hf hs =>
        have hn := (List.length_map (f := Mv.d)).symm.trans (FDs.xcs (ι := ι3) hs).length
        split at e
        · rename_i c
          cases e
          exact .inl ⟨_, _, rfl, hf.sq, .inl ⟨by rw [← hn]; exact c, q _ (.tup hf hs)⟩⟩
        · rename_i c
          cases e
          exact .inl ⟨_, _, rfl, hf.sq, .inr ⟨by rw [← hn]; exact c, fun p hp o hd => q _ p (cut_paired (FDs.xcs hs) l u) hp o hd⟩⟩
    · split at e
      · rename_i c
        cases e; cases hx
        exact .inr (.inr ⟨_, rfl, c, q _ (.str _)⟩)
      · cases e
    · split at e
      · rename_i xs e1
        cases e
        obtain ⟨a, vs, rfl, h4, h5⟩ := Mv.isList_ok r3 hx e1
        exact .inr (.inl ⟨a, vs, rfl, h4.sq, fun p hp => q _ p (cut_paired h5 l u) hp⟩)
      · cases e
theorem filt_all {α : Type} (a : Array α) : (List.range a.size).filterMap (a[·]?) = a.toList := by
  have key : ∀ n, n ≤ a.size → (List.range n).filterMap (a[·]?) = a.toList.take n := by
    intro n
    induction n with
    | zero => intro _; simp
    | succ n ih =>
      intro hn
      rw [List.range_succ, List.filterMap_append, ih (by omega), List.take_add_one]
      have : a[n]? = a.toList[n]? := by simp
      simp only [List.filterMap_cons, List.filterMap_nil, this]
      cases a.toList[n]? <;> rfl
  rw [key a.size (Nat.le_refl _)]
  exact List.take_of_length_le (by simp)
/-- turned about: a list, a text -/
def revS (z : Str) : Str := ⟨z.cps.toList.reverse.toArray⟩
theorem Paired.reverse {α β : Type} {F : α → β → Prop} {xs : List α} {ys : List β} (h : Paired F xs ys) : Paired F xs.reverse ys.reverse := by
  induction h with
  | nil => exact .nil
  | cons r t ih => rw [List.reverse_cons, List.reverse_cons]; exact ih.snoc r
def tRevS (te : TE) : TE := fun σ H Q => te σ H fun x H1 => ∃ z, x = .str z ∧ z.length ≤ sizeLine ∧ Q (.str (revS z)) H1
theorem pe_revS {e : Expr} {te : TE} {k : Nat} {p1 p2 p3 pos : Pos} (he : PE X e te) : PE X (.Subscript e (.Slice none none (some (.UnaryOp .USub (.Constant (.int 1) k p1) p2)) p3) pos) (tRevS te) := by
  refine ⟨fun pins s σ H Q I want => ?_⟩
  refine Subscript_ (thn (he.run pins s σ H _ I want) fun v s1 ⟨x, H1, I1, rel, z, ex, hz, q⟩ => ?_)
  subst ex
  obtain ⟨t, rfl⟩ := rel
  have one : PO X (some (.UnaryOp .USub (.Constant (.int 1) k p1) p2)) (tPart (tUn (rU fun i => .int (-i)) (tC (.int 1)))) := po_some (pe_un un_neg pe_int)
  refine wpAny_Slice (thn (po_none.run pins s1 σ H1 (fun o G => o = none ∧ G = H1) I1 ⟨rfl, rfl⟩) fun v1 s2 ⟨o1, G2, I2, part1, o1e, g2⟩ => ?_)
  subst o1e g2
  refine thn (po_none.run pins s2 σ G2 (fun o G => o = none ∧ G = G2) I2 ⟨rfl, rfl⟩) fun v2 s3 ⟨o2, G3, I3, part2, o2e, g3⟩ => ?_
  subst o2e g3
  refine thn (one.run pins s3 σ G3 (fun o G => o = some (-1) ∧ G = G3) I3 ⟨1, rfl, -1, rfl, rfl, rfl⟩) fun v3 s4 ⟨o3, G4, I4, part3, o3e, g4⟩ => ?_
  subst o3e g4
  obtain ⟨l1, rfl, m1⟩ := IsPart.raw part1
  obtain ⟨l2, rfl, m2⟩ := IsPart.raw part2
  obtain ⟨l3, rfl, m3⟩ := IsPart.raw part3
  have J : Inv X pins σ G4 { s4 with heap := s4.heap.push { cls := .type "slice", data := .fields #[partValue l1, partValue l2, partValue l3] } } := I4.kept (t' := s4.toks) fun b ob e => Heap.get?_push_of_some _ e
  show wpAny (model X.prog X.w) X.A (subscriptTail e (.Slice none none (some (.UnaryOp .USub (.Constant (.int 1) k p1) p2)) p3) (.str z t) (.ref s4.heap.objs.size)) (EP X pins σ Q) X.xe { s4 with heap := s4.heap.push { cls := .type "slice", data := .fields #[partValue l1, partValue l2, partValue l3] } }
  refine tail_any (ops := [.str z t, .ref s4.heap.objs.size]) (typeIs_str _ _ _) PySem.F.slot_str_getitem.lookup ?_ (by with_unfolding_all rfl)
  refine wpAny_getItem_str_slice (l := l1) (u := l2) (st := l3) ⟨_, Heap.get?_push_size _ rfl, rfl, rfl⟩ (by rw [m3]; rfl) ?_
  have pick : ((slicePicked z l1 l2 l3).filterMap (z.cps[·]?)).toArray = z.cps.toList.reverse.toArray := by
    unfold slicePicked
    rw [m1, m2, m3]
    show ((sliceRange ((z.length : Int) - 1) (-1) (-1)).filterMap (z.cps[·]?)).toArray = _
    have := PySem.W.krv_pick
    rw [PySem.W.krv_sliceRange, PySem.W.krv_range, List.filterMap_reverse]
    congr 2
    show (List.range z.cps.size).filterMap (z.cps[·]?) = z.cps.toList
    exact filt_all z.cps
  unfold sliceMade
  rw [m3, pick]
  exact ⟨by show z.cps.toList.reverse.toArray.size ≤ sizeLine; simpa [Str.length] using hz, .str (revS z), G4, J.tok _, ⟨_, rfl⟩, q⟩
end
end MM
end
section
set_option Elab.async false
set_option linter.all false
set_option maxRecDepth 100000
set_option maxHeartbeats 4000000
set_option autoImplicit false
namespace MM
open PySem PySem.Spec PyProof.Rows L2
end MM
end
section
set_option Elab.async false
set_option linter.all false
set_option maxRecDepth 100000
set_option maxHeartbeats 4000000
set_option autoImplicit false
namespace MM
open PySem PySem.Spec PyProof.Rows L2
variable {gb : Bool}
section
variable {X : Cx} {W : WX}
theorem pe_or {e : Expr} {t t' : TE} (h : PE X e t) (h' : PE X e t') : PE X e (fun σ H Q => t σ H Q ∨ t' σ H Q) := ⟨fun pins s σ H Q I q => by
  rcases q with q | q
  · exact h.run pins s σ H Q I q
  · exact h'.run pins s σ H Q I q⟩
theorem tuple_rev {P : Program} {w : World} {A : Around} {E : Value → Shared → Prop} {s : Shared} {t sl : Addr} {items : Array Value} {v1 v2 v3 : Value} {Q : Value → Shared → Prop} (ht : IsTup s.heap t items) (hs : s.heap.IsSliceOf sl v1 v2 v3) (p1 : IsPart v1 none) (p2 : IsPart v2 none) (p3 : IsPart v3 (some (-1)))
    (h : Q (.ref s.heap.objs.size) { s with heap := s.heap.push { cls := .type "tuple", data := .seq items.toList.reverse.toArray } }) (hz : items.size ≤ sizeLine) : wpAny (model P w) A (getItem (.ref t) (.ref sl)) Q E s := by
  have fits : sizeOk (.seq items.toList.reverse.toArray) := by
    show items.toList.reverse.toArray.size ≤ sizeLine
    rw [List.size_toArray, List.length_reverse, Array.length_toList]; exact hz
  obtain ⟨os, hos, hcs, hds⟩ := id hs
  have hT : s.TypeIs (.ref sl) "slice" := ⟨os, hos, hcs⟩
  unfold getItem
  try with_reducible refine wpAny_holding ?_
  refine wpAny_bind (wpAny_sequenceKey ht.typeIs (by decide) ?_)
  refine wpAny_bind (wpAny_callSpecial?_slot (name := Str.ofString "__getitem__") ht.typeIs PyProof.Rows.slot_tuple_getitem
    (wpAny_call_entry PyProof.Rows.slot_tuple_getitem ht.typeIs PyProof.Rows.entry_tuple_getitem ?_ (PyProof.Rows.args_tuple_getitem _ _)))
  show wpAny _ _ (Builtin.Tuple.tupleItemsOf (.ref t) >>= _) _ _ s
  refine wpAny_bind (tupleItemsOf_ ht ?_)
  refine wpAny_bind (wpAny_typeOf hT ?_)
  rw [if_pos (by decide)]
  have sa : ∀ {B : Around} {E' : Value → Shared → Prop} {R : Int × Int × Nat → Shared → Prop}, R ((items.size : Int) - 1, -1, items.size) s → wpAny (model P w) B (Builtin.Slice.sliceApplied (.ref sl) (pure (items.size : Int))) R E' s := fun q => by
    unfold Builtin.Slice.sliceApplied Builtin.Slice.sliceFields
    refine wpAny_bind (wpAny_bind (wpAny_field hos hds (x := v1) rfl (wpAny_bind (wpAny_field hos hds (x := v2) rfl (wpAny_bind (wpAny_field hos hds (x := v3) rfl (wpAny_pure ?_)))))))
    refine wpAny_bind (HT.slicePart_ p3 ?_)
    show wpAny _ _ (if ((-1 : Int) == 0) = true then _ else _) _ _ s
    rw [if_neg (by decide)]
    refine wpAny_bind (HT.slicePart_ p1 (wpAny_bind (HT.slicePart_ p2 (wpAny_bind (wpAny_pure ?_)))))
    have e : Builtin.Slice.slicePlaces ((items.size : Int) - 1) (-1) (-1) = items.size := by
      unfold Builtin.Slice.slicePlaces
      rw [if_neg (by decide)]
      by_cases h0 : (items.size : Int) - 1 > -1
      · rw [if_pos h0, show (-(-1) : Int) = 1 by decide, Int.ediv_one]; omega
      · rw [if_neg h0]; omega
    show wpAny _ _ (pure (((items.size : Int) - 1), (-1 : Int), Builtin.Slice.slicePlaces ((items.size : Int) - 1) (-1) (-1))) _ _ s
    rw [e]
    exact wpAny_pure q
  refine wpAny_bind (sa ?_)
  show wpAny _ _ (if (((items.size : Int) - 1) == 0 && (-1 : Int) == 1 && items.size == items.size) = true then _ else _) _ _ s
  rw [if_neg (by rw [show ((-1 : Int) == 1) = false from rfl, Bool.and_false, Bool.false_and]; exact Bool.false_ne_true)]
  have pick : ((List.range items.size).filterMap fun (k : Nat) => items[((items.size : Int) - 1 + (k : Int) * (-1)).toNat]?).toArray = items.toList.reverse.toArray := by
    have e1 : (List.range items.size).filterMap (fun (k : Nat) => items[((items.size : Int) - 1 + (k : Int) * (-1)).toNat]?) = ((List.range items.size).map fun k => items.size - 1 - k).filterMap (items[·]?) := by
      rw [List.filterMap_map]
      congr 1
      funext k
      show items[((items.size : Int) - 1 + (k : Int) * (-1)).toNat]? = items[items.size - 1 - k]?
      congr 1
      omega
    rw [e1, PySem.W.krv_range, List.filterMap_reverse, PySem.W.krv_all]
  rw [pick]
  first
    | exact wpAny_bind (m := Builtin.Tuple.tupleExact _) (wpAny_newObj_type (wpAny_pure ⟨_, rfl, wpAny_pure h⟩) fits)
    | exact wpAny_bind (m := Builtin.Tuple.tupleExact _) (wpAny_newObj_type (wpAny_bind (wpAny_pure (wpAny_pure ⟨_, rfl, wpAny_pure h⟩))) fits)
    | exact wpAny_bind (wpAny_bind (m := Builtin.Tuple.tupleExact _) (wpAny_newObj_type (wpAny_pure (wpAny_pure ⟨_, rfl, wpAny_pure h⟩)) fits))
    | exact wpAny_bind (wpAny_bind (m := Builtin.Tuple.tupleExact _) (wpAny_newObj_type (wpAny_pure ⟨_, rfl, wpAny_pure h⟩) fits))
def tRevT (K : PySem.W.Frag) (te : TE) : TE := fun σ H Q => te σ H fun x H1 => ∃ a xs, x = .ref a ∧ SqT K H1 a xs ∧ ∀ p, H1 p = none → ∀ o : Obj, o.dict = none → Q (.ref p) (upd H1 p (.frz o (.tup xs.reverse)))
theorem pe_revT {e : Expr} {te : TE} {k : Nat} {p1 p2 p3 pos : Pos} (he : PE X e te) : PE X (.Subscript e (.Slice none none (some (.UnaryOp .USub (.Constant (.int 1) k p1) p2)) p3) pos) (tRevT X.K te) := by
  refine ⟨fun pins s σ H Q I want => ?_⟩
  refine Subscript_ (thn (he.run pins s σ H _ I want) fun v s1 ⟨x, H1, I1, rel, a, xs, ex, hx, q⟩ => ?_)
  subst ex
  cases rel
  have one : PO X (some (.UnaryOp .USub (.Constant (.int 1) k p1) p2)) (tPart (tUn (rU fun i => .int (-i)) (tC (.int 1)))) := po_some (pe_un un_neg pe_int)
  refine wpAny_Slice (thn (po_none.run pins s1 σ H1 (fun o G => o = none ∧ G = H1) I1 ⟨rfl, rfl⟩) fun v1 s2 ⟨o1, G2, I2, part1, o1e, g2⟩ => ?_)
  subst o1e g2
  refine thn (po_none.run pins s2 σ G2 (fun o G => o = none ∧ G = G2) I2 ⟨rfl, rfl⟩) fun v2 s3 ⟨o2, G3, I3, part2, o2e, g3⟩ => ?_
  subst o2e g3
  refine thn (one.run pins s3 σ G3 (fun o G => o = some (-1) ∧ G = G3) I3 ⟨1, rfl, -1, rfl, rfl, rfl⟩) fun v3 s4 ⟨o3, G4, I4, part3, o3e, g4⟩ => ?_
  subst o3e g4
  have J : Inv X pins σ G4 { s4 with heap := s4.heap.push { cls := .type "slice", data := .fields #[v1, v2, v3] } } := I4.kept (t' := s4.toks) fun b ob e => Heap.get?_push_of_some _ e
  obtain ⟨its, r, ht, hz⟩ := J.tuple hx
  have len := r.length
  show wpAny (model X.prog X.w) X.A (subscriptTail e (.Slice none none (some (.UnaryOp .USub (.Constant (.int 1) k p1) p2)) p3) (.ref a) (.ref s4.heap.objs.size)) (EP X pins σ Q) X.xe { s4 with heap := s4.heap.push { cls := .type "slice", data := .fields #[v1, v2, v3] } }
  refine tail_any (ops := [.ref a, .ref s4.heap.objs.size]) ht.typeIs PyProof.Rows.slot_tuple_getitem.lookup ?_ (by with_unfolding_all rfl)
  refine tuple_rev ht (Heap.IsSliceOf.new _ v1 v2 v3) part1 part2 part3 ?_ (by rw [List.size_toArray]; omega)
  exact ⟨.ref _, _, laidT (t' := s4.toks) (xs := xs.reverse) J (fun b ob q => Heap.get?_push_of_some _ q) (Nat.le_refl _) (Heap.get?_push_size _ rfl) r.reverse (by rw [List.length_reverse]; exact hz), rfl, q _ (J.hok.fresh (Nat.le_refl _)) _ rfl⟩
def mRev (b : Bi) (m : ME) : ME := fun ρ S => (m ρ S).bind fun x S1 => match x with
  | .d (.str z) => if z.length ≤ sizeLine then .ok (.d (.str (revS z))) S1 else .bad
  | .d (.tuple ds) => .ok (.d (.tuple ds.reverse)) S1
  | x => match x.isList S1 with | some xs => bear b (.lst xs.reverse) S1 | none => .bad
theorem FDs.rev {K : PySem.W.Frag} {H : Hp} {ds : List PyData} {vs : List V} (h : FDs K H ds vs) : FDs K H ds.reverse vs.reverse := by
  have snoc : ∀ {ds : List PyData} {vs : List V} {d : PyData} {v : V}, FDs K H ds vs → FD K H d v → FDs K H (ds ++ [d]) (vs ++ [v]) := by
    intro ds
    induction ds with
    | nil => intro vs d v h1 h2; cases h1; exact .cons h2 .nil
    | cons x r ih => intro vs d v h1 h2; cases h1 with | cons a b => exact .cons a (ih b h2)
  induction ds generalizing vs with
  | nil => cases h; exact .nil
  | cons x r ih => cases h with | cons a b => rw [List.reverse_cons, List.reverse_cons]; exact snoc (ih b) a
theorem pm_rev {e : Expr} {m : ME} {k : Nat} {p1 p2 p3 pos : Pos} (b : Bi) (h : PM X W e m) : PM X W (.Subscript e (.Slice none none (some (.UnaryOp .USub (.Constant (.int 1) k p1) p2)) p3) pos) (mRev b m) := by
  refine pe_imp (pe_or (pe_or (pe_revS h) (pe_b b (pe_revL h))) (pe_revT h)) fun σ H Q ⟨ι, S, ρ, hl, hr, h⟩ => ?_
  cases em : m ρ S with
  | bad => unfold mRev at h; rw [em] at h; exact h.elim
  | exc ex S' =>
    unfold mRev at h; rw [em] at h
    exact .inl (.inl ⟨ι, S, ρ, hl, hr, by rw [em]; exact h⟩)
  | ok x S1 =>
    unfold mRev at h; rw [em] at h
    simp only [Res.bind] at h
    split at h
    · rename_i z
      split at h
      · rename_i c
        refine .inl (.inl ⟨ι, S, ρ, hl, hr, ?_⟩)
        rw [em]
        intro ι1 H1 v s1 r1 hx
        cases hx
        exact ⟨_, rfl, c, h _ _ _ s1 r1 (.str _)⟩
      · exact h.elim
    · refine .inr ⟨ι, S, ρ, hl, hr, ?_⟩
      rw [em]
      intro ι1 H1 v s1 r1 hx
      cases (show FD _ _ _ _ from hx) with
      | tup hf hs =>
        refine ⟨_, _, rfl, hf.sq, fun p hp o hd => ?_⟩
        obtain ⟨r2, s2⟩ := r1.beside (u := .frz o (.tup (List.reverse _))) hp
        exact h _ _ _ (s1.trans s2) r2 (.tup (.inl ⟨o, hd, upd_same⟩) (FDs.mono s2.grow (FDs.rev hs)))
    · split at h
      · rename_i xs e1
        refine .inl (.inr ⟨ι, S, ρ, hl, hr, ?_⟩)
        rw [em]
        intro ι1 H1 v s1 r1 hx
        obtain ⟨a, vs, rfl, h1, h2⟩ := Mv.isList_ok r1 hx e1
        exact ⟨a, vs, rfl, h1.sq, fun p hp => bear_raw (n := .lst xs.reverse) r1 (h.sub s1) _ p (Paired.reverse h2) hp⟩
      · exact h.elim
def tyM (T : String) (x : Mv) (S : Sg) : Bool := match x with
  | .d (.str _) => T == "str"
  | x => match x.isList S with | some _ => T == "list" | none => false
theorem tyM_ok {K : PySem.W.Frag} {ι : Io} {S : Sg} {H : Hp} (hr : Rl K ι S H) {T : String} {x : Mv} {v : V} (hx : XV K ι H x v) (e : tyM T x S = true) : tyV K T v H := by
  unfold tyM at e
  split at e
  · cases hx
    exact (beq_iff_eq.mp e)
  · split at e
    · rename_i xs e1
      obtain ⟨a, vs, rfl, h1, h2⟩ := Mv.isList_ok hr hx e1
      exact .inl ⟨beq_iff_eq.mp e, vs, h1.sq⟩
    · cases e
/-- what is told, the store as it is -/
def MtP (X : Cx) (id : String) (g : Sg → Mv → List Mv → Option Nw) : Prop :=
  MtR X id fun v vs H Q => ∃ ι S x xs z, Rl X.K ι S H ∧ XV X.K ι H x v ∧ XVs X.K ι H xs vs ∧ g S x xs = some z ∧ Raw X.K ι H Q z
/-- what is told, and the store behind -/
def MtU (X : Cx) (id : String) (g : Sg → Mv → List Mv → Option (Mv × Sg)) : Prop :=
  MtR X id fun v vs H Q => ∃ ι S x xs z S', Rl X.K ι S H ∧ XV X.K ι H x v ∧ XVs X.K ι H xs vs ∧ g S x xs = some (z, S') ∧ ∀ H' w, Sub ι H ι H' → Rl X.K ι S' H' → XV X.K ι H' z w → Q w H'
theorem MtR.imp {id : String} {r r' : V → List V → Hp → VK → Prop} (h : MtR X id r) (i : ∀ x xs H Q, r' x xs H Q → r x xs H Q) : MtR X id r' := fun pins s σ H x xs v us Q I rx rs q => h pins s σ H x xs v us Q I rx rs (i _ _ _ _ q)
def mBM (b : Bi) (T : String) (g : Sg → Mv → List Mv → Option Nw) (o : ME) (a : MA) : ME := fun ρ S => (o ρ S).bind fun x S1 => if tyM T x S1 = true then (a ρ S1).bind fun xs S2 => opt (g S2 x xs) fun z => bear b z S2 else .bad
def mBU (T : String) (g : Sg → Mv → List Mv → Option (Mv × Sg)) (o : ME) (a : MA) : ME := fun ρ S => (o ρ S).bind fun x S1 => if tyM T x S1 = true then (a ρ S1).bind fun xs S2 => match g S2 x xs with | some (z, S') => .ok z S' | none => .bad else .bad
theorem bm_core {T : String} {g : Sg → Mv → List Mv → Option Nw} {mo : ME} {ma : MA} {b : Bi} {σ : L2.St} {H : Hp} {Q : VK} (h : tG (XV X.K) X.K W (mBM b T g mo ma) σ H Q) :
    tBM X.K T (fun v vs H Q => ∃ ι S x xs z, Rl X.K ι S H ∧ XV X.K ι H x v ∧ XVs X.K ι H xs vs ∧ g S x xs = some z ∧ Raw X.K ι H Q z) (tG (XV X.K) X.K W mo) (tG (XVs X.K) X.K W ma) σ H (Qf b Q) := by
  obtain ⟨ι, S, ρ, hl, hr, h⟩ := h
  refine ⟨ι, S, ρ, hl, hr, step h fun x v ι1 H1 S1 s1 r1 hx h1 => ?_⟩
  by_cases c : tyM T x S1 = true
  · rw [if_pos c] at h1
    refine ⟨tyM_ok r1 hx c, ι1, S1, ρ, hl.mono s1, r1, step h1 fun xs vs ι2 H2 S2 s2 r2 hs h2 => ?_⟩
    unfold opt at h2
    cases e : g S2 x xs with
    | none => rw [e] at h2; exact h2.elim
    | some z =>
      rw [e] at h2
      exact ⟨ι2, S2, x, xs, z, r2, hx.mono s2, hs, e, bear_raw r2 h2⟩
  · rw [if_neg c] at h1; exact h1.elim
theorem bu_core {T : String} {g : Sg → Mv → List Mv → Option (Mv × Sg)} {mo : ME} {ma : MA} {σ : L2.St} {H : Hp} {Q : VK} (h : tG (XV X.K) X.K W (mBU T g mo ma) σ H Q) :
    tBM X.K T (fun v vs H Q => ∃ ι S x xs z S', Rl X.K ι S H ∧ XV X.K ι H x v ∧ XVs X.K ι H xs vs ∧ g S x xs = some (z, S') ∧ ∀ H' w, Sub ι H ι H' → Rl X.K ι S' H' → XV X.K ι H' z w → Q w H') (tG (XV X.K) X.K W mo) (tG (XVs X.K) X.K W ma) σ H Q := by
  obtain ⟨ι, S, ρ, hl, hr, h⟩ := h
  refine ⟨ι, S, ρ, hl, hr, step h fun x v ι1 H1 S1 s1 r1 hx h1 => ?_⟩
  by_cases c : tyM T x S1 = true
  · rw [if_pos c] at h1
    refine ⟨tyM_ok r1 hx c, ι1, S1, ρ, hl.mono s1, r1, step h1 fun xs vs ι2 H2 S2 s2 r2 hs h2 => ?_⟩
    cases e : g S2 x xs with
    | none => simp only [e] at h2; exact h2.elim
    | some p =>
      obtain ⟨z, S'⟩ := p
      simp only [e] at h2
      exact ⟨ι2, S2, x, xs, z, S', r2, hx.mono s2, hs, e, fun H' w s r hz => h2 _ _ _ s r hz⟩
  · rw [if_neg c] at h1; exact h1.elim
section
variable {o e : Expr} {es : List Expr} {name : Str} {apos cpos : Pos} {T id : String} {mo : ME} {ma : MA}
theorem pm_bm {g : Sg → Mv → List Mv → Option Nw} (b : Bi) (pa : PlainAttrs T) (slot : Slot T name id) (hty : typeOf (.builtin id) = pure (.type "method_descriptor")) (hm : MtP X id g) (ho : PM X W o mo) (ha : PL X W (e :: es) ma)
    (hbase : attributeBase o name X.env (eval o X.env) = eval o X.env := by rfl)
    (hfew : ((backTo cpos (starEach (e :: es) X.env)).all (fun x => !x.1) && (backToKw cpos (keywordEach [] X.env)).all (fun x => x.1.isSome) && decide ((e :: es).length + ([] : List Keyword).length + (if ([] : List Keyword).isEmpty then 0 else 1) < 30)) = true := by rfl)
    (hline : (apos.endLine == cpos.line) = true := by rfl) (hs : starEach (e :: es) X.env = (false, eval e X.env) :: starEach es X.env := by rfl) (hplain : (backTo cpos (starEach es X.env)).any (·.1) = false := by rfl) :
    PM X W (.Call (.Attribute o name apos) (e :: es) [] cpos) (mBM b T g mo ma) :=
  pe_imp (pe_b b (pe_bm pa slot hty hm ho ha hbase hfew hline hs hplain)) fun σ H Q h => bm_core h
theorem pm_bu {g : Sg → Mv → List Mv → Option (Mv × Sg)} (pa : PlainAttrs T) (slot : Slot T name id) (hty : typeOf (.builtin id) = pure (.type "method_descriptor")) (hm : MtU X id g) (ho : PM X W o mo) (ha : PL X W (e :: es) ma)
    (hbase : attributeBase o name X.env (eval o X.env) = eval o X.env := by rfl)
    (hfew : ((backTo cpos (starEach (e :: es) X.env)).all (fun x => !x.1) && (backToKw cpos (keywordEach [] X.env)).all (fun x => x.1.isSome) && decide ((e :: es).length + ([] : List Keyword).length + (if ([] : List Keyword).isEmpty then 0 else 1) < 30)) = true := by rfl)
    (hline : (apos.endLine == cpos.line) = true := by rfl) (hs : starEach (e :: es) X.env = (false, eval e X.env) :: starEach es X.env := by rfl) (hplain : (backTo cpos (starEach es X.env)).any (·.1) = false := by rfl) :
    PM X W (.Call (.Attribute o name apos) (e :: es) [] cpos) (mBU T g mo ma) :=
  pe_imp (pe_bm pa slot hty hm ho ha hbase hfew hline hs hplain) fun σ H Q h => bu_core h
theorem pm_bu0 {g : Sg → Mv → List Mv → Option (Mv × Sg)} (pa : PlainAttrs T) (slot : Slot T name id) (hty : typeOf (.builtin id) = pure (.type "method_descriptor")) (hm : MtU X id g) (ho : PM X W o mo)
    (hbase : attributeBase o name X.env (eval o X.env) = eval o X.env := by rfl) (hline : (apos.endLine == cpos.line) = true := by rfl) : PM X W (.Call (.Attribute o name apos) [] [] cpos) (mBU T g mo mNil) := by
  refine pe_imp (pe_bm0 pa slot hty hm ho hbase hline) fun σ H Q h => ?_
  obtain ⟨ι, S, ρ, hl, hr, h⟩ := bu_core h
  refine ⟨ι, S, ρ, hl, hr, h.imp fun v H1 ⟨h1, h2⟩ => ⟨h1, ?_⟩⟩
  obtain ⟨ι2, S2, ρ2, _, r2, h3⟩ := h2
  exact h3 _ _ _ (Sub.refl _ _) r2 .nil
end
/-- a cell that a value names -/
def Mv.cell (S : Sg) (x : Mv) : Option (Nat × Bool × Mo) := match x with
  | .ref i => match S[i]? with | some (false, o) => some (i, false, o) | _ => none
  | .own i => match S[i]? with | some (true, o) => some (i, true, o) | _ => none
  | _ => none
theorem Mv.cell_ok {K : PySem.W.Frag} {ι : Io} {S : Sg} {H : Hp} (hr : Rl K ι S H) {x : Mv} {v : V} (hx : XV K ι H x v) {i : Nat} {b : Bool} {o : Mo} (e : x.cell S = some (i, b, o)) : ∃ a, v = .ref a ∧ ι[i]? = some (b, a) ∧ S[i]? = some (b, o) ∧ OV K ι H a o := by
  unfold Mv.cell at e
  split at e
  · obtain ⟨a, h1, rfl⟩ := hx
    split at e
    · rename_i e1
      cases e
      exact ⟨a, rfl, h1, e1, hr.cell _ _ _ _ e1 h1⟩
    · cases e
  · obtain ⟨a, h1, rfl⟩ := hx
    split at e
    · rename_i e1
      cases e
      exact ⟨a, rfl, h1, e1, hr.cell _ _ _ _ e1 h1⟩
    · cases e
  · cases e
def uAppend : Sg → Mv → List Mv → Option (Mv × Sg) := fun S x xs => match xs with
  | [y] => match x.cell S with
    | some (i, b, .lst zs) => if y.free = true ∧ zs.length < sizeLine then some (.d .none, S.set i (b, .lst (zs ++ [y]))) else none
    | _ => none
  | _ => none
theorem XCs.upd1 {K : PySem.W.Frag} {ι : Io} {H : Hp} {a : Addr} {u v : HO} {xs : List Mv} {vs : List V} (hv : H a = some v) (m : Mut (some v)) (h : XCs K ι H xs vs) (nx : ¬ Kst a v := by (intro h; rcases h with ⟨_, h⟩ | ⟨_, h⟩ <;> first | (unfold LamX.CodeO at h; cases h) | (unfold FobO at h; cases h))) : XCs K ι (upd H a u) xs vs := XCs.grown ⟨[], (List.append_nil _).symm⟩ (Grow.write hv m nx) h
theorem XC.upd1 {K : PySem.W.Frag} {ι : Io} {H : Hp} {a : Addr} {u v : HO} {x : Mv} {w : V} (hv : H a = some v) (m : Mut (some v)) (h : XC K ι H x w) (nx : ¬ Kst a v := by (intro h; rcases h with ⟨_, h⟩ | ⟨_, h⟩ <;> first | (unfold LamX.CodeO at h; cases h) | (unfold FobO at h; cases h))) : XC K ι (upd H a u) x w := ⟨h.1, h.2.grown ⟨[], (List.append_nil _).symm⟩ (Grow.write hv m nx)⟩
theorem u_append : MtU X "list.append" uAppend := by
  refine MtR.imp mt_append fun v vs H Q ⟨ι, S, x, xs, z, S', hr, hx, hxs, e, q⟩ => ?_
  unfold uAppend at e
  split at e
  · rename_i y
    split at e
    · rename_i i b zs e1
      split at e
      · rename_i c
        cases e
        obtain ⟨a, rfl, h1, h2, ws, h3, h4⟩ := Mv.cell_ok hr hx e1
        obtain ⟨w, rfl, hy⟩ := one_of hxs
        obtain ⟨r2, s2⟩ := hr.put (u := .lst (ws ++ [w])) (o := .lst (zs ++ [y])) ⟨_, h2⟩ h1 h3 trivial ⟨_, upd_same, Paired.append (XCs.upd1 h3 trivial h4) (.cons (XC.upd1 h3 trivial ⟨c.1, hy⟩) .nil)⟩
        exact ⟨a, ws, w, rfl, rfl, h3, by rw [← h4.length]; exact c.2, q _ _ s2 r2 .non⟩
      · cases e
    · cases e
  · cases e
theorem Paired.dropLast {α β : Type} {F : α → β → Prop} : ∀ {xs : List α} {ys : List β}, Paired F xs ys → Paired F xs.dropLast ys.dropLast
  | _, _, .nil => .nil
  | _, _, .cons _ .nil => .nil
  | _, _, .cons r (.cons r2 t) => .cons r (Paired.dropLast (.cons r2 t))
def uPop : Sg → Mv → List Mv → Option (Mv × Sg) := fun S x xs => match xs with
  | [] => match x.cell S with
    | some (i, b, .lst zs) => (zs[zs.length - 1]?).map fun y => (y, S.set i (b, .lst zs.dropLast))
    | _ => none
  | [.d (.int k)] => match x.cell S with
    | some (i, b, .lst zs) => if -(2 ^ 63) ≤ k ∧ k < 2 ^ 63 then (seqIndex? k zs.length).bind fun j => (zs[j]?).map fun y => (y, S.set i (b, .lst (zs.eraseIdx j))) else none
    | _ => none
  | _ => none
theorem Paired.erase {α β : Type} {F : α → β → Prop} : ∀ {xs : List α} {ys : List β} (n : Nat), Paired F xs ys → Paired F (xs.eraseIdx n) (ys.eraseIdx n)
  | _, _, _, .nil => .nil
  | _, _, 0, .cons r t => t
  | _, _, n + 1, .cons r t => .cons r (Paired.erase n t)
theorem MtR.or2 {id : String} {r r' : V → List V → Hp → VK → Prop} (h : MtR X id r) (h' : MtR X id r') : MtR X id (fun x xs H Q => r x xs H Q ∨ r' x xs H Q) := fun pins s σ H x xs v us Q I rx rs q => by
  rcases q with q | q
  · exact h pins s σ H x xs v us Q I rx rs q
  · exact h' pins s σ H x xs v us Q I rx rs q
theorem u_pop : MtU X "list.pop" uPop := by
  refine MtR.imp (MtR.or2 mt_pop mt_popAt) fun v vs H Q ⟨ι, S, x, xs, z, S', hr, hx, hxs, e, q⟩ => ?_
  unfold uPop at e
  split at e
  · split at e
    · rename_i i b zs e1
      obtain ⟨y, e2, e3⟩ := Option.map_eq_some_iff.mp e
      cases e3
      obtain ⟨a, rfl, h1, h2, ws, h3, h4⟩ := Mv.cell_ok hr hx e1
      cases hxs
      obtain ⟨w, e4, hw⟩ := Paired.at h4 e2
      obtain ⟨r2, s2⟩ := hr.put (u := .lst ws.dropLast) (o := .lst zs.dropLast) ⟨_, h2⟩ h1 h3 trivial ⟨_, upd_same, Paired.dropLast (XCs.upd1 h3 trivial h4)⟩
      exact .inl ⟨a, ws, w, rfl, rfl, h3, by rw [← h4.length]; exact e4, q _ _ s2 r2 (hw.2.mono s2)⟩
    · cases e
  · rename_i k
    split at e
    · rename_i i b zs e1
      split at e
      · rename_i c
        obtain ⟨j, e2, e3⟩ := Option.bind_eq_some_iff.mp e
        obtain ⟨y, e4, e5⟩ := Option.map_eq_some_iff.mp e3
        cases e5
        obtain ⟨a, rfl, h1, h2, ws, h3, h4⟩ := Mv.cell_ok hr hx e1
        obtain ⟨w0, rfl, hk⟩ := one_of hxs
        cases hk
        obtain ⟨w, e6, hw⟩ := Paired.at h4 e4
        obtain ⟨r2, s2⟩ := hr.put (u := .lst (ws.eraseIdx j)) (o := .lst (zs.eraseIdx j)) ⟨_, h2⟩ h1 h3 trivial ⟨_, upd_same, Paired.erase j (XCs.upd1 h3 trivial h4)⟩
        exact .inr ⟨a, ws, k, j, w, rfl, rfl, h3, c.1, c.2, by rw [← h4.length]; exact e2, e6, q _ _ s2 r2 (hw.2.mono s2)⟩
      · cases e
    · cases e
  · cases e
def setIx (S : Sg) (x y : Mv) (z : Mv) : Option Sg := match y with
  | .d (.int k) => match x.cell S with
    | some (i, b, .lst zs) => if z.free = true then (ixN zs.length k).map fun j => S.set i (b, .lst (zs.set j z)) else none
    | _ => none
  | _ => none
theorem Paired.set {α β : Type} {F : α → β → Prop} {x : α} {y : β} (r : F x y) : ∀ {xs : List α} {ys : List β} (n : Nat), Paired F xs ys → Paired F (xs.set n x) (ys.set n y)
  | _, _, _, .nil => .nil
  | _, _, 0, .cons _ t => .cons r t
  | _, _, n + 1, .cons q t => .cons q (Paired.set r n t)
def mSetIx (v o i : ME) : MS := fun ρ S => (v ρ S).go ρ fun z S1 => (o ρ S1).go ρ fun x S2 => (i ρ S2).go ρ fun y S3 => match setIx S3 x y z with | some S4 => .nx ρ S4 | none => .bad
theorem pms_setIx {o i e : Expr} {mv mo mi : ME} {p pos : Pos} (hv : PM X W e mv) (ho : PM X W o mo) (hi : PM X W i mi)
    (ha : ∀ v, assign (.Subscript o i p) X.env v = (do
      let ov ← holding [v] (eval o X.env)
      let iv ← holding [v, ov] (eval i X.env)
      standAt p
      holding [v, ov, iv] (setItem ov iv v)
      release [v, ov, iv] []) := by intro _; rfl)
    (hs : swapsWithSole [.Subscript o i p] e pos.line X.env = pure false := by rfl) (hw : swappedStores [.Subscript o i p] e X.env = pure none := by rfl)
    (h1 : (assignEach [.Subscript o i p] X.env).map (·.2) = [assign (.Subscript o i p) X.env] := by rfl) : PMS X W (.Assign [.Subscript o i p] e pos) (mSetIx mv mo mi) := by
  refine ps_imp (ps_asg hv (pg_sub ho hi set_list ha) hs hw h1) fun D σ H ⟨ι, S, ρ, hl, hr, h⟩ => ?_
  refine ⟨ι, S, ρ, hl, hr, stepS h hl fun z w ι1 H1 S1 s1 r1 hz h1 => ?_⟩
  refine ⟨ι1, S1, ρ, hl.mono s1, r1, stepS h1 (hl.mono s1) fun x v ι2 H2 S2 s2 r2 hx h2 => ?_⟩
  have hl2 := (hl.mono s1).mono s2
  refine ⟨ι2, S2, ρ, hl2, r2, stepS h2 hl2 fun y u ι3 H3 S3 s3 r3 hy h3 => ?_⟩
  have hx := hx.mono s3
  have hz := (hz.mono s2).mono s3
  cases e : setIx S3 x y z with
  | none => simp only [e] at h3; exact h3.elim
  | some S4 =>
    simp only [e] at h3
    unfold setIx at e
    split at e
    · rename_i k
      split at e
      · rename_i i b zs e1
        split at e
        · rename_i c
          obtain ⟨j, e2, e3⟩ := Option.map_eq_some_iff.mp e
          subst e3
          obtain ⟨a, rfl, q1, q2, ws, q3, q4⟩ := Mv.cell_ok r3 hx e1
          cases hy
          obtain ⟨r4, s4⟩ := r3.put (u := .lst (ws.set j w)) (o := .lst (zs.set j z)) ⟨_, q2⟩ q1 q3 trivial ⟨_, upd_same, Paired.set (XC.upd1 q3 trivial ⟨c, hz⟩) j (XCs.upd1 q3 trivial q4)⟩
          exact ⟨a, ws, k, j, rfl, rfl, q3, by rw [← q4.length]; exact e2, h3 _ _ _ s4 r4 ((hl2.mono s3).mono s4)⟩
        · cases e
      · cases e
    · cases e
def gJoin : Sg → Mv → List Mv → Option Nw := fun S x xs => match x, xs with
  | .d (.str a), [y] => (y.seq S).bind fun q => (strsM q.2).bind fun ys => if (ys.map (·.length)).sum + ys.length * a.length ≤ 16777216 then some (.val (.d (.str (Txt.join a ys)))) else none
  | _, _ => none
theorem m_join : MtP X "str.join" gJoin := by
  refine MtR.imp mt_join fun v vs H Q ⟨ι, S, x, xs, z, hr, hx, hxs, e, q⟩ => ?_
  unfold gJoin at e
  split at e
  · obtain ⟨⟨t, ms⟩, e1, e2⟩ := Option.bind_eq_some_iff.mp e
    obtain ⟨ys, e3, e4⟩ := Option.bind_eq_some_iff.mp e2
    split at e4
    · rename_i c
      cases e4; cases hx
      obtain ⟨w, rfl, hy⟩ := one_of hxs
      obtain ⟨a, ws, rfl, h1, h2⟩ := Mv.seq_ok hr hy e1
      have es := strs_ok h2 e3
      subst es
      refine ⟨_, a, ys, rfl, rfl, ?_, c, q _ (.str _)⟩
      cases t with
      | true => exact .inr h1
      | false => exact .inl (PlnL.sq h1)
    · cases e4
  · cases e
/-- the place of a text in a text, or a ValueError -/
def exVal : Ex := ⟨.bi "ValueError", [], []⟩
def mIndex (o : ME) (a : MA) : ME := fun ρ S => (o ρ S).bind fun x S1 => match x with
  | .d (.str z) => (a ρ S1).bind fun xs S2 => match xs with
    | [.d (.str y)] => match Txt.index0 z y with | some k => .ok (.d (.int (k : Nat))) S2 | none => .exc exVal S2
    | _ => .bad
  | _ => .bad
theorem pm_index {o e : Expr} {mo : ME} {ma : MA} {apos cpos : Pos} (hc : X.calm = true) (tk : Takes X W) (ho : PM X W o mo) (ha : PL X W [e] ma)
    (hbase : attributeBase o "index" X.env (eval o X.env) = eval o X.env := by rfl)
    (hfew : ((backTo cpos (starEach [e] X.env)).all (fun x => !x.1) && (backToKw cpos (keywordEach [] X.env)).all (fun x => x.1.isSome) && decide ([e].length + ([] : List Keyword).length + (if ([] : List Keyword).isEmpty then 0 else 1) < 30)) = true := by rfl)
    (hline : (apos.endLine == cpos.line) = true := by rfl) (hs : starEach [e] X.env = (false, eval e X.env) :: starEach [] X.env := by rfl) (hplain : (backTo cpos (starEach [] X.env)).any (·.1) = false := by rfl) :
    PM X W (.Call (.Attribute o "index" apos) [e] [] cpos) (mIndex mo ma) := by
  refine pe_imp (pe_bmS PySem.F.plainAttrs_str PySem.F.slot_str_index PySem.F.type_str_index (mt_indexX hc tk) ho ha hbase hfew hline hs hplain) fun σ H Q ⟨ι, S, ρ, hl, hr, h⟩ => ?_
  refine ⟨ι, S, ρ, hl, hr, step h fun x v ι1 H1 S1 s1 r1 hx h1 => ?_⟩
  split at h1
  · rename_i z
    cases hx
    refine ⟨rfl, ι1, S1, ρ, hl.mono s1, r1, step h1 fun xs vs ι2 H2 S2 s2 r2 hs h2 => ?_⟩
    split at h2
    · rename_i y
      obtain ⟨w, rfl, hy⟩ := one_of hs
      cases hy
      refine ⟨z, y, rfl, rfl, fun k ek => ?_, fun en d => ?_⟩
      · simp only [ek] at h2
        exact h2 _ _ _ (Sub.refl _ _) r2 (.int _)
      · simp only [en] at h2
        exact h2 _ _ d (Sub.refl _ _) r2 (.inl ⟨rfl, .inl ⟨_, rfl⟩⟩)
    · exact h2.elim
  · exact h1.elim
def mPar (i j : Nat) (a : MA) : MS := fun ρ S => (a ρ S).go ρ fun xs S1 => match xs with | [x, y] => .nx ((ρ.set i (some x)).set j (some y)) S1 | _ => .bad
theorem pms_par {i j : Nat} {x y : Str} {a b : Expr} {ma : MA} {px py pt pos : Pos} {kt k2 : Nat} {pt2 : Pos} (hc : X.calm = true) (hN : X.N.Nodup) (hi : X.N[i]? = some x) (hj : X.N[j]? = some y) (hij : i ≠ j)
    (hx : X.env.scope.names.lookup x = some .local) (hy : X.env.scope.names.lookup y = some .local) (ha : PL X W [a, b] ma) (h : PS X (.Assign [.Tuple [.Name x px, .Name y py] kt pt] (.Tuple [a, b] k2 pt2) pos) (tPar i j (tG (XVs X.K) X.K W ma))) :
    PMS X W (.Assign [.Tuple [.Name x px, .Name y py] kt pt] (.Tuple [a, b] k2 pt2) pos) (mPar i j ma) := by
  refine ps_imp h fun D σ H ⟨ι, S, ρ, hl, hr, h⟩ => ⟨ι, S, ρ, hl, hr, stepS h hl fun xs vs ι1 H1 S1 s1 r1 hs h1 => ?_⟩
  split at h1
  · obtain ⟨v, u, rfl, q1, q2⟩ := two_of hs
    exact ⟨v, u, rfl, h1 _ _ _ (Sub.refl _ _) r1 (((hl.mono s1).set i q1).set j q2)⟩
  · exact h1.elim
def PLK (X : Cx) (W : WX) (kws : List Keyword) (m : MA) : Prop := PK X kws (tG (XVs X.K) X.K W m)
theorem pk_imp {kws : List Keyword} {t t' : TA} (h : PK X kws t) (i : ∀ σ H Q, t' σ H Q → t σ H Q) : PK X kws t' := ⟨fun pos pins s σ H Q I q => h.run pos pins s σ H Q I (i _ _ _ q)⟩
theorem plk_nil : PLK X W [] mNil := pk_imp pk_nil fun σ H Q ⟨ι, S, ρ, hl, hr, h⟩ => h _ _ _ (Sub.refl _ _) hr .nil
theorem plk_cons {nm : Option Str} {e : Expr} {kp : Pos} {kws : List Keyword} {m : ME} {ms : MA} (h : PM X W e m) (hs : PLK X W kws ms) : PLK X W (⟨nm, e, kp⟩ :: kws) (mCons m ms) := by
  refine pk_imp (pk_cons h hs) fun σ H Q ⟨ι, S, ρ, hl, hr, h⟩ => ?_
  refine ⟨ι, S, ρ, hl, hr, step h fun x v ι1 H1 S1 s1 r1 hx h1 => ?_⟩
  refine ⟨ι1, S1, ρ, hl.mono s1, r1, step h1 fun y u ι2 H2 S2 s2 r2 hy h2 => ?_⟩
  exact h2 _ _ _ (Sub.refl _ _) r2 (.cons (hx.mono s2) hy)
/-- how keywords bind -/
theorem fun_bindsG {K : PySem.W.Frag} {x qual : Str} {st : Stmt} {f : Addr} {fd : FuncData} {ps : List Str} (F : Fun K x qual st f fd) {args : Args} {r : List Value} (s : Shared)
    (h : ∀ (kV doc pm : Value) (an : Option Addr) (cdv ct : Value), bindArgs (PySem.W.fnOf x qual (defArgs st) (defBody st) (defScope st) .none kV doc pm an cdv ct) args = pure (ps.zip r)) : BindsTo s fd args (ps.zip r) := by
  obtain ⟨oc, od, kV, doc, pm, an, cdv, ct, osl, rfl, lk, hcd⟩ := F.ex
  exact .of_eq (h kV doc pm an cdv ct)
/-- where an argument comes from: a place, a keyword, a default -/
inductive Sr where
  | p (i : Nat) | k (i : Nat) | v (i : Nat)
def Sr.get {α : Type} (us ws ds : List α) : Sr → Option α
  | .p i => us[i]?
  | .k i => ws[i]?
  | .v i => ds[i]?
def laid {α : Type} (us ws ds : List α) : List Sr → Option (List α)
  | [] => some []
  | o :: r => (o.get us ws ds).bind fun x => (laid us ws ds r).map (x :: ·)
theorem laid_ok {α β : Type} {F : α → β → Prop} {us ws ds : List α} {us' ws' ds' : List β} (h1 : Paired F us us') (h2 : Paired F ws ws') (h3 : Paired F ds ds') : ∀ {os : List Sr} {r : List α}, laid us ws ds os = some r → ∃ r', laid us' ws' ds' os = some r' ∧ Paired F r r'
  | [], _, e => by cases e; exact ⟨[], rfl, .nil⟩
  | o :: os, _, e => by
    obtain ⟨x, e1, e2⟩ := Option.bind_eq_some_iff.mp e
    obtain ⟨r, e3, rfl⟩ := Option.map_eq_some_iff.mp e2
    obtain ⟨r', e4, q⟩ := laid_ok h1 h2 h3 e3
    have : ∃ y, o.get us' ws' ds' = some y ∧ F x y := by
      cases o with
      | p i => exact Paired.at h1 e1
      | k i => exact Paired.at h2 e1
      | v i => exact Paired.at h3 e1
    obtain ⟨y, e5, q2⟩ := this
    exact ⟨y :: r', by simp [laid, e5, e4], .cons q2 q⟩
def mCallK (n : Nat) (f : List Mv → Sg → Res Mv) (os : List Sr) (ds : List Mv) (a k : MA) : ME := fun ρ S => (a ρ S).bind fun xs S1 => (k ρ S1).bind fun ys S2 => match laid xs ys ds os with
  | some zs => if frees zs = true ∧ zs.length = n then f zs S2 else .bad
  | none => .bad
section
variable {k : Nat} {f : Addr} {fd : FuncData} {ps ks : List Str} {m : List Mv → Sg → Res Mv} {x : Str} {p pos : Pos} {e : Expr} {es : List Expr} {kws : List Keyword} {ms mk : MA} {ds : List Mv} {dvs : List V} {dus : List Value} {os : List Sr}
theorem callK_want {σ : L2.St} {H : Hp} {Q : VK} (hds : ∀ ι H, XVs X.K ι H ds dvs) (h : tG (XV X.K) X.K W (mCallK ps.length m os ds ms mk) σ H Q) :
    tG (XVs X.K) X.K W ms σ H fun vs H1 => tG (XVs X.K) X.K W mk σ H1 fun zs H2 => ∃ r, laid vs zs dvs os = some r ∧ spM X.K ps.length m r H2 Q (WE W σ) := by
  obtain ⟨ι, S, ρ, hl, hR, h⟩ := h
  refine ⟨ι, S, ρ, hl, hR, step h fun xs vs ι1 H1 S1 s1 r1 hx h1 => ?_⟩
  refine ⟨ι1, S1, ρ, hl.mono s1, r1, step h1 fun ys us ι2 H2 S2 s2 r2 hy h2 => ?_⟩
  cases el : laid xs ys ds os with
  | none => simp only [el] at h2; exact h2.elim
  | some zs =>
    simp only [el] at h2
    by_cases c : frees zs = true ∧ zs.length = ps.length
    · rw [if_pos c] at h2
      obtain ⟨r, e2, pr⟩ := laid_ok (XVs.mono s2 hx) hy (hds ι2 H2) el
      refine ⟨r, e2, ι2, S2, zs, Paired_frees pr c.1, c.2, r2, ?_⟩
      cases e : m zs S2 with
      | ok y S' => rw [e] at h2; exact h2
      | exc y S' => rw [e] at h2; exact h2
      | bad => rw [e] at h2; exact h2
    · rw [if_neg c] at h2; exact h2.elim
/-- f(k = v, ..) -/
theorem pm_callK0 {n : Nat} (F : FnM gb X.prog X.w X.K X.mg X.base k f fd ps m) (hr : Room k X.A) (gds : GdP gb X.A.guards) (tk : Takes X W) (hg : Gl X x) (hm : X.mg x = some (.ref f)) (hk : PySem.W.keepIn X.K (.ref f) = true)
    (hb : ∀ (s : Shared) (ws r : List Value), X.K.In s.heap → ws.length = ks.length → laid [] ws dus os = some r → BindsTo s fd ⟨[], ks.zip ws⟩ (ps.zip r)) (hd : Vals dvs dus) (hds : ∀ ι H, XVs X.K ι H ds dvs) (hl : ∀ ρ S xs S', mk ρ S = .ok xs S' → xs.length = ks.length)
    (hkw : PLK X W kws mk) (hn : ps.length = n := by rfl) (hall : (backToKw pos (keywordEach kws X.env)).all (·.1.isSome) = true := by rfl) (hks : (backToKw pos (keywordEach kws X.env)).filterMap (·.1) = ks := by rfl) (hdb : (x == ("__debug__" : Str)) = false := by decide)
    (hpl : ((backTo pos (starEach [] X.env)).any (·.1) || (backToKw pos (keywordEach kws X.env)).any (·.1.isNone)) = false := by rfl) :
    PM X W (.Call (.Name x p) [] kws pos) (mCallK n m os ds mNil mk) := by
  subst hn
  refine ⟨fun pins s σ H Q I want => ?_⟩
  refine wpAny_Call_Name_kw (ld_glob I hg hm ?_ hdb)
  refine PySem.W.callWith_KW0 (h₀ := X.base) I.ok.mod.kin hk hall ?_ hpl
  have want2 : tG (fun ι H xs vs => XVs X.K ι H xs vs ∧ xs.length = ks.length) X.K W mk σ H fun zs H2 => zs.length = ks.length ∧ ∃ r, laid [] zs dvs os = some r ∧ spM X.K ps.length m r H2 Q (WE W σ) := by
    obtain ⟨ι, S, ρ, hL, hR, h⟩ := callK_want hds want
    have h := h _ _ _ (Sub.refl _ _) hR .nil
    obtain ⟨ι, S, ρ, hL, hR, h⟩ := h
    refine ⟨ι, S, ρ, hL, hR, ?_⟩
    cases e : mk ρ S with
    | ok xs S' => rw [e] at h; exact fun ι1 H1 v s r ⟨hx, hn⟩ => ⟨by rw [← hx.length]; exact hn, h _ _ _ s r hx⟩
    | exc _ _ => rw [e] at h; exact h
    | bad => rw [e] at h; exact h
  have want3 : tG (XVs X.K) X.K W mk σ H fun zs H2 => zs.length = ks.length ∧ ∃ r, laid [] zs dvs os = some r ∧ spM X.K ps.length m r H2 Q (WE W σ) := by
    obtain ⟨ι, S, ρ, hL, hR, h⟩ := want2
    refine ⟨ι, S, ρ, hL, hR, ?_⟩
    cases e : mk ρ S with
    | ok xs S' => rw [e] at h; exact fun ι1 H1 v s r hx => h _ _ _ s r ⟨hx, hl _ _ _ _ e⟩
    | exc _ _ => rw [e] at h; exact h
    | bad => rw [e] at h; exact h
  refine thn (hkw.run pos pins s σ H _ I want3) fun ws s2 ⟨zs, H2, I2, rz, ln, r, er, q⟩ => ⟨I2.kIn, ?_⟩
  rw [hks]
  obtain ⟨r', er', rr⟩ := laid_ok (F := RelV) (us := []) (us' := []) .nil rz hd er
  refine wpAny_call (codeAny_mono (run_m F hr gds tk (hb s2 ws r' I2.kIn (by rw [← rz.length]; exact ln) er') I2 rr q) fun res s' got => ?_)
  cases res with
  | error e => exact got
  | ok fl => cases fl <;> exact got
end
end
section
variable {X : Cx} {W : WX}
theorem units65 {k : Nat} {A : Around} (r : Room k A) : A.units + 65 < cLine := by have := r.un; omega
theorem units1 {k : Nat} {A : Around} (r : Room k A) : A.units + 1 < cLine := by have := r.un; omega
theorem len_of_nil {ρ : Rho} {S S' : Sg} {xs : List Mv} (h : mNil ρ S = .ok xs S') : xs.length = 0 := by cases h; rfl
theorem len_of_cons {a : ME} {r : MA} {n : Nat} {ρ : Rho} {S S' : Sg} {xs : List Mv} (hr : ∀ ρ S xs S', r ρ S = .ok xs S' → xs.length = n) (h : mCons a r ρ S = .ok xs S') : xs.length = n + 1 := by
  unfold mCons Res.bind at h
  split at h
  · simp only at h
    split at h
    · rename_i e
      cases h
      rw [List.length_cons, hr _ _ _ _ e]
    · cases h
    · cases h
  · cases h
  · cases h
/-- a written negative number -/
def mNeg (a : ME) : ME := fun ρ S => (a ρ S).bind fun x S1 => match x with | .d (.int i) => .ok (.d (.int (-i))) S1 | _ => .bad
theorem pm_neg {a : Expr} {ma : ME} {pos : Pos} (ha : PM X W a ma) : PM X W (.UnaryOp .USub a pos) (mNeg ma) := by
  refine pe_imp (pe_un un_neg ha) fun σ H Q ⟨ι, S, ρ, hl, hr, h⟩ => ⟨ι, S, ρ, hl, hr, step h fun x v ι1 H1 S1 s1 r1 hx h1 => ?_⟩
  split at h1
  · cases hx
    exact ⟨_, rfl, h1 _ _ _ (Sub.refl _ _) r1 (.int _)⟩
  · exact h1.elim
/-- f() -/
def mCall0 (f : List Mv → Sg → Res Mv) : ME := fun _ S => f [] S
theorem pm_call0 {k : Nat} {f : Addr} {fd : FuncData} {m : List Mv → Sg → Res Mv} {x : Str} {p pos : Pos} (F : FnM gb X.prog X.w X.K X.mg X.base k f fd [] m) (hr : Room k X.A) (gds : GdP gb X.A.guards) (tk : Takes X W) (hg : Gl X x) (hm : X.mg x = some (.ref f)) (hk : PySem.W.keepIn X.K (.ref f) = true)
    (hb : L2.Binds X.K fd [] []) (hd : Vals ([] : List V) []) (hdb : (x == ("__debug__" : Str)) = false := by decide) : PM X W (.Call (.Name x p) [] [] pos) (mCall0 m) := by
  refine ⟨fun pins s σ H Q I ⟨ι, S, ρ, hl, hR, h⟩ => ?_⟩
  refine wpAny_Call_Name_kw (ld_glob I hg hm ?_ hdb)
  refine PySem.W.callWith_K0 I.kIn hk ?_
  have want : spM X.K 0 m [] H Q (WE W σ) := by
    refine ⟨ι, S, [], .nil, rfl, hR, ?_⟩
    unfold mCall0 at h
    cases e : m [] S with
    | ok y S' => rw [e] at h; exact h
    | exc y S' => rw [e] at h; exact h
    | bad => rw [e] at h; exact h
  refine wpAny_call (codeAny_mono (run_m (ps := []) F hr gds tk (hb s [] I.kIn rfl) I .nil want) fun res s' got => ?_)
  cases res with
  | error e => exact got
  | ok fl => cases fl <;> exact got
end
end MM
end
section
set_option Elab.async false
set_option linter.all false
set_option maxRecDepth 100000
set_option maxHeartbeats 4000000
set_option autoImplicit false
namespace MM
open PySem PySem.Spec PyProof.Rows L2
variable {gb : Bool}
def KwB (K : PySem.W.Frag) (fd : FuncData) (ps : List Str) (n : Nat) (ks : List Str) (dus : List Value) (os : List Sr) : Prop :=
  ∀ (s : Shared) (us ws r : List Value), K.In s.heap → us.length = n → ws.length = ks.length → laid us ws dus os = some r → BindsTo s fd ⟨us, ks.zip ws⟩ (ps.zip r)
/-- keyword-only parameters that lack are looked up in the dict at D -/
theorem kwB_mk {K : PySem.W.Frag} {fd : FuncData} {ps : List Str} {n : Nat} {ks : List Str} {D : Addr} {dus : List Value} {os : List Sr} {ms : List Str} (hm : ∀ q ∈ ms.zip dus, PySem.W.nsIn K D q.1 = some (some q.2))
    (h : ∀ (us ws r : List Value), us.length = n → ws.length = ks.length → laid us ws dus os = some r → KwChain D (ms.zip dus) (bindArgs fd ⟨us, ks.zip ws⟩) (ps.zip r)) : KwB K fd ps n ks dus os :=
  fun s us ws r X l1 l2 e => BindsTo.of_looks fun M => KwChain.looks X hm (h us ws r l1 l2 e)
theorem KwB.binds {K : PySem.W.Frag} {fd : FuncData} {ps : List Str} {n : Nat} {dus : List Value} {os : List Sr} (b : KwB K fd ps n [] dus os) (hn : ps.length = n + dus.length) (h : ∀ us : List Value, us.length = n → laid us [] dus os = some (us ++ dus)) : L2.Binds K fd ps dus :=
  fun s us X hl => by
    have l1 : us.length = n := by rw [List.length_append] at hl; omega
    exact b s us [] _ X l1 rfl (h us l1)
section
variable {X : Cx} {W : WX} {k : Nat} {f : Addr} {fd : FuncData} {ps ks : List Str} {m : List Mv → Sg → Res Mv} {x : Str} {p pos : Pos} {e : Expr} {es : List Expr} {kws : List Keyword} {ms mk : MA} {ds : List Mv} {dvs : List V} {dus : List Value} {os : List Sr}
/-- a list of arguments whose number is known -/
theorem tG_len {ma : MA} {σ : L2.St} {H : Hp} {j : Nat} {T : List V → Hp → Prop} (hl : ∀ ρ S xs S', ma ρ S = .ok xs S' → xs.length = j) (h : tG (XVs X.K) X.K W ma σ H T) : tG (XVs X.K) X.K W ma σ H fun vs H1 => vs.length = j ∧ T vs H1 := by
  obtain ⟨ι, S, ρ, hL, hR, h⟩ := h
  refine ⟨ι, S, ρ, hL, hR, ?_⟩
  cases e : ma ρ S with
  | ok xs S' => rw [e] at h; exact fun ι1 H1 v s r hx => ⟨by rw [← hx.length]; exact hl _ _ _ _ e, h _ _ _ s r hx⟩
  | exc _ _ => rw [e] at h; exact h
  | bad => rw [e] at h; exact h
/-- f(e, .., k = v, ..) -/
theorem pm_callKP {n j : Nat} (F : FnM gb X.prog X.w X.K X.mg X.base k f fd ps m) (hr : Room k X.A) (gds : GdP gb X.A.guards) (tk : Takes X W) (hg : Gl X x) (hm : X.mg x = some (.ref f)) (hk : PySem.W.keepIn X.K (.ref f) = true)
    (hb : KwB X.K fd ps j ks dus os) (hd : Vals dvs dus) (hds : ∀ ι H, XVs X.K ι H ds dvs) (hla : ∀ ρ S xs S', ms ρ S = .ok xs S' → xs.length = j) (hl : ∀ ρ S xs S', mk ρ S = .ok xs S' → xs.length = ks.length)
    (ha : PL X W (e :: es) ms) (hkw : PLK X W kws mk) (hn : ps.length = n := by rfl) (hall : (backToKw pos (keywordEach kws X.env)).all (·.1.isSome) = true := by rfl) (hks : (backToKw pos (keywordEach kws X.env)).filterMap (·.1) = ks := by rfl) (hdb : (x == ("__debug__" : Str)) = false := by decide)
    (he : starEach (e :: es) X.env = (false, eval e X.env) :: starEach es X.env := by rfl)
    (hpl : ((backTo pos (starEach (e :: es) X.env)).any (·.1) || (backToKw pos (keywordEach kws X.env)).any (·.1.isNone)) = false := by rfl) :
    PM X W (.Call (.Name x p) (e :: es) kws pos) (mCallK n m os ds ms mk) := by
  subst hn
  refine ⟨fun pins s σ H Q I want => ?_⟩
  refine wpAny_Call_Name_kw (ld_glob I hg hm ?_ hdb)
  have w1 := callK_want hds want
  have w2 := tG_len hla w1
  refine PySem.W.callWith_KW (h₀ := X.base) I.ok.mod.kin hk hall (thn (ha.run pos pins s σ H _ I w2) fun us s1 ⟨vs, H1, I1, r, l1, q⟩ => ?_) hpl he
  refine thn (hkw.run pos pins s1 σ H1 _ I1 (tG_len hl q)) fun ws s2 ⟨zs, H2, I2, rz, l2, r2, er, q2⟩ => ⟨I2.kIn, ?_⟩
  rw [hks]
  obtain ⟨r', er', rr⟩ := laid_ok (F := RelV) r rz hd er
  refine wpAny_call (codeAny_mono (run_m F hr gds tk (hb s2 us ws r' I2.kIn (by rw [← r.length]; exact l1) (by rw [← rz.length]; exact l2) er') I2 rr q2) fun res s' got => ?_)
  cases res with
  | error e => exact got
  | ok fl => cases fl <;> exact got
end
section
variable {X : Cx} {W : WX} {x : Str} {pos p : Pos}
theorem pm_fnv {a : Addr} (hg : Gl X x) (hm : X.mg x = some (.ref a)) (hn : PySem.W.nsIn X.K mainGlobals x = some (some (.ref a))) (hd : (x == ("__debug__" : Str)) = false := by decide) : PM X W (.Name x pos) (mK (.fn x)) := by
  refine pe_imp (pe_glob (v := .ref a) hg hm rfl hd) fun σ H Q ⟨ι, S, ρ, hl, hr, h⟩ => ?_
  exact h _ _ _ (Sub.refl _ _) hr (by rw [XV]; exact ⟨a, hn, rfl⟩)
abbrev VTab := List (Str × Nat × (List Mv → Sg → Res Mv))
/-- a def that may be called by a value -/
def VOk (gb : Bool) (P : Program) (w : World) (K : PySem.W.Frag) (mg : Str → Option Value) (base : Heap) (k : Nat) (t : Str × Nat × (List Mv → Sg → Res Mv)) : Prop :=
  ∃ (a : Addr) (fd : FuncData) (ps : List Str), PySem.W.nsIn K mainGlobals t.1 = some (some (.ref a)) ∧ FnM gb P w K mg base k a fd ps t.2.2 ∧ ps.length = t.2.1 ∧ PySem.W.keepIn K (.ref a) = true ∧ L2.Binds K fd ps []
def mCallV (tab : VTab) (i : Nat) (a : MA) : ME := fun ρ S => match ρ[i]? with
  | some (some (.fn x)) => match tab.lookup x with
    | some nf => (a ρ S).bind fun xs S1 => if frees xs = true ∧ xs.length = nf.1 then nf.2 xs S1 else .bad
    | none => .bad
  | _ => .bad
theorem pm_callV {k i : Nat} {tab : VTab} {e : Expr} {es : List Expr} {ms : MA} (T : ∀ t ∈ tab, VOk gb X.prog X.w X.K X.mg X.base k t) (hr : Room k X.A) (gds : GdP gb X.A.guards) (tk : Takes X W)
    (ha : PL X W (e :: es) ms) (hN : X.N[i]? = some x := by rfl) (hv : Vis X.env.scope x := by first | exact Or.inl rfl | exact Or.inr (Or.inl rfl) | exact Or.inr (Or.inr rfl)) (hdb : (x == ("__debug__" : Str)) = false := by decide) (hcd : (x == ("__classdict__" : Str)) = false := by decide)
    (he : starEach (e :: es) X.env = (false, eval e X.env) :: starEach es X.env := by rfl) (hpl : (backTo pos (starEach es X.env)).any (·.1) = false := by rfl) :
    PM X W (.Call (.Name x p) (e :: es) [] pos) (mCallV tab i ms) := by
  refine ⟨fun pins s σ H Q I ⟨ι, S, ρ, hl, hR, h⟩ => ?_⟩
  unfold mCallV at h
  split at h
  · rename_i y ey
    obtain ⟨v, hs, hv1⟩ := hl.2 i _ ey
    rw [XV] at hv1
    obtain ⟨a, hns, rfl⟩ := hv1
    split at h
    · rename_i nf el
      obtain ⟨n, m⟩ := nf
      have hmem : (y, n, m) ∈ tab := PySem.mem_of_lookup el
      obtain ⟨a', fd, ps, h1, F, hn, hkp, hb⟩ := T _ hmem
      have F : FnM gb X.prog X.w X.K X.mg X.base k a' fd ps m := F
      have hn : ps.length = n := hn
      subst hn
      have : a' = a := by
        have := (show PySem.W.nsIn X.K mainGlobals y = _ from h1).symm.trans hns
        simpa using this
      subst this
      refine wpAny_Call_Name_kw (thn ((pe_var (pos := p) hN hv hdb hcd).run pins s σ H (fun v H1 => v = .ref a' ∧ H1 = H) I ⟨.ref a', hs, rfl, rfl⟩) fun u s1 ⟨v, H1, I1, r1, q1⟩ => ?_)
      obtain ⟨rfl, rfl⟩ := q1
      obtain rfl : u = Value.ref a' := r1
      have hp : tG (XVs X.K) X.K W ms σ H1 (fun vs H2 => spM X.K ps.length m vs H2 Q (WE W σ)) := by
        refine ⟨ι, S, ρ, hl, hR, step h fun xs vs ι1 H2 S1 s2 r2 hx h1 => ?_⟩
        simp only at h1
        by_cases c : frees xs = true ∧ xs.length = ps.length
        · rw [if_pos c] at h1
          refine ⟨ι1, S1, xs, Paired_frees hx c.1, c.2, r2, ?_⟩
          cases e : m xs S1 with
          | ok y S' => rw [e] at h1; exact h1
          | exc y S' => rw [e] at h1; exact h1
          | bad => rw [e] at h1; exact h1
        · rw [if_neg c] at h1; exact h1.elim
      refine PySem.W.callWith_K (h₀ := X.base) I1.ok.mod.kin hkp (thn (ha.run pos pins s1 σ H1 _ I1 hp) fun us s2 ⟨vs, H2, I2, r, q⟩ => ⟨I2.kIn, ?_⟩) he hpl
      have hlen : us.length = ps.length := by
        obtain ⟨_, _, xs, hx, hl2, _⟩ := id q
        rw [← r.length, ← hx.length]; exact hl2
      have b := hb s2 us I2.kIn (by rw [List.append_nil]; exact hlen)
      rw [List.append_nil] at b
      refine wpAny_call (codeAny_mono (run_m F hr gds tk b I2 r q) fun res s' got => ?_)
      cases res with
      | error e => exact got
      | ok fl => cases fl <;> exact got
    · exact h.elim
  · exact h.elim
end
end MM
end
section
set_option Elab.async false
set_option linter.all false
set_option maxRecDepth 100000
set_option maxHeartbeats 4000000
set_option autoImplicit false
namespace MM
open PySem PySem.Spec PyProof.Rows L2
end MM
end
section
set_option Elab.async false
set_option linter.all false
set_option maxRecDepth 100000
set_option maxHeartbeats 4000000
set_option autoImplicit false
namespace MM
open PySem PySem.Spec PyProof.Rows L2
end MM
end
section
set_option Elab.async false
set_option linter.all false
set_option maxRecDepth 100000
set_option maxHeartbeats 4000000
set_option autoImplicit false
namespace MM
open PySem PySem.Spec PyProof.Rows L2
open PySem.Builtin PySem.Builtin.ObjectAttr
end MM
end
section
set_option Elab.async false
set_option linter.all false
set_option maxRecDepth 100000
set_option maxHeartbeats 4000000
set_option autoImplicit false
namespace MM
open PySem PySem.Spec PyProof.Rows L2
end MM
end
section
set_option Elab.async false
set_option linter.all false
set_option maxRecDepth 100000
set_option maxHeartbeats 4000000
set_option autoImplicit false
namespace MM
open PySem PySem.Spec PyProof.Rows L2
def clr (i : Nat) : RS → RS
  | .nx ρ S => .nx (ρ.set i none) S
  | .bk ρ S => .bk (ρ.set i none) S
  | .ct ρ S => .ct (ρ.set i none) S
  | .rt x S => .rt x S
  | _ => .bad
end MM
end
section
set_option Elab.async false
set_option linter.all false
set_option maxRecDepth 100000
set_option maxHeartbeats 4000000
set_option autoImplicit false
namespace MM
open PySem PySem.Spec PyProof.Rows L2
end MM
end
section
set_option Elab.async false
set_option linter.all false
set_option maxRecDepth 100000
set_option maxHeartbeats 4000000
set_option autoImplicit false
namespace MM
open PySem PySem.Spec PyProof.Rows L2 L2H
variable {gb : Bool}
abbrev HotM := Addr → Option Addr → Xc → List Mv → Sg → Res Mv
structure FnHM (gb : Bool) (P : Program) (w : World) (K : PySem.W.Frag) (mg : Str → Option Value) (base : Heap) (k : Nat) (f : Addr) (fd : FuncData) (ps : List Str) (m : HotM) : Prop where
  run : ∀ (A : Around) (outer : List Env) (s : Shared) (H : Hp) (args : Args) (us : List Value) (vs : List V) (Q : VK) (a : Addr) (oe : Obj) (d : Option Addr) (c : Xc), RoomH k A → GdP gb A.guards → PinOk outer H s (a, oe) → Zc (c.val K) d oe → (∃ vs, oe.data = .fields vs) →
    Env0 P w K mg base A outer s H → BindsTo s fd args (ps.zip us) → Vals vs us → spM K ps.length (m a d c) vs H Q (fun _ _ _ => False) →
    codeAny (model P w) A (.call (.ref f) args) (CR (L2.CX P w) outer P w H s Q (fun _ _ _ => False)) s
theorem FnHM.mono {P : Program} {w : World} {K : PySem.W.Frag} {mg : Str → Option Value} {base : Heap} {j k : Nat} {f : Addr} {fd : FuncData} {ps : List Str} {m : HotM} (F : FnHM gb P w K mg base j f fd ps m) (h : j ≤ k) : FnHM gb P w K mg base k f fd ps m :=
  ⟨fun A outer s H args us vs Q a oe d c hr => F.run A outer s H args us vs Q a oe d c (hr.mono h)⟩
/-- a def that may not run at all -/
theorem FnM.bad {P : Program} {w : World} {K : PySem.W.Frag} {mg : Str → Option Value} {base : Heap} {k : Nat} {f : Addr} {fd : FuncData} {ps : List Str} : FnM gb P w K mg base k f fd ps (fun _ _ => .bad) :=
  ⟨fun _ _ _ _ _ _ _ _ _ _ _ _ _ _ want => let ⟨_, _, _, _, _, _, h⟩ := want; h.elim⟩
end MM
end
section
set_option Elab.async false
set_option linter.all false
set_option maxRecDepth 100000
set_option maxHeartbeats 4000000
set_option autoImplicit false
namespace MM
open PySem PySem.Spec PyProof.Rows L2
section
variable {X : Cx} {W : WX}
def chF (g' : Sg → Mv → Mv → Option Nw) (c : ME) (ρ : Rho) (y : Mv) (S : Sg) (o : Option Nw) : Res Mv := match o with
  | some (.val (.d (.bool true))) => (c ρ S).bind fun z S3 => opt (g' S3 y z) fun n => bear .ref n S3
  | some (.val (.d (.bool false))) => .ok (.d (.bool false)) S
  | _ => .bad
def mChain (g g' : Sg → Mv → Mv → Option Nw) (a b c : ME) : ME := fun ρ S => (a ρ S).bind fun x S1 => (b ρ S1).bind fun y S2 => chF g' c ρ y S2 (g S2 x y)
theorem chain_core {g g' : Sg → Mv → Mv → Option Nw} {ma mb mc : ME} {σ : L2.St} {H : Hp} {Q : VK} (h : tG (XV X.K) X.K W (mChain g g' ma mb mc) σ H Q) :
    tChain (fun v u H Q => ∃ ι S x y z, Rl X.K ι S H ∧ XV X.K ι H x v ∧ XV X.K ι H y u ∧ g S x y = some z ∧ Raw X.K ι H Q z) (fun v u H Q => ∃ ι S x y z, Rl X.K ι S H ∧ XV X.K ι H x v ∧ XV X.K ι H y u ∧ g' S x y = some z ∧ Raw X.K ι H Q z)
      (tG (XV X.K) X.K W ma) (tG (XV X.K) X.K W mb) (tG (XV X.K) X.K W mc) σ H Q := by
  obtain ⟨ι, S, ρ, hl, hr, h⟩ := h
  refine ⟨ι, S, ρ, hl, hr, step h fun x v ι1 H1 S1 s1 r1 hx h1 => ?_⟩
  refine ⟨ι1, S1, ρ, hl.mono s1, r1, step h1 fun y u ι2 H2 S2 s2 r2 hy h2 => ?_⟩
  unfold chF at h2
  split at h2
  · rename_i e
    refine ⟨ι2, S2, x, y, _, r2, hx.mono s2, hy, e, fun w hw => ?_⟩
    cases hw
    refine ⟨true, rfl, ?_⟩
    rw [if_pos rfl]
    refine ⟨ι2, S2, ρ, (hl.mono s1).mono s2, r2, step h2 fun z w ι3 H3 S3 s3 r3 hz h3 => ?_⟩
    unfold opt at h3
    cases e3 : g' S3 y z with
    | none => rw [e3] at h3; exact h3.elim
    | some n =>
      rw [e3] at h3
      exact ⟨ι3, S3, y, z, n, r3, hy.mono s3, hz, e3, bear_raw r3 h3⟩
  · rename_i e
    refine ⟨ι2, S2, x, y, _, r2, hx.mono s2, hy, e, fun w hw => ?_⟩
    cases hw
    exact ⟨false, rfl, h2 _ _ _ (Sub.refl _ _) r2 (.bl _)⟩
  · exact h2.elim
theorem pm_chain {op op' : CmpOp} {a b c : Expr} {g g' : Sg → Mv → Mv → Option Nw} {ma mb mc : ME} {pos : Pos} (o : OpP X (compareOp op) g) (o' : OpP X (compareOp op') g') (ha : PM X W a ma) (hb : PM X W b mb) (hc : PM X W c mc)
    (hm : lastMarks [op, op'] [b, c] = false := by with_unfolding_all rfl) : PM X W (.Compare a [op, op'] [b, c] pos) (mChain g g' ma mb mc) :=
  pe_imp (pe_chain o o' ha hb hc hm) fun σ H Q h => chain_core h
theorem pb_chain {op op' : CmpOp} {a b c : Expr} {g g' : Sg → Mv → Mv → Option Nw} {ma mb mc : ME} {pos : Pos} (o : OpP X (compareOp op) g) (o' : OpP X (compareOp op') g') (ha : PM X W a ma) (hb : PM X W b mb) (hc : PM X W c mc)
    (hm : lastMarks [op, op'] [b, c] = false := by with_unfolding_all rfl) : PB X W (.Compare a [op, op'] [b, c] pos) (mTst (mChain g g' ma mb mc)) := by
  refine pt_imp (pt_chain o o' ha hb hc hm) fun σ H Q ⟨ι, S, ρ, hl, hr, h⟩ => ?_
  have h0 : tG (XV X.K) X.K W (mChain g g' ma mb mc) σ H fun x H' => ∃ k, x = .bl k ∧ Q k H' := by
    refine ⟨ι, S, ρ, hl, hr, step h fun x v ι1 H1 S1 s1 r1 hx h1 => ?_⟩
    cases x with
    | d y =>
      cases y with
      | bool k => cases hx; exact ⟨k, rfl, h1 _ _ _ (Sub.refl _ _) r1 rfl⟩
      | _ => exact h1.elim
    | _ => exact h1.elim
  obtain ⟨ι, S, ρ, hl, hr, h⟩ := h0
  exact chain_core ⟨ι, S, ρ, hl, hr, h⟩
def gStarts : Sg → Mv → List Mv → Option Nw := fun _ x xs => match x, xs with
  | .d (.str a), [.d (.str b)] => some (.val (.d (.bool (Txt.startswith a b))))
  | _, _ => none
def gEnds : Sg → Mv → List Mv → Option Nw := fun _ x xs => match x, xs with
  | .d (.str a), [.d (.str b)] => some (.val (.d (.bool (Txt.endswith a b))))
  | _, _ => none
def gUpper : Sg → Mv → List Mv → Option Nw := fun _ x xs => match x, xs with
  | .d (.str a), [] => if a.length ≤ 5592405 then some (.val (.d (.str (Txt.upper a)))) else none
  | _, _ => none
def gPart : Sg → Mv → List Mv → Option Nw := fun _ x xs => match x, xs with
  | .d (.str a), [.d (.str b)] => if (b.length == 0) = false ∧ a.length ≤ sizeLine then some (.tup [.d (.str (Txt.partition a b).1), .d (.str (Txt.partition a b).2.1), .d (.str (Txt.partition a b).2.2)]) else none
  | _, _ => none
theorem m_starts : MtP X "str.startswith" gStarts := by
  refine MtR.imp mt_startswith fun v vs H Q ⟨ι, S, x, xs, z, hr, hx, hxs, e, q⟩ => ?_
  unfold gStarts at e
  split at e
  · cases e; cases hx
    obtain ⟨w, rfl, hy⟩ := one_of hxs
    cases hy
    exact ⟨_, _, rfl, rfl, q _ (.bl _)⟩
  · cases e
theorem m_ends : MtP X "str.endswith" gEnds := by
  refine MtR.imp mt_endswith fun v vs H Q ⟨ι, S, x, xs, z, hr, hx, hxs, e, q⟩ => ?_
  unfold gEnds at e
  split at e
  · cases e; cases hx
    obtain ⟨w, rfl, hy⟩ := one_of hxs
    cases hy
    exact ⟨_, _, rfl, rfl, q _ (.bl _)⟩
  · cases e
theorem parts_laid {X : Cx} {pins : List (Addr × Obj)} {σ : L2.St} {H : Hp} {s : Shared} {Q : VK} {x y z : Str} {t u v : Tok} {k : Nat} (I : Inv X pins σ H s) (h : ∀ p, H p = none → ∀ o : Obj, o.dict = none → Q (.ref p) (upd H p (.frz o (.tup [.str x, .str y, .str z])))) :
    EP X pins σ Q (.ref s.heap.objs.size) { s with toks := k, heap := s.heap.push { cls := .type "tuple", data := .seq [Value.str x t, .str y u, .str z v].toArray } } :=
  ⟨.ref s.heap.objs.size, _, laidT (xs := [.str x, .str y, .str z]) (t' := k) I (fun b u q => Heap.get?_push_of_some _ q) (Nat.le_refl _) (Heap.get?_push_size _ rfl) (.cons ⟨t, rfl⟩ (.cons ⟨u, rfl⟩ (.cons ⟨v, rfl⟩ .nil))) (by show 3 ≤ sizeLine; decide), rfl, h _ (I.hok.fresh (Nat.le_refl _)) _ rfl⟩
theorem mt_partitionP {X : Cx} : MtR X "str.partition" (fun x xs H Q => ∃ a b, x = .str a ∧ xs = [.str b] ∧ (b.length == 0) = false ∧ a.length ≤ sizeLine ∧
    ∀ p, H p = none → ∀ o : Obj, o.dict = none → Q (.ref p) (upd H p (.frz o (.tup [.str (Txt.partition a b).1, .str (Txt.partition a b).2.1, .str (Txt.partition a b).2.2])))) := by
  intro pins s σ H x xs v us Q I rx rs ⟨a, b, e1, e2, hb, hz, h⟩
  subst e1 e2
  obtain ⟨t, rfl⟩ := rx
  obtain ⟨w, rfl, u, rfl⟩ := vals1 rs
  refine call_meets F.slot_str_partition (typeIs_str _ _ _) F.entry_str_partition (F.args_str_partition_2 _ _) (meets_str_partition a b t u hb hz) ?_
  unfold Txt.partition at h
  revert h
  cases Builtin.Str.occurrences a b 0 a.length 1 with
  | nil => exact fun h => parts_laid I h
  | cons i r => exact fun h => parts_laid I h
theorem m_part : MtP X "str.partition" gPart := by
  refine MtR.imp mt_partitionP fun v vs H Q ⟨ι, S, x, xs, z, hr, hx, hxs, e, q⟩ => ?_
  unfold gPart at e
  split at e
  · split at e
    · rename_i c
      cases e; cases hx
      obtain ⟨w, rfl, hy⟩ := one_of hxs
      cases hy
      exact ⟨_, _, rfl, rfl, c.1, c.2, fun p hp o hd => q _ p (.cons ⟨rfl, .str _⟩ (.cons ⟨rfl, .str _⟩ (.cons ⟨rfl, .str _⟩ .nil))) hp o hd⟩
    · cases e
  · cases e
def mFmt (m : ME) : ME := fun ρ S => (m ρ S).bind fun x S1 => match x with
  | .d (.str y) => if y.length ≤ sizeLine then .ok (.d (.str y)) S1 else .bad
  | .d (.int i) => if i.natAbs.log2 < 1920 then .ok (.d (.str (toString i))) S1 else .bad
  | _ => .bad
theorem pm_fmt {e : Expr} {m : ME} {pos : Pos} (h : PM X W e m) : PM X W (.FormattedValue e (-1) none pos) (mFmt m) := by
  refine pe_imp (pe_fmt h) fun σ H Q ⟨ι, S, ρ, hl, hr, h⟩ => ?_
  refine ⟨ι, S, ρ, hl, hr, step h fun x v ι1 H1 S1 s1 r1 hx h1 => ?_⟩
  split at h1
  · split at h1
    · rename_i c
      cases hx
      exact .inl ⟨_, rfl, c, h1 _ _ _ (Sub.refl _ _) r1 (.str _)⟩
    · exact h1.elim
  · split at h1
    · rename_i c
      cases hx
      exact .inr ⟨_, rfl, c, h1 _ _ _ (Sub.refl _ _) r1 (.str _)⟩
    · exact h1.elim
  · exact h1.elim
def jsS (acc : Str) (x : Mv) : Option Str := match x with
  | .d (.str y) => if (acc ++ y).length ≤ sizeLine then some (acc ++ y) else none
  | _ => none
def jsF (o : Option Str) (S : Sg) (f : Str → Sg → Res Mv) : Res Mv := match o with | some z => f z S | none => .bad
def mJs : List ME → Str → ME
  | [], acc => fun _ S => .ok (.d (.str acc)) S
  | m :: ms, acc => fun ρ S => (m ρ S).bind fun x S1 => jsF (jsS acc x) S1 fun z S2 => mJs ms z ρ S2
def PJM (X : Cx) (W : WX) (es : List Expr) (ms : List ME) : Prop := PJ X es (ms.map fun m => tG (XV X.K) X.K W m)
theorem pj_nilM : PJM X W [] [] := .nil
theorem pj_consM {e : Expr} {es : List Expr} {m : ME} {ms : List ME} (h : PM X W e m) (r : PJM X W es ms) : PJM X W (e :: es) (m :: ms) := .cons h r
theorem js_core {σ : L2.St} {Q : VK} : ∀ {ms : List ME} {acc : Str} {H : Hp}, tG (XV X.K) X.K W (mJs ms acc) σ H Q → tJs (ms.map fun m => tG (XV X.K) X.K W m) acc σ H fun out H1 => Q (.str out) H1
  | [], acc, H, ⟨ι, S, ρ, hl, hr, h⟩ => h _ _ _ (Sub.refl _ _) hr (.str _)
  | m :: ms, acc, H, ⟨ι, S, ρ, hl, hr, h⟩ => by
    refine ⟨ι, S, ρ, hl, hr, step h fun x v ι1 H1 S1 s1 r1 hx h1 => ?_⟩
    cases e : jsS acc x with
    | none => rw [e] at h1; exact h1.elim
    | some z =>
      rw [e] at h1
      unfold jsS at e
      split at e
      · split at e
        · rename_i c
          cases e
          cases hx
          exact ⟨_, rfl, c, js_core ⟨ι1, S1, ρ, hl.mono s1, r1, h1⟩⟩
        · cases e
      · cases e
theorem pm_joined {v1 v2 : Expr} {rest : List Expr} {ms : List ME} {pos : Pos} (h : PJM X W (v1 :: v2 :: rest) ms) : PM X W (.JoinedStr (v1 :: v2 :: rest) pos) (mJs ms Str.empty) :=
  pe_imp (pe_joined h) fun σ H Q h => js_core h
def mPairs : List (ME × ME) → Rho → Sg → Res (List (Mv × Mv))
  | [], _, S => .ok [] S
  | (a, b) :: r, ρ, S => (a ρ S).bind fun x S1 => (b ρ S1).bind fun y S2 => (mPairs r ρ S2).bind fun ps S3 => .ok ((x, y) :: ps) S3
abbrev XP (K : PySem.W.Frag) : Io → Hp → List (Mv × Mv) → List (V × V) → Prop := fun ι H => Paired fun p q => XV K ι H p.1 q.1 ∧ XV K ι H p.2 q.2
abbrev trM (X : Cx) (W : WX) (ps : List (ME × ME)) : List (TE × TE) := ps.map fun p => (tG (XV X.K) X.K W p.1, tG (XV X.K) X.K W p.2)
def PMPs (X : Cx) (W : WX) (pos : Pos) (ks : List (Option Expr)) (vs : List Expr) (ps : List (ME × ME)) : Prop := PPs X pos ks vs (trM X W ps)
theorem pmps_nil {pos : Pos} : PMPs X W pos [] [] [] := pps_nil
theorem pmps_cons {pos : Pos} {k v : Expr} {ks : List (Option Expr)} {vs : List Expr} {mk mv : ME} {ps : List (ME × ME)} (hk : PM X W k mk) (hv : PM X W v mv) (hr : PMPs X W pos ks vs ps) : PMPs X W pos (some k :: ks) (v :: vs) ((mk, mv) :: ps) := pps_cons hk hv hr
theorem pairs_core {σ : L2.St} : ∀ {ps : List (ME × ME)} {H : Hp} {Q : List (V × V) → Hp → Prop}, tG (XP X.K) X.K W (mPairs ps) σ H Q → tPairs (trM X W ps) σ H Q
  | [], H, Q, ⟨ι, S, ρ, hl, hr, h⟩ => h _ _ _ (Sub.refl _ _) hr .nil
  | (a, b) :: r, H, Q, ⟨ι, S, ρ, hl, hr, h⟩ => by
    refine ⟨ι, S, ρ, hl, hr, step h fun x v ι1 H1 S1 s1 r1 hx h1 => ?_⟩
    refine ⟨ι1, S1, ρ, hl.mono s1, r1, step h1 fun y u ι2 H2 S2 s2 r2 hy h2 => ?_⟩
    refine pairs_core ⟨ι2, S2, ρ, (hl.mono s1).mono s2, r2, step h2 fun qs ws ι3 H3 S3 s3 r3 hz h3 => ?_⟩
    exact h3 _ _ _ (Sub.refl _ _) r3 (.cons ⟨(hx.mono s2).mono s3, hy.mono s3⟩ hz)
def putD (kvs : List (Key × PyData)) (k : Key) (d : PyData) : List (Key × PyData) :=
  if (kvs.any fun kv => decide (kv.1 = k)) = true then kvs.map (fun kv => if kv.1 = k then (kv.1, d) else kv) else kvs ++ [(k, d)]
def mergeD (kvs more : List (Key × PyData)) : List (Key × PyData) := more.foldl (fun acc kv => putD acc kv.1 kv.2) kvs
def keyM : Mv → Option Key
  | .d (.int i) => some (.inl i)
  | .d (.str x) => some (.inr x)
  | _ => none
def keysM : List (Mv × Mv) → Option (List (Key × PyData))
  | [] => some []
  | (x, .d y) :: r => match keyM x, keysM r with | some k, some ks => some ((k, y) :: ks) | _, _ => none
  | _ => none
def dD (kvs : List (Key × PyData)) : PyData := .dict (kvs.map fun kv => (keyD kv.1, kv.2))
def dctF (S : Sg) (o : Option (List (Key × PyData))) : Res Mv := match o with | some kvs => .ok (.d (dD (mergeD [] kvs))) S | none => .bad
def mDct (ps : List (ME × ME)) : ME := fun ρ S => (mPairs ps ρ S).bind fun qs S1 => dctF S1 (keysM qs)
abbrev KD (K : PySem.W.Frag) (H : Hp) : List (Key × PyData) → List (Key × V) → Prop := Paired fun p q => p.1 = q.1 ∧ FD K H p.2 q.2
theorem KD.fdk {K : PySem.W.Frag} {H : Hp} : ∀ {ds : List (Key × PyData)} {kvs : List (Key × V)}, KD K H ds kvs → FDk K H (ds.map fun kv => (keyD kv.1, kv.2)) kvs
  | _, _, .nil => .nil
  | (k, d) :: ds, (k', v) :: vs, .cons ⟨e, h⟩ t => by
    simp only at e
    subst e
    exact .cons h (KD.fdk t)
theorem KD.any {K : PySem.W.Frag} {H : Hp} {ds : List (Key × PyData)} {kvs : List (Key × V)} (r : KD K H ds kvs) (k : Key) : (ds.any fun kv => decide (kv.1 = k)) = kvs.any fun kv => decide (kv.1 = k) := by
  induction r with
  | nil => rfl
  | cons h t ih => rw [List.any_cons, List.any_cons, ih, h.1]
theorem KD.put {K : PySem.W.Frag} {H : Hp} {ds : List (Key × PyData)} {kvs : List (Key × V)} (r : KD K H ds kvs) (k : Key) {d : PyData} {v : V} (h : FD K H d v) : KD K H (putD ds k d) (putK kvs k v) := by
  unfold putD putK
  rw [r.any k]
  by_cases e : (kvs.any fun kv => decide (kv.1 = k)) = true
  · rw [if_pos e, if_pos e]
    clear e
    induction r with
    | nil => exact .nil
    | @cons p q ps qs h1 t ih =>
      refine .cons ?_ ih
      show (if p.1 = k then (p.1, d) else p).1 = (if q.1 = k then (q.1, v) else q).1 ∧ FD K H (if p.1 = k then (p.1, d) else p).2 (if q.1 = k then (q.1, v) else q).2
      by_cases e : p.1 = k
      · rw [if_pos e, if_pos (h1.1 ▸ e)]; exact ⟨h1.1, h⟩
      · rw [if_neg e, if_neg (h1.1 ▸ e)]; exact h1
  · rw [if_neg e, if_neg e]
    exact Paired.append r (.cons ⟨rfl, h⟩ .nil)
theorem KD.merge {K : PySem.W.Frag} {H : Hp} : ∀ {ms : List (Key × PyData)} {more : List (Key × V)} {ds : List (Key × PyData)} {kvs : List (Key × V)}, KD K H ms more → KD K H ds kvs → KD K H (mergeD ds ms) (mergeK kvs more)
  | _, _, _, _, .nil, r => r
  | (k, d) :: ms, (k', v) :: vs, ds, kvs, .cons ⟨e, h⟩ t, r => by
    simp only at e
    subst e
    show KD K H (mergeD (putD ds k d) ms) (mergeK (putK kvs k v) vs)
    exact KD.merge t (r.put k h)
theorem keysM_ok {K : PySem.W.Frag} {ι : Io} {H : Hp} : ∀ {qs : List (Mv × Mv)} {ws : List (V × V)} {ks : List (Key × PyData)}, XP K ι H qs ws → keysM qs = some ks → ∃ kvs, ws = kvs.map (fun kv => (kV kv.1, kv.2)) ∧ KD K H ks kvs
  | _, _, _, .nil, e => by cases e; exact ⟨[], rfl, .nil⟩
  | (x, y) :: qs, (v, u) :: ws, ks, .cons ⟨h1, h2⟩ t, e => by
    cases y with
    | d z =>
      simp only [keysM] at e
      cases e1 : keyM x with
      | none => rw [e1] at e; cases e
      | some k =>
        cases e2 : keysM qs with
        | none => rw [e1, e2] at e; cases e
        | some ks' =>
          rw [e1, e2] at e
          cases e
          obtain ⟨kvs, rfl, r⟩ := keysM_ok t e2
          have hk : v = kV k := by
            unfold keyM at e1
            split at e1
            · cases e1; cases h1; rfl
            · cases e1; cases h1; rfl
            · cases e1
          refine ⟨(k, u) :: kvs, by rw [hk]; rfl, .cons ⟨rfl, h2⟩ r⟩
    | _ => cases e
theorem dct_core {ps : List (ME × ME)} {σ : L2.St} {H : Hp} {Q : VK} (h15 : ps.length ≤ 15) (h : tG (XV X.K) X.K W (mDct ps) σ H Q) : tDisp (trM X W ps) σ H (Qf .frz Q) := by
  obtain ⟨ι, S, ρ, hl, hr, h⟩ := h
  intro p hp
  obtain ⟨r1, s1⟩ := hr.beside (u := .dK []) hp
  have off : ∀ q ∈ ι, q.2 ≠ p := fun q hq z => hr.live q hq (by rw [z]; exact hp)
  have len : ∀ (ps : List (ME × ME)) (ρ : Rho) (S : Sg) (qs : List (Mv × Mv)) (S' : Sg), mPairs ps ρ S = .ok qs S' → qs.length = ps.length := by
    intro ps
    induction ps with
    | nil => intro ρ S qs S' e; cases e; rfl
    | cons a r ih =>
      intro ρ S qs S' e
      obtain ⟨a, b⟩ := a
      simp only [mPairs] at e
      cases e1 : a ρ S with
      | ok x S1 =>
        rw [e1] at e
        simp only [Res.bind] at e
        cases e2 : b ρ S1 with
        | ok y S2 =>
          rw [e2] at e
          simp only [Res.bind] at e
          cases e3 : mPairs r ρ S2 with
          | ok zs S3 =>
            rw [e3] at e
            simp only [Res.bind] at e
            cases e
            rw [List.length_cons, List.length_cons, ih _ _ _ _ e3]
          | _ => rw [e3] at e; cases e
        | _ => rw [e2] at e; cases e
      | _ => rw [e1] at e; cases e
  cases e : mPairs ps ρ S with
  | bad =>
    unfold mDct at h
    rw [e] at h
    exact h.elim
  | exc ex S' =>
    unfold mDct at h
    rw [e] at h
    refine pairs_core ⟨ι, S, ρ, hl.mono s1, r1, ?_⟩
    rw [e]
    exact fun ι' H' d s r q => h ι' H' d (s1.trans s) r q
  | ok qs S' =>
    unfold mDct at h
    rw [e] at h
    have hq := len ps ρ S qs S' e
    refine pairs_core ⟨ι, S, ρ, hl.mono s1, r1, ?_⟩
    rw [e]
    intro ι2 H2 ws s2 r2 hx
    have kp : H2 p = some (.dK []) := s2.keep p _ upd_same off
    simp only [Res.bind] at h
    cases ek : keysM qs with
    | none => rw [ek] at h; exact h.elim
    | some ks =>
      rw [ek] at h
      obtain ⟨kvs, rfl, kd⟩ := keysM_ok hx ek
      refine ⟨kp, kvs, rfl, ?_, .inr ⟨p, _, rfl, upd_same, True.intro, fun o => ?_⟩⟩
      · have := hx.length
        rw [List.length_map] at this
        omega
      · have off2 : ∀ q ∈ ι2, q.2 ≠ p := by
          obtain ⟨t, et, ht⟩ := s2.pre
          intro q hq
          rw [et] at hq
          rcases List.mem_append.mp hq with hq | hq
          · exact off q hq
          · intro z
            have := ht q hq
            rw [z, upd_same] at this
            cases this
        rw [upd_upd]
        have r3 := r2.aside (u := .frz o (.dK (mergeK [] kvs))) kp True.intro off2
        have s3 : Sub ι H ι2 (upd H2 p (.frz o (.dK (mergeK [] kvs)))) := (s1.trans s2).again hp kp
        have g3 : Grow H2 (upd H2 p (.frz o (.dK (mergeK [] kvs)))) := Grow.write kp True.intro
        refine h ι2 _ _ s3 r3 (.dct upd_same (KD.fdk ?_))
        exact KD.merge (Paired.mapP kd fun _ _ q => ⟨q.1, FD.mono g3 q.2⟩) .nil
theorem pm_dct {pos : Pos} {keys : List (Option Expr)} {values : List Expr} {ps : List (ME × ME)} (h : PMPs X W pos keys values ps) (hall : keys.all (·.isSome) = true) (hl : keys.length = values.length) (h0 : keys ≠ []) (h15 : keys.length ≤ 15) (hp : ps.length = keys.length := by rfl) : PM X W (.Dict keys values pos) (mDct ps) :=
  pe_imp (pe_b .frz (pe_disp h hall hl h0 h15)) fun σ H Q q => dct_core (by omega) q
end
end MM
end
section
set_option Elab.async false
set_option linter.all false
set_option maxRecDepth 100000
set_option maxHeartbeats 4000000
set_option autoImplicit false
namespace MM
open PySem PySem.Spec PyProof.Rows L2
section
variable {X : Cx} {W : WX} {pos : Pos}
theorem FDs.take {K : PySem.W.Frag} {H : Hp} : ∀ {ds : List PyData} {vs : List V} (n : Nat), FDs K H ds vs → FDs K H (ds.take n) (vs.take n)
  | _, _, 0, _ => by rw [List.take_zero, List.take_zero]; exact .nil
  | _, _, _ + 1, .nil => .nil
  | _, _, n + 1, .cons h hs => .cons h (FDs.take n hs)
theorem FDs.drop {K : PySem.W.Frag} {H : Hp} : ∀ {ds : List PyData} {vs : List V} (n : Nat), FDs K H ds vs → FDs K H (ds.drop n) (vs.drop n)
  | _, _, 0, h => h
  | _, _, _ + 1, .nil => .nil
  | _, _, n + 1, .cons _ hs => FDs.drop n hs
end
end MM
end
section
set_option Elab.async false
set_option linter.all false
set_option maxRecDepth 100000
set_option maxHeartbeats 4000000
set_option autoImplicit false
namespace MM
open PySem PySem.Spec PyProof.Rows L2
end MM
end
section
set_option Elab.async false
set_option linter.all false
set_option maxRecDepth 100000
set_option maxHeartbeats 4000000
set_option autoImplicit false
namespace MM
open PySem PySem.Spec PyProof.Rows L2
open PySem.W (alike dataLt AllAlike Sortable SortsAt dataKind sortingHeap list_sort_vals sortVals EachIs)
section
variable {X : Cx} {W : WX}
theorem FDs.len {K : PySem.W.Frag} {H : Hp} : ∀ {ds : List PyData} {xs : List V}, FDs K H ds xs → ds.length = xs.length
  | _, _, .nil => rfl
  | _, _, .cons _ hs => congrArg (· + 1) (FDs.len hs)
end
end MM
end
section
set_option Elab.async false
set_option linter.all false
set_option maxRecDepth 100000
set_option maxHeartbeats 4000000
set_option autoImplicit false
namespace MM
open PySem PySem.Spec PyProof.Rows L2
end MM
end
section
set_option Elab.async false
set_option linter.all false
set_option maxRecDepth 100000
set_option maxHeartbeats 4000000
set_option autoImplicit false
namespace PySem.W
open PySem PySem.Calls PyProof.Rows Builtin
end PySem.W
namespace MM
open PySem PySem.Spec PyProof.Rows L2
end MM
end
section
set_option Elab.async false
set_option linter.all false
set_option maxRecDepth 100000
set_option maxHeartbeats 4000000
set_option autoImplicit false
namespace MM
open PySem PySem.Spec PyProof.Rows L2
end MM
end
section
set_option Elab.async false
set_option linter.all false
set_option maxRecDepth 100000
set_option maxHeartbeats 4000000
set_option autoImplicit false
namespace MM
open PySem PySem.Spec PyProof.Rows L2
end MM
end
section
set_option Elab.async false
set_option linter.all false
set_option maxRecDepth 100000
set_option maxHeartbeats 4000000
set_option autoImplicit false
namespace MM
open PySem PySem.Spec PyProof.Rows L2
end MM
end
section
set_option Elab.async false
set_option linter.all false
set_option maxRecDepth 100000
set_option maxHeartbeats 4000000
set_option autoImplicit false
namespace MM
open PySem PySem.Spec PyProof.Rows L2
end MM
end
section
set_option Elab.async false
set_option linter.all false
set_option maxRecDepth 100000
set_option maxHeartbeats 4000000
set_option autoImplicit false
namespace MM
open PySem PySem.Spec PyProof.Rows L2
/-- what the turns of a repr keep -/
def JJ (X : Cx) (pins : List (Addr × Obj)) (σ : L2.St) (ι0 : Io) (H0 : Hp) (S : Sg) (s : Shared) : Prop := ∃ ι H, Sub ι0 H0 ι H ∧ Rl X.K ι S H ∧ Inv X pins σ H s
def ReprJ (X : Cx) (k : Nat) (J : Shared → Prop) (Pb : Addr → Prop) (x : Value) (t : Str) : Prop :=
  ∀ (base : Nat), base + t.length ≤ sizeLine → ∀ (A : Around) (g : List Code) (E : Value → Shared → Prop) (s : Shared) (Q : Str → Shared → Prop), A.guards = some g → (∀ b, Pb b → Clear g b) → A.frames = some X.stack → Room k A → J s →
    (∀ s', J s' → Q t s') → wpAny (model X.prog X.w) A (pyReprUnder base x) Q E s
inductive ReprAllJ (X : Cx) (k : Nat) (J : Shared → Prop) (Pb : Addr → Prop) : List Value → List Str → Prop
  | nil : ReprAllJ X k J Pb [] []
  | cons {x : Value} {t : Str} {l : List Value} {ts : List Str} : ReprJ X k J Pb x t → ReprAllJ X k J Pb l ts → ReprAllJ X k J Pb (x :: l) (t :: ts)
theorem ReprAllJ.length_eq {X : Cx} {k : Nat} {J : Shared → Prop} {Pb : Addr → Prop} : ∀ {l : List Value} {ts : List Str}, ReprAllJ X k J Pb l ts → ts.length = l.length
  | _, _, .nil => rfl
  | _, _, .cons _ h => by simp [h.length_eq]
section
variable {X : Cx} {pins : List (Addr × Obj)} {σ : L2.St} {ι0 : Io} {H0 : Hp} {S : Sg} {k n : Nat}
theorem JJ.tok {s : Shared} {tk : Nat} (h : JJ X pins σ ι0 H0 S s) : JJ X pins σ ι0 H0 S { s with toks := tk } := by
  obtain ⟨ι, H, sub, rl, I⟩ := h
  exact ⟨ι, H, sub, rl, I.kept (h' := s.heap) fun _ _ h => h⟩
end
end MM
end
section
set_option Elab.async false
set_option linter.all false
set_option maxRecDepth 100000
set_option maxHeartbeats 4000000
set_option autoImplicit false
namespace MM
open PySem PySem.Spec PyProof.Rows L2
open PySem.W (EachIs)
def keyE (e : Int × Value) : Key := match e.2 with
  | .int k _ => .inl k
  | .str z _ => .inr z
  | _ => .inl 0
def GoodM (w : World) (e : Int × Value) : Prop := keyIs (keyE e) e.2 = true ∧ e.1 = keyH w (keyE e)
/-- the set at a has just these members; its table rises and can be walked -/
def SetM (w : World) (h : Heap) (a : Addr) (ks : List Key) : Prop :=
  ∃ o es ep t, h.get? a = some o ∧ o.ExactSet ∧ o.data = .set es ep t ∧ (∀ e ∈ es.toList, GoodM w e) ∧ (es.toList.map keyE).Perm ks ∧ ks.Nodup ∧ es.size < scanBound ∧ t.fits es.size = true ∧ Ris t.place.toList ∧ (w.params.followText "set-order" = true ∨ t.led = true)
section
variable {P : Program} {w : World} {A : Around} {E : Value → Shared → Prop} {s : Shared} {a : Addr} {ks : List Key}
theorem SetM.size {es : Array (Int × Value)} {ks : List Key} (p : (es.toList.map keyE).Perm ks) : es.size = ks.length := by
  rw [← p.length_eq, List.length_map, Array.length_toList]
end
end MM
end
section
set_option Elab.async false
set_option linter.all false
set_option maxRecDepth 100000
set_option maxHeartbeats 4000000
set_option autoImplicit false
namespace MM
open PySem PySem.Spec PyProof.Rows L2 PpSet
open PySem.W (EachIs)
end MM
end
section
set_option Elab.async false
set_option linter.all false
set_option maxRecDepth 100000
set_option maxHeartbeats 4000000
set_option autoImplicit false
namespace MM
open PySem PySem.Spec PyProof.Rows L2 PpSet
open PySem.W (EachIs)
end MM
end
section
set_option Elab.async false
set_option linter.all false
set_option maxRecDepth 100000
set_option maxHeartbeats 4000000
set_option autoImplicit false
namespace MM
open PySem PySem.Spec PyProof.Rows L2 PpSet
open PySem.W (EachIs)
end MM
end
section
set_option Elab.async false
set_option linter.all false
set_option maxRecDepth 100000
set_option maxHeartbeats 4000000
set_option autoImplicit false
namespace MM
open PySem PySem.Spec PyProof.Rows L2
theorem meets_enum1 {v : Value} {o : Obj} {H : Heap → Prop} (B : Begins v o H) :
    Meets (Builtin.«enumerate.__new__» ⟨[.type "enumerate", v], []⟩) (fun _ R s => H s.heap ∧
      R (.ok (.ret (.ref (s.heap.push o).objs.size))) { s with heap := (s.heap.push o).push { cls := .type "enumerate", data := .fields #[.none, .bool false, .ref s.heap.objs.size, rawInt 0, .none, .none] } }) :=
  .of_wp fun prog w A R s h => by
    obtain ⟨hp, g, d, tk, os⟩ := s; obtain ⟨h1, h⟩ := h
    have hsub := sub_enumerate
    have q1 : ∀ {A' : Around} {E : Value → Shared → Prop} {Q : Value → Shared → Prop}, Q (.ref hp.objs.size) ⟨hp.push o, g, d, tk, os⟩ → wpAny (model prog w) A' (pyIter v) Q E ⟨hp, g, d, tk, os⟩ :=
      fun q => B.iter prog w _ _ ⟨hp, g, d, tk, os⟩ _ h1 q
    wp_walk using q1
    refine wpAny_stack_any fun st => wpAny_pure ?_
    split
    · rename_i c _ _ _ _ _
      cases (c == Value.type "enumerate")
      · wp_walk using q1
        exact ⟨_, rfl, h⟩
      · wp_walk using q1
        exact ⟨_, rfl, h⟩
    · wp_walk using q1
      exact ⟨_, rfl, h⟩
theorem call_enum1 {prog : Program} {w : World} {A : Around} {E : Value → Shared → Prop} {s : Shared} {v : Value} {o : Obj} {H : Heap → Prop} {Q : Value → Shared → Prop} (B : Begins v o H) (h1 : H s.heap)
    (h : ∀ h', IsEnum h' (s.heap.objs.size + 1) s.heap.objs.size 0 .none → h'.get? s.heap.objs.size = some o → h'.objs.size = s.heap.objs.size + 2 →
      (∀ b o, s.heap.get? b = some o → h'.get? b = some o) → Q (.ref (s.heap.objs.size + 1)) { s with heap := h' }) :
    wpAny (model prog w) A (call (.type "enumerate") [v]) Q E s := by
  refine callType_new F.called_enumerate (by decide) (F.typeCall_enumerate_1 _) (F.newCall_enumerate_1 _) (fun obj => F.args_object_init_2 obj _) F.entry_enumerate_new
    (meets_enum1 B) ⟨h1, ?_⟩
  have hz : (s.heap.push o).objs.size = s.heap.objs.size + 1 := Heap.size_push ..
  show _ ∧ _
  rw [hz]
  have he : IsEnum ((s.heap.push o).push { cls := .type "enumerate", data := .fields #[.none, .bool false, .ref s.heap.objs.size, rawInt 0, .none, .none] }) (s.heap.objs.size + 1) s.heap.objs.size 0 .none := by
    have := Heap.get?_push_size (s.heap.push o) (o := { cls := .type "enumerate", data := .fields #[.none, .bool false, .ref s.heap.objs.size, rawInt 0, .none, .none] }) rfl
    rw [hz] at this; exact this
  refine ⟨⟨_, he, rfl⟩, h _ he (Heap.get?_push_of_some _ (Heap.get?_push_size _ B.free)) (by rw [Heap.size_push, hz]) fun b o x => Heap.get?_push_of_some _ (Heap.get?_push_of_some _ x)⟩
/-- what is drawn from: by what stands (Ok), n things, the i-th one x, the iterator at it -/
structure Src (P : Program) (w : World) (K : PySem.W.Frag) (it : Addr) (n : Nat) (Ok : Hp → Prop) (Sv : Nat → V → Prop) (S0 : Nat → Heap → Prop) : Prop where
  obj : ∀ i h, S0 i h → ∃ o, h.get? it = some o ∧ ∀ v, o.data ≠ .cell v
  keep : ∀ i h h', S0 i h → (∀ o, h.get? it = some o → h'.get? it = some o) → S0 i h'
  draws : ∀ (X : Cx), X.prog = P → X.w = w → X.K = K → X.calm = true → ∀ (pins : List (Addr × Obj)) (s : Shared) (σ : L2.St) (H : Hp), Inv X pins σ H s → Ok H → ∀ e, H e = none → e ≠ it → H it = none →
    (∃ o, s.heap.get? e = some o ∧ o.cls ≠ .type "list" ∧ o.cls ≠ .type "tuple") → (∃ o, s.heap.get? it = some o ∧ o.cls ≠ .type "list" ∧ o.cls ≠ .type "tuple") →
    ∃ fp Pv St, Draws P w X.A.in1 it fp n Pv St ∧ e ∉ fp ∧ (∀ i, S0 i s.heap → St i s.heap) ∧ (∀ i h, St i h → S0 i h) ∧ ∀ i u, Pv i u → ∃ x, Sv i x ∧ RelV x u
def Itn (n : Nat) (Ok : Hp → Prop) (Sv : Nat → V → Prop) : It :=
  ⟨fun i H => Ok H ∧ i < n, fun i H v H' => ∃ T x, v = .ref T ∧ H T = none ∧ (∃ o : Obj, o.dict = none ∧ H' = upd H T (.frz o (.tup [.int (i : Nat), x]))) ∧ Sv i x, fun i H => Ok H ∧ n ≤ i⟩
theorem neTy {a b : String} (h : a ≠ b) : Value.type a ≠ .type b := fun z => h (Value.type.inj z)
theorem turn_enumG {P : Program} {w : World} {K : PySem.W.Frag} {elts : List Expr} {kk : Nat} {tpos : Pos} {e it : Addr} {n : Nat} {Ok : Hp → Prop} {Sv : Nat → V → Prop} {S0 : Nat → Heap → Prop} (R : Src P w K it n Ok Sv S0)
    (ht : ∀ i h, S0 i h → ∃ o, h.get? it = some o ∧ o.cls ≠ .type "list" ∧ o.cls ≠ .type "tuple") :
    Turn P w K (.Tuple elts kk tpos) (Itn n Ok Sv) [e, it] e (fun i h => (∃ old, IsEnum h e it ((i : Nat) : Int) old) ∧ S0 i h ∧ e ≠ it ∧ i ≤ n) where
  mem := by simp
  obj := fun i h st b hb => by
    obtain ⟨⟨old, he⟩, hs, _⟩ := st
    have e' : b = e ∨ b = it := by simpa using hb
    rcases e' with z | z
    · rw [z]; exact ⟨_, he, fun v q => nomatch q⟩
    · rw [z]; exact R.obj _ _ hs
  keep := fun i h h' st k => let ⟨⟨old, he⟩, hi, hne, hl⟩ := st; ⟨⟨old, k e (by simp) _ he⟩, R.keep _ _ _ hi fun o q => k it (by simp) o q, hne, hl⟩
  item := by
    intro X hP hw hK hc i pins s σ H E I hf st hg
    obtain ⟨⟨old, he⟩, hit, hne, hl⟩ := st
    obtain ⟨hok, hlt⟩ := hg
    have f0 := (hf e (by simp)).1
    have f1 := (hf it (by simp)).1
    obtain ⟨fp, Pv, St, D, hfp, a1, a2, a3⟩ := R.draws X hP hw hK hc pins s σ H I hok e f0 hne f1 ⟨_, he, neTy (by decide), neTy (by decide)⟩ (ht _ _ hit)
    subst hP hw hK
    have hel : e < s.heap.objs.size := Heap.lt_size he
    have hil : it < s.heap.objs.size := by obtain ⟨_, q, _⟩ := R.obj _ _ hit; exact Heap.lt_size q
    refine wpAny_pyNext_enum_itemC D he (a1 i hit) hlt hne hfp fun u h' tk hP ho hit' hT hsz hk => ?_
    obtain ⟨x, hx, ru⟩ := a3 i u hP
    refine ⟨_, rfl, wpAny_letOwnedTupleGo_enum (s := { s with heap := h', toks := tk + 1 }) ho fun h'' he' sb => ?_⟩
    have hT2 : h''.get? s.heap.objs.size = some { cls := .type "tuple", data := .seq #[.int i tk, u] } := (sb.2 _ (Nat.ne_of_gt hel)).trans hT
    have new : ObjOk X.prog X.w (upd H s.heap.objs.size (.frz { cls := .type "tuple", data := .seq #[.int i tk, u] } (.tup [.int (i : Nat), x]))) h'' s.heap.objs.size (.frz { cls := .type "tuple", data := .seq #[.int i tk, u] } (.tup [.int (i : Nat), x])) :=
      ⟨hT2, by show 2 ≤ sizeLine; decide, [.int i tk, u], .cons ⟨_, rfl⟩ (.cons ru .nil), ⟨_, hT2, rfl, _, rfl⟩⟩
    have I1 : Inv X pins σ (upd H s.heap.objs.size (.frz { cls := .type "tuple", data := .seq #[.int i tk, u] } (.tup [.int (i : Nat), x]))) { s with heap := h'', toks := tk + 1 } :=
      I.turnedNew (ch := [e, it]) (fun b ob hb q => (sb.2 b (fun z => hb (by simp [z]))).trans (hk b ob (fun z => hb (by simp [z])) (fun z => hb (by simp [z])) q)) hf (Nat.le_refl _) new
    refine ⟨.ref s.heap.objs.size, _, I1, rfl, ⟨_, x, rfl, I.hok.fresh (Nat.le_refl _), ⟨_, rfl, rfl⟩, hx⟩, ⟨⟨u, ?_⟩, R.keep _ _ _ (a2 _ _ hit') fun o q => (sb.2 it (Ne.symm hne)).trans q, hne, hlt⟩, fun b hb => ?_⟩
    · have e1 : ((i + 1 : Nat) : Int) = (i : Int) + 1 := by omega
      rw [e1]; exact he'
    · have hb' : b < s.heap.objs.size := by
        have e' : b = e ∨ b = it := by simpa using hb
        rcases e' with z | z
        · rw [z]; exact hel
        · rw [z]; exact hil
      rw [upd_ne (Nat.ne_of_lt hb')]
      exact (hf b hb).1
  done := by
    intro X hP hw hK hc i pins s σ H E I hf st hg
    obtain ⟨⟨old, he⟩, hit, hne, hl⟩ := st
    obtain ⟨hok, hge⟩ := hg
    have f0 := (hf e (by simp)).1
    obtain ⟨f0', f1, f2, f3, f4, f5⟩ := hf it (by simp)
    obtain ⟨fp, Pv, St, D, hfp, a1, a2, a3⟩ := R.draws X hP hw hK hc pins s σ H I hok e f0 hne f0' ⟨_, he, neTy (by decide), neTy (by decide)⟩ (ht _ _ hit)
    subst hP hw hK
    have ei : i = n := Nat.le_antisymm hl hge
    subst ei
    exact wpAny_pyNext_enum_endD D he (a1 _ hit) fun h' eb => ⟨rfl, I.turned (t' := s.toks) (fun b o hb q => eb b o hb q) f0' f1 f3 f4 f5⟩
  self := fun A i s Q E st h => let ⟨⟨_, he⟩, _⟩ := st; wpAny_pyIter_enum he h
theorem src_lst {P : Program} {w : World} {K : PySem.W.Frag} (a it : Addr) (vs : List V) : Src P w K it vs.length (fun H => SqL K H a vs) (fun i x => vs[i]? = some x) (fun i h => h.IsListIter it a i) where
  obj := fun i h st => let ⟨o, e, c, d⟩ := st; ⟨o, e, fun v z => by rw [d] at z; cases z⟩
  keep := fun i h h' st k => st.at fun o q => k o q
  draws := by
    intro X hP hw hK hc pins s σ H I hok e h0 hne h1 ⟨oe, ge, ce, _⟩ ⟨oi, gi, ci, _⟩
    subst hP hw hK
    obtain ⟨its, rv, p, hz⟩ := I.list hok
    have q : s.heap.IsList a its.toArray := p.isList
    have ea : a ≠ e := fun z => by
      obtain ⟨o, e1, e2, _⟩ := q
      rw [z, ge] at e1; cases e1; exact ce e2
    have ia : a ≠ it := fun z => by
      obtain ⟨o, e1, e2, _⟩ := q
      rw [z, gi] at e1; cases e1; exact ci e2
    have D := Draws.list (prog := X.prog) (w := X.w) (A := X.A.in1) (I.ok.hd hc) it a ia its.toArray
    have hn : its.toArray.size = vs.length := by simp [rv.length]
    rw [hn] at D
    refine ⟨_, _, _, D, ?_, fun i h => ⟨h, q⟩, fun i h x => x.1, fun i u hu => ?_⟩
    · intro z
      rcases List.mem_cons.mp z with z | z
      · exact hne z
      · exact ea (List.mem_singleton.mp z).symm
    · have hu' : its[i]? = some u := by simpa using hu
      have : i < vs.length := by rw [rv.length]; exact (List.getElem?_eq_some_iff.mp hu').1
      obtain ⟨u', e1, e2⟩ := rv.get (List.getElem?_eq_getElem this)
      rw [hu'] at e1; cases e1
      exact ⟨_, List.getElem?_eq_getElem this, e2⟩
theorem src_tup {P : Program} {w : World} {K : PySem.W.Frag} (a it : Addr) (vs : List V) : Src P w K it vs.length (fun H => SqT K H a vs) (fun i x => vs[i]? = some x) (fun i h => h.IsTupleIter it a i) where
  obj := fun i h st => let ⟨o, e, c, d⟩ := st; ⟨o, e, fun v z => by rw [d] at z; cases z⟩
  keep := fun i h h' st k => st.at fun o q => k o q
  draws := by
    intro X hP hw hK hc pins s σ H I hok e h0 hne h1 ⟨oe, ge, _, ce⟩ ⟨oi, gi, _, ci⟩
    subst hP hw hK
    obtain ⟨its, rv, p, hz⟩ := I.tuple hok
    have q : s.heap.IsTuple a its.toArray := p
    have ea : a ≠ e := fun z => by
      obtain ⟨o, e1, e2, _⟩ := q
      rw [z, ge] at e1; cases e1; exact ce e2
    have ia : a ≠ it := fun z => by
      obtain ⟨o, e1, e2, _⟩ := q
      rw [z, gi] at e1; cases e1; exact ci e2
    have D := Draws.tuple (prog := X.prog) (w := X.w) (A := X.A.in1) (I.ok.hd hc) it a ia its.toArray
    have hn : its.toArray.size = vs.length := by simp [rv.length]
    rw [hn] at D
    refine ⟨_, _, _, D, ?_, fun i h => ⟨h, q⟩, fun i h x => x.1, fun i u hu => ?_⟩
    · intro z
      rcases List.mem_cons.mp z with z | z
      · exact hne z
      · exact ea (List.mem_singleton.mp z).symm
    · have hu' : its[i]? = some u := by simpa using hu
      have : i < vs.length := by rw [rv.length]; exact (List.getElem?_eq_some_iff.mp hu').1
      obtain ⟨u', e1, e2⟩ := rv.get (List.getElem?_eq_getElem this)
      rw [hu'] at e1; cases e1
      exact ⟨_, List.getElem?_eq_getElem this, e2⟩
theorem src_str {P : Program} {w : World} {K : PySem.W.Frag} (it : Addr) (z : Str) (t : Tok) : Src P w K it z.cps.size (fun _ => True) (fun i x => ∃ c, z.cps[i]? = some c ∧ x = .str ⟨#[c]⟩) (fun i h => h.IsStrIter it (strIterType z) z t i) where
  obj := fun i h st => let ⟨o, e, c, d⟩ := st; ⟨o, e, fun v z => by rw [d] at z; cases z⟩
  keep := fun i h h' st k => let ⟨o, e, r⟩ := st; ⟨o, k o e, r⟩
  draws := by
    intro X hP hw hK hc pins s σ H I hok e h0 hne h1 _ _
    subst hP hw hK
    refine ⟨_, _, _, Draws.text (prog := X.prog) (w := X.w) (A := X.A.in1) (I.ok.hd hc) it z t, ?_, fun i h => h, fun i h x => x, fun i u hu => ?_⟩
    · intro q; exact hne (List.mem_singleton.mp q)
    · obtain ⟨c, t', e1, e2⟩ := hu
      exact ⟨_, ⟨c, e1, rfl⟩, t', e2⟩
/-- what may be walked, and what it draws -/
inductive Feed (K : PySem.W.Frag) (H : Hp) : V → Nat → (Hp → Prop) → (Nat → V → Prop) → Prop
  | lst {a : Addr} {vs : List V} : SqL K H a vs → Feed K H (.ref a) vs.length (fun H => SqL K H a vs) (fun i x => vs[i]? = some x)
  | tup {a : Addr} {vs : List V} : SqT K H a vs → Feed K H (.ref a) vs.length (fun H => SqT K H a vs) (fun i x => vs[i]? = some x)
  | str {z : Str} : Feed K H (.str z) z.cps.size (fun _ => True) (fun i x => ∃ c, z.cps[i]? = some c ∧ x = .str ⟨#[c]⟩)
def iEnumG (K : PySem.W.Frag) (ta : TA) : TI := fun σ H R => ta σ H fun vs H1 => ∃ v n Ok Sv, vs = [v] ∧ Feed K H1 v n Ok Sv ∧ R (Itn n Ok Sv) H1
theorem strIter_cls (z : Str) : (PySem.strIterType z) = "str_ascii_iterator" ∨ (PySem.strIterType z) = "str_iterator" := by
  unfold PySem.strIterType; split
  · exact .inl rfl
  · exact .inr rfl
theorem pi_enumG {X : Cx} {e : Expr} {ta : TA} {p pos tpos : Pos} {elts : List Expr} {kk : Nat} (hg : Gl X "enumerate") (hm : X.mg "enumerate" = none) (ha : PA X [e] ta) (hs : starEach [e] X.env = [(false, eval e X.env)] := by rfl) :
    PI X (.Tuple elts kk tpos) (.Call (.Name "enumerate" p) [e] [] pos) (iEnumG X.K ta) := by
  refine ⟨fun pins s σ H R I h => ?_⟩
  refine Call_ (ld_blt I hg hm boot_enumerate (PyProof.Rows.callWith_type1 (thn (ha.run pos pins s σ H _ I h) fun us s1 ⟨vs, H1, I1, r1, q1⟩ => ?_) hs rfl))
  obtain ⟨v, n, Ok, Sv, ex, fd, q⟩ := q1
  subst ex
  cases r1 with
  | cons r rr =>
    cases rr
    have fp : ∀ b ∈ [s1.heap.objs.size + 1, s1.heap.objs.size], FpOk X pins H1 b := fun b hb => by
      have e' : b = s1.heap.objs.size + 1 ∨ b = s1.heap.objs.size := by simpa using hb
      have hle : s1.heap.objs.size ≤ b := by
        rcases e' with z | z
        · rw [z]; exact Nat.le_add_right _ _
        · rw [z]; exact Nat.le_refl _
      exact I1.fpOk hle (I1.hok.fresh hle)
    cases fd with
    | @lst a ws hq =>
      cases r
      obtain ⟨its, rv, p', hz⟩ := I1.list hq
      refine call_enum1 (begins_list a its.toArray) p'.isList fun h' he hit hsz hk => wpAny_pyIter_enum he ?_
      have I2 : Inv X pins σ H1 { s1 with heap := h' } := I1.kept (t' := s1.toks) hk
      exact ⟨s1.heap.objs.size + 1, [s1.heap.objs.size + 1, s1.heap.objs.size], _, _, H1, rfl, I2, turn_enumG (src_lst a s1.heap.objs.size ws) (fun i h ⟨o, e1, e2, _⟩ => ⟨o, e1, (by rw [e2]; exact neTy (by decide)), (by rw [e2]; exact neTy (by decide))⟩), ⟨⟨.none, he⟩, ⟨_, hit, rfl, rfl⟩, Nat.succ_ne_self _, Nat.zero_le _⟩, fp, q⟩
    | @tup a ws hq =>
      cases r
      obtain ⟨its, rv, p', hz⟩ := I1.tuple hq
      refine call_enum1 (begins_tuple a its.toArray) p' fun h' he hit hsz hk => wpAny_pyIter_enum he ?_
      have I2 : Inv X pins σ H1 { s1 with heap := h' } := I1.kept (t' := s1.toks) hk
      exact ⟨s1.heap.objs.size + 1, [s1.heap.objs.size + 1, s1.heap.objs.size], _, _, H1, rfl, I2, turn_enumG (src_tup a s1.heap.objs.size ws) (fun i h ⟨o, e1, e2, _⟩ => ⟨o, e1, (by rw [e2]; exact neTy (by decide)), (by rw [e2]; exact neTy (by decide))⟩), ⟨⟨.none, he⟩, ⟨_, hit, rfl, rfl⟩, Nat.succ_ne_self _, Nat.zero_le _⟩, fp, q⟩
    | @str z =>
      obtain ⟨t, rfl⟩ := r
      refine call_enum1 (begins_text z t) trivial fun h' he hit hsz hk => wpAny_pyIter_enum he ?_
      have I2 : Inv X pins σ H1 { s1 with heap := h' } := I1.kept (t' := s1.toks) hk
      refine ⟨s1.heap.objs.size + 1, [s1.heap.objs.size + 1, s1.heap.objs.size], _, _, H1, rfl, I2, turn_enumG (src_str s1.heap.objs.size z t) (fun i h ⟨o, e1, e2, _⟩ => ⟨o, e1, ?_, ?_⟩), ⟨⟨.none, he⟩, ⟨_, hit, rfl, rfl⟩, Nat.succ_ne_self _, Nat.zero_le _⟩, fp, q⟩
      · rw [e2]; rcases strIter_cls z with h | h <;> rw [h] <;> exact neTy (by decide)
      · rw [e2]; rcases strIter_cls z with h | h <;> rw [h] <;> exact neTy (by decide)
def numL (xs : List PyData) : List Mv := xs.zipIdx.map fun p => .d (.tuple [.int (p.2 : Nat), p.1])
theorem numL_at {xs : List PyData} {i : Nat} {x : Mv} (e : (numL xs)[i]? = some x) : ∃ d, xs[i]? = some d ∧ x = .d (.tuple [.int (i : Nat), d]) := by
  unfold numL at e
  rw [List.getElem?_map, List.getElem?_zipIdx] at e
  cases h : xs[i]? with
  | none => rw [h] at e; cases e
  | some d => rw [h] at e; simp at e; exact ⟨d, rfl, e.symm⟩
theorem itm_enum {K : PySem.W.Frag} {ι : Io} {H : Hp} {n : Nat} {Ok : Hp → Prop} {Sv : Nat → V → Prop} {ds : List PyData} (hl : ds.length = n) (hO : ∀ ι1 H1, Sub ι H ι1 H1 → Ok H1)
    (hv : ∀ ι1 H1, Sub ι H ι1 H1 → ∀ i d v, ds[i]? = some d → Sv i v → FD K H1 d v) : ItM K ι H (numL ds) (Itn n Ok Sv) := by
  intro ι1 H1 S1 s r i
  have hz : (numL ds).length = n := by simp [numL, hl]
  refine ⟨fun x e => ?_, fun e => ⟨hO _ _ s, by rw [← hz]; exact e⟩⟩
  obtain ⟨d, e1, rfl⟩ := numL_at e
  have hi : i < n := by rw [← hl]; exact (List.getElem?_eq_some_iff.mp e1).1
  refine ⟨⟨hO _ _ s, hi⟩, fun v' H2 ⟨T, x, e2, e3, ⟨o, hd, e4⟩, e5⟩ => ?_⟩
  subst e2 e4
  obtain ⟨r2, s2⟩ := r.beside (u := .frz o (.tup [.int (i : Nat), x])) e3
  refine ⟨r2, s2, ?_⟩
  have q : PlnT K (upd H1 T (.frz o (.tup [.int (i : Nat), x]))) T [.int (i : Nat), x] := .inl ⟨o, hd, by rw [upd_same]⟩
  exact FD.tup q (.cons (.int _) (.cons (FD.mono s2.grow (hv _ _ s _ _ _ e1 e5)) .nil))
theorem FDs.on {K : PySem.W.Frag} {H : Hp} {d : PyData} {v : V} : ∀ {ds : List PyData} {vs : List V} {i : Nat}, FDs K H ds vs → ds[i]? = some d → vs[i]? = some v → FD K H d v
  | _, _, _, .nil, e, _ => nomatch e
  | _, _, 0, .cons h _, e, e2 => by cases e; cases e2; exact h
  | _, _, i + 1, .cons _ hs, e, e2 => FDs.on hs e e2
theorem FDs.lenE {K : PySem.W.Frag} {H : Hp} : ∀ {ds : List PyData} {vs : List V}, FDs K H ds vs → ds.length = vs.length
  | _, _, .nil => rfl
  | _, _, .cons _ hs => congrArg (· + 1) (FDs.lenE hs)
def Mv.itemsD (x : Mv) : Option (List PyData) := match x with
  | .d (.list xs) => some xs
  | .d (.tuple xs) => some xs
  | .d (.str z) => some (z.cps.toList.map fun c => .str ⟨#[c]⟩)
  | _ => none
theorem feed_of {K : PySem.W.Frag} {ι : Io} {H : Hp} {x : Mv} {v : V} {ds : List PyData} (e : x.itemsD = some ds) (h : XV K ι H x v) : ∃ n Ok Sv, Feed K H v n Ok Sv ∧ ItM K ι H (numL ds) (Itn n Ok Sv) := by
  cases x with
  | d y =>
    cases y with
    | list xs =>
      cases e
      cases (show FD K H _ v from h) with
      | lst hf hs => exact ⟨_, _, _, .lst hf.sq, itm_enum hs.lenE (fun ι1 H1 s => (hf.mono s.grow).sq) fun ι1 H1 s i d v e1 e2 => FDs.on (FDs.mono s.grow hs) e1 e2⟩
    | tuple xs =>
      cases e
      cases (show FD K H _ v from h) with
      | tup hf hs => exact ⟨_, _, _, .tup hf.sq, itm_enum hs.lenE (fun ι1 H1 s => SqT_mono s.grow hf.sq) fun ι1 H1 s i d v e1 e2 => FDs.on (FDs.mono s.grow hs) e1 e2⟩
    | str z =>
      cases e
      cases (show FD K H _ v from h) with
      | str z =>
        refine ⟨_, _, _, .str, itm_enum (by simp) (fun _ _ _ => trivial) fun ι1 H1 s i d v e1 ⟨c, e2, e3⟩ => ?_⟩
        subst e3
        rw [List.getElem?_map, Array.getElem?_toList, e2] at e1
        cases e1
        exact .str _
    | _ => cases e
  | _ => cases e
def mEnum (a : MA) : MA := fun ρ S => (a ρ S).bind fun xs S1 => match xs with
  | [x] => (match x.itemsD with | some ds => .ok (numL ds) S1 | none => .bad)
  | _ => .bad
section
variable {X : Cx} {W : WX} {pos : Pos}
theorem pim_enum {elts : List Expr} {kk : Nat} {tpos : Pos} {a : Expr} {ma : MA} {p : Pos} (hg : Gl X "enumerate") (hm : X.mg "enumerate" = none) (ha : PL X W [a] ma) (hs : starEach [a] X.env = [(false, eval a X.env)] := by rfl) :
    PIM X W (.Tuple elts kk tpos) (.Call (.Name "enumerate" p) [a] [] pos) (mEnum ma) := by
  refine pi_imp (pi_enumG hg hm ha hs) fun σ H R ⟨ι, S, ρ, hl, hr, h⟩ => ⟨ι, S, ρ, hl, hr, step h fun xs vs ι1 H1 S1 s1 r1 hx h1 => ?_⟩
  cases hx with
  | nil => exact h1.elim
  | @cons x v xs vs r t =>
    cases t with
    | cons r2 t2 => exact h1.elim
    | nil =>
      simp only at h1
      cases e : x.itemsD with
      | none => rw [e] at h1; exact h1.elim
      | some ds =>
        rw [e] at h1
        obtain ⟨n, Ok, Sv, f, q⟩ := feed_of e r
        exact ⟨_, _, _, _, rfl, f, h1 _ _ _ (Sub.refl _ _) r1 q⟩
end
end MM
end
section
set_option Elab.async false
set_option linter.all false
set_option maxRecDepth 100000
set_option maxHeartbeats 4000000
set_option autoImplicit false
namespace MM
open PySem PySem.Spec PyProof.Rows L2
end MM
end
section
set_option Elab.async false
set_option linter.all false
set_option maxRecDepth 100000
set_option maxHeartbeats 4000000
set_option autoImplicit false
namespace MM
open PySem PySem.Spec PyProof.Rows L2
end MM
end
section
set_option Elab.async false
set_option linter.all false
set_option maxRecDepth 100000
set_option maxHeartbeats 4000000
set_option autoImplicit false
namespace MM
open PySem PySem.Spec PyProof.Rows L2
end MM
end
section
set_option Elab.async false
set_option linter.all false
set_option maxRecDepth 100000
set_option maxHeartbeats 4000000
set_option autoImplicit false
namespace MM
open PySem PySem.Spec PyProof.Rows L2
end MM
end
section
set_option Elab.async false
set_option linter.all false
set_option maxRecDepth 100000
set_option maxHeartbeats 4000000
set_option autoImplicit false
namespace MM
open PySem PySem.Spec PyProof.Rows L2
end MM
end
section
set_option Elab.async false
set_option linter.all false
set_option maxRecDepth 100000
set_option maxHeartbeats 4000000
set_option autoImplicit false
namespace MM
open PySem PySem.Spec PyProof.Rows L2
section
variable {X : Cx} {W : WX}
theorem pairs_ofV {pins : List (Addr × Obj)} {σ : L2.St} {H : Hp} {s : Shared} (I : Inv X pins σ H s) : ∀ {ps : List Addr} {kvs : List (Key × V)}, Paired (fun p kv => SqT X.K H p [kV kv.1, kv.2]) ps kvs →
    ∃ (prs : List (Key × Value)) (pv : List (Value × Value)), KV kvs prs ∧ prs.length = ps.length ∧ pv.length = ps.length ∧
      (∀ (j : Nat) (k v : Value), pv[j]? = some (k, v) → ∃ (b : Addr) (y : Key), ps[j]? = some b ∧ prs[j]? = some (y, v) ∧ IsTup s.heap b #[k, v] ∧ keyIs y k = true)
  | _, _, .nil => ⟨[], [], .nil, rfl, rfl, fun j k v e => by simp at e⟩
  | _, _, .cons (a := p) (b := kv) h t => by
    obtain ⟨prs, pv, r, hl, hl2, hp⟩ := pairs_ofV I t
    obtain ⟨its, rv, ht, _⟩ := I.tuple h
    obtain ⟨u, y, ei, ru, ry⟩ := vals2 rv
    subst ei
    refine ⟨(kv.1, y) :: prs, (u, y) :: pv, .cons ⟨rfl, ry⟩ r, by rw [List.length_cons, List.length_cons, hl], by rw [List.length_cons, List.length_cons, hl2], fun j k v e => ?_⟩
    cases j with
    | zero =>
      have e' : (u, y) = (k, v) := Option.some.inj e
      cases e'
      exact ⟨p, kv.1, rfl, rfl, ht, kV_is (P := X.prog) (w := X.w) ru⟩
    | succ j =>
      obtain ⟨b, y', e1, e2, e3, e4⟩ := hp j k v (by simpa using e)
      exact ⟨b, y', by simpa using e1, by simpa using e2, e3, e4⟩
theorem cr_dictP (hcalm : X.calm = true) : CallR X (.type "dict") (fun xs H Q => ∃ (a : Addr) (ps : List Addr) (kvs : List (Key × V)), xs = [.ref a] ∧ (PlnL X.K H a (ps.map V.ref) ∨ PlnT X.K H a (ps.map V.ref)) ∧ Paired (fun p kv => SqT X.K H p [kV kv.1, kv.2]) ps kvs ∧
    ∀ p, H p = none → Q (.ref p) (upd H p (.dK (mergeK [] kvs)))) := by
  intro pins s σ H xs us Q I r q
  obtain ⟨a, ps, kvs, ex, hq, hp, q⟩ := q
  subst ex
  obtain ⟨u, eu, rx⟩ := vals1 r
  subst eu
  cases rx
  obtain ⟨prs, pv, rel, hl, hl2, hpv⟩ := pairs_ofV I hp
  have fin : ∀ h' tk, h'.DictOf (mixKind X.prog X.w) s.heap.objs.size (merged [] prs) → ps.length ≤ sizeLine → (∀ b o, b ∉ ([] : List Addr) → s.heap.get? b = some o → h'.get? b = some o) → EP X pins σ Q (.ref s.heap.objs.size) { s with heap := h', toks := tk } := fun h' tk hd' hz k => by
    have hm : (s.heap.objs.size == sysModules) = false := beq_eq_false_iff_ne.mpr (Nat.ne_of_gt I.big)
    have hlen : (mergeK [] kvs).length ≤ sizeLine := by
      refine Nat.le_trans (length_mergeK kvs []) ?_
      rw [List.length_nil, Nat.zero_add, rel.length, hl]
      exact hz
    exact ⟨.ref s.heap.objs.size, upd H s.heap.objs.size (.dK (mergeK [] kvs)), I.laid (t' := tk) (fun b o e => k b o (fun z => nomatch z) e) (Nat.le_refl _) (show ObjOk X.prog X.w _ _ _ (.dK (mergeK [] kvs)) from ⟨hlen, hm, merged [] prs, KV.merge rel .nil, hd'⟩), rfl, q _ (I.hok.fresh (Nat.le_refl _))⟩
  have items : ∀ its : List Value, its = ps.map Value.ref → PairItems s.heap its.toArray (fun j => ps.getD j 0) pv := fun its ei => by
    subst ei
    refine ⟨by simp [hl2], fun j k v hj => ?_⟩
    obtain ⟨b, y, e1, e2, e3, e4⟩ := hpv j k v hj
    refine ⟨by simp [e1], .inl ?_⟩
    have : ps.getD j 0 = b := by rw [List.getD_eq_getElem?_getD, e1]; rfl
    show s.heap.IsTuple (ps.getD j 0) #[k, v]
    rw [this]
    exact e3
  have have' : PairsHave (mixKind X.prog X.w) pv.length (PairRel pv) prs := ⟨by rw [hl, hl2], fun i key v hr => let ⟨b, y, e1, e2, e3, e4⟩ := hpv i key v hr; ⟨y, e2, e4⟩⟩
  rcases hq with hq | hq
  · obtain ⟨its, n, ho, rv, hz⟩ := hq.obj I
    have ei := refs_at rv
    rw [List.length_map] at hz
    exact PySem.call_dict_pairs (PairArg.list a its.toArray (fun j => ps.getD j 0) pv) (I.ok.hd hcalm) ⟨⟨_, n, ho, rfl, rfl, rfl⟩, items its ei⟩ have' (by rw [hl2]; exact hz) fun h' tk hd' k => fin h' tk hd' hz k
  · obtain ⟨o, its, n, ho, hc, hd, hdat, rv, hz⟩ := hq.obj I
    have ei := refs_at rv
    rw [List.length_map] at hz
    exact PySem.call_dict_pairs (PairArg.tuple a its.toArray (fun j => ps.getD j 0) pv) (I.ok.hd hcalm) ⟨⟨o, n, ho, hc, hd, hdat⟩, items its ei⟩ have' (by rw [hl2]; exact hz) fun h' tk hd' k => fin h' tk hd' hz k
def pairK : PyData → Option (Key × PyData)
  | .tuple [.int i, v] => some (.inl i, v)
  | .tuple [.str x, v] => some (.inr x, v)
  | _ => none
def pairsD : List PyData → Option (List (Key × PyData))
  | [] => some []
  | d :: r => match pairK d, pairsD r with | some p, some ps => some (p :: ps) | _, _ => none
theorem pairK_ok {K : PySem.W.Frag} {H : Hp} {d : PyData} {v : V} {q : Key × PyData} (h : FD K H d v) (e : pairK d = some q) : ∃ (p : Addr) (u : V), v = .ref p ∧ SqT K H p [kV q.1, u] ∧ FD K H q.2 u := by
  unfold pairK at e
  split at e
  · cases e
    cases h with
    | tup h hs => cases hs with | cons h1 hs => cases hs with | cons h2 hs => cases hs; cases h1; exact ⟨_, _, rfl, h.sq, h2⟩
  · cases e
    cases h with
    | tup h hs => cases hs with | cons h1 hs => cases hs with | cons h2 hs => cases hs; cases h1; exact ⟨_, _, rfl, h.sq, h2⟩
  · cases e
theorem pairsD_ok {K : PySem.W.Frag} {H : Hp} : ∀ {ds : List PyData} {vs : List V} {ks : List (Key × PyData)}, FDs K H ds vs → pairsD ds = some ks → ∃ (ps : List Addr) (kvs : List (Key × V)), vs = ps.map V.ref ∧ Paired (fun p kv => SqT K H p [kV kv.1, kv.2]) ps kvs ∧ KD K H ks kvs
  | _, _, _, .nil, e => by cases e; exact ⟨[], [], rfl, .nil, .nil⟩
  | d :: ds, _ :: _, ks, .cons h hs, e => by
    simp only [pairsD] at e
    split at e
    · rename_i p ps e1 e2
      cases e
      obtain ⟨a, u, rfl, h1, h2⟩ := pairK_ok h e1
      obtain ⟨as, kvs, rfl, h3, h4⟩ := pairsD_ok hs e2
      exact ⟨a :: as, (p.1, u) :: kvs, rfl, .cons h1 h3, .cons ⟨rfl, h2⟩ h4⟩
    · cases e
def mDictP (a : MA) : ME := fun ρ S => (a ρ S).bind fun xs S1 => match xs with
  | [.d (.tuple ds)] => dctF S1 (pairsD ds)
  | [.d (.list ds)] => dctF S1 (pairsD ds)
  | _ => .bad
theorem pm_dictP {e : Expr} {ma : MA} {p pos : Pos} (hc : X.calm = true) (hg : Gl X "dict") (hm : X.mg "dict" = none) (ha : PL X W [e] ma) (he : starEach [e] X.env = (false, eval e X.env) :: starEach [] X.env := by rfl) : PM X W (.Call (.Name "dict" p) [e] [] pos) (mDictP ma) := by
  refine pe_imp (pe_b .frz (pe_callTy (cr_dictP hc) hg hm (by decide +kernel) ha (he := he))) fun σ H Q ⟨ι, S, ρ, hl, hr, h⟩ => ?_
  refine ⟨ι, S, ρ, hl, hr, step h fun xs vs ι1 H1 S1 s1 r1 hx h1 => ?_⟩
  have fin : ∀ (ks : List (Key × PyData)) (kvs : List (Key × V)) (a : Addr) (ps : List Addr), KD X.K H1 ks kvs → Paired (fun p kv => SqT X.K H1 p [kV kv.1, kv.2]) ps kvs → (PlnL X.K H1 a (ps.map V.ref) ∨ PlnT X.K H1 a (ps.map V.ref)) →
      Post (XV X.K) X.K W ι1 σ H1 Q (dctF S1 (some ks)) → ∃ (a' : Addr) (ps : List Addr) (kvs : List (Key × V)), [V.ref a] = [V.ref a'] ∧ (PlnL X.K H1 a' (ps.map V.ref) ∨ PlnT X.K H1 a' (ps.map V.ref)) ∧ Paired (fun p kv => SqT X.K H1 p [kV kv.1, kv.2]) ps kvs ∧
        ∀ p, H1 p = none → Qf .frz Q (.ref p) (upd H1 p (.dK (mergeK [] kvs))) := fun ks kvs a ps kd pp pl h1 => by
    refine ⟨a, ps, kvs, rfl, pl, pp, fun p hp => .inr ⟨p, _, rfl, upd_same, True.intro, fun o => ?_⟩⟩
    rw [upd_upd]
    obtain ⟨r2, s2⟩ := r1.beside (u := .frz o (.dK (mergeK [] kvs))) hp
    refine h1 _ _ _ s2 r2 (.dct upd_same (KD.fdk ?_))
    exact KD.merge (Paired.mapP kd fun _ _ q => ⟨q.1, FD.mono s2.grow q.2⟩) .nil
  split at h1
  · rename_i ds
    obtain ⟨v, rfl, hv⟩ := one_of hx
    cases (show FD _ _ _ _ from hv) with
    | tup hf hs =>
      cases e1 : pairsD ds with
      | none => rw [e1] at h1; exact h1.elim
      | some ks =>
        rw [e1] at h1
        obtain ⟨ps, kvs, rfl, pp, kd⟩ := pairsD_ok hs e1
        exact fin ks kvs _ ps kd pp (.inr hf) h1
  · rename_i ds
    obtain ⟨v, rfl, hv⟩ := one_of hx
    cases (show FD _ _ _ _ from hv) with
    | lst hf hs =>
      cases e1 : pairsD ds with
      | none => rw [e1] at h1; exact h1.elim
      | some ks =>
        rw [e1] at h1
        obtain ⟨ps, kvs, rfl, pp, kd⟩ := pairsD_ok hs e1
        exact fin ks kvs _ ps kd pp (.inl (.inr hf)) h1
  · exact h1.elim
def keyEq : PyData → Key → Bool
  | .int i, .inl j => decide (i = j)
  | .str x, .inr y => decide (x = y)
  | _, _ => false
def lookD : List (PyData × PyData) → Key → Option PyData
  | [], _ => none
  | (a, b) :: r, k => if keyEq a k = true then some b else lookD r k
theorem keyEq_D {k j : Key} : keyEq (keyD k) j = decide (k = j) := by
  cases k <;> cases j <;> simp [keyEq, keyD]
theorem lookD_ok {K : PySem.W.Frag} {H : Hp} {k : Key} : ∀ {ds : List (PyData × PyData)} {kvs : List (Key × V)}, FDk K H ds kvs → (∀ d, lookD ds k = some d → ∃ v, valV kvs k = some v ∧ FD K H d v) ∧ (lookD ds k = none → valV kvs k = none)
  | _, _, .nil => ⟨(fun d e => nomatch e), fun _ => rfl⟩
  | _, _, .cons (k := j) (v := v) (vs := vs) (d := d) (ds := ds) h hs => by
    obtain ⟨h1, h2⟩ := lookD_ok (k := k) hs
    have e0 : lookD ((keyD j, d) :: ds) k = if keyEq (keyD j) k = true then some d else lookD ds k := rfl
    rw [e0, keyEq_D]
    by_cases e : j = k
    · rw [if_pos (decide_eq_true e)]
      exact ⟨fun d' z => ⟨v, valV_pos (p := (j, v)) e, Option.some.inj z ▸ h⟩, fun z => nomatch z⟩
    · rw [if_neg (by rw [decide_eq_false e]; exact Bool.false_ne_true), valV_neg (p := (j, v)) e]
      exact ⟨h1, h2⟩
def mDGet (d k z : ME) : ME := fun ρ S => (d ρ S).bind fun x S1 => match x with
  | .d (.dict ds) => (k ρ S1).bind fun y S2 => (z ρ S2).bind fun u S3 => match keyM y with
    | some key => .ok (match lookD ds key with | some v => .d v | none => u) S3
    | none => .bad
  | _ => .bad
theorem keyM_ok {K : PySem.W.Frag} {ι : Io} {H : Hp} {x : Mv} {v : V} {k : Key} (hx : XV K ι H x v) (e : keyM x = some k) : v = kV k := by
  unfold keyM at e
  split at e
  · cases e; cases (show FD _ _ _ _ from hx); rfl
  · cases e; cases (show FD _ _ _ _ from hx); rfl
  · cases e
theorem pm_dget {o e f : Expr} {md mk mz : ME} {apos cpos : Pos} (hu : X.A.units + 1 < cLine) (ho : PM X W o md) (he : PM X W e mk) (hf : PM X W f mz) (m : M2 X o "get" apos e f cpos) : PM X W (.Call (.Attribute o "get" apos) [e, f] [] cpos) (mDGet md mk mz) := by
  refine pe_imp (pe_dget2 hu ho he hf m) fun σ H Q ⟨ι, S, ρ, hl, hr, h⟩ => ?_
  refine ⟨ι, S, ρ, hl, hr, step h fun x v ι1 H1 S1 s1 r1 hx h1 => ?_⟩
  split at h1
  · rename_i ds
    cases (show FD _ _ _ _ from hx) with
    | @dct a ob kvs ds ha hk =>
      refine ⟨a, rfl, .inl ⟨kvs, .inr ⟨ob, ha⟩⟩, ι1, S1, ρ, hl.mono s1, r1, step h1 fun y u ι2 H2 S2 s2 r2 hy h2 => ?_⟩
      refine ⟨ι2, S2, ρ, (hl.mono s1).mono s2, r2, step h2 fun z w ι3 H3 S3 s3 r3 hz h3 => ?_⟩
      cases ek : keyM y with
      | none => rw [ek] at h3; exact h3.elim
      | some key =>
        rw [ek] at h3
        simp only at h3
        have g := (s2.trans s3).grow
        obtain ⟨l1, l2⟩ := lookD_ok (k := key) (FDk.mono g hk)
        refine ⟨valV kvs key, .inl ⟨kvs, key, .inr ⟨ob, g.frz _ _ _ ha⟩, keyM_ok hy ek, rfl⟩, ?_⟩
        cases el : lookD ds key with
        | none =>
          rw [el] at h3
          rw [l2 el]
          exact h3 _ _ _ (Sub.refl _ _) r3 hz
        | some d =>
          rw [el] at h3
          obtain ⟨v, e1, e2⟩ := l1 d el
          rw [e1]
          exact h3 _ _ _ (Sub.refl _ _) r3 e2
  · exact h1.elim
def mDIx (d k : ME) : ME := fun ρ S => (d ρ S).bind fun x S1 => (k ρ S1).bind fun y S2 => match x, keyM y with
  | .d (.dict ds), some key => (match lookD ds key with | some v => .ok (.d v) S2 | none => .bad)
  | _, _ => .bad
theorem pm_dix {o i : Expr} {md mk : ME} {pos : Pos} (hu : X.A.units + 1 < cLine) (ho : PM X W o md) (hi : PM X W i mk) (hs : NoSl i) : PM X W (.Subscript o i pos) (mDIx md mk) := by
  refine pe_imp (pe_dget hu ho hi hs) fun σ H Q ⟨ι, S, ρ, hl, hr, h⟩ => ?_
  refine ⟨ι, S, ρ, hl, hr, step h fun x v ι1 H1 S1 s1 r1 hx h1 => ?_⟩
  refine ⟨ι1, S1, ρ, hl.mono s1, r1, step h1 fun y u ι2 H2 S2 s2 r2 hy h2 => ?_⟩
  split at h2
  · rename_i ds key ek
    cases (show FD _ _ _ _ from hx) with
    | @dct a ob kvs ds ha hk =>
      obtain ⟨l1, l2⟩ := lookD_ok (k := key) (FDk.mono s2.grow hk)
      cases el : lookD ds key with
      | none => rw [el] at h2; exact h2.elim
      | some d =>
        rw [el] at h2
        obtain ⟨v, e1, e2⟩ := l1 d el
        exact ⟨a, v, rfl, .inl ⟨kvs, key, .inr ⟨ob, s2.grow.frz _ _ _ ha⟩, keyM_ok hy ek, e1.symm⟩, h2 _ _ _ (Sub.refl _ _) r2 e2⟩
  · exact h2.elim
def mDIn (k d : ME) : ME := fun ρ S => (k ρ S).bind fun y S1 => (d ρ S1).bind fun x S2 => match x, keyM y with
  | .d (.dict ds), some key => .ok (.d (.bool (lookD ds key).isSome)) S2
  | _, _ => .bad
theorem din_core {md mk : ME} {σ : L2.St} {H : Hp} {Q : VK} (h : tG (XV X.K) X.K W (mDIn mk md) σ H Q) : tDIn (tG (XV X.K) X.K W mk) (tG (XV X.K) X.K W md) σ H Q := by
  obtain ⟨ι, S, ρ, hl, hr, h⟩ := h
  refine ⟨ι, S, ρ, hl, hr, step h fun y u ι1 H1 S1 s1 r1 hy h1 => ?_⟩
  refine ⟨ι1, S1, ρ, hl.mono s1, r1, step h1 fun x v ι2 H2 S2 s2 r2 hx h2 => ?_⟩
  split at h2
  · rename_i ds key ek
    cases (show FD _ _ _ _ from hx) with
    | @dct a ob kvs ds ha hk =>
      obtain ⟨l1, l2⟩ := lookD_ok (k := key) hk
      refine ⟨a, valV kvs key, rfl, .inl ⟨kvs, key, .inr ⟨ob, ha⟩, keyM_ok (hy.mono s2) ek, rfl⟩, ?_⟩
      have e : (lookD ds key).isSome = (valV kvs key).isSome := by
        cases el : lookD ds key with
        | none => rw [l2 el]; rfl
        | some d => obtain ⟨v, e1, _⟩ := l1 d el; rw [e1]; rfl
      rw [e] at h2
      exact h2 _ _ _ (Sub.refl _ _) r2 (.bl _)
  · exact h2.elim
theorem pb_din {o i : Expr} {md mk : ME} {pos : Pos} (hu : X.A.units + 1 < cLine) (hi : PM X W i mk) (ho : PM X W o md) (hb : behindInMarks .In o = false := by rfl) : PB X W (.Compare i [.In] [o] pos) (mTst (mDIn mk md)) := by
  refine pt_imp (pt_cmp (pc_din hu hi ho) hb) fun σ H Q ⟨ι, S, ρ, hl, hr, h⟩ => ?_
  refine din_core (Q := fun x H' => ∃ k, x = .bl k ∧ Q k H') ⟨ι, S, ρ, hl, hr, step h fun x v ι1 H1 S1 s1 r1 hx h1 => ?_⟩
  cases x with
  | d y =>
    cases y with
    | bool k => cases hx; exact ⟨k, rfl, h1 _ _ _ (Sub.refl _ _) r1 rfl⟩
    | _ => exact h1.elim
  | _ => exact h1.elim
end
end MM
end
section
set_option Elab.async false
set_option linter.all false
set_option maxRecDepth 100000
set_option maxHeartbeats 4000000
set_option autoImplicit false
namespace MM
open PySem PySem.Spec PyProof.Rows L2
def lookC : List (Key × Mv) → Key → Option Mv
  | [], _ => none
  | (j, x) :: r, k => if j = k then some x else lookC r k
def putC (kvs : List (Key × Mv)) (k : Key) (x : Mv) : List (Key × Mv) :=
  if (lookC kvs k).isSome = true then kvs.map (fun p => if p.1 = k then (p.1, x) else p) else kvs ++ [(k, x)]
abbrev DR (K : PySem.W.Frag) (ι : Io) (H : Hp) : List (Key × Mv) → List (Key × V) → Prop := Paired fun p q => p.1 = q.1 ∧ XC K ι H p.2 q.2
theorem DR.look {K : PySem.W.Frag} {ι : Io} {H : Hp} {k : Key} : ∀ {kvs : List (Key × Mv)} {kv : List (Key × V)}, DR K ι H kvs kv → (∀ x, lookC kvs k = some x → ∃ v, valV kv k = some v ∧ XC K ι H x v) ∧ (lookC kvs k = none → valV kv k = none)
  | _, _, .nil => ⟨(fun x e => nomatch e), fun _ => rfl⟩
  | _, _, .cons (a := p) (b := q) (l₁ := r) h t => by
    obtain ⟨h1, h2⟩ := DR.look (k := k) t
    obtain ⟨e0, h⟩ := h
    have e1 : lookC (p :: r) k = if p.1 = k then some p.2 else lookC r k := rfl
    rw [e1]
    by_cases e : p.1 = k
    · rw [if_pos e]
      exact ⟨fun x z => ⟨q.2, valV_pos (e0 ▸ e), Option.some.inj z ▸ h⟩, fun z => nomatch z⟩
    · rw [if_neg e, valV_neg (p := q) (fun z => e (e0 ▸ z))]
      exact ⟨h1, h2⟩
theorem DR.look_some {K : PySem.W.Frag} {ι : Io} {H : Hp} {k : Key} {kvs : List (Key × Mv)} {kv : List (Key × V)} (h : DR K ι H kvs kv) : (lookC kvs k).isSome = (valV kv k).isSome := by
  obtain ⟨h1, h2⟩ := DR.look (k := k) h
  cases e : lookC kvs k with
  | none => rw [h2 e]; rfl
  | some x => obtain ⟨v, e1, _⟩ := h1 x e; rw [e1]; rfl
theorem DR.repl {K : PySem.W.Frag} {ι : Io} {H : Hp} {k : Key} {x : Mv} {v : V} (hx : XC K ι H x v) {kvs : List (Key × Mv)} {kv : List (Key × V)} (h : DR K ι H kvs kv) : DR K ι H (kvs.map (fun p => if p.1 = k then (p.1, x) else p)) (kv.map (fun p => if p.1 = k then (p.1, v) else p)) := by
  induction h with
  | nil => exact .nil
  | @cons p q ps qs hd t ih =>
    refine .cons ?_ ih
    show (if p.1 = k then (p.1, x) else p).1 = (if q.1 = k then (q.1, v) else q).1 ∧ XC K ι H (if p.1 = k then (p.1, x) else p).2 (if q.1 = k then (q.1, v) else q).2
    by_cases e : p.1 = k
    · rw [if_pos e, if_pos (hd.1 ▸ e)]; exact ⟨hd.1, hx⟩
    · rw [if_neg e, if_neg (fun z => e (hd.1 ▸ z))]; exact hd
theorem DR.put {K : PySem.W.Frag} {ι : Io} {H : Hp} {k : Key} {x : Mv} {v : V} (hx : XC K ι H x v) {kvs : List (Key × Mv)} {kv : List (Key × V)} (h : DR K ι H kvs kv) : DR K ι H (putC kvs k x) (putK kv k v) := by
  unfold putC putK
  rw [valV_any, ← DR.look_some (k := k) h]
  split
  · exact DR.repl hx h
  · exact Paired.append h (.cons ⟨rfl, hx⟩ .nil)
end MM
end
section
set_option Elab.async false
set_option linter.all false
set_option maxRecDepth 100000
set_option maxHeartbeats 4000000
set_option autoImplicit false
namespace MM
open PySem PySem.Spec PyProof.Rows L2
end MM
end
section
set_option Elab.async false
set_option linter.all false
set_option maxRecDepth 100000
set_option maxHeartbeats 4000000
set_option autoImplicit false
namespace MM.Q
open PySem PySem.Spec PyProof.Rows L2 MM
section
variable {α β : Type} {ρ : Rho} {S S' : Sg}
theorem bind_ok {x : α} {f : α → Sg → Res β} : (Res.ok x S).bind f = f x S := rfl
theorem bind_exc {e : Ex} {f : α → Sg → Res β} : (Res.exc e S : Res α).bind f = .exc e S := rfl
theorem go_ok {x : α} {f : α → Sg → RS} : (Res.ok x S).go ρ f = f x S := rfl
theorem go_exc {e : Ex} {f : α → Sg → RS} : (Res.exc e S : Res α).go ρ f = .exc e ρ S := rfl
theorem nox_ok {x : α} : (Res.ok x S).nox = .ok x S := rfl
def vr (o : Option (Option Mv)) (S : Sg) : Res Mv := match o with | some (some x) => .ok x S | _ => .bad
theorem vr_some {x : Mv} : vr (some (some x)) S = .ok x S := rfl
theorem ev_var {i : Nat} : mVar i ρ S = vr ρ[i]? S := rfl
theorem ev_c {d : PyData} : mC d ρ S = .ok (.d d) S := rfl
theorem ev_k {x : Mv} : mK x ρ S = .ok x S := rfl
def frzO (o : Option (List PyData)) (xs : List Mv) (S : Sg) : Res Mv := match o with | some ds => .ok (.d (.list ds)) S | none => .ok (.frl xs) S
def tupO (o : Option (List PyData)) (xs : List Mv) (S : Sg) : Res Mv := match o with | some ds => .ok (.d (.tuple ds)) S | none => .ok (.tup xs) S
theorem frzO_none {xs : List Mv} : frzO none xs S = .ok (.frl xs) S := rfl
theorem frzO_some {ds : List PyData} {xs : List Mv} : frzO (some ds) xs S = .ok (.d (.list ds)) S := rfl
theorem tupO_some {ds : List PyData} {xs : List Mv} : tupO (some ds) xs S = .ok (.d (.tuple ds)) S := rfl
theorem tupO_none {xs : List Mv} : tupO none xs S = .ok (.tup xs) S := rfl
theorem bear_val {b : Bi} {z : Mv} : bear b (.val z) S = .ok z S := rfl
theorem bear_frz {xs : List Mv} : bear .frz (.lst xs) S = frzO (allD xs) xs S := rfl
theorem bear_ref {xs : List Mv} : bear .ref (.lst xs) S = .ok (.ref S.length) (S ++ [(false, .lst xs)]) := rfl
theorem bear_own {xs : List Mv} : bear .own (.lst xs) S = .ok (.own S.length) (S ++ [(true, .lst xs)]) := rfl
theorem bear_tup {b : Bi} {xs : List Mv} : bear b (.tup xs) S = tupO (allD xs) xs S := rfl
theorem allD_nil : allD [] = some [] := rfl
theorem allD_cons {x : PyData} {r : List Mv} : allD (.d x :: r) = (allD r).map (x :: ·) := rfl
theorem allD_map (ds : List PyData) : allD (ds.map .d) = some ds := by
  induction ds with
  | nil => rfl
  | cons x r ih => rw [List.map_cons, allD_cons, ih]; rfl
def bearO (b : Bi) (o : Option Nw) (S : Sg) : Res Mv := opt o fun z => bear b z S
theorem bearO_some {b : Bi} {z : Nw} : bearO b (some z) S = bear b z S := rfl
def k2Bin (b : Bi) (g : Sg → Mv → Mv → Option Nw) (x : Mv) : Mv → Sg → Res Mv := fun y S => bearO b (g S x y) S
def k1Bin (b : Bi) (g : Sg → Mv → Mv → Option Nw) (c : ME) (ρ : Rho) : Mv → Sg → Res Mv := fun x S => (c ρ S).bind (k2Bin b g x)
theorem ev_bin {b : Bi} {g : Sg → Mv → Mv → Option Nw} {a c : ME} : mBin b g a c ρ S = (a ρ S).bind (k1Bin b g c ρ) := rfl
theorem ev_bin1 {b : Bi} {g : Sg → Mv → Mv → Option Nw} {c : ME} {x : Mv} : k1Bin b g c ρ x S = (c ρ S).bind (k2Bin b g x) := rfl
theorem ev_bin2 {b : Bi} {g : Sg → Mv → Mv → Option Nw} {x y : Mv} : k2Bin b g x y S = bearO b (g S x y) S := rfl
theorem add_int {i j : Int} : gAdd S (.d (.int i)) (.d (.int j)) = some (.val (.d (.int (i + j)))) := rfl
theorem add_str {a b : Str} (h : a.length + b.length ≤ sizeLine) : gAdd S (.d (.str a)) (.d (.str b)) = some (.val (.d (.str (a ++ b)))) := if_pos h
theorem mul_int {i j : Int} (h : (-(2 ^ 64) < i ∧ i < 2 ^ 64) ∨ (-(2 ^ 64) < j ∧ j < 2 ^ 64)) : gMul S (.d (.int i)) (.d (.int j)) = some (.val (.d (.int (i * j)))) := if_pos h
theorem mul_str {z : Str} {n : Int} (h : -(2 ^ 63) ≤ n ∧ n < 2 ^ 63 ∧ z.length * n.toNat ≤ sizeLine) : gMul S (.d (.str z)) (.d (.int n)) = some (.val (.d (.str (strRep z n.toNat)))) := if_pos h
theorem mod_int {i j : Int} (h : 0 < j) : gMod S (.d (.int i)) (.d (.int j)) = some (.val (.d (.int (i % j)))) := if_pos h
theorem fdiv_int {i j : Int} (h : 0 < j ∧ j < 2 ^ 64) : gFdiv S (.d (.int i)) (.d (.int j)) = some (.val (.d (.int (i / j)))) := if_pos h
theorem pow_int {i j : Int} (h : 0 ≤ j ∧ j ≤ 1000000 ∧ i.natAbs < 2 ^ 64) : gPow S (.d (.int i)) (.d (.int j)) = some (.val (.d (.int (i ^ j.toNat)))) := if_pos h
theorem intB_int {f : Int → Int → Bool} {i j : Int} : gIntB f S (.d (.int i)) (.d (.int j)) = some (.val (.d (.bool (f i j)))) := rfl
def datO (o : Option (Bool × List Mv)) : Option PyData := match o with
  | some (false, xs) => (allD xs).map .list
  | some (true, xs) => (allD xs).map .tuple
  | none => none
theorem datO_f {xs : List Mv} : datO (some (false, xs)) = (allD xs).map .list := rfl
theorem datO_t {xs : List Mv} : datO (some (true, xs)) = (allD xs).map .tuple := rfl
theorem data_d {x : PyData} : Mv.data S (.d x) = some x := rfl
theorem data_ref {i : Nat} : Mv.data S (.ref i) = datO (Mv.seq S (.ref i)) := by
  show (match Mv.seq S (.ref i) with | some (false, xs) => (allD xs).map PyData.list | some (true, xs) => (allD xs).map PyData.tuple | none => none) = _
  cases Mv.seq S (.ref i) with
  | none => rfl
  | some p => obtain ⟨t, xs⟩ := p; cases t <;> rfl
theorem data_own {i : Nat} : Mv.data S (.own i) = datO (Mv.seq S (.own i)) := by
  show (match Mv.seq S (.own i) with | some (false, xs) => (allD xs).map PyData.list | some (true, xs) => (allD xs).map PyData.tuple | none => none) = _
  cases Mv.seq S (.own i) with
  | none => rfl
  | some p => obtain ⟨t, xs⟩ := p; cases t <;> rfl
def eqC (neg : Bool) (d e : PyData) : Option Nw := if SeqAt.shaped d = true ∧ SeqAt.shaped e = true then some (.val (.d (.bool (if neg then !PyData.eqv d e else PyData.eqv d e)))) else none
def eqO (neg : Bool) (o p : Option PyData) : Option Nw := match o, p with | some d, some e => eqC neg d e | _, _ => none
theorem ev_eq_r {neg : Bool} {i : Nat} {y : Mv} : gEqN neg S (.ref i) y = eqO neg (Mv.data S (.ref i)) (y.data S) := rfl
theorem ev_eq_o {neg : Bool} {i : Nat} {y : Mv} : gEqN neg S (.own i) y = eqO neg (Mv.data S (.own i)) (y.data S) := rfl
theorem ev_eq_l {neg : Bool} {i : List PyData} {y : Mv} : gEqN neg S (.d (.list i)) y = eqO neg (some (.list i)) (y.data S) := rfl
theorem ev_eq_t {neg : Bool} {i : List PyData} {y : Mv} : gEqN neg S (.d (.tuple i)) y = eqO neg (some (.tuple i)) (y.data S) := rfl
theorem ev_eq_i {neg : Bool} {i : Int} {y : Mv} : gEqN neg S (.d (.int i)) y = eqO neg (some (.int i)) (y.data S) := rfl
theorem ev_eq_b {neg : Bool} {i : Bool} {y : Mv} : gEqN neg S (.d (.bool i)) y = eqO neg (some (.bool i)) (y.data S) := rfl
theorem ev_eq_n {neg : Bool} {y : Mv} : gEqN neg S (.d .none) y = eqO neg (some .none) (y.data S) := rfl
theorem ev_eq_st {i j : Str} : gEqN true S (.d (.str i)) (.d (.str j)) = some (.val (.d (.bool (!decide (i = j))))) := rfl
theorem ev_eq_sf {i j : Str} : gEqN false S (.d (.str i)) (.d (.str j)) = some (.val (.d (.bool (decide (i = j))))) := rfl
theorem eqO_some {neg : Bool} {d e : PyData} : eqO neg (some d) (some e) = eqC neg d e := rfl
theorem eqC_t {d e : PyData} (s1 : SeqAt.shaped d = true) (s2 : SeqAt.shaped e = true) : eqC true d e = some (.val (.d (.bool (!PyData.eqv d e)))) := if_pos ⟨s1, s2⟩
theorem eqC_f {d e : PyData} (s1 : SeqAt.shaped d = true) (s2 : SeqAt.shaped e = true) : eqC false d e = some (.val (.d (.bool (PyData.eqv d e)))) := if_pos ⟨s1, s2⟩
theorem shaped_int {i : Int} : SeqAt.shaped (.int i) = true := by simp [SeqAt.shaped, PyData.canLay0, PyData.depth]
theorem shaped_bool {i : Bool} : SeqAt.shaped (.bool i) = true := by simp [SeqAt.shaped, PyData.canLay0, PyData.depth]
theorem shaped_str {z : Str} : SeqAt.shaped (.str z) = PyData.strOk z := by simp [SeqAt.shaped, PyData.canLay0, PyData.depth]
theorem shaped_nil : SeqAt.shaped (.list []) = true := by simp [SeqAt.shaped, PyData.canLay0, PyData.canLayAll0, PyData.depth, PyData.depthAll]
theorem flat_depth {xs : List PyData} (h : ∀ x ∈ xs, x.depth = 0) : PyData.depthAll xs = 0 := by
  induction xs with
  | nil => rfl
  | cons x r ih => simp only [PyData.depthAll]; rw [h x (List.mem_cons_self ..), ih fun y hy => h y (List.mem_cons_of_mem _ hy)]; rfl
theorem flat_lay {xs : List PyData} (h : ∀ x ∈ xs, x.canLay0 = true) : PyData.canLayAll0 xs = true := by
  induction xs with
  | nil => rfl
  | cons x r ih => simp only [PyData.canLayAll0]; rw [h x (List.mem_cons_self ..), ih fun y hy => h y (List.mem_cons_of_mem _ hy)]; rfl
theorem shaped_flat {xs : List PyData} (h : ∀ x ∈ xs, x.canLay0 = true ∧ x.depth = 0) : SeqAt.shaped (.list xs) = true ∧ SeqAt.shaped (.tuple xs) = true := by
  have h1 := flat_lay fun x hx => (h x hx).1
  have h2 := flat_depth fun x hx => (h x hx).2
  simp [SeqAt.shaped, PyData.canLay0, PyData.depth, h1, h2]
theorem shaped_ints {xs : List Int} : SeqAt.shaped (.list (xs.map .int)) = true := (shaped_flat fun x hx => by
  obtain ⟨n, _, rfl⟩ := List.mem_map.mp hx
  simp [PyData.canLay0, PyData.depth]).1
theorem eqv_nil {xs : List PyData} : PyData.eqv (.list xs) (.list []) = xs.isEmpty := by cases xs <;> simp [PyData.eqv, PyData.eqvAll]
theorem eqv_int {i j : Int} : PyData.eqv (.int i) (.int j) = (i == j) := by simp [PyData.eqv]
theorem eqv_str {i j : Str} : PyData.eqv (.str i) (.str j) = (i == j) := by simp [PyData.eqv]
theorem eqv_bool {i j : Bool} : PyData.eqv (.bool i) (.bool j) = (i == j) := by simp [PyData.eqv]
theorem in_str {i j : Str} : gInN false S (.d (.str i)) (.d (.str j)) = some (.val (.d (.bool (inStr i j)))) := rfl
theorem notIn_str {i j : Str} : gInN true S (.d (.str i)) (.d (.str j)) = some (.val (.d (.bool (!inStr i j)))) := rfl
theorem is_bool {a b : Bool} : gIsN false S (.d (.bool a)) (.d (.bool b)) = some (.val (.d (.bool (decide (a = b))))) := rfl
theorem isnot_bool {a b : Bool} : gIsN true S (.d (.bool a)) (.d (.bool b)) = some (.val (.d (.bool (!decide (a = b))))) := rfl
def tstO (x : Mv) (S : Sg) : Res Bool := match x with | .d (.bool b) => .ok b S | _ => .bad
theorem tst_bool {b : Bool} : tstO (.d (.bool b)) S = .ok b S := rfl
theorem ev_tst {m : ME} : mTst m ρ S = (m ρ S).bind tstO := rfl
def truO (o : Option Bool) (S : Sg) : Res Bool := match o with | some k => .ok k S | none => .bad
def kTru : Mv → Sg → Res Bool := fun x S => truO (x.truth S) S
theorem ev_truth {m : ME} : mTruth m ρ S = (m ρ S).bind kTru := rfl
theorem ev_tru {x : Mv} : kTru x S = truO (x.truth S) S := rfl
theorem truO_some {k : Bool} : truO (some k) S = .ok k S := rfl
theorem truth_bool {b : Bool} : Mv.truth S (.d (.bool b)) = some b := rfl
theorem truth_int {i : Int} : Mv.truth S (.d (.int i)) = some (i != 0) := rfl
theorem truth_none : Mv.truth S (.d .none) = some false := rfl
theorem truth_list {xs : List PyData} : Mv.truth S (.d (.list xs)) = some (!xs.isEmpty) := rfl
theorem truth_tup {xs : List PyData} : Mv.truth S (.d (.tuple xs)) = some (!xs.isEmpty) := rfl
def kAndB (b : MT) (ρ : Rho) : Bool → Sg → Res Bool := fun k S => if k = true then b ρ S else .ok false S
def kOrB (b : MT) (ρ : Rho) : Bool → Sg → Res Bool := fun k S => if k = true then .ok true S else b ρ S
def kNotB : Bool → Sg → Res Bool := fun k S => .ok (!k) S
theorem ev_andB {a b : MT} : mAndB a b ρ S = (a ρ S).bind (kAndB b ρ) := rfl
theorem ev_orB {a b : MT} : mOrB a b ρ S = (a ρ S).bind (kOrB b ρ) := rfl
theorem ev_notB {a : MT} : mNotB a ρ S = (a ρ S).bind kNotB := rfl
theorem andB_t {b : MT} : kAndB b ρ true S = b ρ S := rfl
theorem andB_f {b : MT} : kAndB b ρ false S = .ok false S := rfl
theorem orB_t {b : MT} : kOrB b ρ true S = .ok true S := rfl
theorem orB_f {b : MT} : kOrB b ρ false S = b ρ S := rfl
theorem ev_notB1 {k : Bool} : kNotB k S = .ok (!k) S := rfl
def kAnd (b : ME) (ρ : Rho) : Mv → Sg → Res Mv := fun x S => match x.truth S with | some true => b ρ S | some false => .ok x S | none => .bad
theorem ev_and {a b : ME} : mAnd a b ρ S = (a ρ S).bind (kAnd b ρ) := rfl
theorem and_tB {b : ME} : kAnd b ρ (.d (.bool true)) S = b ρ S := rfl
theorem and_fB {b : ME} : kAnd b ρ (.d (.bool false)) S = .ok (.d (.bool false)) S := rfl
def kIfE (a b : ME) (ρ : Rho) : Bool → Sg → Res Mv := fun k S => if k = true then a ρ S else b ρ S
theorem ev_ifE {c : MT} {a b : ME} : mIf c a b ρ S = (c ρ S).bind (kIfE a b ρ) := rfl
theorem ifE_t {a b : ME} : kIfE a b ρ true S = a ρ S := rfl
theorem ifE_f {a b : ME} : kIfE a b ρ false S = b ρ S := rfl
def k2Cons (x : Mv) : List Mv → Sg → Res (List Mv) := fun xs S => .ok (x :: xs) S
def k1Cons (r : MA) (ρ : Rho) : Mv → Sg → Res (List Mv) := fun x S => (r ρ S).bind (k2Cons x)
theorem ev_nil : mNil ρ S = .ok [] S := rfl
theorem ev_cons {a : ME} {r : MA} : mCons a r ρ S = (a ρ S).bind (k1Cons r ρ) := rfl
theorem ev_cons1 {r : MA} {x : Mv} : k1Cons r ρ x S = (r ρ S).bind (k2Cons x) := rfl
theorem ev_cons2 {x : Mv} {xs : List Mv} : k2Cons x xs S = .ok (x :: xs) S := rfl
def kDisp (b : Bi) (tup : Bool) : List Mv → Sg → Res Mv := fun xs S => if frees xs = true ∧ xs.length ≤ sizeLine then bear b (if tup = true then .tup xs else .lst xs) S else .bad
theorem ev_disp {b : Bi} {tup : Bool} {a : MA} : mDisp b tup a ρ S = (a ρ S).bind (kDisp b tup) := rfl
theorem disp_lst {b : Bi} {xs : List Mv} (h : frees xs = true) (h2 : xs.length ≤ sizeLine) : kDisp b false xs S = bear b (.lst xs) S := if_pos ⟨h, h2⟩
theorem disp_tup {b : Bi} {xs : List Mv} (h : frees xs = true) (h2 : xs.length ≤ sizeLine) : kDisp b true xs S = bear b (.tup xs) S := if_pos ⟨h, h2⟩
theorem frees_nil : frees [] = true := rfl
theorem frees_cons {x : Mv} {xs : List Mv} : frees (x :: xs) = (x.free && frees xs) := rfl
theorem free_d {x : PyData} : Mv.free (.d x) = true := rfl
theorem free_ref {i : Nat} : Mv.free (.ref i) = true := rfl
theorem free_adr {i : Addr} : Mv.free (.adr i) = true := rfl
/-- whole numbers as values -/
def dI (xs : List Int) : List Mv := (xs.map PyData.int).map .d
theorem dI_snoc {xs : List Int} {x : Int} : dI (xs ++ [x]) = dI xs ++ [.d (.int x)] := by simp [dI]
theorem dI_len {xs : List Int} : (dI xs).length = xs.length := by simp [dI]
theorem allD_dI {xs : List Int} : allD (dI xs) = some (xs.map .int) := allD_map _
theorem dI_nil : dI [] = [] := rfl
theorem allD_dIs {xs : List Int} {x : Int} : allD (dI xs ++ [.d (.int x)]) = some ((xs ++ [x]).map .int) := by rw [← dI_snoc, allD_dI]
theorem frees_map (ds : List PyData) : frees (ds.map .d) = true := by
  induction ds with
  | nil => rfl
  | cons x r ih => rw [List.map_cons, frees_cons, ih]; rfl
def kCB (b : Bi) (g : Sg → List Mv → Option Nw) : List Mv → Sg → Res Mv := fun xs S => bearO b (g S xs) S
theorem ev_cb {b : Bi} {g : Sg → List Mv → Option Nw} {a : MA} : mCB b g a ρ S = (a ρ S).bind (kCB b g) := rfl
theorem ev_cb1 {b : Bi} {g : Sg → List Mv → Option Nw} {xs : List Mv} : kCB b g xs S = bearO b (g S xs) S := rfl
def kCall (n : Nat) (f : List Mv → Sg → Res Mv) (ds : List Mv) : List Mv → Sg → Res Mv := fun xs S => if frees xs = true ∧ (xs ++ ds).length = n then f (xs ++ ds) S else .bad
theorem ev_call {n : Nat} {f : List Mv → Sg → Res Mv} {ds : List Mv} {a : MA} : mCall n f ds a ρ S = (a ρ S).bind (kCall n f ds) := rfl
theorem ev_call1 {n : Nat} {f : List Mv → Sg → Res Mv} {ds xs : List Mv} (h : frees xs = true) (h2 : (xs ++ ds).length = n) : kCall n f ds xs S = f (xs ++ ds) S := if_pos ⟨h, h2⟩
theorem ev_call0 {f : List Mv → Sg → Res Mv} : mCall0 f ρ S = f [] S := rfl
def lddO (n : Nat) (f : List Mv → Sg → Res Mv) (o : Option (List Mv)) (S : Sg) : Res Mv := match o with
  | some zs => if frees zs = true ∧ zs.length = n then f zs S else .bad
  | none => .bad
def k2CallK (n : Nat) (f : List Mv → Sg → Res Mv) (os : List Sr) (ds xs : List Mv) : List Mv → Sg → Res Mv := fun ys S => lddO n f (laid xs ys ds os) S
def k1CallK (n : Nat) (f : List Mv → Sg → Res Mv) (os : List Sr) (ds : List Mv) (k : MA) (ρ : Rho) : List Mv → Sg → Res Mv := fun xs S => (k ρ S).bind (k2CallK n f os ds xs)
theorem ev_callK {n : Nat} {f : List Mv → Sg → Res Mv} {os : List Sr} {ds : List Mv} {a k : MA} : mCallK n f os ds a k ρ S = (a ρ S).bind (k1CallK n f os ds k ρ) := by
  unfold mCallK
  congr 1
theorem ev_callK1 {n : Nat} {f : List Mv → Sg → Res Mv} {os : List Sr} {ds xs : List Mv} {k : MA} : k1CallK n f os ds k ρ xs S = (k ρ S).bind (k2CallK n f os ds xs) := rfl
theorem ev_callK2 {n : Nat} {f : List Mv → Sg → Res Mv} {os : List Sr} {ds xs ys : List Mv} : k2CallK n f os ds xs ys S = lddO n f (laid xs ys ds os) S := rfl
theorem ldd_some {n : Nat} {f : List Mv → Sg → Res Mv} {zs : List Mv} (h : frees zs = true) (h2 : zs.length = n) : lddO n f (some zs) S = f zs S := if_pos ⟨h, h2⟩
theorem laid_nil {us ws ds : List Mv} : laid us ws ds [] = some [] := rfl
theorem laid_k {us ws ds : List Mv} {i : Nat} {r : List Sr} : laid us ws ds (.k i :: r) = (ws[i]?).bind fun x => (laid us ws ds r).map (x :: ·) := rfl
theorem laid_p {us ws ds : List Mv} {i : Nat} {r : List Sr} : laid us ws ds (.p i :: r) = (us[i]?).bind fun x => (laid us ws ds r).map (x :: ·) := rfl
theorem laid_v {us ws ds : List Mv} {i : Nat} {r : List Sr} : laid us ws ds (.v i :: r) = (ds[i]?).bind fun x => (laid us ws ds r).map (x :: ·) := rfl
def ixO (o : Option Mv) (S : Sg) : Res Mv := match o with | some z => .ok z S | none => .bad
theorem ixO_some {z : Mv} : ixO (some z) S = .ok z S := rfl
def k2Ix (x : Mv) : Mv → Sg → Res Mv := fun y S => ixO (gIx S x y) S
def k1Ix (b : ME) (ρ : Rho) : Mv → Sg → Res Mv := fun x S => (b ρ S).bind (k2Ix x)
theorem ev_ix {a b : ME} : mIx a b ρ S = (a ρ S).bind (k1Ix b ρ) := rfl
theorem ev_ix1 {b : ME} {x : Mv} : k1Ix b ρ x S = (b ρ S).bind (k2Ix x) := rfl
theorem ev_ix2 {x y : Mv} : k2Ix x y S = ixO (gIx S x y) S := rfl
theorem ix_str {z : Str} {i : Int} (h : z.length ≤ sizeLine) : gIx S (.d (.str z)) (.d (.int i)) = (atI z.cps.toList i).map fun c => .d (.str ⟨#[c]⟩) := if_pos h
theorem ix_list {xs : List PyData} {i : Int} : gIx S (.d (.list xs)) (.d (.int i)) = atI (xs.map .d) i := rfl
theorem ix_tup {xs : List PyData} {i : Int} : gIx S (.d (.tuple xs)) (.d (.int i)) = atI (xs.map .d) i := rfl
/-- what a cell tells as a sequence -/
def refS (fl : Bool) (o : Option (Bool × Mo)) : Option (Bool × List Mv) := match o with
  | some (c, .lst xs) => if c = fl then some (false, xs) else none
  | some (c, .tup xs) => if c = fl then some (true, xs) else none
  | _ => none
theorem refS_lst {fl : Bool} {xs : List Mv} : refS fl (some (fl, .lst xs)) = some (false, xs) := if_pos rfl
theorem refS_tup {fl : Bool} {xs : List Mv} : refS fl (some (fl, .tup xs)) = some (true, xs) := if_pos rfl
theorem seq_ref {i : Nat} : Mv.seq S (.ref i) = refS false S[i]? := by
  simp only [Mv.seq]
  cases S[i]? with
  | none => rfl
  | some p => obtain ⟨c, o⟩ := p; cases o <;> cases c <;> rfl
theorem seq_own {i : Nat} : Mv.seq S (.own i) = refS true S[i]? := by
  simp only [Mv.seq]
  cases S[i]? with
  | none => rfl
  | some p => obtain ⟨c, o⟩ := p; cases o <;> cases c <;> rfl
theorem seq_list {xs : List PyData} : Mv.seq S (.d (.list xs)) = some (false, xs.map .d) := rfl
theorem seq_tup {xs : List PyData} : Mv.seq S (.d (.tuple xs)) = some (true, xs.map .d) := rfl
def ixK (i : Int) (o : Option (Bool × List Mv)) : Option Mv := match o with | some q => atI q.2 i | none => none
theorem ixK_some {i : Int} {b : Bool} {xs : List Mv} : ixK i (some (b, xs)) = atI xs i := rfl
theorem ix_ref {j : Nat} {i : Int} : gIx S (.ref j) (.d (.int i)) = ixK i (Mv.seq S (.ref j)) := by
  show (Mv.seq S (.ref j)).bind _ = _
  cases Mv.seq S (.ref j) <;> rfl
theorem ix_own {j : Nat} {i : Int} : gIx S (.own j) (.d (.int i)) = ixK i (Mv.seq S (.own j)) := by
  show (Mv.seq S (.own j)).bind _ = _
  cases Mv.seq S (.own j) <;> rfl
def listO (o : Option (Bool × List Mv)) : Option (List Mv) := match o with | some (false, xs) => some xs | _ => none
theorem listO_f {xs : List Mv} : listO (some (false, xs)) = some xs := rfl
theorem ev_list {x : Mv} : x.isList S = listO (x.seq S) := rfl
theorem at0 {α : Type} {x : α} {r : List α} : atI (x :: r) 0 = some x := by
  unfold atI ixN; rw [if_pos (by omega), if_pos (by rw [List.length_cons]; omega)]; rfl
theorem at1 {α : Type} {x y : α} {r : List α} : atI (x :: y :: r) 1 = some y := by
  unfold atI ixN; rw [if_pos (by omega), if_pos (by simp only [List.length_cons]; omega)]; rfl
theorem at2 {α : Type} {x y z : α} {r : List α} : atI (x :: y :: z :: r) 2 = some z := by
  unfold atI ixN; rw [if_pos (by omega), if_pos (by simp only [List.length_cons]; omega)]; rfl
theorem at3 {α : Type} {x y z u : α} {r : List α} : atI (x :: y :: z :: u :: r) 3 = some u := by
  unfold atI ixN; rw [if_pos (by omega), if_pos (by simp only [List.length_cons]; omega)]; rfl
theorem at4 {α : Type} {x y z u v : α} {r : List α} : atI (x :: y :: z :: u :: v :: r) 4 = some v := by
  unfold atI ixN; rw [if_pos (by omega), if_pos (by simp only [List.length_cons]; omega)]; rfl
theorem atI_nat {α : Type} {xs : List α} {i : Int} (h0 : 0 ≤ i) (h1 : i < xs.length) : atI xs i = xs[i.toNat]? := by
  unfold atI ixN; rw [if_pos h0, if_pos h1]; rfl
theorem ixN0 {n : Nat} : ixN (n + 1) 0 = some 0 := by unfold ixN; rw [if_pos (by omega), if_pos (by omega)]; rfl
theorem ixN1 {n : Nat} : ixN (n + 1 + 1) 1 = some 1 := by unfold ixN; rw [if_pos (by omega), if_pos (by omega)]; rfl
theorem ixN2 {n : Nat} : ixN (n + 1 + 1 + 1) 2 = some 2 := by unfold ixN; rw [if_pos (by omega), if_pos (by omega)]; rfl
theorem ev_oN : mON ρ S = .ok none S := rfl
def kOS (x : Mv) (S : Sg) : Res (Option Int) := match x with | .d (.int i) => .ok (some i) S | _ => .bad
theorem ev_oS {m : ME} : mOS m ρ S = (m ρ S).bind kOS := rfl
theorem oS_int {i : Int} : kOS (.d (.int i)) S = .ok (some i) S := rfl
def k3Sl (b : Bi) (x : Mv) (l : Option Int) : Option Int → Sg → Res Mv := fun u S => bearO b (gSl S x l u) S
def k2Sl (b : Bi) (x : Mv) (hi : MO) (ρ : Rho) : Option Int → Sg → Res Mv := fun l S => (hi ρ S).bind (k3Sl b x l)
def k1Sl (b : Bi) (lo hi : MO) (ρ : Rho) : Mv → Sg → Res Mv := fun x S => (lo ρ S).bind (k2Sl b x hi ρ)
theorem ev_sl {b : Bi} {a : ME} {lo hi : MO} : mSl b a lo hi ρ S = (a ρ S).bind (k1Sl b lo hi ρ) := rfl
theorem ev_sl1 {b : Bi} {lo hi : MO} {x : Mv} : k1Sl b lo hi ρ x S = (lo ρ S).bind (k2Sl b x hi ρ) := rfl
theorem ev_sl2 {b : Bi} {hi : MO} {x : Mv} {l : Option Int} : k2Sl b x hi ρ l S = (hi ρ S).bind (k3Sl b x l) := rfl
theorem ev_sl3 {b : Bi} {x : Mv} {l u : Option Int} : k3Sl b x l u S = bearO b (gSl S x l u) S := rfl
theorem sl_txt {z : Str} {l u : Option Int} (h : z.length ≤ sizeLine) : gSl S (.d (.str z)) l u = some (.val (.d (.str (cutS z l u)))) := if_pos h
def kRev (b : Bi) : Mv → Sg → Res Mv := fun x S => match x with
  | .d (.str z) => if z.length ≤ sizeLine then .ok (.d (.str (revS z))) S else .bad
  | .d (.tuple ds) => .ok (.d (.tuple ds.reverse)) S
  | x => match x.isList S with | some xs => bear b (.lst xs.reverse) S | none => .bad
theorem rev_tup {b : Bi} {ds : List PyData} : kRev b (.d (.tuple ds)) S = .ok (.d (.tuple ds.reverse)) S := rfl
theorem ev_rev {b : Bi} {m : ME} : mRev b m ρ S = (m ρ S).bind (kRev b) := by
  unfold mRev
  congr 1
theorem rev_str {b : Bi} {z : Str} (h : z.length ≤ sizeLine) : kRev b (.d (.str z)) S = .ok (.d (.str (revS z))) S := if_pos h
theorem rev_list {b : Bi} {xs : List PyData} : kRev b (.d (.list xs)) S = bear b (.lst (xs.map Mv.d).reverse) S := rfl
def k2BM (b : Bi) (g : Sg → Mv → List Mv → Option Nw) (x : Mv) : List Mv → Sg → Res Mv := fun xs S => bearO b (g S x xs) S
def k1BM (b : Bi) (T : String) (g : Sg → Mv → List Mv → Option Nw) (a : MA) (ρ : Rho) : Mv → Sg → Res Mv := fun x S => if tyM T x S = true then (a ρ S).bind (k2BM b g x) else .bad
theorem ev_bm {b : Bi} {T : String} {g : Sg → Mv → List Mv → Option Nw} {o : ME} {a : MA} : mBM b T g o a ρ S = (o ρ S).bind (k1BM b T g a ρ) := rfl
def cBM (c : Bool) (b : Bi) (g : Sg → Mv → List Mv → Option Nw) (a : MA) (ρ : Rho) (x : Mv) (S : Sg) : Res Mv := if c = true then (a ρ S).bind (k2BM b g x) else .bad
theorem ev_bm1 {b : Bi} {T : String} {g : Sg → Mv → List Mv → Option Nw} {a : MA} {x : Mv} : k1BM b T g a ρ x S = cBM (tyM T x S) b g a ρ x S := rfl
theorem cBM_t {b : Bi} {g : Sg → Mv → List Mv → Option Nw} {a : MA} {x : Mv} : cBM true b g a ρ x S = (a ρ S).bind (k2BM b g x) := rfl
theorem ev_bm2 {b : Bi} {g : Sg → Mv → List Mv → Option Nw} {x : Mv} {xs : List Mv} : k2BM b g x xs S = bearO b (g S x xs) S := rfl
def buO (o : Option (Mv × Sg)) : Res Mv := match o with | some (z, S') => .ok z S' | none => .bad
theorem buO_some {z : Mv} : buO (some (z, S)) = .ok z S := rfl
def k2BU (g : Sg → Mv → List Mv → Option (Mv × Sg)) (x : Mv) : List Mv → Sg → Res Mv := fun xs S => buO (g S x xs)
def k1BU (T : String) (g : Sg → Mv → List Mv → Option (Mv × Sg)) (a : MA) (ρ : Rho) : Mv → Sg → Res Mv := fun x S => if tyM T x S = true then (a ρ S).bind (k2BU g x) else .bad
theorem ev_bu {T : String} {g : Sg → Mv → List Mv → Option (Mv × Sg)} {o : ME} {a : MA} : mBU T g o a ρ S = (o ρ S).bind (k1BU T g a ρ) := rfl
def cBU (c : Bool) (g : Sg → Mv → List Mv → Option (Mv × Sg)) (a : MA) (ρ : Rho) (x : Mv) (S : Sg) : Res Mv := if c = true then (a ρ S).bind (k2BU g x) else .bad
theorem ev_bu1 {T : String} {g : Sg → Mv → List Mv → Option (Mv × Sg)} {a : MA} {x : Mv} : k1BU T g a ρ x S = cBU (tyM T x S) g a ρ x S := rfl
theorem cBU_t {g : Sg → Mv → List Mv → Option (Mv × Sg)} {a : MA} {x : Mv} : cBU true g a ρ x S = (a ρ S).bind (k2BU g x) := rfl
theorem ev_bu2 {g : Sg → Mv → List Mv → Option (Mv × Sg)} {x : Mv} {xs : List Mv} : k2BU g x xs S = buO (g S x xs) := rfl
theorem ty_str {T : String} {z : Str} : tyM T (.d (.str z)) S = (T == "str") := rfl
def tyO (T : String) (o : Option (List Mv)) : Bool := match o with | some _ => T == "list" | none => false
theorem tyO_some {T : String} {xs : List Mv} : tyO T (some xs) = (T == "list") := rfl
theorem ty_ref {T : String} {i : Nat} : tyM T (.ref i) S = tyO T (Mv.isList S (.ref i)) := rfl
theorem ty_own {T : String} {i : Nat} : tyM T (.own i) S = tyO T (Mv.isList S (.own i)) := rfl
theorem ty_list {T : String} {xs : List PyData} : tyM T (.d (.list xs)) S = (T == "list") := rfl
theorem beq_ll : (("list" : String) == "list") = true := by decide
theorem beq_ss : (("str" : String) == "str") = true := by decide
def celO (fl : Bool) (i : Nat) (o : Option (Bool × Mo)) : Option (Nat × Bool × Mo) := match o with | some (c, o) => if c = fl then some (i, fl, o) else none | none => none
theorem celO_some {fl : Bool} {i : Nat} {o : Mo} : celO fl i (some (fl, o)) = some (i, fl, o) := if_pos rfl
theorem cell_ref {i : Nat} : Mv.cell S (.ref i) = celO false i S[i]? := by
  unfold Mv.cell; simp only
  cases S[i]? with
  | none => rfl
  | some p => obtain ⟨c, o⟩ := p; cases c <;> rfl
theorem cell_own {i : Nat} : Mv.cell S (.own i) = celO true i S[i]? := by
  unfold Mv.cell; simp only
  cases S[i]? with
  | none => rfl
  | some p => obtain ⟨c, o⟩ := p; cases c <;> rfl
def appO (o : Option (Nat × Bool × Mo)) (y : Mv) (S : Sg) : Option (Mv × Sg) := match o with
  | some (i, b, .lst zs) => if y.free = true ∧ zs.length < sizeLine then some (.d .none, S.set i (b, .lst (zs ++ [y]))) else none
  | _ => none
theorem ev_append {x y : Mv} : uAppend S x [y] = appO (x.cell S) y S := rfl
theorem appO_some {y : Mv} {i : Nat} {b : Bool} {zs : List Mv} (h1 : y.free = true) (h2 : zs.length < sizeLine) : appO (some (i, b, .lst zs)) y S = some (.d .none, S.set i (b, .lst (zs ++ [y]))) := if_pos ⟨h1, h2⟩
def popO (o : Option (Nat × Bool × Mo)) (S : Sg) : Option (Mv × Sg) := match o with
  | some (i, b, .lst zs) => (zs[zs.length - 1]?).map fun y => (y, S.set i (b, .lst zs.dropLast))
  | _ => none
theorem ev_pop {x : Mv} : uPop S x [] = popO (x.cell S) S := rfl
theorem popO_snoc {i : Nat} {b : Bool} {zs : List Mv} {y : Mv} : popO (some (i, b, .lst (zs ++ [y]))) S = some (y, S.set i (b, .lst zs)) := by
  unfold popO; simp
def k2Ind (z : Str) (xs : List Mv) (S : Sg) : Res Mv := match xs with
  | [.d (.str y)] => match Txt.index0 z y with | some k => .ok (.d (.int (k : Nat))) S | none => .exc exVal S
  | _ => .bad
def k1Ind (a : MA) (ρ : Rho) : Mv → Sg → Res Mv := fun x S => match x with
  | .d (.str z) => (a ρ S).bind (k2Ind z)
  | _ => .bad
theorem ev_ind {o : ME} {a : MA} : mIndex o a ρ S = (o ρ S).bind (k1Ind a ρ) := rfl
theorem ev_ind1 {a : MA} {z : Str} : k1Ind a ρ (.d (.str z)) S = (a ρ S).bind (k2Ind z) := rfl
theorem ind_some {z y : Str} {k : Nat} (h : Txt.index0 z y = some k) : k2Ind z [.d (.str y)] S = .ok (.d (.int (k : Nat))) S := by unfold k2Ind; simp only; rw [h]
def negO (x : Mv) (S : Sg) : Res Mv := match x with | .d (.int i) => .ok (.d (.int (-i))) S | _ => .bad
theorem ev_neg {a : ME} : mNeg a ρ S = (a ρ S).bind negO := rfl
theorem neg_int {i : Int} : negO (.d (.int i)) S = .ok (.d (.int (-i))) S := rfl
def itO (o : Option (List Mv)) (S : Sg) : Res (List Mv) := match o with | some xs => .ok xs S | none => .bad
def kIt : Mv → Sg → Res (List Mv) := fun x S => itO x.items S
theorem ev_iter {m : ME} : mIter m ρ S = (m ρ S).bind kIt := rfl
theorem ev_it {x : Mv} : kIt x S = itO x.items S := rfl
theorem itO_some {xs : List Mv} : itO (some xs) S = .ok xs S := rfl
theorem items_list {xs : List PyData} : Mv.items (.d (.list xs)) = some (xs.map .d) := rfl
theorem items_tup {xs : List PyData} : Mv.items (.d (.tuple xs)) = some (xs.map .d) := rfl
theorem items_str {z : Str} : Mv.items (.d (.str z)) = some (signs z) := rfl
noncomputable def kRg1 : List Mv → Sg → Res (List Mv) := fun xs S => match xs with | [.d (.int j)] => @ite _ (-(2 ^ 62) ≤ j ∧ j < 2 ^ 62) (Classical.propDecidable _) (.ok (rangeL 0 j.toNat) S) .bad | _ => .bad
theorem ev_rg1 {a : MA} : mRange1 a ρ S = (a ρ S).bind kRg1 := rfl
theorem rg1_int {j : Int} (h : -(2 ^ 62) ≤ j ∧ j < 2 ^ 62) : kRg1 [.d (.int j)] S = .ok (rangeL 0 j.toNat) S := if_pos h
def k2Lc (b : Bi) : List Mv → Sg → Res Mv := fun acc S => bear b (.lst acc) S
def k1Lc (b : Bi) (g : MG) (tt : MT) (te : ME) (vs : List Nat) (ρ : Rho) : List Mv → Sg → Res Mv := fun xs S => (lcLoop g tt te (wipeM ρ vs) xs [] S).nox.bind (k2Lc b)
theorem ev_lc {b : Bi} {mi : MA} {g : MG} {tt : MT} {te : ME} {vs : List Nat} : mLc b mi g tt te vs ρ S = (mi ρ S).bind (k1Lc b g tt te vs ρ) := rfl
theorem ev_lc1 {b : Bi} {g : MG} {tt : MT} {te : ME} {vs : List Nat} {xs : List Mv} : k1Lc b g tt te vs ρ xs S = (lcLoop g tt te (wipeM ρ vs) xs [] S).nox.bind (k2Lc b) := rfl
theorem ev_lc2 {b : Bi} {acc : List Mv} : k2Lc b acc S = bear b (.lst acc) S := rfl
theorem wipe_nil : wipeM ρ [] = ρ := rfl
theorem wipe_cons {v : Nat} {vs : List Nat} : wipeM ρ (v :: vs) = (wipeM ρ vs).set v none := rfl
def sq (r : RS) (b : MS) : RS := match r with | .nx ρ' S' => b ρ' S' | r => r
theorem ev_seq {a b : MS} : mSeq a b ρ S = sq (a ρ S) b := rfl
theorem seq_nx {b : MS} : sq (RS.nx ρ S) b = b ρ S := rfl
theorem seq_rt {x : Mv} {b : MS} : sq (RS.rt x S) b = .rt x S := rfl
theorem seq_exc {e : Ex} {b : MS} : sq (RS.exc e ρ S) b = .exc e ρ S := rfl
theorem seq_bk {b : MS} : sq (RS.bk ρ S) b = .bk ρ S := rfl
theorem seq_ct {b : MS} : sq (RS.ct ρ S) b = .ct ρ S := rfl
def nxO (o : Option Rho) (S : Sg) : RS := match o with | some ρ' => .nx ρ' S | none => .bad
def kAsg (g : MG) (ρ : Rho) : Mv → Sg → RS := fun x S => nxO (g S x ρ) S
theorem ev_asg {m : ME} {g : MG} : mAsg m g ρ S = (m ρ S).go ρ (kAsg g ρ) := rfl
theorem ev_asg1 {g : MG} {x : Mv} : kAsg g ρ x S = nxO (g S x ρ) S := rfl
theorem nxO_some : nxO (some ρ) S = .nx ρ S := rfl
theorem mg_name {i : Nat} {x : Mv} : mgName i S x ρ = some (ρ.set i (some x)) := rfl
theorem mg_nil : mgNil S [] ρ = some ρ := rfl
theorem mg_consN {i : Nat} {r : MGs} {x : Mv} {xs : List Mv} : mgCons (mgName i) r S (x :: xs) ρ = r S xs (ρ.set i (some x)) := rfl
theorem mg_tup {n : Nat} {g : MGs} {xs : List PyData} (h : (xs.map Mv.d).length = n) : mgTup n g S (.d (.tuple xs)) ρ = g S (xs.map .d) ρ := if_pos h
def kExpr (ρ : Rho) : Mv → Sg → RS := fun _ S => .nx ρ S
theorem ev_expr {m : ME} : mExpr m ρ S = (m ρ S).go ρ (kExpr ρ) := rfl
theorem ev_expr1 {x : Mv} : kExpr ρ x S = .nx ρ S := rfl
def kRet : Mv → Sg → RS := fun x S => .rt x S
theorem ev_ret {m : ME} : mRet m ρ S = (m ρ S).go ρ kRet := rfl
theorem ev_ret1 {x : Mv} : kRet x S = .rt x S := rfl
theorem ev_skip : mSkip ρ S = .nx ρ S := rfl
def kIf (a b : MS) (ρ : Rho) : Bool → Sg → RS := fun k S => if k = true then a ρ S else b ρ S
theorem ev_if {c : MT} {a b : MS} : mIfS c a b ρ S = (c ρ S).go ρ (kIf a b ρ) := rfl
theorem if_t {a b : MS} : kIf a b ρ true S = a ρ S := rfl
theorem if_f {a b : MS} : kIf a b ρ false S = b ρ S := rfl
def kFor (g : MG) (b : MS) (ρ : Rho) : List Mv → Sg → RS := fun xs S => mLoop g b xs ρ S
theorem ev_for {mi : MA} {g : MG} {b : MS} : mFor mi g b ρ S = (mi ρ S).go ρ (kFor g b ρ) := rfl
theorem ev_for1 {g : MG} {b : MS} {xs : List Mv} : kFor g b ρ xs S = mLoop g b xs ρ S := rfl
def fzO (o : Option (List PyData)) (xs : List Mv) (S : Sg) (i : Nat) : Res Mv := match o with | some ds => .ok (.d (.list ds)) (S.set i (true, .gone)) | none => .ok (.frl xs) (S.set i (true, .gone))
theorem ev_fz {m : ME} : mFz m ρ S = (m ρ S).bind fz := rfl
def fzC (i : Nat) (o : Option (Bool × Mo)) (S : Sg) : Res Mv := match o with
  | some (true, .lst xs) => fzO (allD xs) xs S i
  | _ => .bad
theorem fz_own {i : Nat} : fz (.own i) S = fzC i S[i]? S := by
  unfold fz fzC; simp only
  cases S[i]? with
  | none => rfl
  | some p => obtain ⟨c, o⟩ := p; cases o <;> cases c <;> rfl
theorem fzC_some {i : Nat} {xs : List Mv} : fzC i (some (true, .lst xs)) S = fzO (allD xs) xs S i := rfl
theorem fzO_some {i : Nat} {ds : List PyData} {xs : List Mv} : fzO (some ds) xs S i = .ok (.d (.list ds)) (S.set i (true, .gone)) := rfl
theorem fzO_none {i : Nat} {xs : List Mv} : fzO none xs S i = .ok (.frl xs) (S.set i (true, .gone)) := rfl
theorem fz_d {x : PyData} : fz (.d x) S = .ok (.d x) S := rfl
theorem fz_ref {i : Nat} : fz (.ref i) S = .ok (.ref i) S := rfl
def stO (ρ : Rho) (o : Option Sg) : RS := match o with | some S => .nx ρ S | none => .bad
theorem stO_some : stO ρ (some S) = .nx ρ S := rfl
def k3St (ρ : Rho) (z x : Mv) : Mv → Sg → RS := fun y S => stO ρ (setIx S x y z)
def k2St (i : ME) (ρ : Rho) (z : Mv) : Mv → Sg → RS := fun x S => (i ρ S).go ρ (k3St ρ z x)
def k1St (o i : ME) (ρ : Rho) : Mv → Sg → RS := fun z S => (o ρ S).go ρ (k2St i ρ z)
theorem ev_st {v o i : ME} : mSetIx v o i ρ S = (v ρ S).go ρ (k1St o i ρ) := rfl
theorem ev_st1 {o i : ME} {z : Mv} : k1St o i ρ z S = (o ρ S).go ρ (k2St i ρ z) := rfl
theorem ev_st2 {i : ME} {z x : Mv} : k2St i ρ z x S = (i ρ S).go ρ (k3St ρ z x) := rfl
theorem ev_st3 {z x y : Mv} : k3St ρ z x y S = stO ρ (setIx S x y z) := rfl
def siO (o : Option (Nat × Bool × Mo)) (k : Int) (z : Mv) (S : Sg) : Option Sg := match o with
  | some (i, b, .lst zs) => if z.free = true then (ixN zs.length k).map fun j => S.set i (b, .lst (zs.set j z)) else none
  | _ => none
theorem ev_setIx {x z : Mv} {k : Int} : setIx S x (.d (.int k)) z = siO (x.cell S) k z S := rfl
theorem siO_some {i : Nat} {b : Bool} {zs : List Mv} {k : Int} {z : Mv} (h : z.free = true) : siO (some (i, b, .lst zs)) k z S = (ixN zs.length k).map fun j => S.set i (b, .lst (zs.set j z)) := if_pos h
def kPar (i j : Nat) (ρ : Rho) : List Mv → Sg → RS := fun xs S => match xs with | [x, y] => .nx ((ρ.set i (some x)).set j (some y)) S | _ => .bad
theorem ev_par {i j : Nat} {a : MA} : mPar i j a ρ S = (a ρ S).go ρ (kPar i j ρ) := rfl
theorem ev_par1 {i j : Nat} {x y : Mv} : kPar i j ρ [x, y] S = .nx ((ρ.set i (some x)).set j (some y)) S := rfl
def begin_ (n : Nat) (xs : List Mv) : Rho := xs.map some ++ List.replicate (n - xs.length) none
def nones : Nat → Rho
  | 0 => []
  | n + 1 => none :: nones n
theorem nones_zero : nones 0 = [] := rfl
theorem nones_succ {n : Nat} : nones (n + 1) = none :: nones n := rfl
theorem nones_eq : ∀ n, List.replicate n none = nones n
  | 0 => rfl
  | n + 1 => by rw [List.replicate_succ, nones_eq n]; rfl
theorem begin_eq {n : Nat} {xs : List Mv} : begin_ n xs = xs.map some ++ nones (n - xs.length) := by unfold begin_; rw [nones_eq]
theorem ev_fn {n : Nat} {m : MS} {xs : List Mv} : fnM n m xs S = fin S.length (m (begin_ n xs) S) := rfl
theorem fin_rt {x : PyData} {n : Nat} : fin n (.rt (.d x) S) = .ok (.d x) (trim n S) := rfl
theorem fin_ref {i : Nat} {n : Nat} : fin n (.rt (.ref i) S) = .ok (.ref i) (trim n S) := rfl
theorem fin_nx {n : Nat} : fin n (.nx ρ S) = .ok (.d .none) (trim n S) := rfl
theorem trim_same {n : Nat} (h : S.length = n) : trim n S = S := by
  subst h
  unfold trim
  rw [List.drop_length, List.take_length]
  rfl
theorem trim_app {n : Nat} {T : Sg} (h : S.length = n) (hT : T.all (·.1) = true) : trim n (S ++ T) = S := by
  subst h
  unfold trim
  rw [List.drop_left, if_pos hT, List.take_left]
/-- one turn that goes on -/
theorem loop_on {g : MG} {b : MS} {x : Mv} {xs : List Mv} {ρ1 ρ2 : Rho} {S2 : Sg} (h1 : g S x ρ = some ρ1) (h2 : b ρ1 S = .nx ρ2 S2) : mLoop g b (x :: xs) ρ S = mLoop g b xs ρ2 S2 := by
  simp only [mLoop]; rw [h1]; simp only; rw [h2]
theorem lc_nil {g : MG} {tt : MT} {te : ME} {acc : List Mv} : lcLoop g tt te ρ [] acc S = .ok acc S := rfl
theorem lc_yes {g : MG} {te : ME} {x y : Mv} {xs acc : List Mv} {ρ1 : Rho} {S2 : Sg} (h1 : g S x ρ = some ρ1) (h2 : te ρ1 S = .ok y S2) (h3 : y.free = true) (h4 : acc.length < sizeLine) : lcLoop g mYes te ρ (x :: xs) acc S = lcLoop g mYes te ρ xs (acc ++ [y]) S2 := by
  simp only [lcLoop]; rw [h1]; simp only [mYes, Res.bind, if_true]; rw [h2]; simp only; rw [if_pos ⟨h3, h4⟩]
theorem lc_in {g : MG} {tt : MT} {te : ME} {x y : Mv} {xs acc : List Mv} {ρ1 : Rho} {S1 S2 : Sg} (h1 : g S x ρ = some ρ1) (h0 : tt ρ1 S = .ok true S1) (h2 : te ρ1 S1 = .ok y S2) (h3 : y.free = true) (h4 : acc.length < sizeLine) : lcLoop g tt te ρ (x :: xs) acc S = lcLoop g tt te ρ xs (acc ++ [y]) S2 := by
  simp only [lcLoop]; rw [h1]; simp only; rw [h0]; simp only [Res.bind, if_true]; rw [h2]; simp only; rw [if_pos ⟨h3, h4⟩]
theorem lc_out {g : MG} {tt : MT} {te : ME} {x : Mv} {xs acc : List Mv} {ρ1 : Rho} {S1 : Sg} (h1 : g S x ρ = some ρ1) (h0 : tt ρ1 S = .ok false S1) : lcLoop g tt te ρ (x :: xs) acc S = lcLoop g tt te ρ xs acc S1 := by
  simp only [lcLoop]; rw [h1]; simp only; rw [h0]; simp [Res.bind]
theorem wh_on {c : MT} {b : MS} {n : Nat} {ρ2 : Rho} {S1 S2 : Sg} (h : c ρ S = .ok true S1) (h2 : b ρ S1 = .nx ρ2 S2) : mWhile c b (n + 1) ρ S = mWhile c b n ρ2 S2 := by
  simp only [mWhile]; rw [h]; simp only [Res.go, if_true]; rw [h2]
theorem wh_end {c : MT} {b : MS} {n : Nat} {S1 : Sg} (h : c ρ S = .ok false S1) : mWhile c b (n + 1) ρ S = .nx ρ S1 := by
  simp only [mWhile]; rw [h]; simp [Res.go]
end
end MM.Q
end
section
set_option Elab.async false
set_option linter.all false
set_option maxRecDepth 100000
set_option maxHeartbeats 4000000
set_option autoImplicit false
namespace MM.Q
open PySem PySem.Spec PyProof.Rows L2 MM
def st (l : List Nat) : Str := ⟨l.toArray⟩
abbrev cs (z : Str) : List Nat := z.cps.toList
theorem st_cs (z : Str) : st (cs z) = z := by unfold st cs; cases z; simp
theorem cs_st (l : List Nat) : cs (st l) = l := by simp [st, cs]
theorem st_inj {a b : List Nat} (h : st a = st b) : a = b := by rw [← cs_st a, ← cs_st b, h]
theorem st_len {l : List Nat} : (st l).length = l.length := by simp [st, Str.length]
theorem st_app {a b : List Nat} : st a ++ st b = st (a ++ b) := by
  have h : (st a ++ st b).cps = (st a).cps ++ (st b).cps := Str.cps_append _ _
  have : (st a ++ st b) = ⟨(st a).cps ++ (st b).cps⟩ := by
    cases e : st a ++ st b with
    | mk c => rw [e] at h; simp only at h; rw [h]
  rw [this]; simp [st]
theorem signs_st {l : List Nat} : signs (st l) = l.map fun c => .d (.str (st [c])) := by simp [signs, st]
theorem cutS_st {l : List Nat} {lo hi : Option Int} : cutS (st l) lo hi = st ((l.drop (HT.sIx l.length 0 lo)).take (HT.sIx l.length l.length hi - HT.sIx l.length 0 lo)) := by
  unfold cutS
  rw [show (st l).length = l.length from st_len]
  simp [st]
theorem revS_st {l : List Nat} : revS (st l) = st l.reverse := by simp [revS, st]
/-- the signs of a text are below the line of code points -/
theorem strOk_of {z : Str} (h : ∀ c ∈ cs z, c < 0x110000) : PyData.strOk z = true := by
  unfold PyData.strOk
  rw [Array.all_eq_true]
  intro i hi
  exact decide_eq_true (h _ (by simp [cs]))
theorem in_sign {c : Nat} {z : Str} : inStr (st [c]) z = decide (c ∈ cs z) := by
  have h := PySem.StrLaws.found_one z c
  unfold inStr
  exact h
def cutL {α : Type} (xs : List α) (lo hi : Option Int) : List α := (xs.drop (HT.sIx xs.length 0 lo)).take (HT.sIx xs.length xs.length hi - HT.sIx xs.length 0 lo)
theorem cutM_L {xs : List Mv} {lo hi : Option Int} : cutM xs lo hi = cutL xs lo hi := rfl
theorem cutL_map {α β : Type} {f : α → β} {xs : List α} {lo hi : Option Int} : cutL (xs.map f) lo hi = (cutL xs lo hi).map f := by
  unfold cutL; rw [List.length_map, ← List.map_drop, ← List.map_take]
theorem cutL_mem {α : Type} {xs : List α} {lo hi : Option Int} {x : α} (h : x ∈ cutL xs lo hi) : x ∈ xs := List.mem_of_mem_drop (List.mem_of_mem_take h)
theorem cutL_len {α : Type} {xs : List α} {lo hi : Option Int} : (cutL xs lo hi).length ≤ xs.length := by
  unfold cutL; rw [List.length_take, List.length_drop]; omega
theorem cutL_to {α : Type} {xs : List α} {k : Nat} : cutL xs none (some (k : Int)) = xs.take k := by
  unfold cutL; rw [HT.sIx_none, HT.sIx_nat, List.drop_zero, Nat.sub_zero]
  rcases Nat.le_total k xs.length with h | h
  · rw [Nat.min_eq_left h]
  · rw [Nat.min_eq_right h, List.take_length, List.take_of_length_le h]
theorem cutL_from {α : Type} {xs : List α} {k : Nat} : cutL xs (some (k : Int)) none = xs.drop k := by
  unfold cutL; rw [HT.sIx_none, HT.sIx_nat]
  rcases Nat.le_total k xs.length with h | h
  · rw [Nat.min_eq_left h, List.take_of_length_le (by rw [List.length_drop]; omega)]
  · rw [Nat.min_eq_right h, List.drop_length, List.drop_of_length_le h, List.take_nil]
section
variable {S : Sg}
def lenO (o : Option Nat) : Option Nw := match o with | some n => some (.val (.d (.int (n : Nat)))) | none => none
theorem ev_len {x : Mv} : gLen S [x] = lenO (x.len S) := by
  show (x.len S).map _ = _
  cases x.len S <;> rfl
theorem lenO_some {n : Nat} : lenO (some n) = some (.val (.d (.int (n : Nat)))) := rfl
theorem len_str {z : Str} (h : z.length ≤ sizeLine) : Mv.len S (.d (.str z)) = some z.length := if_pos h
theorem len_list {xs : List PyData} : Mv.len S (.d (.list xs)) = some xs.length := by simp [Mv.len, Mv.seq]
theorem len_tup {xs : List PyData} : Mv.len S (.d (.tuple xs)) = some xs.length := by simp [Mv.len, Mv.seq]
def lnO (o : Option (Bool × List Mv)) : Option Nat := match o with | some q => some q.2.length | none => none
theorem lnO_some {b : Bool} {xs : List Mv} : lnO (some (b, xs)) = some xs.length := rfl
theorem len_ref {i : Nat} : Mv.len S (.ref i) = lnO (Mv.seq S (.ref i)) := by
  show (Mv.seq S (.ref i)).map _ = _
  cases Mv.seq S (.ref i) <;> rfl
theorem len_own {i : Nat} : Mv.len S (.own i) = lnO (Mv.seq S (.own i)) := by
  show (Mv.seq S (.own i)).map _ = _
  cases Mv.seq S (.own i) <;> rfl
def lisO (o : Option (Bool × List Mv)) : Option Nw := match o with | some q => some (.lst q.2) | none => none
theorem ev_lst_l {x : List PyData} : gList S [.d (.list x)] = some (.lst (x.map .d)) := rfl
theorem ev_lst_t {x : List PyData} : gList S [.d (.tuple x)] = some (.lst (x.map .d)) := rfl
theorem ev_lst_r {i : Nat} : gList S [.ref i] = lisO (Mv.seq S (.ref i)) := by
  show (Mv.seq S (.ref i)).map _ = _
  cases Mv.seq S (.ref i) <;> rfl
theorem ev_lst_o {i : Nat} : gList S [.own i] = lisO (Mv.seq S (.own i)) := by
  show (Mv.seq S (.own i)).map _ = _
  cases Mv.seq S (.own i) <;> rfl
theorem lst_str {z : Str} (h : z.length ≤ sizeLine) : gList S [.d (.str z)] = some (.lst (signs z)) := if_pos h
theorem lisO_some {b : Bool} {xs : List Mv} : lisO (some (b, xs)) = some (.lst xs) := rfl
def l1O {α : Type} (p : List Mv → Option α) (f : α → Nw) (o : Option (List Mv)) : Option Nw := match o with | some ys => (p ys).map f | none => none
theorem ev_l1 {α : Type} {p : List Mv → Option α} {f : α → Nw} {x : Mv} : gList1 p f S [x] = l1O p f (x.isList S) := by
  show (x.isList S).bind _ = _
  cases x.isList S <;> rfl
theorem l1O_some {α : Type} {p : List Mv → Option α} {f : α → Nw} {ys : List Mv} : l1O p f (some ys) = (p ys).map f := rfl
theorem ev_sum {x : Mv} : gSum S [x] = l1O intsM (fun ns => .val (.d (.int ns.sum))) (x.isList S) := ev_l1
theorem ev_all {x : Mv} : gAll S [x] = l1O boolsM (fun bs => .val (.d (.bool (bs.all id)))) (x.isList S) := ev_l1
theorem ints_map (ns : List Int) : intsM ((ns.map PyData.int).map .d) = some ns := by
  induction ns with
  | nil => rfl
  | cons x r ih => show (intsM _).map (x :: ·) = _; rw [ih]; rfl
theorem bools_map (ns : List Bool) : boolsM ((ns.map PyData.bool).map .d) = some ns := by
  induction ns with
  | nil => rfl
  | cons x r ih => show (boolsM _).map (x :: ·) = _; rw [ih]; rfl
theorem strs_map (ns : List Str) : strsM ((ns.map PyData.str).map .d) = some ns := by
  induction ns with
  | nil => rfl
  | cons x r ih => show (strsM _).map (x :: ·) = _; rw [ih]; rfl
theorem divmod_int {i j : Int} (h : 0 < j ∧ j < 1073741824) : gDivmod S [.d (.int i), .d (.int j)] = some (.tup [.d (.int (i / j)), .d (.int (i % j))]) := if_pos h
def isiO (o : Option String) (c : String) : Option Nw := match o with | some t => (kitB t c).map fun b => .val (.d (.bool b)) | none => none
theorem ev_isi {x : Mv} {c : String} : gIsi S [x, .ty c] = isiO (x.kind S) c := by
  show (x.kind S).bind _ = _
  cases x.kind S <;> rfl
theorem isiO_some {t c : String} : isiO (some t) c = (kitB t c).map fun b => .val (.d (.bool b)) := rfl
theorem kind_str {z : Str} : Mv.kind S (.d (.str z)) = some "str" := rfl
theorem kind_int {z : Int} : Mv.kind S (.d (.int z)) = some "int" := rfl
theorem kind_bool {z : Bool} : Mv.kind S (.d (.bool z)) = some "bool" := rfl
theorem kind_none : Mv.kind S (.d .none) = some "NoneType" := rfl
theorem kind_dict {z : List (PyData × PyData)} : Mv.kind S (.d (.dict z)) = some "dict" := rfl
theorem kind_list {z : List PyData} : Mv.kind S (.d (.list z)) = some "list" := rfl
theorem kind_tup {z : List PyData} : Mv.kind S (.d (.tuple z)) = some "tuple" := rfl
theorem kit_ss : kitB "str" "str" = some true := by decide +kernel
theorem kit_is : kitB "int" "str" = some false := by decide +kernel
theorem kit_bs : kitB "bool" "str" = some false := by decide +kernel
theorem kit_ns : kitB "NoneType" "str" = some false := by decide +kernel
theorem kit_ds : kitB "dict" "str" = some false := by decide +kernel
theorem kit_ls : kitB "list" "str" = some false := by decide +kernel
theorem kit_ts : kitB "tuple" "str" = some false := by decide +kernel
def joinO (a : Str) (o : Option (List Str)) : Option Nw := match o with
  | some ys => if (ys.map (·.length)).sum + ys.length * a.length ≤ 16777216 then some (.val (.d (.str (Txt.join a ys)))) else none
  | none => none
def jnO (a : Str) (o : Option (Bool × List Mv)) : Option Nw := match o with | some q => joinO a (strsM q.2) | none => none
theorem ev_join {a : Str} {x : Mv} : gJoin S (.d (.str a)) [x] = jnO a (x.seq S) := by
  show (x.seq S).bind _ = _
  cases x.seq S with
  | none => rfl
  | some q =>
    show (strsM q.2).bind _ = joinO a (strsM q.2)
    cases strsM q.2 <;> rfl
theorem jnO_some {a : Str} {b : Bool} {xs : List Mv} : jnO a (some (b, xs)) = joinO a (strsM xs) := rfl
theorem joinO_some {a : Str} {ys : List Str} (h : (ys.map (·.length)).sum + ys.length * a.length ≤ 16777216) : joinO a (some ys) = some (.val (.d (.str (Txt.join a ys)))) := if_pos h
/-- nothing between -/
theorem join_nil_st : ∀ ls : List (List Nat), Txt.join (st []) (ls.map st) = st ls.flatten := by
  intro ls
  rw [TL.join_eq]
  have key : ∀ ls : List (List Nat), cs (Str.join (st []) (ls.map st)) = ls.flatten := by
    intro ls
    have h := TL.tl_join (st []) (ls.map st)
    have e : TL.tl (st []) = [] := by simp [st]
    rw [e] at h
    rw [show cs (Str.join (st []) (ls.map st)) = TL.tl (Str.join (st []) (ls.map st)) from rfl, h]
    have g : ∀ ps : List (List Nat), TL.joinL [] ps = ps.flatten := by
      intro ps
      induction ps with
      | nil => rfl
      | cons p r ih =>
        cases r with
        | nil => simp [TL.joinL]
        | cons q r => rw [show TL.joinL [] (p :: q :: r) = p ++ ([] ++ TL.joinL [] (q :: r)) from rfl, ih]; simp
    rw [g, List.map_map]
    congr 1
    have : (TL.tl ∘ st) = id := by funext l; simp [st]
    rw [this, List.map_id]
  rw [← st_cs (Str.join (st []) (ls.map st)), key]
end
section
variable {S : Sg}
theorem len_st {l : List Nat} (h : l.length ≤ sizeLine) : Mv.len S (.d (.str (st l))) = some l.length := by rw [len_str (by rw [st_len]; exact h), st_len]
theorem add_st {a b : List Nat} (h : a.length + b.length ≤ sizeLine) : gAdd S (.d (.str (st a))) (.d (.str (st b))) = some (.val (.d (.str (st (a ++ b))))) := by
  rw [add_str (by rw [st_len, st_len]; exact h), st_app]
theorem strRep_st {l : List Nat} {n : Nat} : strRep (st l) n = st (List.replicate n l).flatten := by simp [strRep, st]
theorem rep_len {α : Type} {n : Nat} {l : List α} : (List.replicate n l).flatten.length = n * l.length := by simp
theorem mul_st {l : List Nat} {n : Int} (h : -(2 ^ 63) ≤ n ∧ n < 2 ^ 63 ∧ n.toNat * l.length ≤ sizeLine) : gMul S (.d (.str (st l))) (.d (.int n)) = some (.val (.d (.str (st (List.replicate n.toNat l).flatten)))) := by
  rw [mul_str ⟨h.1, h.2.1, by rw [st_len, Nat.mul_comm]; exact h.2.2⟩, strRep_st]
theorem ix_st {l : List Nat} {i : Int} (h : l.length ≤ sizeLine) : gIx S (.d (.str (st l))) (.d (.int i)) = (atI l i).map fun c => .d (.str (st [c])) := by
  rw [ix_str (by rw [st_len]; exact h), show (st l).cps.toList = l from cs_st l]
  rfl
theorem sl_st {l : List Nat} {lo hi : Option Int} (h : l.length ≤ sizeLine) : gSl S (.d (.str (st l))) lo hi = some (.val (.d (.str (st (cutL l lo hi))))) := by
  rw [sl_txt (by rw [st_len]; exact h), cutS_st]; rfl
theorem rev_st {b : Bi} {l : List Nat} (h : l.length ≤ sizeLine) : kRev b (.d (.str (st l))) S = .ok (.d (.str (st l.reverse))) S := by
  rw [rev_str (by rw [st_len]; exact h), revS_st]
theorem items_st {l : List Nat} : Mv.items (.d (.str (st l))) = some (l.map fun c => .d (.str (st [c]))) := by rw [items_str, signs_st]
theorem eqv_st {a b : List Nat} : PyData.eqv (.str (st a)) (.str (st b)) = decide (a = b) := by
  rw [eqv_str]
  by_cases h : a = b
  · subst h; rw [decide_eq_true rfl]; exact beq_self_eq_true _
  · rw [decide_eq_false h]; exact beq_eq_false_iff_ne.mpr fun e => h (st_inj e)
theorem st_dec {a b : List Nat} : decide (st a = st b) = decide (a = b) := by
  by_cases h : a = b
  · subst h; rw [decide_eq_true rfl, decide_eq_true rfl]
  · rw [decide_eq_false h, decide_eq_false fun e => h (st_inj e)]
theorem ok_st {l : List Nat} (h : ∀ c ∈ l, c < 0x110000) : SeqAt.shaped (.str (st l)) = true := by
  rw [shaped_str]; exact strOk_of fun c hc => h c (by rw [cs_st] at hc; exact hc)
end
theorem flat_ones (ts : List Nat) : (ts.map fun c => [c]).flatten = ts := by
  induction ts with
  | nil => rfl
  | cons t r ih => simp [ih]
theorem join_ones (ts : List Nat) : Txt.join (st []) (ts.map fun c => st [c]) = st ts := by
  have := join_nil_st (ts.map fun c => [c])
  rw [List.map_map, flat_ones] at this
  exact this
theorem allD_mapf {α : Type} {f : α → PyData} {xs : List α} : allD (xs.map fun a => .d (f a)) = some (xs.map f) := by
  rw [show (xs.map fun a => Mv.d (f a)) = (xs.map f).map .d from by rw [List.map_map]; rfl]
  exact allD_map _
theorem strs_mapf {α : Type} {f : α → Str} {xs : List α} : strsM ((xs.map fun a => PyData.str (f a)).map .d) = some (xs.map f) := by
  rw [show (xs.map fun a => PyData.str (f a)) = (xs.map f).map .str from by rw [List.map_map]; rfl]
  exact strs_map _
theorem ints_mapf {α : Type} {f : α → Int} {xs : List α} : intsM ((xs.map fun a => PyData.int (f a)).map .d) = some (xs.map f) := by
  rw [show (xs.map fun a => PyData.int (f a)) = (xs.map f).map .int from by rw [List.map_map]; rfl]
  exact ints_map _
theorem bools_mapf {α : Type} {f : α → Bool} {xs : List α} : boolsM ((xs.map fun a => PyData.bool (f a)).map .d) = some (xs.map f) := by
  rw [show (xs.map fun a => PyData.bool (f a)) = (xs.map f).map .bool from by rw [List.map_map]; rfl]
  exact bools_map _
theorem join_ones_some {ts : List Nat} (h : ts.length ≤ 16777216) : joinO (st []) (some (ts.map fun c => st [c])) = some (.val (.d (.str (st ts)))) := by
  rw [joinO_some, join_ones]
  have : ((ts.map fun c => st [c]).map (·.length)).sum = ts.length := by
    clear h
    induction ts with
    | nil => rfl
    | cons t r ih => rw [List.map_cons, List.map_cons, List.sum_cons, ih, st_len, List.length_cons]; simp; omega
  rw [this, st_len]
  simpa using h
def slO (o : Option (List Mv)) (lo hi : Option Int) : Option Nw := match o with | some xs => some (.lst (cutL xs lo hi)) | none => none
theorem sl_own {S : Sg} {i : Nat} {lo hi : Option Int} : gSl S (.own i) lo hi = slO (Mv.isList S (.own i)) lo hi := rfl
theorem sl_ref {S : Sg} {i : Nat} {lo hi : Option Int} : gSl S (.ref i) lo hi = slO (Mv.isList S (.ref i)) lo hi := rfl
theorem sl_list {S : Sg} {xs : List PyData} {lo hi : Option Int} : gSl S (.d (.list xs)) lo hi = some (.lst ((cutL xs lo hi).map .d)) := by
  rw [← cutL_map]; rfl
theorem slO_some {lo hi : Option Int} {xs : List Mv} : slO (some xs) lo hi = some (.lst (cutL xs lo hi)) := rfl
def catO (o p : Option (List Mv)) : Option Nw := match o, p with
  | some xs, some ys => if xs.length + ys.length ≤ sizeLine then some (Nw.lst (xs ++ ys)) else none
  | _, _ => none
theorem add_own {S : Sg} {i : Nat} {y : Mv} : gAdd S (.own i) y = catO (Mv.isList S (.own i)) (Mv.isList S y) := rfl
theorem add_ref {S : Sg} {i : Nat} {y : Mv} : gAdd S (.ref i) y = catO (Mv.isList S (.ref i)) (Mv.isList S y) := rfl
theorem add_list {S : Sg} {xs : List PyData} {y : Mv} : gAdd S (.d (.list xs)) y = catO (some (xs.map .d)) (Mv.isList S y) := by
  cases y <;> rfl
theorem catO_some {xs ys : List Mv} (h : xs.length + ys.length ≤ sizeLine) : catO (some xs) (some ys) = some (.lst (xs ++ ys)) := if_pos h
section
variable {ρ : Rho} {S : Sg}
theorem lc_mapF {α : Type} {g : MG} {te : ME} {h k : α → Mv} : ∀ {l : List α} {acc : List Mv}, (∀ a ∈ l, ∃ ρ1, g S (h a) ρ = some ρ1 ∧ te ρ1 S = .ok (k a) S ∧ (k a).free = true) → acc.length + l.length ≤ sizeLine → lcLoop g mYes te ρ (l.map h) acc S = .ok (acc ++ l.map k) S
  | [], acc, _, _ => by rw [List.map_nil, lc_nil, List.map_nil, List.append_nil]
  | a :: l, acc, hh, hl => by
    obtain ⟨ρ1, h1, h2, h3⟩ := hh a (List.mem_cons_self ..)
    rw [List.length_cons] at hl
    rw [List.map_cons, lc_yes h1 h2 h3 (by omega), lc_mapF (fun y hy => hh y (List.mem_cons_of_mem _ hy)) (by rw [List.length_append, List.length_singleton]; omega), List.map_cons, List.append_assoc]
    rfl
/-- what each turn does to the store is told by P, its items by R -/
theorem lc_ex {g : MG} {te : ME} {P : Sg → Prop} {R : Mv → Prop} : ∀ {xs acc : List Mv} {S : Sg}, (∀ x ∈ xs, ∀ S, P S → ∃ ρ1 y S2, g S x ρ = some ρ1 ∧ te ρ1 S = .ok y S2 ∧ y.free = true ∧ R y ∧ P S2) → P S → acc.length + xs.length ≤ sizeLine →
    ∃ ys S2, lcLoop g mYes te ρ xs acc S = .ok (acc ++ ys) S2 ∧ ys.length = xs.length ∧ (∀ y ∈ ys, R y) ∧ P S2
  | [], acc, S, _, hp, _ => ⟨[], S, by rw [lc_nil, List.append_nil], rfl, fun _ h => (nomatch h), hp⟩
  | x :: xs, acc, S, hh, hp, hl => by
    obtain ⟨ρ1, y, S1, h1, h2, h3, h4, h5⟩ := hh x (List.mem_cons_self ..) S hp
    rw [List.length_cons] at hl
    obtain ⟨ys, S2, e, e1, e2, e3⟩ := lc_ex (acc := acc ++ [y]) (fun z hz => hh z (List.mem_cons_of_mem _ hz)) h5 (by rw [List.length_append, List.length_singleton]; omega)
    refine ⟨y :: ys, S2, ?_, by simp [e1], fun z hz => ?_, e3⟩
    · rw [lc_yes h1 h2 h3 (by omega), e, List.append_assoc]; rfl
    · rcases List.mem_cons.mp hz with rfl | hz
      · exact h4
      · exact e2 z hz
theorem pick_all {α : Type} {p : α → Prop} {h : α → Mv} : ∀ {ys : List Mv}, (∀ y ∈ ys, ∃ a, p a ∧ y = h a) → ∃ as : List α, ys = as.map h ∧ ∀ a ∈ as, p a
  | [], _ => ⟨[], rfl, fun _ h => (nomatch h)⟩
  | y :: ys, hh => by
    obtain ⟨as, e, h2⟩ := pick_all fun z hz => hh z (List.mem_cons_of_mem _ hz)
    obtain ⟨a, ha, e1⟩ := hh y (List.mem_cons_self ..)
    exact ⟨a :: as, by rw [e, e1]; rfl, fun z hz => by
      rcases List.mem_cons.mp hz with rfl | hz
      · exact ha
      · exact h2 z hz⟩
theorem atI_mem {α : Type} {xs : List α} {i : Int} (h0 : 0 ≤ i) (h1 : i < xs.length) : ∃ x ∈ xs, atI xs i = some x := by
  have hi : i.toNat < xs.length := by omega
  exact ⟨xs[i.toNat], List.getElem_mem hi, by rw [atI_nat h0 h1, List.getElem?_eq_getElem hi]⟩
end
end MM.Q
end
section
set_option Elab.async false
set_option linter.all false
set_option maxRecDepth 100000
set_option maxHeartbeats 4000000
set_option autoImplicit false
namespace MM.Q
open PySem PySem.Spec PyProof.Rows L2 MM
section
variable {ρ : Rho} {S : Sg}
theorem mg_tupL {n : Nat} {g : MGs} {xs : List PyData} (h : (xs.map Mv.d).length = n) : mgTup n g S (.d (.list xs)) ρ = g S (xs.map .d) ρ := if_pos h
def k3Ch (g' : Sg → Mv → Mv → Option Nw) (y : Mv) : Mv → Sg → Res Mv := fun z S => bearO .ref (g' S y z) S
def k2Ch (g g' : Sg → Mv → Mv → Option Nw) (c : ME) (ρ : Rho) (x : Mv) : Mv → Sg → Res Mv := fun y S => chF g' c ρ y S (g S x y)
def k1Ch (g g' : Sg → Mv → Mv → Option Nw) (b c : ME) (ρ : Rho) : Mv → Sg → Res Mv := fun x S => (b ρ S).bind (k2Ch g g' c ρ x)
variable {g g' : Sg → Mv → Mv → Option Nw} {a b c : ME} {x y z : Mv}
theorem ev_ch : mChain g g' a b c ρ S = (a ρ S).bind (k1Ch g g' b c ρ) := rfl
theorem ev_ch1 : k1Ch g g' b c ρ x S = (b ρ S).bind (k2Ch g g' c ρ x) := rfl
theorem ev_ch2 : k2Ch g g' c ρ x y S = chF g' c ρ y S (g S x y) := rfl
theorem ch_t : chF g' c ρ y S (some (.val (.d (.bool true)))) = (c ρ S).bind (k3Ch g' y) := rfl
theorem ch_f : chF g' c ρ y S (some (.val (.d (.bool false)))) = .ok (.d (.bool false)) S := rfl
theorem ev_ch3 : k3Ch g' y z S = bearO .ref (g' S y z) S := rfl
theorem starts_str {i j : Str} : gStarts S (.d (.str i)) [.d (.str j)] = some (.val (.d (.bool (Txt.startswith i j)))) := rfl
theorem ends_str {i j : Str} : gEnds S (.d (.str i)) [.d (.str j)] = some (.val (.d (.bool (Txt.endswith i j)))) := rfl
theorem upper_str {i : Str} (h : i.length ≤ 5592405) : gUpper S (.d (.str i)) [] = some (.val (.d (.str (Txt.upper i)))) := if_pos h
theorem part_str {i j : Str} (h : (j.length == 0) = false ∧ i.length ≤ sizeLine) : gPart S (.d (.str i)) [.d (.str j)] = some (.tup [.d (.str (Txt.partition i j).1), .d (.str (Txt.partition i j).2.1), .d (.str (Txt.partition i j).2.2)]) := if_pos h
def kFmt (x : Mv) (S : Sg) : Res Mv := match x with
  | .d (.str y) => if y.length ≤ sizeLine then .ok (.d (.str y)) S else .bad
  | .d (.int i) => if i.natAbs.log2 < 1920 then .ok (.d (.str (toString i))) S else .bad
  | _ => .bad
theorem ev_fmt {m : ME} : mFmt m ρ S = (m ρ S).bind kFmt := by
  unfold mFmt
  congr 1
theorem fmt_str {i : Str} (h : i.length ≤ sizeLine) : kFmt (.d (.str i)) S = .ok (.d (.str i)) S := if_pos h
theorem fmt_st {l : List Nat} (h : l.length ≤ sizeLine) : kFmt (.d (.str (st l))) S = .ok (.d (.str (st l))) S := fmt_str (by rw [st_len]; exact h)
theorem fmt_int {i : Int} (h : i.natAbs.log2 < 1920) : kFmt (.d (.int i)) S = .ok (.d (.str (toString i))) S := if_pos h
def k2Js (ms : List ME) (ρ : Rho) : Str → Sg → Res Mv := fun z S => mJs ms z ρ S
def k1Js (ms : List ME) (acc : Str) (ρ : Rho) : Mv → Sg → Res Mv := fun x S => jsF (jsS acc x) S (k2Js ms ρ)
theorem ev_js_nil {acc : Str} : mJs [] acc ρ S = .ok (.d (.str acc)) S := rfl
theorem ev_js_cons {m : ME} {ms : List ME} {acc : Str} : mJs (m :: ms) acc ρ S = (m ρ S).bind (k1Js ms acc ρ) := rfl
theorem ev_js1 {ms : List ME} {acc : Str} {x : Mv} : k1Js ms acc ρ x S = jsF (jsS acc x) S (k2Js ms ρ) := rfl
theorem ev_js2 {ms : List ME} {acc : Str} : k2Js ms ρ acc S = mJs ms acc ρ S := rfl
theorem jsF_some {z : Str} {f : Str → Sg → Res Mv} : jsF (some z) S f = f z S := rfl
theorem empty_st : Str.empty = st [] := rfl
theorem js_st {i j : List Nat} (h : i.length + j.length ≤ sizeLine) : jsS (st i) (.d (.str (st j))) = some (st (i ++ j)) := by
  show (if (st i ++ st j).length ≤ sizeLine then some (st i ++ st j) else none) = _
  rw [st_app]
  exact if_pos (by rw [st_len, List.length_append]; exact h)
def k3Pr (x y : Mv) : List (Mv × Mv) → Sg → Res (List (Mv × Mv)) := fun ps S => .ok ((x, y) :: ps) S
def k2Pr (r : List (ME × ME)) (ρ : Rho) (x : Mv) : Mv → Sg → Res (List (Mv × Mv)) := fun y S => (mPairs r ρ S).bind (k3Pr x y)
def k1Pr (b : ME) (r : List (ME × ME)) (ρ : Rho) : Mv → Sg → Res (List (Mv × Mv)) := fun x S => (b ρ S).bind (k2Pr r ρ x)
theorem ev_pr_nil : mPairs [] ρ S = .ok [] S := rfl
theorem ev_pr_cons {r : List (ME × ME)} : mPairs ((a, b) :: r) ρ S = (a ρ S).bind (k1Pr b r ρ) := rfl
theorem ev_pr1 {r : List (ME × ME)} : k1Pr b r ρ x S = (b ρ S).bind (k2Pr r ρ x) := rfl
theorem ev_pr2 {r : List (ME × ME)} : k2Pr r ρ x y S = (mPairs r ρ S).bind (k3Pr x y) := rfl
theorem ev_pr3 {ps : List (Mv × Mv)} : k3Pr x y ps S = .ok ((x, y) :: ps) S := rfl
def kDct : List (Mv × Mv) → Sg → Res Mv := fun qs S => dctF S (keysM qs)
theorem ev_dct {ps : List (ME × ME)} : mDct ps ρ S = (mPairs ps ρ S).bind kDct := rfl
theorem ev_dct1 {qs : List (Mv × Mv)} : kDct qs S = dctF S (keysM qs) := rfl
theorem keys_one {k : Str} {d : PyData} : keysM [(.d (.str k), .d d)] = some [(.inr k, d)] := rfl
theorem dctF_one {k : Str} {d : PyData} : dctF S (some [(.inr k, d)]) = .ok (.d (.dict [(.str k, d)])) S := rfl
theorem lst_st {l : List Nat} (h : l.length ≤ sizeLine) : gList S [.d (.str (st l))] = some (.lst (l.map fun c => .d (.str (st [c])))) := by rw [lst_str (by rw [st_len]; exact h), signs_st]
theorem mul_list {xs : List PyData} {k : Int} (h : -(2 ^ 63) ≤ k ∧ k < 2 ^ 63 ∧ xs.length * k.toNat ≤ sizeLine) : gMul S (.d (.list xs)) (.d (.int k)) = some (.lst ((List.replicate k.toNat xs).flatten.map .d)) := by
  show repSq S (.d (.list xs)) k = _
  unfold repSq
  show (if -(2 ^ 63) ≤ k ∧ k < 2 ^ 63 ∧ (xs.map Mv.d).length * k.toNat ≤ sizeLine then some (Nw.lst (List.replicate k.toNat (xs.map Mv.d)).flatten) else none) = _
  rw [List.length_map, if_pos h, List.map_flatten, List.map_replicate]
theorem mul_tup {xs : List PyData} {k : Int} (h : xs ≠ [] ∧ 2 ≤ k ∧ k ≤ 1000 ∧ xs.length ≤ 1000) : gMul S (.d (.tuple xs)) (.d (.int k)) = some (.tup ((List.replicate k.toNat xs).flatten.map .d)) := by
  show repSq S (.d (.tuple xs)) k = _
  unfold repSq
  show (if (xs.map Mv.d) ≠ [] ∧ 2 ≤ k ∧ k ≤ 1000 ∧ (xs.map Mv.d).length ≤ 1000 then some (Nw.tup (List.replicate k.toNat (xs.map Mv.d)).flatten) else none) = _
  rw [List.length_map, if_pos ⟨fun e => h.1 (List.map_eq_nil_iff.mp e), h.2⟩, List.map_flatten, List.map_replicate]
def popK (o : Option (Nat × Bool × Mo)) (k : Int) (S : Sg) : Option (Mv × Sg) := match o with
  | some (i, b, .lst zs) => if -(2 ^ 63) ≤ k ∧ k < 2 ^ 63 then (seqIndex? k zs.length).bind fun j => (zs[j]?).map fun y => (y, S.set i (b, .lst (zs.eraseIdx j))) else none
  | _ => none
theorem ev_popK {k : Int} : uPop S x [.d (.int k)] = popK (x.cell S) k S := rfl
theorem popK_some {i : Nat} {b : Bool} {zs : List Mv} {k : Int} {y : Mv} (h0 : 0 ≤ k) (h1 : k < zs.length) (h2 : zs.length ≤ 1000000) (hy : zs[k.toNat]? = some y) : popK (some (i, b, .lst zs)) k S = some (y, S.set i (b, .lst (zs.eraseIdx k.toNat))) := by
  unfold popK
  simp only
  rw [if_pos ⟨by omega, by omega⟩]
  have e : seqIndex? k zs.length = some k.toNat := by
    have n1 : ¬ k < 0 := by omega
    have c1 : (decide (0 ≤ k) && decide (k < (zs.length : Int))) = true := by simp [h0, h1]
    show (if (decide (0 ≤ (if k < 0 then k + zs.length else k)) && decide ((if k < 0 then k + zs.length else k) < (zs.length : Int))) = true then some (if k < 0 then k + zs.length else k).toNat else none) = _
    rw [if_neg n1, if_pos c1]
  rw [e]
  simp [hy]
def inO (neg : Bool) (d : Option PyData) (o : Option PyData) : Option Nw := match d, o with
  | some d, some (.list ds) => if SeqAt.shaped d = true ∧ SeqAt.shaped (.list ds) = true then some (.val (.d (.bool (if neg then !ds.any (fun z => PyData.eqv z d) else ds.any (fun z => PyData.eqv z d))))) else none
  | _, _ => none
theorem in_own {neg : Bool} {i : Nat} : gInN neg S x (.own i) = inO neg (x.data S) (Mv.data S (.own i)) := by
  unfold gInN inO
  split
  · rename_i h; cases h
  · rfl
theorem in_ref {neg : Bool} {i : Nat} : gInN neg S x (.ref i) = inO neg (x.data S) (Mv.data S (.ref i)) := by
  unfold gInN inO
  split
  · rename_i h; cases h
  · rfl
theorem in_list {neg : Bool} {xs : List PyData} : gInN neg S x (.d (.list xs)) = inO neg (x.data S) (some (.list xs)) := by
  unfold gInN inO
  split
  · rename_i h; cases h
  · rfl
theorem inO_t {d : PyData} {ds : List PyData} (h1 : SeqAt.shaped d = true) (h2 : SeqAt.shaped (.list ds) = true) : inO true (some d) (some (.list ds)) = some (.val (.d (.bool (!ds.any (fun z => PyData.eqv z d))))) := if_pos ⟨h1, h2⟩
theorem inO_f {d : PyData} {ds : List PyData} (h1 : SeqAt.shaped d = true) (h2 : SeqAt.shaped (.list ds) = true) : inO false (some d) (some (.list ds)) = some (.val (.d (.bool (ds.any (fun z => PyData.eqv z d))))) := if_pos ⟨h1, h2⟩
theorem shaped_strs {ls : List (List Nat)} (h : ∀ l ∈ ls, ∀ c ∈ l, c < 0x110000) : SeqAt.shaped (.list (ls.map fun l => .str (st l))) = true ∧ SeqAt.shaped (.tuple (ls.map fun l => .str (st l))) = true := by
  have key : ∀ x ∈ (ls.map fun l => PyData.str (st l)), x.canLay0 = true ∧ x.depth = 0 := by
    intro x hx
    obtain ⟨l, hl, rfl⟩ := List.mem_map.mp hx
    have := ok_st (h l hl)
    rw [shaped_str] at this
    exact ⟨by simpa [PyData.canLay0] using this, rfl⟩
  exact shaped_flat key
theorem any_strs {ls : List (List Nat)} {l : List Nat} : ((ls.map fun l => PyData.str (st l)).any fun z => PyData.eqv z (.str (st l))) = decide (l ∈ ls) := by
  induction ls with
  | nil => simp
  | cons a r ih =>
    rw [List.map_cons, List.any_cons, ih, eqv_st]
    by_cases e : a = l
    · subst e; simp
    · have : ¬ l = a := fun h => e h.symm
      simp [e, this]
theorem lc_filterF {α : Type} {g : MG} {tt : MT} {te : ME} {h k : α → Mv} {p : α → Bool} : ∀ {l : List α} {acc : List Mv}, (∀ a ∈ l, ∃ ρ1, g S (h a) ρ = some ρ1 ∧ tt ρ1 S = .ok (p a) S ∧ (p a = true → te ρ1 S = .ok (k a) S ∧ (k a).free = true)) → acc.length + l.length ≤ sizeLine → lcLoop g tt te ρ (l.map h) acc S = .ok (acc ++ (l.filter p).map k) S
  | [], acc, _, _ => by rw [List.map_nil, lc_nil, List.filter_nil, List.map_nil, List.append_nil]
  | a :: l, acc, hh, hl => by
    obtain ⟨ρ1, h1, h2, h3⟩ := hh a (List.mem_cons_self ..)
    rw [List.length_cons] at hl
    have ih := fun acc (hz : acc.length + l.length ≤ sizeLine) => lc_filterF (acc := acc) (fun y hy => hh y (List.mem_cons_of_mem _ hy)) hz
    cases e : p a with
    | true =>
      rw [e] at h2
      obtain ⟨h4, h5⟩ := h3 e
      rw [List.map_cons, lc_in h1 h2 h4 h5 (by omega), ih _ (by rw [List.length_append, List.length_singleton]; omega), List.filter_cons_of_pos e, List.map_cons, List.append_assoc]
      rfl
    | false =>
      rw [e] at h2
      rw [List.map_cons, lc_out h1 h2, ih _ (by omega), List.filter_cons_of_neg (by simp [e])]
theorem all_map_id {α : Type} {f : α → Bool} {l : List α} : (l.map f).all id = l.all f := by induction l <;> simp_all
theorem filter_not_empty {α : Type} {p : α → Bool} {l : List α} : (l.filter fun a => !p a).isEmpty = l.all p := by
  induction l with
  | nil => rfl
  | cons a r ih =>
    rw [List.all_cons, ← ih]
    cases e : p a
    · rw [List.filter_cons_of_pos (by simp [e])]; rfl
    · rw [List.filter_cons_of_neg (by simp [e])]; rfl
theorem sub_st {l : List Nat} {c i : Nat} : Builtin.Str.subAt (st l) (st [c]) i = decide ((l.drop i).take 1 = [c]) := by
  unfold Builtin.Str.subAt
  show (l.toArray.extract i (i + [c].length) == #[c]) = _
  rw [show [c].length = 1 from rfl]
  by_cases h : (l.drop i).take 1 = [c]
  · rw [decide_eq_true h]
    refine beq_iff_eq.mpr (Array.toList_inj.mp ?_)
    simp [List.extract_eq_take_drop]
    exact h
  · rw [decide_eq_false h]
    refine beq_eq_false_iff_ne.mpr fun e => h ?_
    have := congrArg Array.toList e
    simp [List.extract_eq_take_drop] at this
    exact this
theorem starts_one {l : List Nat} {c : Nat} : Txt.startswith (st l) (st [c]) = decide (l.take 1 = [c]) := by
  unfold Txt.startswith
  rw [sub_st, st_len, st_len, List.drop_zero]
  cases l <;> simp
theorem ends_one {l : List Nat} {c : Nat} : Txt.endswith (st l) (st [c]) = decide (l.drop (l.length - 1) = [c]) := by
  unfold Txt.endswith
  rw [sub_st, st_len, st_len, List.length_singleton]
  have e : (l.drop (l.length - 1)).take 1 = l.drop (l.length - 1) := List.take_of_length_le (by rw [List.length_drop]; omega)
  rw [e]
  cases l with
  | nil => simp
  | cons a r =>
    rw [show (decide (0 + 1 ≤ (a :: r).length)) = true from decide_eq_true (by rw [List.length_cons]; omega), Bool.true_and]
theorem cutL_last {α : Type} {l : List α} : cutL l (some (-1)) none = l.drop (l.length - 1) := by
  unfold cutL
  rw [HT.sIx_none]
  have e : HT.sIx l.length 0 (some (-1)) = l.length - 1 := by
    show (if (-1 : Int) < 0 then (-1 + (l.length : Int)).toNat else min (Int.toNat (-1)) l.length) = _
    rw [if_pos (by decide)]
    omega
  rw [e]
  exact List.take_of_length_le (by rw [List.length_drop]; omega)
theorem cutL_one {α : Type} {l : List α} : cutL l none (some 1) = l.take 1 := cutL_to (k := 1)
theorem cutL_ab {α : Type} {l : List α} {a b : Nat} (h : b ≤ l.length) (h2 : a ≤ b) : cutL l (some (a : Int)) (some (b : Int)) = (l.drop a).take (b - a) := by
  unfold cutL
  rw [HT.sIx_nat, HT.sIx_nat, Nat.min_eq_left h, Nat.min_eq_left (by omega)]
theorem cutL_neg1 {α : Type} {l : List α} {a : Nat} (h : a ≤ l.length) : cutL l (some (a : Int)) (some (-1)) = (l.drop a).take (l.length - 1 - a) := by
  unfold cutL
  have e : HT.sIx l.length l.length (some (-1)) = l.length - 1 := by
    show (if (-1 : Int) < 0 then (-1 + (l.length : Int)).toNat else min (Int.toNat (-1)) l.length) = _
    rw [if_pos (by decide)]
    omega
  rw [HT.sIx_nat, Nat.min_eq_left h, e]
/-- a walk over 0 .. n-1 -/
theorem loop_rg {g : MG} {b : MS} {n : Nat} {P : Nat → Rho → Sg → Prop} (h : ∀ i < n, ∀ ρ S, P i ρ S → ∃ ρ1 ρ2 S2, g S (.d (.int (i : Nat))) ρ = some ρ1 ∧ b ρ1 S = .nx ρ2 S2 ∧ P (i + 1) ρ2 S2) : ∀ (k i : Nat) (ρ : Rho) (S : Sg), i + k = n → P i ρ S → ∃ ρ2 S2, mLoop g b ((List.range' i k).map fun j : Nat => .d (.int (0 + (j : Int)))) ρ S = .nx ρ2 S2 ∧ P n ρ2 S2
  | 0, i, ρ, S, e, hp => ⟨ρ, S, rfl, by rw [← e]; exact hp⟩
  | k + 1, i, ρ, S, e, hp => by
    obtain ⟨ρ1, ρ2, S2, h1, h2, h3⟩ := h i (by omega) ρ S hp
    obtain ⟨ρ3, S3, e3, h4⟩ := loop_rg h k (i + 1) ρ2 S2 (by omega) h3
    refine ⟨ρ3, S3, ?_, h4⟩
    rw [List.range'_succ, List.map_cons, loop_on (ρ1 := ρ1) (by rw [Int.zero_add]; exact h1) h2]
    exact e3
theorem loop_range {g : MG} {b : MS} {n : Nat} {P : Nat → Rho → Sg → Prop} (h : ∀ i < n, ∀ ρ S, P i ρ S → ∃ ρ1 ρ2 S2, g S (.d (.int (i : Nat))) ρ = some ρ1 ∧ b ρ1 S = .nx ρ2 S2 ∧ P (i + 1) ρ2 S2) (hp : P 0 ρ S) : ∃ ρ2 S2, mLoop g b (rangeL 0 n) ρ S = .nx ρ2 S2 ∧ P n ρ2 S2 := by
  unfold rangeL
  rw [List.range_eq_range']
  exact loop_rg h n 0 ρ S (by omega) hp
/-- a comprehension told by what it has so far -/
theorem lc_acc {g : MG} {te : ME} {N : Nat} {P : List Mv → Sg → Prop} : ∀ {xs acc : List Mv} {S : Sg}, (∀ x ∈ xs, ∀ acc S, acc.length < N → P acc S → ∃ ρ1 y S2, g S x ρ = some ρ1 ∧ te ρ1 S = .ok y S2 ∧ y.free = true ∧ P (acc ++ [y]) S2) → P acc S → acc.length + xs.length = N → N ≤ sizeLine →
    ∃ ys S2, lcLoop g mYes te ρ xs acc S = .ok ys S2 ∧ ys.length = N ∧ P ys S2
  | [], acc, S, _, hp, hN, _ => ⟨acc, S, rfl, by simpa using hN, hp⟩
  | x :: xs, acc, S, hh, hp, hN, hl => by
    rw [List.length_cons] at hN
    obtain ⟨ρ1, y, S1, h1, h2, h3, h4⟩ := hh x (List.mem_cons_self ..) acc S (by omega) hp
    obtain ⟨ys, S2, e, e1, e2⟩ := lc_acc (acc := acc ++ [y]) (fun z hz => hh z (List.mem_cons_of_mem _ hz)) h4 (by rw [List.length_append, List.length_singleton]; omega) hl
    exact ⟨ys, S2, by rw [lc_yes h1 h2 h3 (by omega), e], e1, e2⟩
theorem upper_st {l : List Nat} (h : ∀ c ∈ l, c < 128) : Txt.upper (st l) = st (l.map PyProof.Rows.up1) :=
  SX.upper_S (List.all_eq_true.mpr fun c hc => decide_eq_true (h c hc))
end
end MM.Q
end
section
set_option Elab.async false
set_option linter.all false
set_option maxRecDepth 100000
set_option maxHeartbeats 4000000
set_option autoImplicit false
namespace MM.Q
open PySem PySem.Spec PyProof.Rows L2 MM
section
variable {S : Sg} {ρ : Rho}
def b2i (k : Bool) : Int := if k then 1 else 0
theorem b2i_t : b2i true = 1 := rfl
theorem b2i_f : b2i false = 0 := rfl
theorem sl_tupD {b : Bi} {ds : List PyData} {lo hi : Option Int} : bearO b (gSl S (.d (.tuple ds)) lo hi) S = .ok (.d (.tuple (cutL ds lo hi))) S := by
  unfold gSl
  simp only
  split
  · rename_i c
    have : cutL ds lo hi = ds := by
      unfold cutL
      rw [c.1, c.2, List.drop_zero, Nat.sub_zero, List.take_length]
    rw [this]; rfl
  · show bear b (.tup (cutM (ds.map .d) lo hi)) S = _
    rw [cutM_L, cutL_map]
    simp only [bear, allD_map]
def k1DP : List Mv → Sg → Res Mv := fun xs S1 => match xs with
  | [.d (.tuple ds)] => dctF S1 (pairsD ds)
  | [.d (.list ds)] => dctF S1 (pairsD ds)
  | _ => .bad
theorem ev_dp {a : MA} : mDictP a ρ S = (a ρ S).bind k1DP := rfl
theorem dp_tup {ds : List PyData} : k1DP [.d (.tuple ds)] S = dctF S (pairsD ds) := rfl
theorem dp_list {ds : List PyData} : k1DP [.d (.list ds)] S = dctF S (pairsD ds) := rfl
def k2DI : Mv → Mv → Sg → Res Mv := fun x y S2 => match x, keyM y with
  | .d (.dict ds), some key => (match lookD ds key with | some v => .ok (.d v) S2 | none => .bad)
  | _, _ => .bad
def k1DI (k : ME) (ρ : Rho) : Mv → Sg → Res Mv := fun x S1 => (k ρ S1).bind (k2DI x)
theorem ev_dix {d k : ME} : mDIx d k ρ S = (d ρ S).bind (k1DI k ρ) := rfl
theorem ev_dix1 {k : ME} {x : Mv} : k1DI k ρ x S = (k ρ S).bind (k2DI x) := rfl
def dixO (o : Option PyData) (S : Sg) : Res Mv := match o with | some v => .ok (.d v) S | none => .bad
theorem ev_dix2 {ds : List (PyData × PyData)} {z : Str} : k2DI (.d (.dict ds)) (.d (.str z)) S = dixO (lookD ds (.inr z)) S := rfl
def k2Dn : Mv → Mv → Sg → Res Mv := fun y x S2 => match x, keyM y with
  | .d (.dict ds), some key => .ok (.d (.bool (lookD ds key).isSome)) S2
  | _, _ => .bad
def k1Dn (d : ME) (ρ : Rho) : Mv → Sg → Res Mv := fun y S1 => (d ρ S1).bind (k2Dn y)
theorem ev_din {d k : ME} : mDIn k d ρ S = (k ρ S).bind (k1Dn d ρ) := rfl
theorem ev_din1 {d : ME} {y : Mv} : k1Dn d ρ y S = (d ρ S).bind (k2Dn y) := rfl
theorem ev_din2 {ds : List (PyData × PyData)} {z : Str} : k2Dn (.d (.str z)) (.d (.dict ds)) S = .ok (.d (.bool (lookD ds (.inr z)).isSome)) S := rfl
def k3DG (ds : List (PyData × PyData)) (y : Mv) : Mv → Sg → Res Mv := fun u S3 => match keyM y with
  | some key => .ok (match lookD ds key with | some v => .d v | none => u) S3
  | none => .bad
def k2DG (z : ME) (ρ : Rho) (ds : List (PyData × PyData)) : Mv → Sg → Res Mv := fun y S2 => (z ρ S2).bind (k3DG ds y)
def k1DG (k z : ME) (ρ : Rho) : Mv → Sg → Res Mv := fun x S1 => match x with
  | .d (.dict ds) => (k ρ S1).bind (k2DG z ρ ds)
  | _ => .bad
theorem ev_dg {d k z : ME} : mDGet d k z ρ S = (d ρ S).bind (k1DG k z ρ) := rfl
theorem ev_dg1 {k z : ME} {ds : List (PyData × PyData)} : k1DG k z ρ (.d (.dict ds)) S = (k ρ S).bind (k2DG z ρ ds) := rfl
theorem ev_dg2 {z : ME} {ds : List (PyData × PyData)} {y : Mv} : k2DG z ρ ds y S = (z ρ S).bind (k3DG ds y) := rfl
def dgO (o : Option PyData) (u : Mv) : Mv := match o with | some v => .d v | none => u
theorem ev_dg3 {ds : List (PyData × PyData)} {x : Str} {u : Mv} : k3DG ds (.d (.str x)) u S = .ok (dgO (lookD ds (.inr x)) u) S := rfl
def kEn : List Mv → Sg → Res (List Mv) := fun xs S => match xs with
  | [x] => (match x.itemsD with | some ds => .ok (numL ds) S | none => .bad)
  | _ => .bad
theorem ev_en {a : MA} : mEnum a ρ S = (a ρ S).bind kEn := rfl
theorem en_list {xs : List PyData} : kEn [.d (.list xs)] S = .ok (numL xs) S := rfl
theorem en_tup {xs : List PyData} : kEn [.d (.tuple xs)] S = .ok (numL xs) S := rfl
theorem numL_map {α : Type} {f : α → PyData} {l : List α} : numL (l.map f) = l.zipIdx.map fun p => .d (.tuple [.int (p.2 : Nat), f p.1]) := by
  unfold numL
  rw [List.zipIdx_map, List.map_map]
  rfl
theorem en_st {l : List Nat} : kEn [.d (.str (st l))] S = .ok (l.zipIdx.map fun p => .d (.tuple [.int (p.2 : Nat), .str (st [p.1])])) S := by
  show Res.ok (numL ((st l).cps.toList.map fun c => .str ⟨#[c]⟩)) S = _
  rw [numL_map]
  rfl
def K (l : List Nat) : Key := .inr (st l)
theorem K_inj {a b : List Nat} (h : K a = K b) : a = b := st_inj (Sum.inr.inj h)
theorem part_at {a b : List Nat} {c : Nat} (h : c ∉ a) : Txt.partition (st (a ++ c :: b)) (st [c]) = (st a, st [c], st b) := by
  have e : st (a ++ c :: b) = st a ++ st [c] ++ st b := by rw [st_app, st_app, List.append_assoc]; rfl
  rw [e]
  exact TL.partition_app (s := c) (S := []) rfl (a := st a) (b := st b) (by simpa [TL.tl, st] using h)
theorem part_no {a : List Nat} {c : Nat} (h : c ∉ a) : Txt.partition (st a) (st [c]) = (st a, st [], st []) := by
  have := TL.partition_none (y := st [c]) (s := c) (S := []) rfl (a := st a) (by simpa [TL.tl, st] using h)
  rw [this]; rfl
end
end MM.Q
end
section
set_option Elab.async false
set_option linter.all false
set_option maxRecDepth 100000
set_option maxHeartbeats 4000000
set_option autoImplicit false
namespace MM.Q
open PySem PySem.Spec PyProof.Rows L2 MM
section
variable {S : Sg} {ρ : Rho}
theorem index_at {a b : List Nat} {c : Nat} (h : c ∉ a) : Txt.index0 (st (a ++ c :: b)) (st [c]) = some a.length := by
  have hl : (st (a ++ c :: b)).length = a.length + (b.length + 1) := by rw [st_len]; simp
  have h1 : PySem.StrLaws.At (st (a ++ c :: b)) (st [c]) (st (a ++ c :: b)).length a.length := ⟨by rw [hl, st_len]; simp, by rw [sub_st]; simp⟩
  unfold Txt.index0
  rcases PySem.StrLaws.occ_head (st (a ++ c :: b)) (st [c]) 1 (Nat.le_refl _) with ⟨e, hn⟩ | ⟨i, r, e, hi, hn⟩
  · exact absurd h1 (hn _)
  · rw [e]
    show some i = _
    congr 1
    rcases Nat.lt_trichotomy i a.length with q | q | q
    · have h2 := hi.2
      rw [sub_st] at h2
      have h3 := of_decide_eq_true h2
      rw [List.drop_append_of_le_length (Nat.le_of_lt q)] at h3
      have hd : a.drop i ≠ [] := by
        intro z
        have := congrArg List.length z
        rw [List.length_drop, List.length_nil] at this
        omega
      obtain ⟨x, y, exy⟩ := List.exists_cons_of_ne_nil hd
      rw [exy, List.cons_append, List.take_succ_cons, List.take_zero] at h3
      have : c ∈ a := List.mem_of_mem_drop (by rw [exy, (List.cons.inj h3).1]; exact List.mem_cons_self ..)
      exact absurd this h
    · exact q
    · exact absurd h1 (hn _ q)
end
end MM.Q
end
section
set_option Elab.async false
set_option linter.all false
set_option maxRecDepth 100000
set_option maxHeartbeats 4000000
set_option autoImplicit false
namespace MM.Q
open PySem PySem.Spec PyProof.Rows L2 MM
section
variable {S : Sg} {ρ : Rho}
theorem rep0 {α : Type} {a : α} : List.replicate 0 a = [] := rfl
theorem clr_nx {i : Nat} : clr i (.nx ρ S) = .nx (ρ.set i none) S := rfl
theorem clr_rt {i : Nat} {x : Mv} : clr i (.rt x S) = .rt x S := rfl
theorem mg_tpl {n : Nat} {g : MGs} {xs : List Mv} (h : xs.length = n) : mgTup n g S (.tpl xs) ρ = g S xs ρ := if_pos h
theorem mg_tupM {n : Nat} {g : MGs} {xs : List Mv} (h : xs.length = n) : mgTup n g S (.tup xs) ρ = g S xs ρ := if_pos h
theorem isN_str {neg : Bool} {z : Str} : gIsN neg S (.d (.str z)) (.d .none) = some (.val (.d (.bool neg))) := rfl
theorem isN_none {neg : Bool} : gIsN neg S (.d .none) (.d .none) = some (.val (.d (.bool (!neg)))) := rfl
theorem isN_tup {neg : Bool} {xs : List PyData} : gIsN neg S (.d (.tuple xs)) (.d .none) = some (.val (.d (.bool neg))) := rfl
theorem isN_bool {neg b : Bool} : gIsN neg S (.d (.bool b)) (.d .none) = some (.val (.d (.bool neg))) := rfl
theorem isN_ins {neg : Bool} {C : Str} {ns : List Str} {vs : List Mv} : gIsN neg S (.ins C ns vs) (.d .none) = some (.val (.d (.bool neg))) := rfl
theorem free_ins {C : Str} {ns : List Str} {vs : List Mv} : Mv.free (.ins C ns vs) = true := rfl
end
end MM.Q
end
section
set_option Elab.async false
set_option linter.all false
set_option maxRecDepth 100000
set_option maxHeartbeats 4000000
set_option autoImplicit false
namespace MM.Q
open PySem PySem.Spec PyProof.Rows L2 MM
section
variable {S : Sg} {ρ : Rho}
theorem items_frl {xs : List Mv} : Mv.items (.frl xs) = some xs := rfl
theorem items_tupM {xs : List Mv} : Mv.items (.tup xs) = some xs := rfl
theorem seq_frl {xs : List Mv} : Mv.seq S (.frl xs) = some (false, xs) := rfl
theorem seq_tupM {xs : List Mv} : Mv.seq S (.tup xs) = some (true, xs) := rfl
end
end MM.Q
end
section
set_option Elab.async false
set_option linter.all false
set_option maxRecDepth 100000
set_option maxHeartbeats 4000000
set_option autoImplicit false
namespace MM.Q
open PySem PySem.Spec PyProof.Rows L2 MM
end MM.Q
end
section
set_option Elab.async false
set_option linter.all false
set_option maxRecDepth 100000
set_option maxHeartbeats 4000000
set_option autoImplicit false
namespace MM
open PySem PySem.Spec PyProof.Rows L2
end MM
end
section
set_option Elab.async false
set_option linter.all false
set_option maxRecDepth 100000
set_option maxHeartbeats 4000000
set_option autoImplicit false
namespace MM
open PySem PySem.Spec PyProof.Rows L2
end MM
end
section
set_option Elab.async false
set_option linter.all false
set_option maxRecDepth 100000
set_option maxHeartbeats 4000000
set_option autoImplicit false
namespace MM
open PySem PySem.Spec PyProof.Rows L2
end MM
end
section
set_option Elab.async false
set_option linter.all false
set_option maxRecDepth 100000
set_option maxHeartbeats 4000000
set_option autoImplicit false
namespace MM
open PySem PySem.Spec PyProof.Rows L2
end MM
end
section
set_option Elab.async false
set_option linter.all false
set_option maxRecDepth 100000
set_option maxHeartbeats 4000000
set_option autoImplicit false
namespace MM
open PySem PySem.Spec PyProof.Rows L2
end MM
end
section
set_option Elab.async false
set_option linter.all false
set_option maxRecDepth 100000
set_option maxHeartbeats 4000000
set_option autoImplicit false
namespace MM
open PySem PySem.Spec PyProof.Rows L2
/-- a list's object, its items told -/
def AL (h : Heap) (a : Addr) (its : List Value) : Prop := ∃ (n : Nat), h.get? a = some { cls := .type "list", data := .seq its.toArray n }
theorem AL.kept {h h' : Heap} {a : Addr} {its : List Value} (x : AL h a its) (k : ∀ o, h.get? a = some o → h'.get? a = some o) : AL h' a its := let ⟨n, e⟩ := x; ⟨n, k _ e⟩
section
variable {X : Cx} {W : WX}
theorem ObjOk.live {P : Program} {w : World} {H : Hp} {h : Heap} {a : Addr} {o : HO} (x : ObjOk P w H h a o) : ∃ u, h.get? a = some u := by
  cases o with
  | lst xs => obtain ⟨_, _, _, _, e⟩ := x; exact ⟨_, e⟩
  | tup xs => obtain ⟨_, _, _, _, e, _⟩ := x; exact ⟨_, e⟩
  | dK kvs => obtain ⟨_, _, _, _, o, _, _, e, _⟩ := x; exact ⟨_, e⟩
  | dT kvs => obtain ⟨_, _, _, _, o, _, _, e, _⟩ := x; exact ⟨_, e⟩
  | set S n => obtain ⟨o, _, _, _, e, _⟩ := x; exact ⟨_, e⟩
  | ins C dx fs => obtain ⟨_, _, _, e, _⟩ := x; exact ⟨_, e⟩
  | own y => obtain ⟨_, e⟩ := x; exact ⟨_, e⟩
  | xd fs => obtain ⟨_, ⟨_, _, _, e, _⟩, _⟩ := x; exact ⟨_, e⟩
  | rng lo hi => obtain ⟨_, _, _, e⟩ := x; exact ⟨_, e⟩
  | frz ob u => obtain ⟨e, _⟩ := x; exact ⟨_, e⟩
  | tbl ps => exact ⟨_, show h.get? a = some _ from x⟩
  | met f y => exact ⟨_, show h.get? a = some _ from x⟩
  | ext φ => obtain ⟨_, e, _⟩ := x; exact e
end
end MM
end
section
set_option Elab.async false
set_option linter.all false
set_option maxRecDepth 100000
set_option maxHeartbeats 4000000
set_option autoImplicit false
namespace MM
open PySem PySem.Spec PyProof.Rows L2
theorem FlyingZ.keeps {base h h' : Heap} {l : List Env} {e : Addr} {Z : Obj → Prop} (R : HandSPX.FlyingZ base l e Z h) (k : ∀ b o, h.get? b = some o → h'.get? b = some o) : HandSPX.FlyingZ base l e Z h' := by
  obtain ⟨f1, f2, f3, oe, ws, T, oT, ts, he, hz, hd, h1, hn, hne, hT, hdT, h3⟩ := R
  exact ⟨fun b o q => k b o (f1 b o q), f2, f3.of_keeps fun b o q _ => ⟨o, k b o q, rfl⟩, oe, ws, T, oT, ts, k _ _ he, hz, hd, h1, hn, hne, k _ _ hT, hdT, h3⟩
abbrev Hd := List (Xc × Bool) × Option Nat × (Addr → Option Addr → Ex → MS)
end MM
end
section
set_option Elab.async false
set_option linter.all false
set_option maxRecDepth 100000
set_option maxHeartbeats 4000000
set_option autoImplicit false
namespace MM
open PySem PySem.Spec PyProof.Rows L2
end MM
end
section
set_option Elab.async false
set_option linter.all false
set_option maxRecDepth 100000
set_option maxHeartbeats 4000000
set_option autoImplicit false
namespace MM
open PySem PySem.Spec PyProof.Rows L2
end MM
end
section
set_option Elab.async false
set_option linter.all false
set_option maxRecDepth 100000
set_option maxHeartbeats 4000000
set_option autoImplicit false
namespace PySem.W
open PySem PySem.Calls PyProof.Rows Builtin
section
variable {prog : Program} {w : World} {A : Around} {E : Value → Shared → Prop} {s : Shared} {K : Frag} {x C L f dx : Addr} {h₀ : Heap} {m : Str → Option Value} {ox : Obj} {od : Option Obj} {a ta : Value}
/-- what the own == of a class is asked for == -/
theorem one_eq {Q : Value → Shared → Prop} (F : Fr h₀ L s.heap m) (X₀ : K.In h₀) (I : InstAt s.heap x ox C od) (hs : findIn K (.ref C) "__eq__" = some (some (.ref f))) (hf : isFn K (.ref f) = true)
    (h : wpAny (model prog w) A (call (.ref f) [.ref x, a]) (fun v s' => ∃ r, v = .bool r ∧ Q (.bool r) s') E s) : wpAny (model prog w) A (tryCompare (.ref x) "__eq__" a) (fun r s' => ∃ v, r = some v ∧ Q v s') E s := by
  unfold tryCompare
  refine wpAny_bind (ifBound_K (X₀.keeps F.keep) I hs hf (wpAny_mono h (fun v s' hv => ?_) fun _ _ e => e))
  obtain ⟨r, rfl, hq⟩ := hv
  exact wpAny_pure ⟨_, rfl, hq⟩
end
end PySem.W
end
section
set_option Elab.async false
set_option linter.all false
set_option maxRecDepth 100000
set_option maxHeartbeats 4000000
set_option autoImplicit false
namespace MM
open PySem PySem.Spec PyProof.Rows L2
end MM
end
section
set_option Elab.async false
set_option linter.all false
set_option maxRecDepth 100000
set_option maxHeartbeats 4000000
set_option autoImplicit false
namespace MM
open PySem PySem.Spec PyProof.Rows L2
end MM
end
section
set_option Elab.async false
set_option linter.all false
set_option maxRecDepth 100000
set_option maxHeartbeats 4000000
set_option autoImplicit false
namespace PySem.W
open PySem PySem.Calls PyProof.Rows Builtin
end PySem.W
namespace MM
open PySem PySem.Spec PyProof.Rows L2
end MM
end
section
set_option Elab.async false
set_option linter.all false
set_option maxRecDepth 100000
set_option maxHeartbeats 4000000
set_option autoImplicit false
namespace MM
open PySem PySem.Spec PyProof.Rows L2
variable {X : Cx} {W : WX}
theorem LR.grown {K : PySem.W.Frag} {ι ι' : Io} {H H' : Hp} (hp : ∃ t, ι' = ι ++ t) (g : Grow H H') {ρ : Rho} {σ : L2.St} (h : LR K ι H ρ σ) : LR K ι' H' ρ σ :=
  ⟨h.1, fun i x e => let ⟨v, e1, r⟩ := h.2 i x e; ⟨v, e1, XV.grown hp g x r⟩⟩
end MM
end
section
set_option Elab.async false
set_option linter.all false
set_option maxRecDepth 100000
set_option maxHeartbeats 4000000
set_option autoImplicit false
namespace MM
open PySem PySem.Spec PyProof.Rows L2
end MM
end
section
set_option Elab.async false
set_option linter.all false
set_option maxRecDepth 100000
set_option maxHeartbeats 4000000
set_option autoImplicit false
namespace PySem.W
open PySem PySem.Calls PyProof.Rows Builtin
section
variable {prog : Program} {w : World} {A : Around} {E : Value → Shared → Prop} {s : Shared} {x : Addr}
def IsDct (h : Heap) (x : Addr) : Prop := ∃ (dd : Option Addr) (es : Array DictEntry) (ep : Nat) (sl : Array (Option Value)), h.get? x = some { cls := .type "dict", dict := dd, data := .dict es ep, slots := sl }
theorem IsDct.ty (b : IsDct s.heap x) : s.TypeIs (.ref x) "dict" := by
  obtain ⟨dd, es, ep, sl, hl⟩ := b
  exact ⟨_, hl, rfl⟩
end
end PySem.W
namespace MM
open PySem PySem.Spec PyProof.Rows L2
end MM
end
section
set_option Elab.async false
set_option linter.all false
set_option maxRecDepth 100000
set_option maxHeartbeats 4000000
set_option autoImplicit false
namespace MM
open PySem PySem.Spec PyProof.Rows L2
end MM
end
section
set_option Elab.async false
set_option linter.all false
set_option maxRecDepth 100000
set_option maxHeartbeats 4000000
set_option autoImplicit false
namespace MM
open PySem PySem.Spec PyProof.Rows L2
end MM
end
section
set_option Elab.async false
set_option linter.all false
set_option maxRecDepth 100000
set_option maxHeartbeats 4000000
set_option autoImplicit false
namespace MM.Q
open PySem PySem.Spec PyProof.Rows L2 MM
end MM.Q
end
section
set_option Elab.async false
set_option linter.all false
set_option maxRecDepth 100000
set_option maxHeartbeats 4000000
set_option autoImplicit false
namespace MM.Q
open PySem PySem.Spec PyProof.Rows L2 MM
end MM.Q
end
section
set_option Elab.async false
set_option linter.all false
set_option maxRecDepth 100000
set_option maxHeartbeats 4000000
set_option autoImplicit false
namespace MM.Q
open PySem PySem.Spec PyProof.Rows L2 MM
end MM.Q
end
section
set_option Elab.async false
set_option linter.all false
set_option maxRecDepth 100000
set_option maxHeartbeats 4000000
set_option autoImplicit false
namespace MM
open PySem PySem.Spec PyProof.Rows L2
open PySem.W (EachIs)
section
variable {X : Cx} {W : WX}
/-- new things beside -/
inductive Ext : Hp → Hp → Prop
  | refl (H : Hp) : Ext H H
  | step {H H1 : Hp} {p : Addr} {u : HO} : Ext H H1 → H1 p = none → Ext H (upd H1 p u)
theorem Ext.keep {H H' : Hp} (e : Ext H H') : ∀ b o, H b = some o → H' b = some o := by
  induction e with
  | refl => exact fun _ _ e => e
  | step _ hp ih => exact fun b o e => by rw [upd_ne (ne_of_none (ih b o e) hp)]; exact ih b o e
theorem Ext.grow {H H' : Hp} (e : Ext H H') : Grow H H' := by
  induction e with
  | refl => exact Grow.refl _
  | step _ hp ih => exact ih.trans (Grow.new hp)
theorem Ext.trans {H H1 H2 : Hp} (a : Ext H H1) (b : Ext H1 H2) : Ext H H2 := by
  induction b with
  | refl => exact a
  | step _ hp ih => exact .step ih hp
theorem FDk.len {K : PySem.W.Frag} {H : Hp} : ∀ {ds : List (PyData × PyData)} {kvs : List (Key × V)}, FDk K H ds kvs → ds.length = kvs.length
  | _, _, .nil => rfl
  | _, _, .cons _ hs => congrArg (· + 1) (FDk.len hs)
variable {e : Expr} {m : ME} {x : Str} {p apos cpos pos : Pos}
end
end MM
end
section
set_option Elab.async false
set_option linter.all false
set_option maxRecDepth 100000
set_option maxHeartbeats 4000000
set_option autoImplicit false
namespace MM
open PySem PySem.Spec PyProof.Rows L2
end MM
end
section
set_option Elab.async false
set_option linter.all false
set_option maxRecDepth 100000
set_option maxHeartbeats 4000000
set_option autoImplicit false
namespace MM
open PySem PySem.Spec PyProof.Rows L2
end MM
end
section
set_option Elab.async false
set_option linter.all false
set_option maxRecDepth 100000
set_option maxHeartbeats 4000000
set_option autoImplicit false
namespace MM
open PySem PySem.Spec PyProof.Rows L2
section
variable {X : Cx} {W : WX}
def dropC (kvs : List (Key × Mv)) (k : Key) : List (Key × Mv) := kvs.filter fun p => decide (p.1 ≠ k)
theorem DR.drop {K : PySem.W.Frag} {ι : Io} {H : Hp} {k : Key} {kvs : List (Key × Mv)} {kv : List (Key × V)} (h : DR K ι H kvs kv) : DR K ι H (dropC kvs k) (dropK kv k) := by
  induction h with
  | nil => exact .nil
  | @cons p q ps qs hd t ih =>
    unfold dropC dropK
    rw [List.filter_cons, List.filter_cons, ← hd.1]
    split
    · exact .cons hd ih
    · exact ih
variable {kx vx tg iter : Expr} {ifs : List Expr} {scope : Scope} {own : List (Str × Nat)} {mi : MA} {g : MG} {tt : MT} {te tv md : ME} {ts vs : List Nat} {o : Expr} {apos cpos pos : Pos}
end
end MM
end
section
set_option Elab.async false
set_option linter.all false
set_option maxRecDepth 100000
set_option maxHeartbeats 4000000
set_option autoImplicit false
namespace MM
open PySem PySem.Spec PyProof.Rows L2
end MM
end
section
set_option Elab.async false
set_option linter.all false
set_option maxRecDepth 100000
set_option maxHeartbeats 4000000
set_option autoImplicit false
namespace MM
open PySem PySem.Spec PyProof.Rows L2
end MM
end
section
set_option Elab.async false
set_option linter.all false
set_option maxRecDepth 100000
set_option maxHeartbeats 4000000
set_option autoImplicit false
namespace MM
open PySem PySem.Spec PyProof.Rows L2
end MM
end
section
set_option Elab.async false
set_option linter.all false
set_option maxRecDepth 100000
set_option maxHeartbeats 4000000
set_option autoImplicit false
namespace MM
open PySem PySem.Spec PyProof.Rows L2
end MM
end
section
set_option Elab.async false
set_option linter.all false
set_option maxRecDepth 100000
set_option maxHeartbeats 4000000
set_option autoImplicit false
namespace MM.Q
open PySem PySem.Spec PyProof.Rows L2 MM
end MM.Q
end
section
set_option Elab.async false
set_option linter.all false
set_option maxRecDepth 100000
set_option maxHeartbeats 4000000
set_option autoImplicit false
namespace MM
open PySem PySem.Spec PyProof.Rows L2
end MM
end
section
set_option Elab.async false
set_option linter.all false
set_option maxRecDepth 100000
set_option maxHeartbeats 4000000
set_option autoImplicit false
namespace MM
open PySem PySem.Spec PyProof.Rows L2
end MM
end
section
set_option Elab.async false
set_option linter.all false
set_option maxRecDepth 100000
set_option maxHeartbeats 4000000
set_option autoImplicit false
namespace MM
open PySem PySem.Spec PyProof.Rows L2
end MM
end
section
set_option Elab.async false
set_option linter.all false
set_option maxRecDepth 100000
set_option maxHeartbeats 4000000
set_option autoImplicit false
namespace MM
open PySem PySem.Spec PyProof.Rows L2
end MM
end
section
set_option Elab.async false
set_option linter.all false
set_option maxRecDepth 100000
set_option maxHeartbeats 4000000
set_option autoImplicit false
namespace MM
open PySem PySem.Spec PyProof.Rows L2
end MM
end
section
set_option Elab.async false
set_option linter.all false
set_option maxRecDepth 100000
set_option maxHeartbeats 4000000
set_option autoImplicit false
namespace MM
open PySem PySem.Spec PyProof.Rows L2
section
variable {X : Cx} {W : WX}
theorem DR.sub {K : PySem.W.Frag} {ι ι' : Io} {H H' : Hp} {kvs : List (Key × Mv)} {kv : List (Key × V)} (s : Sub ι H ι' H') (h : DR K ι H kvs kv) : DR K ι' H' kvs kv := L2.Paired.mapP h fun _ _ z => ⟨z.1, z.2.mono s⟩
end
end MM
end
section
set_option Elab.async false
set_option linter.all false
set_option maxRecDepth 100000
set_option maxHeartbeats 4000000
set_option autoImplicit false
namespace MM
open PySem PySem.Spec PyProof.Rows L2
end MM
end
section
set_option Elab.async false
set_option linter.all false
set_option maxRecDepth 100000
set_option maxHeartbeats 4000000
set_option autoImplicit false
namespace MM
open PySem PySem.Spec PyProof.Rows L2
end MM
end
section
set_option Elab.async false
set_option linter.all false
set_option maxRecDepth 100000
set_option maxHeartbeats 4000000
set_option autoImplicit false
namespace MM.Q
open PySem PySem.Spec PyProof.Rows L2 MM
section
variable {S : Sg} {ρ : Rho}
theorem isN_int {neg : Bool} {a : Int} : gIsN neg S (.d (.int a)) (.d .none) = some (.val (.d (.bool neg))) := rfl
end
end MM.Q
end
section
set_option Elab.async false
set_option linter.all false
set_option maxRecDepth 100000
set_option maxHeartbeats 4000000
set_option autoImplicit false
noncomputable section
namespace MM
open PySem PySem.Spec PyProof.Rows L2
namespace Hd
abbrev Fg := PySem.W.Frag
abbrev Gt := Addr → Option Obj
def lk (K : Fg) : Gt := fun a => K.lookup a
def allG (g : Gt) (n : Nat) : Fg := He.frG g (mainGlobals :: List.range n)
theorem frG_hit {g : Gt} {a : Addr} {o : Obj} (e : g a = some o) : ∀ {as : List Addr}, a ∈ as → (He.frG g as).lookup a = some o
  | b :: r, h => by
    unfold He.frG
    rw [List.filterMap_cons]
    by_cases c : a = b
    · subst c
      rw [e]
      show (match a == a with | true => some o | false => _) = some o
      rw [beq_self_eq_true]
    · have hr : a ∈ r := (List.mem_cons.mp h).resolve_left c
      have ih := frG_hit e hr
      cases hb : g b with
      | none => exact ih
      | some ob =>
        show (match a == b with | true => some ob | false => (He.frG g r).lookup a) = some o
        rw [show (a == b) = false from beq_eq_false_iff_ne.mpr c]
        exact ih
def isSF (v : Value) (n : Str) : Bool := match v with | .str s _ => PySem.W.Fast.sEq s n | _ => false
theorem sEq_beq {a b : Str} : PySem.W.Fast.sEq a b = (a == b) := by
  cases h : PySem.W.Fast.sEq a b with
  | true => rw [PySem.W.Fast.sEq_iff.mp h, beq_self_eq_true]
  | false =>
    refine (beq_eq_false_iff_ne.mpr fun e => ?_).symm
    rw [PySem.W.Fast.sEq_iff.mpr e] at h
    cases h
theorem isSF_eq {v : Value} {n : Str} : isSF v n = v.isStr n := by
  cases v <;> first | exact sEq_beq | rfl
def nsG (g : Gt) (ns : Addr) (x : Str) : Option (Option Value) := match g ns with
  | some ⟨_, _, .dict es _, _⟩ => (match es.toList.find? (fun e => isSF e.key x) with
      | some e => some (some e.val)
      | none => if es.toList.any (·.refKey) then none else some none)
  | _ => none
theorem nsG_eq {K : Fg} {ns : Addr} {x : Str} : nsG (lk K) ns x = PySem.W.nsIn K ns x := by
  unfold nsG PySem.W.nsIn
  simp only [isSF_eq]
  rfl
section
variable (g : Gt)
def ob (a : Addr) : Obj := (g a).getD default
def fn (a : Addr) : FuncData := match (ob g a).data with | .func fd => fd | _ => default
def sl (a : Addr) (i : Nat) : Option Value := (ob g a).slots.toList.getD i none
def kv (a : Addr) : Addr := match (fn g a).kwdefaults with | .ref D => D | _ => 0
def at_ (D : Addr) (x : Str) : Addr := match nsG g D x with | some (some (.ref a)) => a | _ => 0
def sq (a : Addr) : Nat := match (ob g a).data with | .seq _ n => n | _ => 0
def tk (x : Str) : Tok := match nsG g mainGlobals x with | some (some (.int _ t)) => t | some (some (.str _ t)) => t | _ => 0
def intB (x : Str) (i : Int) : Bool := match nsG g mainGlobals x with | some (some (.int j _)) => decide (j = i) | _ => false
def strB (x z : Str) : Bool := match nsG g mainGlobals x with | some (some (.str y _)) => PySem.W.Fast.sEq y z | _ => false
def freeB (D : Addr) (x : Str) : Bool := match nsG g D x with | some none => true | _ => false
def atB (D : Addr) (x : Str) : Bool := match nsG g D x with | some (some (.ref _)) => true | _ => false
def nonB (D : Addr) (x : Str) : Bool := match nsG g D x with | some (some .none) => true | _ => false
def refB (a : Addr) : Bool := match (fn g a).kwdefaults with | .ref _ => true | _ => false
def codeB (v : Value) (q : Str) : Bool := match v with
  | .ref c => (match g c with
      | some ⟨_, _, .fields vs, _⟩ => (match vs.toList with | _ :: .str n _ :: _ => PySem.W.Fast.sEq n q | _ => false)
      | _ => false)
  | _ => false
def fnV (a : Addr) : He.FnV := match g a with
  | some ⟨_, _, .func fd, _⟩ => some (fd.name, fd.qualname, fd.params, fd.body, fd.scope, fd.globals, fd.closure, fd.defaults, fd.builtins)
  | _ => none
end
def fnW (x q : Str) (st : Stmt) : He.FnV := some (x, q, defArgs st, .stmts (defBody st), defScope st, mainGlobals, [], .none, builtinsNs)
section
variable {K : Fg} {a C : Addr} {D : Addr} {x z q : Str} {i : Int} {b : Bool} {v u : Value} {s : String} {tl : List String}
theorem ob_of {o : Obj} (e : K.lookup a = some o) : ob (lk K) a = o := by
  unfold ob lk
  rw [e]
  rfl
theorem int_l (h : intB (lk K) x i = true) : PySem.W.nsIn K mainGlobals x = some (some (.int i (tk (lk K) x))) := by
  unfold intB at h
  unfold tk
  rw [← nsG_eq]
  split at h
  · rename_i j t e
    rw [e, ← of_decide_eq_true h]
  · cases h
theorem str_l (h : strB (lk K) x z = true) : PySem.W.nsIn K mainGlobals x = some (some (.str z (tk (lk K) x))) := by
  unfold strB at h
  unfold tk
  rw [← nsG_eq]
  split at h
  · rename_i j t e
    rw [e, ← PySem.W.Fast.sEq_iff.mp h]
  · cases h
theorem free_l (h : freeB (lk K) D x = true) : PySem.W.nsIn K D x = some none := by
  unfold freeB at h
  rw [← nsG_eq]
  split at h
  · assumption
  · cases h
theorem at_l (h : atB (lk K) D x = true) : PySem.W.nsIn K D x = some (some (.ref (at_ (lk K) D x))) := by
  unfold atB at h
  unfold at_
  rw [← nsG_eq]
  split at h
  · rename_i e
    rw [e]
  · cases h
theorem non_l (h : nonB (lk K) D x = true) : PySem.W.nsIn K D x = some (some .none) := by
  unfold nonB at h
  rw [← nsG_eq]
  split at h
  · assumption
  · cases h
theorem ref_l (h : refB (lk K) a = true) : (fn (lk K) a).kwdefaults = .ref (kv (lk K) a) := by
  unfold refB at h
  unfold kv
  split at h
  · rename_i D e
    rw [e]
  · cases h
theorem code_l (h : codeB (lk K) v q = true) : PySem.W.codeIn K v q = true := by
  unfold codeB at h
  unfold PySem.W.codeIn
  split at h
  · rename_i c
    simp only
    split at h
    · rename_i vs _ e
      rw [show K.lookup c = _ from e]
      simp only
      split at h
      · rename_i e2
        rw [e2]
        simp only
        rw [← sEq_beq]
        exact h
      · cases h
    · cases h
  · cases h
theorem keepf_l {oc : Value} {od : Option Addr} {fd : FuncData} {sls : Array (Option Value)} (e : K.lookup a = some ⟨oc, od, .func fd, sls⟩) : PySem.W.keepIn K (.ref a) = true := by
  unfold PySem.W.keepIn
  simp only
  rw [e]
theorem fn_l {st : Stmt} (e : fnV (lk K) a = fnW x q st) : K.lookup a = some ⟨(ob (lk K) a).cls, (ob (lk K) a).dict, .func (PySem.W.fnOf x q (defArgs st) (defBody st) (defScope st) .none (fn (lk K) a).kwdefaults (fn (lk K) a).doc (fn (lk K) a).pyModule (fn (lk K) a).annotations (fn (lk K) a).code (fn (lk K) a).closureTuple), (ob (lk K) a).slots⟩ := by
  unfold fnV at e
  split at e
  · rename_i oc od fd osl el
    have eo : ob (lk K) a = ⟨oc, od, .func fd, osl⟩ := ob_of el
    have ef : fn (lk K) a = fd := by unfold fn; rw [eo]
    rw [show K.lookup a = _ from el, ef, eo]
    obtain ⟨n1, n2, n3, n4, n5, n6, n7, n8, n9, n10, n11, n12, n13, n14, n15⟩ := fd
    have e2 : (some (n1, n2, n3, n4, n5, n6, n7, n8, n15) : He.FnV) = some (x, q, defArgs st, .stmts (defBody st), defScope st, mainGlobals, [], .none, builtinsNs) := e
    simp only [Option.some.injEq, Prod.mk.injEq] at e2
    obtain ⟨h1, h2, h3, h4, h5, h6, h7, h8, h9⟩ := e2
    subst h1 h2 h3 h4 h5 h6 h7 h8 h9
    rfl
  · cases e
theorem fn_lr {st : Stmt} (e : fnV (lk K) a = fnW x q st) (r : refB (lk K) a = true) : K.lookup a = some ⟨(ob (lk K) a).cls, (ob (lk K) a).dict, .func (PySem.W.fnOf x q (defArgs st) (defBody st) (defScope st) .none (.ref (kv (lk K) a)) (fn (lk K) a).doc (fn (lk K) a).pyModule (fn (lk K) a).annotations (fn (lk K) a).code (fn (lk K) a).closureTuple), (ob (lk K) a).slots⟩ := by
  rw [← ref_l r]
  exact fn_l e
end
theorem gb {l : List Bool} (h : l.all id = true) (i : Nat) {b : Bool} (e : l[i]? = some b) : b = true := List.all_eq_true.mp h b (List.mem_of_getElem? e)
theorem gf {l m : List He.FnV} (h : l = m) (i : Nat) {x y : He.FnV} (e : l[i]? = some x) (e2 : m[i]? = some y) : x = y := by
  rw [h, e2] at e
  exact (Option.some.inj e).symm
end Hd
end MM
end
end
section
set_option Elab.async false
set_option linter.all false
set_option maxRecDepth 100000
set_option maxHeartbeats 4000000
set_option autoImplicit false
namespace MM
open PySem PySem.Spec PyProof.Rows L2
/-- behind it a token is out -/
def Strict {α : Type} (t : Sem α) : Prop := ∀ (M : Model) (Γ : PySem.Ctx) (Q : α → Pos → Shared → Prop) (E : Value → Pos → Shared → Prop) (p : Pos) (s : Shared), Sem.wp M Γ t Q E p s → Sem.wp M Γ t (fun a p' s' => 1 ≤ s'.toks ∧ Q a p' s') E p s
theorem Strict.bind {α β : Type} {m : Sem α} {f : α → Sem β} (h : Strict m) : Strict (m >>= f) := fun M Γ Q E p s w => by
  rw [Sem.wp_bind'] at w ⊢
  exact Sem.wp_mono M Γ m (fun a p' s' ⟨h1, h2⟩ => Sem.wp_mono M Γ _ (fun _ _ _ x => x) (fun _ _ _ x => x.2) _ _ (Sem.wp_toks M Γ 1 (f a) Q E p' s' h1 h2)) (fun _ _ _ x => x) p s (h M Γ _ E p s w)
theorem Strict.after {α β : Type} {m : Sem α} {f : α → Sem β} (h : ∀ a, Strict (f a)) : Strict (m >>= f) := fun M Γ Q E p s w => by
  rw [Sem.wp_bind'] at w ⊢
  exact Sem.wp_mono M Γ m (fun a p' s' x => h a M Γ Q E p' s' x) (fun _ _ _ x => x) p s w
theorem Strict.any {α : Type} {t : Sem α} (h : Strict t) {M : Model} {A : Around} {Q : α → Shared → Prop} {E : Value → Shared → Prop} {s : Shared} (w : wpAny M A t Q E s) : wpAny M A t (fun a s' => 1 ≤ s'.toks ∧ Q a s') E s := fun Γ p hΓ => h M Γ _ _ p s (w Γ p hΓ)
def PMT (X : Cx) (W : WX) (e : Expr) (m : ME) : Prop := PET X e (tG (XV X.K) X.K W m)
def PMST (X : Cx) (W : WX) (st : Stmt) (m : MS) : Prop := PST X st (tS X.K W m)
def PMBT (X : Cx) (W : WX) (st : List Stmt) (m : MS) : Prop := PSsT X st (tS X.K W m)
section
variable {X : Cx} {W : WX} {pos : Pos}
theorem PMT.of {e : Expr} {m : ME} (h : PM X W e m) : PMT X W e m := fun pins s σ H Q _ I q => h.run pins s σ H Q I q
theorem PMST.of {st : Stmt} {m : MS} (h : PMS X W st m) : PMST X W st m := PST.of h
theorem PMBT.of {st : List Stmt} {m : MS} (h : PMB X W st m) : PMBT X W st m := PSsT.of h
theorem seqT {a b : MS} {D : Ends} {σ : L2.St} {H : Hp} (h : tS X.K W (mSeq a b) D σ H) : tSeq (tS X.K W a) (tS X.K W b) D σ H := by
  obtain ⟨ι, S, ρ, hl, hr, h⟩ := h
  refine ⟨ι, S, ρ, hl, hr, ?_⟩
  unfold mSeq at h
  cases e : a ρ S with
  | nx ρ' S' => rw [e] at h; exact fun ι' H' σ' s r l => ⟨ι', S', ρ', l, r, h.sub s⟩
  | rt x S' => rw [e] at h; exact h
  | bk x S' => rw [e] at h; exact h
  | ct x S' => rw [e] at h; exact h
  | exc x y S' => rw [e] at h; exact h
  | bad => rw [e] at h; exact h
end
variable {gb : Bool}
end MM
end
section
set_option Elab.async false
set_option linter.all false
set_option maxRecDepth 100000
set_option maxHeartbeats 4000000
set_option autoImplicit false
namespace MM
open PySem PySem.Spec PyProof.Rows L2
end MM
end
section
set_option Elab.async false
set_option linter.all false
set_option maxRecDepth 100000
set_option maxHeartbeats 4000000
set_option autoImplicit false
namespace MM.Q
open PySem PySem.Spec PyProof.Rows L2 MM
end MM.Q
end
section
set_option Elab.async false
set_option linter.all false
set_option maxRecDepth 100000
set_option maxHeartbeats 4000000
set_option autoImplicit false
namespace MM
open PySem PySem.Spec PyProof.Rows L2
end MM
end
section
set_option Elab.async false
set_option linter.all false
set_option maxRecDepth 100000
namespace MM
open PySem PySem.Spec PyProof.Rows L2
end MM
end
section
set_option Elab.async false
set_option linter.all false
set_option maxRecDepth 100000
set_option maxHeartbeats 4000000
set_option autoImplicit false
namespace MM
open PySem PySem.Spec PyProof.Rows L2
section
variable {X : Cx} {pins : List (Addr × Obj)} {σ : L2.St} {H : Hp} {s : Shared}
/-- what the making of a lambda does to what is tracked: nothing, or a code object more in the table -/
def StepT (P : Addr) (q : Str) (H H1 : Hp) : Prop := H1 = H ∨ ∃ (ps more : Array Value) (c' : Addr), H P = some (.tbl ps) ∧ H c' = none ∧ H1 = upd (upd H P (.tbl (ps ++ more))) c' (LamX.CodeO c' q)
end
end MM
end
section
set_option Elab.async false
set_option linter.all false
set_option maxRecDepth 100000
set_option maxHeartbeats 4000000
set_option autoImplicit false
namespace MM
open PySem PySem.Spec PyProof.Rows L2
end MM
end
section
set_option Elab.async false
set_option linter.all false
set_option maxRecDepth 100000
set_option maxHeartbeats 4000000
set_option autoImplicit false
namespace MM
open PySem PySem.Spec PyProof.Rows L2
section
variable {K : PySem.W.Frag} {ι : Io} {S : Sg} {H H1 : Hp} {P : Addr} {q n : Str} {i : Nat}
/-- the table's cell through the making of a lambda -/
theorem Rl.step (hr : Rl K ι S H) {lx : Str} (hS : S[i]? = some (false, .tab n lx)) (hi : ι[i]? = some (false, P)) (hl : LamTab K P n lx q) (st : StepT P q H H1) (hT : LamX.TabS H1 P q) : Rl K ι S H1 ∧ Sub ι H ι H1 := by
  rcases st with rfl | ⟨ps, more, c', hP, nC, rfl⟩
  · exact ⟨hr, Sub.refl _ _⟩
  · have at_ : ∀ b, b ≠ P → H b ≠ none → upd (upd H P (.tbl (ps ++ more))) c' (LamX.CodeO c' q) b = H b := fun b h1 h2 => by
      rw [upd_ne (fun z => h2 (by rw [z]; exact nC)), upd_ne h1]
    have ne : ∀ {b : Addr} {o : HO}, H b = some o → (∀ x, o ≠ .tbl x) → b ≠ P := fun {b o} e h z => by
      rw [z, hP] at e
      exact h ps (Option.some.inj e).symm
    have kp : ∀ {b : Addr} {o : HO}, H b = some o → (∀ x, o ≠ .tbl x) → upd (upd H P (.tbl (ps ++ more))) c' (LamX.CodeO c' q) b = some o := fun {b o} e h => (at_ b (ne e h) (by rw [e]; exact fun z => nomatch z)).trans e
    have gr : Grow H (upd (upd H P (.tbl (ps ++ more))) c' (LamX.CodeO c' q)) := ⟨fun _ _ e => kp e (fun _ z => nomatch z), fun _ _ _ e => kp e (fun _ z => nomatch z), fun _ _ e => kp e (fun _ z => nomatch z), fun _ _ k e => kp e (fun x z => by rcases k with ⟨q, k⟩ | ⟨q, k⟩ <;> (rw [k] at z; first | exact LamX.codeO_ne x z | (unfold FobO at z; cases z)))⟩
    have lv : ∀ p, H p ≠ none → upd (upd H P (.tbl (ps ++ more))) c' (LamX.CodeO c' q) p ≠ none := fun p h => by
      by_cases h1 : p = P
      · rw [h1, upd_ne (ne_of_none hP nC), upd_same]
        exact fun z => nomatch z
      · rw [at_ p h1 h]
        exact h
    have sb : Sub ι H ι (upd (upd H P (.tbl (ps ++ more))) c' (LamX.CodeO c' q)) := Sub.same gr (fun p o e h => (at_ p (fun z => h _ (List.mem_of_getElem? hi) z.symm) (by rw [e]; exact fun z => nomatch z)).trans e) lv
    refine ⟨⟨hr.flag, hr.nd, fun p hp => lv _ (hr.live p hp), fun j b o a e1 e2 => ?_⟩, sb⟩
    by_cases h1 : a = P
    · subst h1
      have hb : b = false := by
        have h3 : (ι.map (·.1))[j]? = some b := by rw [List.getElem?_map, e2]; rfl
        have h4 : i = j := by
          have l1 := (List.getElem?_eq_some_iff.mp hi).1
          have l2 := (List.getElem?_eq_some_iff.mp e2).1
          refine (List.getElem_inj (h₀ := by simpa using l1) (h₁ := by simpa using l2) hr.nd).mp ?_
          rw [List.getElem_map, List.getElem_map, (List.getElem?_eq_some_iff.mp hi).2, (List.getElem?_eq_some_iff.mp e2).2]
        subst h4
        rw [hS] at e1
        cases e1
        rfl
      subst hb
      have h4 := nodup_at hr.nd hi e2
      subst h4
      rw [hS] at e1
      cases e1
      exact ⟨q, hl, hT⟩
    · exact OV.carry sb (at_ a h1 (hr.live _ (List.mem_of_getElem? e2))) (hr.cell j b o a e1 e2)
end
end MM
end
section
set_option Elab.async false
set_option linter.all false
set_option maxRecDepth 100000
set_option maxHeartbeats 4000000
set_option autoImplicit false
namespace MM
open PySem PySem.Spec PyProof.Rows L2
/-- the def n, its code object's table -/
structure LamB (K : PySem.W.Frag) (mg : Str → Option Value) (base : Heap) (n : Str) (f : Addr) (fd : FuncData) : Prop where
  ns : PySem.W.nsIn K mainGlobals n = some (some (.ref f))
  tb : ∀ (c a : Addr) (o : Obj) (us : Array Value), fd.code = .ref c → K.lookup c = some o → o.data = .fields us → us[11]? = some (.ref a) → LamX.TabB base mg c a
section
variable {P : Program} {w : World} {K : PySem.W.Frag} {mg : Str → Option Value} {base : Heap} {gb : Bool}
theorem fn_mL {x qual n : Str} {st : Stmt} {f : Addr} {fd : FuncData} {N ps : List Str} {k : Nat} {m : MS} (B : LamB K mg base n f fd) (F : Fun K x qual st f fd) (Sc : FnScope N ps (defScope st))
    (hb : ∀ (cdv : Value), (∀ a x q, LamTab K a n x q → ∃ c, LamX.TabB base mg c a ∧ cdv = .ref c ∧ q = qual ++ ".<locals>." ++ x) → ∀ (A : Around) (outer : List Env) (s : Shared) (H : Hp) (E : XK), Room k (A.deeper (envOfC qual (defScope st) s.heap.objs.size f cdv)) → GdP gb (A.deeper (envOfC qual (defScope st) s.heap.objs.size f cdv)).guards →
      Takes (cxOf (L2.CX P w) P w K mg base N qual (defScope st) f cdv A outer s H E) (fun c d _ H => E c d H) →
      PassesOwn (model P w) (A.deeper (envOfC qual (defScope st) s.heap.objs.size f cdv)) (envOfC qual (defScope st) s.heap.objs.size f cdv) (cxOf (L2.CX P w) P w K mg base N qual (defScope st) f cdv A outer s H E).xe →
      PMB (cxOf (L2.CX P w) P w K mg base N qual (defScope st) f cdv A outer s H E) (fun c d _ H => E c d H) (defBody st) m) : FnM gb P w K mg base (k + 1) f fd ps (fnM N.length m) := by
  obtain ⟨oc, od, kV, doc, pm, an, cdv, ct, osl, rfl, lk, hcd⟩ := F.ex
  have hT : ∀ a x q, LamTab K a n x q → ∃ c, LamX.TabB base mg c a ∧ cdv = .ref c ∧ q = qual ++ ".<locals>." ++ x := by
    rintro a lx q ⟨f', c, oc', od', fd', osl', o, us, n1, l1, c1, o1, d1, u1, rfl⟩
    rw [B.ns] at n1
    cases n1
    rw [lk] at l1
    cases l1
    exact ⟨c, B.tb c a o us c1 o1 d1 u1, c1, rfl⟩
  refine ⟨fun A outer s H args us vs Q E room gds ent bnd rel want => ?_⟩
  obtain ⟨ι, S, xs, hx, hlen, hR, want⟩ := want
  have hlv : vs.length = ps.length := by rw [← hx.length]; exact hlen
  have kin : K.In s.heap := ent.mod.kin.keeps fun b o e => (ent.bs b o e).1
  have lim : s.heap.NoLimit := ent.mod.nolimit.keeps fun b o e => (ent.bs b o e).1
  have places : ∀ y ∈ ps.zip us, (defScope st).names.lookup y.1 = some .local ∨ ((defScope st).names.lookup y.1 = some .cell ∧ ((cellsFrom (s.heap.objs.size + 1) (defScope st).names []).lookup y.1).isSome = true) := by
    rintro ⟨n, v⟩ hy
    rcases Sc.par n (List.of_mem_zip hy).1 with q | q
    · exact .inl q
    · exact .inr ⟨q, PySem.W.cellsFrom_some _ _ _ (.inl q)⟩
  refine codeAny_call_function room.depth (kin _ _ lk) rfl Sc.co Sc.gen rfl (PySem.W.codeRec_of kin hcd) (bnd _ _ _ _ ?_)
  refine wpAny_newFunctionEnv_cells Sc.kind places fun env he s1 begun => ?_
  subst he
  refine ⟨lim.keeps begun.toInCall.keep, codeAny_func ?_⟩
  have I := inv_start (CX := L2.CX P w) (E := E) (cd := cdv) (qual := qual) (f := f) Sc room.hd ent hlv rel begun
  have body := hb cdv hT A outer s H E (room.deeper _) gds (takes_of (X := cxOf (L2.CX P w) P w K mg base N qual (defScope st) f cdv A outer s H E) rfl rfl rfl rfl) (passes_of (X := cxOf (L2.CX P w) P w K mg base N qual (defScope st) f cdv A outer s H E) rfl)
  refine wpAny_mono (body.run [] s1 (start N vs) H _ I (body_end (X := cxOf (L2.CX P w) P w K mg base N qual (defScope st) f cdv A outer s H E) (k := k) hx hR want)) (fun fl s' got => ?_) fun e s' got => got
  cases fl with
  | ret u => exact let ⟨v, _, H', J, rv, q⟩ := got; ⟨v, H', J.os, J.bare, J.base, J.hok, rv, q⟩
  | next => exact let ⟨_, H', J, q⟩ := got; ⟨V.non, H', J.os, J.bare, J.base, J.hok, rfl, q⟩
  | brk => exact let ⟨_, _, _, q⟩ := got; False.elim q
  | cont => exact let ⟨_, _, _, q⟩ := got; False.elim q
end
/-- the code table of the def n -/
def TabOf (K : PySem.W.Frag) (P : Addr) (n : Str) : Prop := ∀ x, ∃ q, LamTab K P n x q
def mSeqT (n x : Str) (a b : MS) : MS := fun ρ S => match a ρ S with | .nx ρ' S' => b ρ' (S' ++ [(false, .tab n x)]) | r => r
/-- the def tells True from an empty store, where the table is there and empty -/
def tTop (K : PySem.W.Frag) (n : Str) (m : MS) : TS := fun D σ H =>
  (∃ P, H P = some (.tbl #[]) ∧ TabOf K P n) ∧ (∃ ρ, LR K [] H ρ σ ∧ ∃ S', m ρ [] = .rt (.d (.bool true)) S') ∧ ∀ H', D.rt (.bl true) H'
theorem rl_nil {K : PySem.W.Frag} {H : Hp} : Rl K [] [] H := ⟨rfl, List.nodup_nil, (fun p hp => nomatch hp), (fun i b o p e => by simp at e)⟩
theorem pmb_tab {X : Cx} {W : WX} {st : Stmt} {rest : List Stmt} {n lx : Str} {a b : MS} (h1 : PMS X W st a) (h2 : PMB X W rest b) : PSs X (st :: rest) (tTop X.K n (mSeqT n lx a b)) := by
  refine pss_imp (pss_cons h1 h2) fun D σ H ⟨⟨P, hP, hl0⟩, ⟨ρ, hρ, S', hm⟩, hD⟩ => ?_
  obtain ⟨q, hl⟩ := hl0 lx
  refine ⟨[], [], ρ, hρ, rl_nil, ?_⟩
  unfold mSeqT at hm
  cases e : a ρ [] with
  | nx ρ1 S1 =>
    rw [e] at hm
    intro ι' H' σ' s r l
    have off : ∀ z ∈ ι', z.2 ≠ P := fun z hz hq => by
      obtain ⟨t, ht, hf⟩ := s.pre
      rw [List.nil_append] at ht
      have := hf z (by rw [← ht]; exact hz)
      rw [hq, hP] at this
      cases this
    have hP' : H' P = some (.tbl #[]) := s.keep P _ hP fun z hz => nomatch hz
    have rA := r.adopt (p := P) (b := false) (o := .tab n lx) (by rw [hP']; exact fun z => nomatch z) off ⟨q, hl, LamX.TabS.nil hP'⟩
    refine ⟨ι' ++ [(false, P)], S1 ++ [(false, .tab n lx)], ρ1, LR.grown ⟨_, rfl⟩ (Grow.refl _) l, rA, ?_⟩
    have hm : b ρ1 (S1 ++ [(false, .tab n lx)]) = .rt (.d (.bool true)) S' := hm
    rw [hm]
    intro ι2 H2 v _ _ hv
    cases (show FD X.K H2 (.bool true) v from hv)
    exact hD H2
  | rt y S1 =>
    rw [e] at hm
    have hm : RS.rt y S1 = .rt (.d (.bool true)) S' := hm
    cases hm
    intro ι2 H2 v _ _ hv
    cases (show FD X.K H2 (.bool true) v from hv)
    exact hD H2
  | _ => rw [e] at hm; cases hm
/-- what is asked of the law's def -/
structure FnTop (P : Program) (w : World) (K : PySem.W.Frag) (mg : Str → Option Value) (base : Heap) (k : Nat) (f : Addr) (fd : FuncData) (ps : List Str) (n : Str) (N : Nat) (m : MS) : Prop where
  run : ∀ (A : Around) (outer : List Env) (s : Shared) (H : Hp) (args : Args) (us : List Value) (vs : List V) (E : XK), Room k A → GdP true A.guards → Env0 P w K mg base A outer s H → BindsTo s fd args (ps.zip us) → Vals vs us →
    (∃ Pt, H Pt = some (.tbl #[]) ∧ TabOf K Pt n) → (∃ xs, XCs K [] H xs vs ∧ xs.length = ps.length ∧ ∃ S', m (xs.map some ++ List.replicate (N - xs.length) none) [] = .rt (.d (.bool true)) S') → codeAny (model P w) A (.call (.ref f) args) (CR (L2.CX P w) outer P w H s (fun v _ => v = .bl true) E) s
section
variable {P : Program} {w : World} {K : PySem.W.Frag} {mg : Str → Option Value} {base : Heap}
theorem fn_top {x qual n : Str} {st : Stmt} {f : Addr} {fd : FuncData} {N ps : List Str} {k : Nat} {m : MS} (F : Fun K x qual st f fd) (Sc : FnScope N ps (defScope st))
    (hb : ∀ (cdv : Value) (A : Around) (outer : List Env) (s : Shared) (H : Hp) (E : XK), Room k (A.deeper (envOfC qual (defScope st) s.heap.objs.size f cdv)) → GdP true (A.deeper (envOfC qual (defScope st) s.heap.objs.size f cdv)).guards →
      Takes (cxOf (L2.CX P w) P w K mg base N qual (defScope st) f cdv A outer s H E) (fun c d _ H => E c d H) →
      PassesOwn (model P w) (A.deeper (envOfC qual (defScope st) s.heap.objs.size f cdv)) (envOfC qual (defScope st) s.heap.objs.size f cdv) (cxOf (L2.CX P w) P w K mg base N qual (defScope st) f cdv A outer s H E).xe →
      PSs (cxOf (L2.CX P w) P w K mg base N qual (defScope st) f cdv A outer s H E) (defBody st) (tTop K n m)) : FnTop P w K mg base (k + 1) f fd ps n N.length m := by
  obtain ⟨oc, od, kV, doc, pm, an, cdv, ct, osl, rfl, lk, hcd⟩ := F.ex
  refine ⟨fun A outer s H args us vs E room gds ent bnd rel hP good => ?_⟩
  obtain ⟨xs, hx, hlen, S', hgood⟩ := good
  have hlv : vs.length = ps.length := by rw [← hx.length]; exact hlen
  have kin : K.In s.heap := ent.mod.kin.keeps fun b o e => (ent.bs b o e).1
  have lim : s.heap.NoLimit := ent.mod.nolimit.keeps fun b o e => (ent.bs b o e).1
  have places : ∀ y ∈ ps.zip us, (defScope st).names.lookup y.1 = some .local ∨ ((defScope st).names.lookup y.1 = some .cell ∧ ((cellsFrom (s.heap.objs.size + 1) (defScope st).names []).lookup y.1).isSome = true) := by
    rintro ⟨n, v⟩ hy
    rcases Sc.par n (List.of_mem_zip hy).1 with q | q
    · exact .inl q
    · exact .inr ⟨q, PySem.W.cellsFrom_some _ _ _ (.inl q)⟩
  refine codeAny_call_function room.depth (kin _ _ lk) rfl Sc.co Sc.gen rfl (PySem.W.codeRec_of kin hcd) (bnd _ _ _ _ ?_)
  refine wpAny_newFunctionEnv_cells Sc.kind places fun env he s1 begun => ?_
  subst he
  refine ⟨lim.keeps begun.toInCall.keep, codeAny_func ?_⟩
  have I := inv_start (CX := L2.CX P w) (E := E) (cd := cdv) (qual := qual) (f := f) Sc room.hd ent hlv rel begun
  have body := hb cdv A outer s H E (room.deeper _) gds (takes_of (X := cxOf (L2.CX P w) P w K mg base N qual (defScope st) f cdv A outer s H E) rfl rfl rfl rfl) (passes_of (X := cxOf (L2.CX P w) P w K mg base N qual (defScope st) f cdv A outer s H E) rfl)
  refine wpAny_mono (body.run [] s1 (start N vs) H { nx := fun _ _ => False, rt := fun v _ => v = .bl true } I ⟨hP, ⟨_, lr_start hx N.length, S', hgood⟩, fun _ => rfl⟩) (fun fl s' got => ?_) fun e s' got => got
  cases fl with
  | ret u => exact let ⟨v, _, H', J, rv, q⟩ := got; ⟨v, H', J.os, J.bare, J.base, J.hok, rv, q⟩
  | next => exact let ⟨_, H', J, q⟩ := got; False.elim q
  | brk => exact let ⟨_, _, _, q⟩ := got; False.elim q
  | cont => exact let ⟨_, _, _, q⟩ := got; False.elim q
end
theorem law_endT {P : Program} {w : World} {K : PySem.W.Frag} {mg mb : Str → Option Value} {k : Nat} {fa a c Pt : Addr} {fd : FuncData} {x n : Str} {N : Nat} {m : MS} {s0 : Shared} {vs : List Value} {ns : List Int}
    (kin : K.In s0.heap) (gl : s0.heap.Ns mainGlobals mg) (bl : s0.heap.Ns builtinsNs mb) (bb : ∀ y : Str, y ≠ "__name__" → mb y = bootBuiltins y) (lim : s0.heap.NoLimit) (gn : s0.gens = #[])
    (hT : s0.heap.get? Pt = some { cls := .none, data := .fields #[] }) (nT : K.lookup Pt = none) (C : PySem.W.CodeHd s0.heap c Pt) (lt : TabOf K Pt n)
    (hbm : ∃ (bm : Addr) (ob : Obj), mg "__builtins__" = some (.ref bm) ∧ bm ≠ builtinsNs ∧ s0.heap.get? bm = some ob ∧ ob.cls = .type "module" ∧ ob.dict = some builtinsNs ∧ ob.data = .plain)
    (obj : s0.heap.get? a = some { cls := .type "list", data := .seq vs.toArray }) (its : IntsAre vs ns) (few : ns.length ≤ sizeLine) (room : Room k callerA)
    (F : ∀ base : Heap, K.In base → base.Ns mainGlobals mg → LamX.TabB base mg c Pt → FnTop P w K mg base k fa fd [x] n N m) (bnd : ∀ (s : Shared) (u : Value), BindsTo s fd ⟨[u], []⟩ [(x, u)])
    (good : ∃ S', m ([some (.d (.list (ns.map PyData.int)))] ++ List.replicate (N - 1) none) [] = .rt (.d (.bool true)) S') :
    codeAny (model P w) callerA (.call (.ref fa) ⟨[.ref a], []⟩) (fun r s' => r = .ok (.ret (.bool true)) ∧ OldK s0.heap s'.heap ∧ s'.os = s0.os ∧ AllBare s'.gens) s0 := by
  have rv := vals_ints its
  have aP : a ≠ Pt := fun z => by rw [z, hT] at obj; cases obj
  obtain ⟨oC, us, file, tf, flags, tg, inF, text, tt, c1, c2, c3, c4, c5, c6, c7, c8, c9, cP⟩ := id C
  have ca : c ≠ a := fun z => by rw [z, obj] at c1; cases c1; cases c3
  have main : ∀ H : Hp, H Pt = some (.tbl #[]) → (∀ b, b ≠ Pt → H b ≠ none → b = a ∧ K.lookup a = none ∧ ∃ o xs, H b = some (.frz o (.lst xs))) → FzL K H a (ns.map V.int) → HOk P w H s0.heap →
      codeAny (model P w) callerA (.call (.ref fa) ⟨[.ref a], []⟩) (fun r s' => r = .ok (.ret (.bool true)) ∧ OldK s0.heap s'.heap ∧ s'.os = s0.os ∧ AllBare s'.gens) s0 := by
    intro H hH only script held
    have free : ∀ b, b ≠ Pt → b ≠ a → H b = none := fun b h1 h2 => by
      cases q : H b with
      | none => rfl
      | some u => exact absurd (only b h1 (by rw [q]; exact fun z => nomatch z)).1 h2
    have off : ∀ {b : Addr} {o : Obj} {es : Array DictEntry} {ep : Nat}, s0.heap.get? b = some o → o.data = .dict es ep → H b = none := fun {b o es ep} e d =>
      free b (fun z => by rw [z, hT] at e; cases e; cases d) (fun z => by rw [z, obj] at e; cases e; cases d)
    have ns' : ∀ {b : Addr} {mm : Str → Option Value}, s0.heap.Ns b mm → (hidT s0.heap H).Ns b mm := fun ⟨o, es, ep, e, d, r⟩ => ⟨o, es, ep, hidT_get e (off e d), d, r⟩
    have kin' : K.In (hidT s0.heap H) := by
      intro b o e
      refine hidT_get (kin b o e) ?_
      cases q : H b with
      | none => rfl
      | some u =>
        by_cases z : b = Pt
        · rw [z, nT] at e; cases e
        · obtain ⟨rfl, h2, _⟩ := only b z (by rw [q]; exact fun z => nomatch z)
          rw [h2] at e; cases e
    have tb : LamX.TabB (hidT s0.heap H) mg c Pt := by
      refine ⟨⟨oC, us, file, tf, flags, tg, inF, text, tt, hidT_get c1 (free c cP ca), c2, c3, c4, c5, c6, c7, c8, c9, cP⟩, ?_, fun z => ?_⟩
      · obtain ⟨bm, ob, b1, b2, b3, b4, b5, b6⟩ := hbm
        refine ⟨bm, ob, b1, b2, fun z => ?_, fun z => ?_, hidT_get b3 (free bm (fun z => ?_) fun z => ?_), b4, b5, b6⟩
        · obtain ⟨o, es, ep, e, d, _⟩ := gl
          rw [z, e] at b3
          cases b3
          rw [d] at b6
          cases b6
        · rw [z, hT] at b3
          cases b3
          cases b6
        · rw [z, hT] at b3
          cases b3
          cases b6
        · rw [z, obj] at b3
          cases b3
          cases b6
      · obtain ⟨o, es, ep, e, d, _⟩ := gl
        rw [z, hT] at e
        cases e
        cases d
    have md : Mod K mg (hidT s0.heap H) := ⟨kin', ns' gl, ⟨mb, ns' bl, bb⟩, let ⟨mc, h1, h2⟩ := lim; ⟨mc, ns' h1, h2⟩⟩
    have ent : Env0 P w K mg (hidT s0.heap H) callerA [] s0 H := ⟨rfl, md, fun b o e => of_hidT e, Nat.le_of_eq (hidT_size _ _), trivial, (fun b hb => nomatch hb), held, .of_eq gn⟩
    obtain ⟨S', hS⟩ := good
    refine codeAny_mono ((F _ kin' (ns' gl) tb).run callerA [] s0 H ⟨[.ref a], []⟩ [.ref a] [.ref a] (fun _ _ _ => False) room rfl ent (bnd s0 (.ref a)) (.cons rfl .nil) ⟨Pt, hH, lt⟩ ⟨[.d (.list (ns.map PyData.int))], .cons ⟨rfl, .lst script (ints_FDs ns)⟩ .nil, rfl, S', hS⟩) fun res s' got => ?_
    cases res with
    | error e => exact let ⟨_, _, _, _, _, _, _, _, _, _, _, _, z⟩ := got; z.elim
    | ok fl =>
      cases fl with
      | next => exact got.elim
      | brk => exact got.elim
      | cont => exact got.elim
      | ret u =>
        obtain ⟨v, H', os, bare, un, held', rel, (rfl : v = .bl true)⟩ := got
        obtain rfl : u = Value.bool true := rel
        have key : ∀ b o, b ≠ Pt → s0.heap.get? b = some o → s'.heap.get? b = some o := fun b o nb e => by
          cases q : H b with
          | none => exact un.keep b o e q (fun z => nomatch z) (fun z => nomatch z)
          | some u =>
            obtain ⟨_, _, ob, xs, q2⟩ := only b nb (by rw [q]; exact fun z => nomatch z)
            have e1 := (held b _ q2).1
            have e2 := (held' b _ (un.frzs b ob _ q2)).1
            rw [e] at e1; cases e1
            exact e2
        obtain ⟨more, gm⟩ := un.tbls Pt #[] hH
        have grown : s'.heap.get? Pt = some { cls := .none, data := .fields (#[] ++ more) } := held' Pt _ gm
        refine ⟨rfl, ⟨fun b o e => ?_, fun b o e => ?_⟩, os, bare⟩
        · by_cases z : b = Pt
          · rw [z] at e ⊢
            rw [hT] at e
            cases e
            exact .inr (.inl ⟨(C.tab hT).isCodeTable, rfl, #[], more, rfl, grown⟩)
          · exact .inl (key b o z e)
        · by_cases z : b = Pt
          · rw [z]; exact ⟨_, grown⟩
          · exact ⟨o, key b o z e⟩
  cases hk : K.lookup a with
  | some o =>
    have e := kin a o hk
    rw [obj] at e; cases e
    refine main (fun b => if b = Pt then some (.tbl #[]) else none) (if_pos rfl) (fun b h z => absurd (if_neg h) z) (.inr ⟨vs.toArray, _, hk, by rw [List.size_toArray, its.length]; exact few, by simpa using rv⟩) (fun b u z => ?_)
    by_cases hb : b = Pt
    · have z' := (if_pos hb).symm.trans z
      cases z'
      rw [hb]
      exact hT
    · have z' := (if_neg hb).symm.trans z
      cases z'
  | none =>
    refine main (fun b => if b = Pt then some (.tbl #[]) else if b = a then some (.frz { cls := .type "list", data := .seq vs.toArray } (.lst (ns.map V.int))) else none) (if_pos rfl) (fun b h z => ?_) (.inl ⟨_, (if_neg aP).trans (if_pos rfl)⟩) (fun b u z => ?_)
    · by_cases hb : b = a
      · exact ⟨hb, hk, _, _, (if_neg h).trans (if_pos hb)⟩
      · exact absurd ((if_neg h).trans (if_neg hb)) z
    · by_cases hp : b = Pt
      · have z' := (if_pos hp).symm.trans z
        cases z'
        rw [hp]
        exact hT
      · by_cases hb : b = a
        · subst hb
          have z' := ((if_neg hp).trans (if_pos rfl)).symm.trans z
          cases z'
          exact ⟨obj, by rw [List.length_map]; exact few, vs, _, rv, obj⟩
        · have z' := ((if_neg hp).trans (if_neg hb)).symm.trans z
          cases z'
end MM
end
section
set_option Elab.async false
set_option linter.all false
set_option maxRecDepth 100000
set_option maxHeartbeats 4000000
set_option autoImplicit false
noncomputable section
namespace MM
open PySem PySem.Spec PyProof.Rows L2
/-- the code object at c of the def n, its table at P, as K knows them -/
def TabK (K : PySem.W.Frag) (n : Str) (c P : Addr) : Prop := ∃ (f : Addr) (oc : Value) (od : Option Addr) (fd : FuncData) (osl : Array (Option Value)) (o : Obj) (us : Array Value),
  PySem.W.nsIn K mainGlobals n = some (some (.ref f)) ∧ K.lookup f = some ⟨oc, od, .func fd, osl⟩ ∧ fd.code = .ref c ∧ K.lookup c = some o ∧ o.data = .fields us ∧ us[11]? = some (.ref P)
theorem TabK.lam {K : PySem.W.Frag} {n : Str} {c P : Addr} (t : TabK K n c P) : TabOf K P n := fun _ =>
  let ⟨f, oc, od, fd, osl, o, us, h1, h2, h3, h4, h5, h6⟩ := t; ⟨_, f, c, oc, od, fd, osl, o, us, h1, h2, h3, h4, h5, h6, rfl⟩
theorem TabK.lamB {K : PySem.W.Frag} {n x qual : Str} {c P f : Addr} {h base : Heap} {mg : Str → Option Value} {fd : FuncData} {st : Stmt} (t : TabK K n c P) (X : K.In h) (G : h.Ns mainGlobals mg) (hg : mg n = some (.ref f)) (F : Fun K x qual st f fd) (TB : LamX.TabB base mg c P) : LamB K mg base n f fd := by
  obtain ⟨f', oc, od, fd', osl, o, us, h1, h2, h3, h4, h5, h6⟩ := t
  have e := hg.symm.trans (PySem.W.mg_of X G h1)
  cases e
  obtain ⟨oc2, od2, kV, doc, pm, an, cdv, ct, osl2, rfl, lk, hcd⟩ := F.ex
  rw [lk] at h2
  cases h2
  refine ⟨h1, fun c' a o' us' e1 e2 e3 e4 => ?_⟩
  rw [h3] at e1
  cases e1
  rw [h4] at e2
  cases e2
  rw [h5] at e3
  cases e3
  rw [h6] at e4
  cases e4
  exact TB
namespace Hd
def isTab : Obj → Bool
  | ⟨.none, _, .fields us, _⟩ => us.toList.isEmpty
  | _ => false
def hid (g : Gt) : Gt := fun a => match g a with
  | some o => (match isTab o with | true => none | false => some o)
  | none => none
theorem hid_some {g : Gt} {a : Addr} {o : Obj} (e : hid g a = some o) : g a = some o := by
  unfold hid at e
  cases q : g a with
  | none => rw [q] at e; cases e
  | some o' =>
    rw [q] at e
    cases t : isTab o' with
    | true => simp only [t] at e; cases e
    | false => simp only [t] at e; exact e
theorem hid_tab {g : Gt} {a : Addr} {o : Obj} (e : g a = some o) (t : isTab o = true) : hid g a = none := by
  unfold hid
  rw [e]
  simp only [t]
theorem allG_in {g : Gt} {h : Heap} (hg : ∀ a o, g a = some o → h.get? a = some o) : lk (allG g h.objs.size) = g := by
  funext a
  cases e : g a with
  | none =>
    cases q : lk (allG g h.objs.size) a with
    | none => rfl
    | some o => rw [He.frG_at _ q] at e; cases e
  | some o =>
    exact frG_hit e (List.mem_cons_of_mem _ (List.mem_range.mpr (Heap.lt_size (hg a o e))))
/-- the def n's code object, its table empty -/
def emB (o : Option Obj) : Bool := match o with
  | some ⟨.none, none, .fields us, sl⟩ => us.toList.isEmpty && sl.toList.isEmpty
  | _ => false
def kindsB (us : Array Value) : Bool := match us.getD 18 .none, us.getD 7 .none, us.getD 9 .none, us.getD 10 .none with
  | .str _ _, .int _ _, .bool _, .int _ _ => true
  | _, _, _, _ => false
def tabB (g : Gt) (n : Str) : Bool := match nsG (hid g) mainGlobals n with
  | some (some (.ref f)) => (match hid g f with
    | some ⟨_, _, .func fd, _⟩ => (match fd.code with
      | .ref c => (match hid g c with
        | some ⟨.type t, _, .fields us, _⟩ => decide (t = "code") && ((match (us[11]? : Option Value) with | some (Value.ref P) => !Nat.beq c P && emB (g P) | _ => false) && kindsB us)
        | _ => false)
      | _ => false)
    | _ => false)
  | _ => false
theorem emB_ok {o : Option Obj} (h : emB o = true) : o = some { cls := .none, data := .fields #[] } := by
  unfold emB at h
  split at h
  · rename_i us sl
    rw [Bool.and_eq_true] at h
    have e1 : us = #[] := by
      have := h.1
      rw [List.isEmpty_iff] at this
      exact Array.toList_inj.mp this
    have e2 : sl = #[] := by
      have := h.2
      rw [List.isEmpty_iff] at this
      exact Array.toList_inj.mp this
    rw [e1, e2]
  · cases h
theorem tabB_ok {h : Heap} {n : Str} {K : Fg} (hK : lk K = hid h.get?) (e : tabB h.get? n = true) : ∃ c P, TabK K n c P ∧ K.lookup P = none ∧ (h.get? P = some { cls := .none, data := .fields #[] }) ∧ ∀ h' : Heap, (∀ b o, h.get? b = some o → h'.get? b = some o) → PySem.W.CodeHd h' c P := by
  unfold tabB at e
  rw [← hK, nsG_eq] at e
  split at e
  · rename_i f e1
    split at e
    · rename_i oc od fd osl e2
      split at e
      · rename_i c e3
        split at e
        · rename_i t d us sl e4
          rw [Bool.and_eq_true, Bool.and_eq_true, decide_eq_true_eq] at e
          obtain ⟨rfl, e5, e6⟩ := e
          split at e5
          · rename_i P e7
            rw [Bool.and_eq_true, Bool.not_eq_true'] at e5
            have em := emB_ok e5.2
            have ne : c ≠ P := Nat.ne_of_beq_eq_false e5.1
            have gc : h.get? c = some ⟨.type "code", d, .fields us, sl⟩ := hid_some (by rw [← hK]; exact e4)
            refine ⟨c, P, ⟨f, oc, od, fd, osl, _, us, e1, e2, e3, e4, rfl, e7⟩, ?_, em, fun h' k => ?_⟩
            · show lk K P = none
              rw [hK]
              exact hid_tab em rfl
            · unfold kindsB at e6
              split at e6
              · rename_i file tf flags tg inF text tt k1 k2 k3 k4
                exact ⟨_, us, file, tf, flags, tg, inF, text, tt, k c _ gc, rfl, rfl, e7, by rw [Array.getD_eq_getD_getElem?, e7]; rfl, k1, k2, k3, k4, ne⟩
              · cases e6
          · cases e5
        · cases e
      · cases e
    · cases e
  · cases e
def hookT {α : Type} (n : Str) (f : Fg → Gt → α) (v : α) : PySem.W.Hook where
  α := α × Bool
  obs := fun s => (f (allG (hid s.heap.get?) s.heap.objs.size) (hid s.heap.get?), tabB s.heap.get? n)
  val := fun _ => (v, true)
  says := fun _ h => ∃ K : Fg, K.In h ∧ f K (lk K) = v ∧ ∃ c P, TabK K n c P ∧ K.lookup P = none ∧ (h.get? P = some { cls := .none, data := .fields #[] }) ∧ ∀ h' : Heap, (∀ b o, h.get? b = some o → h'.get? b = some o) → PySem.W.CodeHd h' c P
  of := fun _ s e => by
    have e1 : f (allG (hid s.heap.get?) s.heap.objs.size) (hid s.heap.get?) = v := congrArg Prod.fst e
    have e2 : tabB s.heap.get? n = true := congrArg Prod.snd e
    have hk : lk (allG (hid s.heap.get?) s.heap.objs.size) = hid s.heap.get? := allG_in fun a o q => hid_some q
    exact ⟨allG (hid s.heap.get?) s.heap.objs.size, fun b o q => hid_some (He.frG_at _ q), by rw [hk]; exact e1, tabB_ok hk e2⟩
  keeps := fun _ _ _ ⟨K, hK, c, a, P, t, l, g, C⟩ k => ⟨K, PySem.W.Frag.In.keeps hK k, c, a, P, t, l, k _ _ g, fun h' k' => C h' fun b o q => k' b o (k b o q)⟩
def obTT {α : Type} (n : Str) (f : Fg → Gt → α) (s : PySem.W.SharedT) : α × Bool := (f (allG (hid (HandSHeadRun.getT s)) s.n) (hid (HandSHeadRun.getT s)), tabB (HandSHeadRun.getT s) n)
theorem obTT_eq {α : Type} {n : Str} {f : Fg → Gt → α} {v : α} (s : PySem.W.SharedT) : obTT n f s = (hookT n f v).obs s.abs := by
  have e : HandSHeadRun.getT s = s.abs.heap.get? := funext fun a => HandSHeadRun.getT_eq s a
  show (f (allG (hid (HandSHeadRun.getT s)) s.n) (hid (HandSHeadRun.getT s)), tabB (HandSHeadRun.getT s) n) = (f (allG (hid s.abs.heap.get?) s.abs.heap.objs.size) (hid s.abs.heap.get?), tabB s.abs.heap.get? n)
  rw [e, show s.abs.heap.objs.size = s.n from PySem.W.absHeap_size s.tree s.n s.life]
end Hd
theorem walk_endT {l : PySem.W.OpenLaw} {n k N : Nat} {q : Program} {loose : List Str} {XP : (Str → Option Value) → Heap → Prop} {α : Type} {f : Hd.Fg → Hd.Gt → α} {v : α} {d : DefRec} {x y : Str}
    (hn : l.most = some n) (hn2 : n ≤ sizeLine) (hdf : d.params.defaults = []) (room : Room k callerA)
    (F : ∀ (w : World) (mg : Str → Option Value) (fa : Addr) (h : Heap) (K : Hd.Fg) (c P : Addr), K.In h → f K (Hd.lk K) = v → h.Ns mainGlobals mg → mg d.name = some (.ref fa) → TabK K y c P →
      ∃ (fd : FuncData) (m : MS), (∀ (s : Shared) (u : Value), BindsTo s fd ⟨[u], []⟩ [(x, u)]) ∧
        (∀ base : Heap, K.In base → base.Ns mainGlobals mg → LamX.TabB base mg c P → FnTop l.prog w K mg base k fa fd [x] y N m) ∧
        ∀ ns : List Int, ns.length ≤ n → ∃ S', m ([some (.d (.list (ns.map PyData.int)))] ++ List.replicate (N - 1) none) [] = .rt (.d (.bool true)) S') :
    PySem.W.WalkO q loose XP (Hd.hookT y f v).says l.row.toRowW d [] (fun f vs => PySem.call f vs) := by
  refine Att.attach_call hn hdf fun w s0 s1 mg mb fa o pm cd doc a vs ns G Y ho hd hcd hmg obj its few gn => ?_
  unfold Hd.hookT at Y
  obtain ⟨K, kin, c, cc, P, tk, l0, g0, C⟩ := Y
  obtain ⟨fd, m, bnd, hF, good⟩ := F w mg fa _ K cc P kin c G.T.g hmg tk
  have lt := tk.lam
  exact law_endT kin G.T.g G.T.b G.T.builtins G.T.nolimit gn g0 l0 (C _ fun _ _ e => e) lt G.T.bmain obj its (Nat.le_trans few hn2) room hF bnd (good ns few)
end MM
end
end
section
set_option Elab.async false
set_option linter.all false
set_option maxRecDepth 100000
set_option maxHeartbeats 4000000
set_option autoImplicit false
namespace MM
open PySem PySem.Spec PyProof.Rows L2 NdefX
section
variable {P : Program} {w : World} {K : PySem.W.Frag} {H : Hp} {h : Heap}
theorem fob_at {f : Addr} {g : Value → Value → Value → FuncData} (hok : HOk P w H h) (e : H f = some (FobO f g)) : ∃ (od : Option Addr) (sl : Array (Option Value)) (doc pm ctv : Value), h.get? f = some (⟨.type "function", od, .func (g doc pm ctv), sl⟩ : Obj) := (hok f _ e).1
theorem cells_un {cl : List (Str × Addr)} {fr : List Str} {ws : List (Option V)} {h' : Heap} {H' : Hp} {fs : List Addr} (C : CellsAt cl fr ws h H) (un : Un fs [] H H' h h') : CellsAt cl fr ws h' H' := by
  have kp : ∀ y c, cl.lookup y = some c → ∀ v, h.IsCell c v → h'.IsCell c v := fun y c e v ⟨o, ho, hd⟩ => by
    obtain ⟨sl, q⟩ := un.any ho (C.all y c e).1 (by simp)
    exact ⟨_, q, hd⟩
  refine ⟨C.len, fun y c e => ?_, C.inj, fun i y e => ?_⟩
  · obtain ⟨n, v, z⟩ := C.all y c e
    refine ⟨?_, v, kp y c e v z⟩
    obtain ⟨o, ho, _⟩ := z
    exact un.free c o ho n (by simp)
  · obtain ⟨c, hc, hv⟩ := C.has i y e
    refine ⟨c, hc, fun v ev => ?_⟩
    obtain ⟨u, r, z⟩ := hv v ev
    exact ⟨u, r, kp y c hc _ z⟩
end
abbrev Dz := List Mv → List Mv → Sg → Res Mv
structure ActOk (X : Cx) (f : Addr) (es : List (Addr × HO)) (us : List V) (n : Nat) (does : Dz) : Prop where
  fob : ∃ g, (f, FobO f g) ∈ es
  run : ∀ (W : WX) (pn : List (Addr × Obj)) (xe : Value → Shared → Prop), Takes (X.tr pn xe) W → ∀ (pins : List (Addr × Obj)) (σ : L2.St) (H : Hp) (s : Shared) (Q : VK) (zs : List Value) (vs : List V), Inv (X.tr pn xe) pins σ H s → Vals vs zs →
    (∃ ι S xs ys, Rl X.K ι S H ∧ XV X.K ι H (.cap f es us xs) (.ref f) ∧ XCs X.K ι H ys vs ∧ ys.length = n ∧ Post (XV X.K) X.K W ι σ H Q (does xs ys S)) →
    wpAny (model X.prog X.w) X.A (call (.ref f) zs) (EP (X.tr pn xe) pins σ Q) xe s
open Classical in
noncomputable def mAct (f : Addr) (es : List (Addr × HO)) (us : List V) (n : Nat) (does : Dz) (i : Nat) (ma : MA) : ME := fun ρ S => match ρ[i]? with
  | some (some (.cap f' es' us' xs)) => if f' = f ∧ es' = es ∧ us' = us then (ma ρ S).bind fun ys S1 => if frees ys = true ∧ ys.length = n then does xs ys S1 else .bad else .bad
  | _ => .bad
section
variable {X : Cx} {W : WX} {f : Addr} {es : List (Addr × HO)} {us : List V} {n : Nat} {does : Dz} {pn : List (Addr × Obj)} {xe : Value → Shared → Prop} {i : Nat} {a : Str} {p1 p2 : Pos}
theorem act_core {σ : L2.St} {H : Hp} {Q : VK} {ma : MA} (h : tG (XV X.K) X.K W (mAct f es us n does i ma) σ H Q) : σ[i]? = some (some (V.ref f)) ∧ (∀ p ∈ es, Kst p.1 p.2 ∧ H p.1 = some p.2) ∧
    tG (XVs X.K) X.K W ma σ H fun vs H2 => (∀ p ∈ es, H2 p.1 = some p.2) ∧ ∃ ι S xs ys, Rl X.K ι S H2 ∧ XV X.K ι H2 (.cap f es us xs) (.ref f) ∧ XCs X.K ι H2 ys vs ∧ ys.length = n ∧ Post (XV X.K) X.K W ι σ H2 Q (does xs ys S) := by
  obtain ⟨ι, S, ρ, hl, hR, h⟩ := h
  unfold mAct at h
  split at h
  · rename_i f' es' us' xs ey
    split at h
    · rename_i c
      obtain ⟨rfl, rfl, rfl⟩ := c
      obtain ⟨v, hs, hv⟩ := hl.2 i _ ey
      have hv0 := hv
      rw [XV] at hv
      obtain ⟨rfl, hes, hxl⟩ := hv
      refine ⟨hs, hes, ι, S, ρ, hl, hR, step h fun ys vs ι1 H2 S1 s2 r2 hx h1 => ?_⟩
      by_cases c : frees ys = true ∧ ys.length = n
      · rw [if_pos c] at h1
        exact ⟨fun p hp => s2.grow.cod _ _ (hes p hp).1 (hes p hp).2, ι1, S1, xs, ys, r2, hv0.mono s2, Paired_frees hx c.1, c.2, h1⟩
      · rw [if_neg c] at h1; exact h1.elim
    · exact h.elim
  · exact h.elim
theorem pm_act {e : Expr} {el : List Expr} {ma : MA} (A : ActOk X f es us n does) (tk : Takes (X.tr pn xe) W) (ha : PL (X.tr pn xe) W (e :: el) ma) (hN : X.N[i]? = some a := by rfl) (hv : Vis X.env.scope a := by first | exact Or.inl rfl | exact Or.inr (Or.inl rfl) | exact Or.inr (Or.inr rfl))
    (hd : (a == ("__debug__" : Str)) = false := by decide) (hcd : (a == ("__classdict__" : Str)) = false := by decide) (he : starEach (e :: el) X.env = (false, eval e X.env) :: starEach el X.env := by rfl) (hpl : (backTo p2 (starEach el X.env)).any (·.1) = false := by rfl) :
    PM (X.tr pn xe) W (.Call (.Name a p1) (e :: el) [] p2) (mAct f es us n does i ma) := by
  refine ⟨fun pins s σ H Q I h => ?_⟩
  obtain ⟨hs, hes, hp⟩ := act_core h
  obtain ⟨g, hg⟩ := A.fob
  refine wpAny_Call_Name_kw (thn ((pe_var (X := X.tr pn xe) (pos := p1) hN hv hd hcd).run pins s σ H (fun v H1 => v = .ref f ∧ H1 = H) I ⟨.ref f, hs, rfl, rfl⟩) fun u s1 ⟨v, H1, I1, r1, q1⟩ => ?_)
  obtain ⟨rfl, rfl⟩ := q1
  obtain rfl : u = Value.ref f := r1
  have at_ : ∀ {H2 : Hp} {s2 : Shared}, Inv (X.tr pn xe) pins σ H2 s2 → H2 f = some (FobO f g) → PySem.W.FnAt f s2.heap := fun I2 e2 => by
    obtain ⟨od, sl, doc, pm, ctv, ho⟩ := fob_at I2.hok e2
    exact ⟨_, od, _, sl, ho⟩
  refine PySem.W.callWith_F (first := []) (at_ I1 (hes _ hg).2) (thn (ha.run p2 pins s1 σ H1 _ I1 hp) fun us s2 ⟨vs, H2, I2, r, q0, q⟩ => ⟨at_ I2 (q0 _ hg), ?_⟩) he hpl
  show wpAny _ _ (call (.ref f) us) _ _ _
  exact A.run W pn xe tk pins σ H2 s2 Q us vs I2 r q
theorem pm_actX {e : Expr} {el : List Expr} {ma : MA} (A : ActOk X f es us n does) (tk : Takes X W) (ha : PL X W (e :: el) ma) (hN : X.N[i]? = some a := by rfl) (hv : Vis X.env.scope a := by first | exact Or.inl rfl | exact Or.inr (Or.inl rfl) | exact Or.inr (Or.inr rfl))
    (hd : (a == ("__debug__" : Str)) = false := by decide) (hcd : (a == ("__classdict__" : Str)) = false := by decide) (he : starEach (e :: el) X.env = (false, eval e X.env) :: starEach el X.env := by rfl) (hpl : (backTo p2 (starEach el X.env)).any (·.1) = false := by rfl) :
    PM X W (.Call (.Name a p1) (e :: el) [] p2) (mAct f es us n does i ma) := pm_act (pn := X.pn) (xe := X.xe) A tk ha hN hv hd hcd he hpl
end
structure DzM (gb : Bool) (P : Program) (w : World) (K : PySem.W.Frag) (mg : Str → Option Value) (base : Heap) (k n : Nat) (f0 : Addr) (fd : FuncData) (ps : List Str) (qual : Str) (sc : Scope) (N : List Str) (m : Addr → List (Addr × HO) → List V → Dz → List Mv → Sg → Res Mv) : Prop where
  run : ∀ (f : Addr) (es : List (Addr × HO)) (us : List V) (does : Dz) (A : Around) (outer : List Env) (s : Shared) (H : Hp) (args : Args) (zs : List Value) (vs : List V) (Q : VK) (E : XK), Room k A → GdP gb A.guards → Env0 P w K mg base A outer s H → BindsTo s fd args (ps.zip zs) → Vals vs zs →
    (∀ cdv, ActOk (cxOf (L2.CX P w) P w K mg base N qual sc f0 cdv A outer s H E) f es us n does) → spM K ps.length (m f es us does) vs H Q E → codeAny (model P w) A (.call (.ref f0) args) (CR (L2.CX P w) outer P w H s Q E) s
section
variable {P : Program} {w : World} {K : PySem.W.Frag} {mg : Str → Option Value} {base : Heap} {gb : Bool}
theorem dz_m {x qual : Str} {st : Stmt} {f : Addr} {fd : FuncData} {N ps : List Str} {k n : Nat} {m : Addr → List (Addr × HO) → List V → Dz → MS} (F : Fun K x qual st f fd) (Sc : FnScope N ps (defScope st))
    (hb : ∀ (fa : Addr) (es : List (Addr × HO)) (us : List V) (does : Dz) (cdv : Value) (A : Around) (outer : List Env) (s : Shared) (H : Hp) (E : XK), Room k (A.deeper (envOfC qual (defScope st) s.heap.objs.size f cdv)) → GdP gb (A.deeper (envOfC qual (defScope st) s.heap.objs.size f cdv)).guards →
      Takes (cxOf (L2.CX P w) P w K mg base N qual (defScope st) f cdv A outer s H E) (fun c d _ H => E c d H) →
      PassesOwn (model P w) (A.deeper (envOfC qual (defScope st) s.heap.objs.size f cdv)) (envOfC qual (defScope st) s.heap.objs.size f cdv) (cxOf (L2.CX P w) P w K mg base N qual (defScope st) f cdv A outer s H E).xe →
      ActOk (cxOf (L2.CX P w) P w K mg base N qual (defScope st) f cdv A outer s H E) fa es us n does →
      PMB (cxOf (L2.CX P w) P w K mg base N qual (defScope st) f cdv A outer s H E) (fun c d _ H => E c d H) (defBody st) (m fa es us does)) : DzM gb P w K mg base (k + 1) n f fd ps qual (defScope st) N (fun fa es us does => fnM N.length (m fa es us does)) := by
  obtain ⟨oc, od, kV, doc, pm, an, cdv, ct, osl, rfl, lk, hcd⟩ := F.ex
  refine ⟨fun fa es us does A outer s H args zs vs Q E room gds ent bnd rel act want => ?_⟩
  obtain ⟨ι, S, xs, hx, hlen, hR, want⟩ := want
  have hlv : vs.length = ps.length := by rw [← hx.length]; exact hlen
  have kin : K.In s.heap := ent.mod.kin.keeps fun b o e => (ent.bs b o e).1
  have lim : s.heap.NoLimit := ent.mod.nolimit.keeps fun b o e => (ent.bs b o e).1
  have places : ∀ y ∈ ps.zip zs, (defScope st).names.lookup y.1 = some .local ∨ ((defScope st).names.lookup y.1 = some .cell ∧ ((cellsFrom (s.heap.objs.size + 1) (defScope st).names []).lookup y.1).isSome = true) := by
    rintro ⟨n, v⟩ hy
    rcases Sc.par n (List.of_mem_zip hy).1 with q | q
    · exact .inl q
    · exact .inr ⟨q, PySem.W.cellsFrom_some _ _ _ (.inl q)⟩
  refine codeAny_call_function room.depth (kin _ _ lk) rfl Sc.co Sc.gen rfl (PySem.W.codeRec_of kin hcd) (bnd _ _ _ _ ?_)
  refine wpAny_newFunctionEnv_cells Sc.kind places fun env he s1 begun => ?_
  subst he
  refine ⟨lim.keeps begun.toInCall.keep, codeAny_func ?_⟩
  have I := inv_start (CX := L2.CX P w) (E := E) (cd := cdv) (qual := qual) (f := f) Sc room.hd ent hlv rel begun
  have body := hb fa es us does cdv A outer s H E (room.deeper _) gds (takes_of (X := cxOf (L2.CX P w) P w K mg base N qual (defScope st) f cdv A outer s H E) rfl rfl rfl rfl) (passes_of (X := cxOf (L2.CX P w) P w K mg base N qual (defScope st) f cdv A outer s H E) rfl) (act cdv)
  refine wpAny_mono (body.run [] s1 (start N vs) H _ I (body_end (X := cxOf (L2.CX P w) P w K mg base N qual (defScope st) f cdv A outer s H E) (k := k) hx hR want)) (fun fl s' got => ?_) fun e s' got => got
  cases fl with
  | ret u => exact let ⟨v, _, H', J, rv, q⟩ := got; ⟨v, H', J.os, J.bare, J.base, J.hok, rv, q⟩
  | next => exact let ⟨_, H', J, q⟩ := got; ⟨V.non, H', J.os, J.bare, J.base, J.hok, rfl, q⟩
  | brk => exact let ⟨_, _, _, q⟩ := got; False.elim q
  | cont => exact let ⟨_, _, _, q⟩ := got; False.elim q
end
def fnN (N : Nat) (mb : MS) : Dz := fun xs ys S => fin S.length (mb (ys.map some ++ (xs.map some ++ List.replicate (N - ys.length - xs.length) none)) S)
structure NdM (gb : Bool) (P : Program) (w : World) (K : PySem.W.Frag) (mg : Str → Option Value) (base : Heap) (k : Nat) (ps fr : List Str) (F : NF) (m : Dz) : Prop where
  run : ∀ (f : Addr) (A : Around) (outer : List Env) (s : Shared) (H : Hp) (zs : List Value) (vs ws : List V) (Q : VK) (E : XK), Room k A → GdP gb A.guards → Env0 P w K mg base A outer s H → H f = some (FobO f F.fd) → H F.c = some (LamX.CodeO F.c F.qual) → CellsAt F.cl fr (ws.map some) s.heap H → Vals vs zs →
    (∃ ι S xs ys, XVl K ι H xs ws ∧ XCs K ι H ys vs ∧ ys.length = ps.length ∧ Rl K ι S H ∧ Post (XV K) K (fun c d _ H => E c d H) ι [] H Q (m xs ys S)) → codeAny (model P w) A (.call (.ref f) ⟨zs, []⟩) (CR (L2.CX P w) outer P w H s Q E) s
section
variable {P : Program} {w : World} {K : PySem.W.Frag} {mg : Str → Option Value} {base : Heap} {gb : Bool}
theorem body_endG {X : Cx} {m : MS} {ρ : Rho} {σ : L2.St} {ι : Io} {S : Sg} {H : Hp} {Q : VK} {E : XK} (hl : LR X.K ι H ρ σ) (hR : Rl X.K ι S H)
    (h : Post (XV X.K) X.K (fun c d _ H => E c d H) ι [] H Q (fin S.length (m ρ S))) : tS X.K (fun c d _ H => E c d H) m { nx := fun _ H' => Q .non H', rt := Q } σ H := by
  refine ⟨ι, S, _, hl, hR, ?_⟩
  cases e : m ρ S with
  | nx ρ' S' =>
    rw [e] at h
    intro ι1 H1 σ' s1 r1 l1
    obtain ⟨ι2, s2, r2, _⟩ := trim_ok hR s1 r1
    exact h _ _ _ s2 r2 .non
  | rt y S' =>
    rw [e] at h
    intro ι1 H1 v s1 r1 hy
    simp only [fin] at h
    by_cases c : y.free = true
    · rw [if_pos c] at h
      obtain ⟨ι2, s2, r2, tr⟩ := trim_ok hR s1 r1
      exact h _ _ _ s2 r2 (tr _ _ c hy)
    · rw [if_neg c] at h; exact h.elim
  | bk ρ' S' => rw [e] at h; exact h.elim
  | ct ρ' S' => rw [e] at h; exact h.elim
  | exc ex ρ' S' =>
    rw [e] at h
    intro ι1 H1 d σ' s1 r1 l1 hy
    simp only [fin] at h
    obtain ⟨ι2, s2, r2, tr⟩ := trim_ok hR s1 r1
    refine h _ _ _ s2 r2 ?_
    rcases hy with hy | ⟨h0, dd, us, h1, h2, h3, h4⟩
    · exact .inl hy
    · exact .inr ⟨h0, dd, us, h1, h2, h3, XVl_iff.mpr (L2.Paired.mapP (XVl_iff.mp h4) fun x v r => ⟨r.1, tr x v r.1 r.2⟩)⟩
  | bad => rw [e] at h; exact h.elim
theorem lr_list {ι : Io} {H : Hp} {xs : List Mv} {vs : List V} (h : XCs K ι H xs vs) {ρ : Rho} {σ : L2.St} (l : LR K ι H ρ σ) : LR K ι H (xs.map some ++ ρ) (vs.map some ++ σ) := by
  induction h with
  | nil => exact l
  | cons r t ih =>
    refine ⟨congrArg (· + 1) ih.1, fun i x e => ?_⟩
    cases i with
    | zero =>
      have e : some _ = some (some x) := e
      cases e
      exact ⟨_, rfl, r.2⟩
    | succ i => exact ih.2 i x e
theorem lr_none {ι : Io} {H : Hp} (n : Nat) : LR K ι H (List.replicate n none) (List.replicate n none) := ⟨by simp, fun i x e => by
  have := (List.mem_replicate.mp (List.mem_of_getElem? e)).2
  cases this⟩
theorem nd_m {st : Stmt} {name qual : Str} {cl : List (Str × Addr)} {c : Addr} {N ps fr : List Str} {k : Nat} {mb : MS} (S : NScope N ps fr (C8.fnScope st)) (hbind : ∀ (doc pm ctv : Value) (us : List Value), us.length = ps.length → bindArgs ((NF.of st name qual cl c).fd doc pm ctv) ⟨us, []⟩ = pure (ps.zip us))
    (hb : ∀ (f : Addr) (A : Around) (outer : List Env) (s : Shared) (H : Hp) (E : XK), Room k (A.deeper (envF (NF.of st name qual cl c) f s.heap.objs.size)) → GdP gb (A.deeper (envF (NF.of st name qual cl c) f s.heap.objs.size)).guards →
      Takes (ncx (L2.CX P w) P w K mg base N (NF.of st name qual cl c) f A outer s H E) (fun c d _ H => E c d H) → PassesOwn (model P w) (A.deeper (envF (NF.of st name qual cl c) f s.heap.objs.size)) (envF (NF.of st name qual cl c) f s.heap.objs.size) (ncx (L2.CX P w) P w K mg base N (NF.of st name qual cl c) f A outer s H E).xe →
      PMB (ncx (L2.CX P w) P w K mg base N (NF.of st name qual cl c) f A outer s H E) (fun c d _ H => E c d H) (C8.fnBody st) mb) : NdM gb P w K mg base (k + 1) ps fr (NF.of st name qual cl c) (fnN N.length mb) := by
  refine ⟨fun f A outer s H zs vs ws Q E hr gds e0 hf hc C r want => ?_⟩
  obtain ⟨ι, Sg0, xs, ys, hxs, hys, hn, hR, want⟩ := want
  have hl : vs.length = ps.length := by rw [← hys.length]; exact hn
  have lim : s.heap.NoLimit := e0.mod.nolimit.keeps fun b o e => (e0.bs b o e).1
  obtain ⟨od, sl, doc, pm, ctv, ho⟩ := fob_at e0.hok hf
  refine codeAny_call_function hr.depth ho rfl S.co S.gen rfl (codeO_at e0.hok hc) ?_
  rw [hbind doc pm ctv zs (by rw [← r.length]; exact hl)]
  refine wpAny_pure (wpAny_newFunctionEnv S.nocell (fun ⟨n, _⟩ hy => S.par n (List.of_mem_zip hy).1) (fun h₁ hns hsb => ⟨lim.fresh _ hsb, ?_⟩) S.kind)
  show codeAny _ _ (.func (C8.fnBody st) (envF (NF.of st name qual cl c) f s.heap.objs.size)) _ _
  refine codeAny_func ?_
  have kp : ∀ b o, s.heap.get? b = some o → h₁.get? b = some o := fun b o e => hsb.extBut b o (Nat.ne_of_lt (Heap.lt_size e)) (Heap.get?_push_of_some _ e)
  have I : Inv (ncx (L2.CX P w) P w K mg base N (NF.of st name qual cl c) f A outer s H E) [] (startF N vs (ws.map some)) H { s with heap := h₁, toks := s.toks + (ps.zip zs).length } := inv_startN S hr.hd e0 hl r C hns kp
  have body := hb f A outer s H E (hr.deeper _) gds (takes_of (X := ncx (L2.CX P w) P w K mg base N (NF.of st name qual cl c) f A outer s H E) rfl rfl rfl rfl) (passes_of (X := ncx (L2.CX P w) P w K mg base N (NF.of st name qual cl c) f A outer s H E) rfl)
  have hxs' := XVl_iff.mp hxs
  have lrr : LR K ι H (ys.map some ++ (xs.map some ++ List.replicate (N.length - ys.length - xs.length) none)) (startF N vs (ws.map some)) := by
    unfold startF
    rw [hys.length, hxs'.length, List.length_map]
    exact lr_list hys (lr_list hxs' (lr_none _))
  refine wpAny_mono (body.run [] _ _ H _ I (body_endG (X := ncx (L2.CX P w) P w K mg base N (NF.of st name qual cl c) f A outer s H E) lrr hR want)) (fun fl s' got => ?_) fun e s' got => got
  cases fl with
  | ret u => exact let ⟨v, _, H', J, rv, q⟩ := got; ⟨v, H', J.os, J.bare, J.base, J.hok, rv, q⟩
  | next => exact let ⟨_, H', J, q⟩ := got; ⟨V.non, H', J.os, J.bare, J.base, J.hok, rfl, q⟩
  | brk => exact let ⟨_, _, _, q⟩ := got; False.elim q
  | cont => exact let ⟨_, _, _, q⟩ := got; False.elim q
end
end MM
end
section
set_option Elab.async false
set_option linter.all false
set_option maxRecDepth 100000
set_option maxHeartbeats 4000000
set_option autoImplicit false
namespace MM
open PySem PySem.Spec PyProof.Rows L2 NdefX
open Classical in
noncomputable def allF (F : Addr → Addr → List (Str × Addr) → RS) : RS := if ∀ f c cl, F f c cl = F 0 0 [] then F 0 0 [] else .bad
theorem allF_const (r : RS) : allF (fun _ _ _ => r) = r := if_pos fun _ _ _ => rfl
open Classical in
noncomputable def allU (F : List V → Res Mv) : Res Mv := if ∀ us, F us = F [] then F [] else .bad
theorem allU_const (r : Res Mv) : allU (fun _ => r) = r := if_pos fun _ => rfl
/-- what is tracked of the function that the statement st makes -/
def esN (st : Stmt) (name qual : Str) (f c : Addr) (cl : List (Str × Addr)) : List (Addr × HO) := [(f, FobO f (NF.of st name qual cl c).fd), (c, LamX.CodeO c qual)]
theorem esN_ok {st : Stmt} {name qual : Str} {f c : Addr} {cl : List (Str × Addr)} {H : Hp} (h1 : H f = some (FobO f (NF.of st name qual cl c).fd)) (h2 : H c = some (LamX.CodeO c qual)) : ∀ p ∈ esN st name qual f c cl, Kst p.1 p.2 ∧ H p.1 = some p.2 := by
  intro p hp
  unfold esN at hp
  rcases List.mem_cons.mp hp with rfl | hp
  · exact ⟨.inr ⟨_, rfl⟩, h1⟩
  · rw [List.mem_singleton.mp hp]
    exact ⟨.inl ⟨_, rfl⟩, h2⟩
/-- def x(..): .., what follows -/
noncomputable def mNdefB (st : Stmt) (x qual : Str) (iT : Nat) (n : Str) (iv : Nat) (m : Addr → Addr → List (Str × Addr) → MS) : MS := fun ρ S => match S[iT]? with
  | some (false, .tab n' x') => if n' = n ∧ x' = x then allF fun f c cl => m f c cl (ρ.set iv (some (.cap f (esN st x qual f c cl) [] []))) S else .bad
  | _ => .bad
section
variable {X : Cx} {W : WX}
/-- ndef_make with the heap told -/
theorem ndef_step {pins : List (Addr × Obj)} {σ : L2.St} {H : Hp} {s : Shared} {c P : Addr} {name : Str} {params : Arguments} {body : List Stmt} {scope : Scope} {pos : Pos} {E : Value → Shared → Prop} {Q : Value → Shared → Prop} (I : Inv X pins σ H s) (TB : LamX.TabB X.base X.mg c P) (hcode : X.env.code = .ref c)
    (hT : LamX.TabS H P (X.env.qual ++ name)) (hfree : ∀ y ∈ scope.names, y.2 = .free → ∃ c, X.env.cells.lookup y.1 = some c)
    (h : ∀ (f c' : Addr) (H1 : Hp) (s' : Shared), StepT P (X.env.qual ++ name) H H1 → LamX.TabS H1 P (X.env.qual ++ name) → H1 f = none → H1 c' = some (LamX.CodeO c' (X.env.qual ++ name)) → f ≠ c' →
      Inv X pins σ (upd H1 f (FobO f (NF.fd ⟨name, X.env.qual ++ name, params, body, scope, cloFrom X.env.cells scope.names [], c'⟩))) s' → Q (.ref f) s') :
    wpAny (model X.prog X.w) X.A (makeFunction name (X.env.qual ++ name) params (.stmts body) scope X.env [] [] [] pos pos.line) Q E s := by
  obtain ⟨ps, hP, ht, ha⟩ := hT
  have bP : s.heap.BuiltinsAt X.mg P := TB.bm.keeps I.bk
  have hP' : s.heap.get? P = some { cls := .none, data := .fields ps } := I.hok P _ hP
  cases hc : codeAmong pos ps.toList with
  | none =>
    refine PySem.W.makeFunction_K (mg := X.mg) (c := c) (P := P) (ps := ps) (closure_ok hfree) I.ok.glob (I.mod.glob.keeps I.bk) hcode (TB.code.keeps I.bk) hP' ht hc TB.gP bP fun c' ctv doc h' tk hx hge hlt hrec htb => ?_
    obtain ⟨c2, oc, vs, t, e2, hoc, hd, hv⟩ := hrec
    cases e2
    have nC : H c' = none := I.hok.fresh hge
    have I1 := LamX.inv_table (t' := tk) (more := #[rawInt pos.line, rawInt pos.col, .ref c']) (h' := h') I hP (fun b o hb e => hx b o hb e) htb hge ⟨oc, vs, t, hoc, hd, hv⟩
    have hE : ∀ b o, H b = some o → (∀ ps, o ≠ .tbl ps) → upd (upd H P (.tbl (ps ++ #[rawInt pos.line, rawInt pos.col, .ref c']))) c' (LamX.CodeO c' (X.env.qual ++ name)) b = some o := fun b o e n => by
      rw [upd_ne (ne_of_none e nC), upd_ne (fun z => n ps (Option.some.inj (e.symm.trans (by rw [z]; exact hP))))]
      exact e
    have eL : (ps ++ #[rawInt pos.line, rawInt pos.col, .ref c']).toList = ps.toList ++ [rawInt pos.line, rawInt pos.col, .ref c'] := by simp
    have T1 : LamX.TabS (upd (upd H P (.tbl (ps ++ #[rawInt pos.line, rawInt pos.col, .ref c']))) c' (LamX.CodeO c' (X.env.qual ++ name))) P (X.env.qual ++ name) := by
      refine ⟨_, by rw [upd_ne (ne_of_none hP nC), upd_same], by rw [eL]; exact PySem.TriplesOk_snoc _ _ _ _ ht, fun p' cv hcv => ?_⟩
      rw [eL] at hcv
      rcases LamX.among_app _ ht hcv with z | z
      · obtain ⟨c0, e1, e2⟩ := ha p' cv z
        exact ⟨c0, e1, hE _ _ e2 fun ps => LamX.codeO_ne ps⟩
      · exact ⟨c', z, upd_same⟩
    have nF := I1.hok.fresh (Nat.le_refl _)
    have I2 := inv_fn (F := ⟨name, X.env.qual ++ name, params, body, scope, cloFrom X.env.cells scope.names [], c'⟩) (t' := tk) (doc := doc) (pm := (X.mg "__name__").getD .none) (ctv := ctv) I1 rfl
    exact h _ c' _ _ (.inr ⟨ps, _, c', hP, nC, rfl⟩) T1 nF upd_same (Nat.ne_of_gt hlt) I2
  | some cv =>
    obtain ⟨c', e, hco⟩ := ha pos cv hc
    subst e
    refine PySem.W.makeFunction_hit (mg := X.mg) (c := c) (P := P) (ps := ps) (closure_ok hfree) I.ok.glob (I.mod.glob.keeps I.bk) hcode (TB.code.keeps I.bk) hP' ht hc bP fun ctv doc h' tk hx hsz => ?_
    have I1 : Inv X pins σ H { s with heap := h', toks := tk } := I.kept hx
    have nF : H h'.objs.size = none := I1.hok.fresh (Nat.le_refl _)
    have I2 := inv_fn (F := ⟨name, X.env.qual ++ name, params, body, scope, cloFrom X.env.cells scope.names [], c'⟩) (t' := tk) (doc := doc) (pm := (X.mg "__name__").getD .none) (ctv := ctv) I1 rfl
    exact h _ c' H _ (.inl rfl) ⟨ps, hP, ht, ha⟩ nF hco (fun z => by rw [← z, nF] at hco; cases hco) I2
/-- the def statement, and what follows -/
theorem pmb_ndef {st : Stmt} {rest : List Stmt} {name n : Str} {pos : Pos} {iT iv : Nat} {m : Addr → Addr → List (Str × Addr) → MS} (hst : st = .FunctionDef name (C8.fnArgs st) (C8.fnBody st) [] none [] (C8.fnScope st) none name pos)
    (hTB : ∀ a x q, LamTab X.K a n x q → ∃ c, LamX.TabB X.base X.mg c a ∧ X.env.code = .ref c ∧ q = X.env.qual ++ x) (hfree : ∀ y ∈ (C8.fnScope st).names, y.2 = .free → X.env.scope.names.lookup y.1 = some .cell ∨ X.env.scope.names.lookup y.1 = some .free)
    (hd0 : (C8.fnArgs st).defaults = []) (hk0 : (C8.fnArgs st).kw_defaults = []) (ha : annTrees (C8.fnArgs st) none X.env = [])
    (hN : X.N.Nodup) (hi : X.N[iv]? = some name) (hx : Loc X.env.scope name) (hf : X.fn name = true ∨ X.env.scope.names.lookup name = some .local)
    (hr : ∀ f c cl, cl = cloFrom X.env.cells (C8.fnScope st).names [] → PMB X W rest (m f c cl)) : PMB X W (st :: rest) (mNdefB st name (X.env.qual ++ name) iT n iv m) := by
  have hfr : X.Ok → ∀ y ∈ (C8.fnScope st).names, y.2 = .free → ∃ c, X.env.cells.lookup y.1 = some c := fun ok y hy e => (hfree y hy e).elim (fun z => ok.has _ (.inl z)) fun z => ok.has _ (.inr z)
  have hq : qualnameIn X.env name name = X.env.qual ++ name := by
    have hk : X.env.kindOf name = some .local ∨ X.env.kindOf name = some .cell := hx
    unfold qualnameIn
    rcases hk with k | k <;> rw [k] <;> first | rfl | exact if_neg (by decide)
  have h1 : PS X st (fun D σ H => ∃ (P c : Addr), LamX.TabB X.base X.mg c P ∧ X.env.code = .ref c ∧ LamX.TabS H P (X.env.qual ++ name) ∧ ∀ (f c' : Addr) (H1 : Hp), StepT P (X.env.qual ++ name) H H1 → LamX.TabS H1 P (X.env.qual ++ name) → H1 f = none → H1 c' = some (LamX.CodeO c' (X.env.qual ++ name)) → f ≠ c' →
      D.nx (σ.set iv (some (.ref f))) (upd H1 f (FobO f (NF.of st name (X.env.qual ++ name) (cloFrom X.env.cells (C8.fnScope st).names []) c').fd))) := by
    rw [hst]
    refine ⟨fun pins s σ H D I ⟨P, c, TB, hc, hT, k⟩ => ?_⟩
    refine PySem.W.nestDef_K hd0 hk0 ha ?_
    rw [hq]
    refine ndef_step I TB hc hT (hfr I.ok) fun f c' H1 s' st1 T1 f1 c1 ne I1 => ?_
    refine store_ok I1 hN hi hx (v := .ref f) rfl (fun s'' J => ⟨_, _, J, ?_⟩) hf
    exact k f c' H1 st1 T1 f1 c1 ne
  refine ⟨fun pins s σ H D I ⟨ι, S, ρ, hl, hR, h⟩ => ?_⟩
  unfold mNdefB at h
  split at h
  · rename_i n' x' eT
    split at h
    · rename_i cc
      obtain ⟨rfl, rfl⟩ := cc
      unfold allF at h
      split at h
      · rename_i hall
        obtain ⟨P, hi2, qq, hlt, hT⟩ := hR.at eT
        obtain ⟨c, TB, hcode, rfl⟩ := hTB P _ qq hlt
        refine (pss_cons h1 (hr 0 0 _ rfl |> fun _ => (⟨fun pins s σ H D I hh => by
          obtain ⟨f, c', hh⟩ := hh
          exact (hr f c' _ rfl).run pins s σ H D I hh⟩ : PSs X rest (fun D σ H => ∃ f c', tS X.K W (m f c' (cloFrom X.env.cells (C8.fnScope st).names [])) D σ H)))).run pins s σ H D I ?_
        refine ⟨P, c, TB, hcode, hT, fun f c' H1 st1 T1 f1 c1 ne => ⟨f, c', ?_⟩⟩
        obtain ⟨r2, s2⟩ := hR.step eT hi2 hlt st1 T1
        obtain ⟨r3, s3⟩ := r2.beside (u := FobO f (NF.of st x' (X.env.qual ++ x') (cloFrom X.env.cells (C8.fnScope st).names []) c').fd) f1
        refine ⟨ι, S, _, ((hl.mono (s2.trans s3)).set iv (x := .cap f (esN st x' (X.env.qual ++ x') f c' (cloFrom X.env.cells (C8.fnScope st).names [])) [] []) (v := .ref f) ?_), r3, ?_⟩
        · rw [XV]
          exact ⟨rfl, esN_ok upd_same (by rw [upd_ne (fun z => ne z.symm)]; exact c1), XVl_nil.mpr rfl⟩
        · rw [← hall f c' (cloFrom X.env.cells (C8.fnScope st).names [])] at h
          exact PostS.sub (s2.trans s3) h
      · exact h.elim
    · exact h.elim
  · exact h.elim
/-- what the names at js hold, all of it free -/
def capt (ρ : Rho) : List Nat → Option (List Mv)
  | [] => some []
  | j :: js => match ρ[j]? with
    | some (some x) => if x.free = true then (capt ρ js).map (x :: ·) else none
    | _ => none
theorem capt_ok {K : PySem.W.Frag} {ι : Io} {H : Hp} {ρ : Rho} {σ : L2.St} (hl : LR K ι H ρ σ) : ∀ {js : List Nat} {xs : List Mv}, capt ρ js = some xs → ∃ us, XVl K ι H xs us ∧ js.map (slotAt σ) = us.map some
  | [], _, e => by cases e; exact ⟨[], XVl_nil.mpr rfl, rfl⟩
  | j :: js, xs, e => by
    unfold capt at e
    split at e
    · rename_i x ex
      split at e
      · rename_i c
        obtain ⟨ys, e1, rfl⟩ := Option.map_eq_some_iff.mp e
        obtain ⟨us, h1, h2⟩ := capt_ok hl e1
        obtain ⟨v, hs, hv⟩ := hl.2 j x ex
        exact ⟨v :: us, XVl_cons.mpr ⟨v, us, rfl, ⟨c, hv⟩, h1⟩, by rw [List.map_cons, List.map_cons, h2, slotAt_of hs]⟩
      · cases e
    · cases e
open Classical in
/-- g(.., k = f), f made by the statement st; dz: what f does -/
noncomputable def mCallHd (st : Stmt) (x qual : Str) (f c : Addr) (cl : List (Str × Addr)) (iv : Nat) (js : List Nat) (dz : Dz) (n : Nat) (m : Addr → List (Addr × HO) → List V → Dz → List Mv → Sg → Res Mv) (os : List Sr) (ds : List Mv) (a k : MA) : ME := fun ρ S =>
  match ρ[iv]?, capt ρ js with
  | some (some (.cap f' es [] [])), some xs => if f' = f ∧ es = esN st x qual f c cl then allU fun us => mCallK n (m f es us dz) os ds a k (ρ.set iv (some (.cap f es us xs))) S else .bad
  | _, _ => .bad
theorem pm_callHd {st : Stmt} {name y : Str} {p pos : Pos} {e : Expr} {el : List Expr} {kws : List Keyword} {ma mk : MA} {gb : Bool} {k kN n j iv : Nat} {f0 f c : Addr} {cl : List (Str × Addr)} {fd : FuncData} {ps psN fr ks : List Str} {qual0 : Str} {sc0 : Scope} {N0 : List Str} {js : List Nat} {dz : Dz} {m : Addr → List (Addr × HO) → List V → Dz → List Mv → Sg → Res Mv} {os : List Sr} {ds : List Mv} {dvs : List V} {dus : List Value}
    (hcl : cl = cloFrom X.env.cells (C8.fnScope st).names []) (F : DzM gb X.prog X.w X.K X.mg X.base k psN.length f0 fd ps qual0 sc0 N0 m) (D : ∀ c', NdM gb X.prog X.w X.K X.mg X.base kN psN fr (NF.of st name (X.env.qual ++ name) cl c') dz)
    (hfree : ∀ y ∈ (C8.fnScope st).names, y.2 = .free → X.env.scope.names.lookup y.1 = some .cell ∨ X.env.scope.names.lookup y.1 = some .free) (hfr : ∀ y ∈ fr, (y, NameKind.free) ∈ (C8.fnScope st).names) (hjs : js.map (fun j => X.N[j]?) = fr.map some)
    (hr : Room k X.A) (hrN : Room (kN + 1) X.A) (gds : GdP gb X.A.guards) (tk : Takes X W) (hg : Gl X y) (hm : X.mg y = some (.ref f0)) (hk : PySem.W.keepIn X.K (.ref f0) = true) (hbi : KwB X.K fd ps j ks dus os) (hd : Vals dvs dus) (hds : ∀ ι H, XVs X.K ι H ds dvs)
    (hla : ∀ ρ S xs S', ma ρ S = .ok xs S' → xs.length = j) (hlk : ∀ ρ S xs S', mk ρ S = .ok xs S' → xs.length = ks.length) (ha : PL X W (e :: el) ma) (hkw : PLK X W kws mk) (hn : ps.length = n := by rfl)
    (hall : (backToKw pos (keywordEach kws X.env)).all (·.1.isSome) = true := by rfl) (hks : (backToKw pos (keywordEach kws X.env)).filterMap (·.1) = ks := by rfl) (hdb : (y == ("__debug__" : Str)) = false := by decide)
    (he : starEach (e :: el) X.env = (false, eval e X.env) :: starEach el X.env := by rfl)
    (hpl : ((backTo pos (starEach (e :: el) X.env)).any (·.1) || (backToKw pos (keywordEach kws X.env)).any (·.1.isNone)) = false := by rfl) :
    PM X W (.Call (.Name y p) (e :: el) kws pos) (mCallHd st name (X.env.qual ++ name) f c cl iv js dz n m os ds ma mk) := by
  subst hn
  refine ⟨fun pins s σ H Q I ⟨ι, S, ρ, hl, hR, h⟩ => ?_⟩
  unfold mCallHd at h
  split at h
  · rename_i f' es xs ev ec
    split at h
    · rename_i cc
      obtain ⟨rfl, rfl⟩ := cc
      unfold allU at h
      split at h
      · rename_i hall2
        obtain ⟨us, hus, hsl⟩ := capt_ok hl ec
        rw [← hall2 us] at h
        obtain ⟨v, hs, hv⟩ := hl.2 iv _ ev
        rw [XV] at hv
        obtain ⟨rfl, hes, _⟩ := hv
        have hl2 : LR X.K ι H (ρ.set iv (some (.cap f' (esN st name (X.env.qual ++ name) f' c cl) us xs))) σ := by
          have q := hl.set iv (x := .cap f' (esN st name (X.env.qual ++ name) f' c cl) us xs) (v := .ref f') (by rw [XV]; exact ⟨rfl, hes, hus⟩)
          have e : σ.set iv (some (V.ref f')) = σ := by
            refine List.ext_getElem? fun i => ?_
            by_cases hi : iv = i
            · subst hi
              rw [List.getElem?_set_self (List.getElem?_eq_some_iff.mp hs).1, hs]
            · rw [List.getElem?_set_ne hi]
          rw [e] at q
          exact q
        have want : tG (XV X.K) X.K W (mCallK ps.length (m f' (esN st name (X.env.qual ++ name) f' c cl) us dz) os ds ma mk) σ H Q := ⟨ι, S, _, hl2, hR, h⟩
        refine wpAny_Call_Name_kw (ld_glob I hg hm ?_ hdb)
        have w1 := callK_want hds want
        have w2 := tG_len hla w1
        refine PySem.W.callWith_KW (h₀ := X.base) I.ok.mod.kin hk hall (thn (ha.run pos pins s σ H _ I w2) fun zs s1 ⟨vs, H1, I1, r, l1, q⟩ => ?_) hpl he
        refine thn (hkw.run pos pins s1 σ H1 _ I1 (tG_len hlk q)) fun wz s2 ⟨zs2, H2, I2, rz, l2, r2, er, q2⟩ => ⟨I2.kIn, ?_⟩
        rw [hks]
        obtain ⟨r', er', rr⟩ := laid_ok (F := RelV) r rz hd er
        have act : ∀ cdv, ActOk (cxOf (L2.CX X.prog X.w) X.prog X.w X.K X.mg X.base N0 qual0 sc0 f0 cdv X.A X.stack s2 H2 (WE W σ)) f' (esN st name (X.env.qual ++ name) f' c cl) us psN.length dz := fun cdv => by
          refine ⟨⟨_, List.mem_cons_self ..⟩, fun W' pn xe tk' pins' σZ HZ sZ Q' zs' vs' IZ rz' ⟨ιZ, SZ, xsZ, ysZ, hRZ, hcap, hys, hn, hpost⟩ => ?_⟩
          rw [XV] at hcap
          obtain ⟨_, hesZ, hxl⟩ := hcap
          have hF := (hesZ _ (List.mem_cons_self ..)).2
          have hC := (hesZ _ (List.mem_cons_of_mem _ (List.mem_cons_self ..))).2
          have C0 := cells_of I2 (Caps.made (scope := C8.fnScope st) I2.ok hfree hfr hjs)
          rw [hsl, ← hcl] at C0
          have C1 : CellsAt cl fr (us.map some) sZ.heap HZ := cells_un C0 IZ.base
          refine wpAny_call (codeAny_mono ((D c).run f' _ _ sZ HZ zs' vs' us Q' (WE W' σZ) (hrN.deeper _) gds IZ.env0 hF hC C1 rz' ⟨ιZ, SZ, xsZ, ysZ, hxl, hys, hn, hRZ, ?_⟩) fun res s' got => ?_)
          · cases e : dz xsZ ysZ SZ with
            | ok y S' => rw [e] at hpost; exact hpost
            | exc y S' => rw [e] at hpost; exact hpost
            | bad => rw [e] at hpost; exact hpost
          · cases res with
            | error e => exact passAt tk' σZ pins' HZ sZ e s' IZ got
            | ok fl =>
              cases fl with
              | ret u => exact IZ.after got
              | next => exact got
              | brk => exact got
              | cont => exact got
        refine wpAny_call (codeAny_mono (F.run f' (esN st name (X.env.qual ++ name) f' c cl) us dz X.A X.stack s2 H2 _ r' _ Q (WE W σ) hr gds I2.env0 (hbi s2 zs wz r' I2.kIn (by rw [← r.length]; exact l1) (by rw [← rz.length]; exact l2) er') rr act q2) fun res s' got => ?_)
        cases res with
        | error e => exact passAt tk σ pins H2 s2 e s' I2 got
        | ok fl =>
          cases fl with
          | ret u => exact I2.after got
          | next => exact got.elim
          | brk => exact got.elim
          | cont => exact got.elim
      · exact h.elim
    · exact h.elim
  · exact h.elim
end
end MM
end
section
set_option Elab.async false
set_option linter.all false
set_option maxRecDepth 100000
set_option maxHeartbeats 4000000
set_option autoImplicit false
namespace MM
open PySem PySem.Spec PyProof.Rows L2 NdefX
theorem allF_eq {F : Addr → Addr → List (Str × Addr) → RS} {r : RS} (h : ∀ f c cl, F f c cl = r) : allF F = r := by
  have e : F = fun _ _ _ => r := funext fun f => funext fun c => funext fun cl => h f c cl
  rw [e]
  exact allF_const r
theorem allU_eq {F : List V → Res Mv} {r : Res Mv} (h : ∀ us, F us = r) : allU F = r := by
  have e : F = fun _ => r := funext h
  rw [e]
  exact allU_const r
theorem ev_ndefB {st : Stmt} {x q n : Str} {iT iv : Nat} {m : Addr → Addr → List (Str × Addr) → MS} {ρ : Rho} {S : Sg} (h : S[iT]? = some (false, .tab n x)) : mNdefB st x q iT n iv m ρ S = allF fun f c cl => m f c cl (ρ.set iv (some (.cap f (esN st x q f c cl) [] []))) S := by
  unfold mNdefB
  rw [h]
  exact if_pos ⟨rfl, rfl⟩
theorem ev_callHd {st : Stmt} {x q : Str} {f c : Addr} {cl : List (Str × Addr)} {iv n : Nat} {js : List Nat} {dz : Dz} {m : Addr → List (Addr × HO) → List V → Dz → List Mv → Sg → Res Mv} {os : List Sr} {ds : List Mv} {a k : MA} {ρ : Rho} {S : Sg} {xs : List Mv}
    (h : ρ[iv]? = some (some (.cap f (esN st x q f c cl) [] []))) (h2 : capt ρ js = some xs) : mCallHd st x q f c cl iv js dz n m os ds a k ρ S = allU fun us => mCallK n (m f (esN st x q f c cl) us dz) os ds a k (ρ.set iv (some (.cap f (esN st x q f c cl) us xs))) S := by
  unfold mCallHd
  rw [h, h2]
  exact if_pos ⟨rfl, rfl⟩
theorem ev_act {f : Addr} {es : List (Addr × HO)} {us : List V} {n i : Nat} {dz : Dz} {ma : MA} {ρ : Rho} {S S1 : Sg} {xs ys : List Mv} (h : ρ[i]? = some (some (.cap f es us xs))) (h2 : ma ρ S = .ok ys S1) (h3 : frees ys = true) (h4 : ys.length = n) : mAct f es us n dz i ma ρ S = dz xs ys S1 := by
  unfold mAct
  rw [h]
  simp only [and_self, if_true]
  rw [h2]
  show (if frees ys = true ∧ ys.length = n then _ else _) = _
  rw [if_pos ⟨h3, h4⟩]
theorem isN_cap {S : Sg} {neg : Bool} {f : Addr} {es : List (Addr × HO)} {us : List V} {xs : List Mv} : gIsN neg S (.cap f es us xs) (.d .none) = some (.val (.d (.bool neg))) := rfl
end MM
end
section
set_option Elab.async false
set_option linter.all false
set_option maxRecDepth 100000
set_option maxHeartbeats 4000000
set_option autoImplicit false
namespace Law
open PySem PySem.Spec PyProof.Rows L2 MM NdefX
local macro_rules | `(tactic| walk_at "blk") => `(tactic| (first | kernel_rfl | exact rfl))
noncomputable section
def topS (i : Nat) : Stmt := PySem.Challenge.pw_madestore_k05_blanks_and_marks_of_things.main.body.getD i (.Pass ⟨0, 0, 0, 0⟩)
def k_SIGNS : Str := ("\n !\"#$&'()*+,-./0123456789:;<=>?@ABCDEFGHIJKLMNOPQRSTUVWXYZ[\\]^_`abcdefghijklmnopqrstuvwxyz{|}~" : Str)
def k_LETTERS : Str := ("abcdefghijklmnopqrstuvwxyz" : Str)
def k_FIGURES : Str := ("0123456789abcdfghijklmnpqrsvwxyz" : Str)
def k_BEGIN : Str := ("#" : Str)
def k_BETWEEN : Str := ("-" : Str)
def k_END : Str := (";" : Str)
def k_BLANK : Str := ("00000000" : Str)
abbrev s_is_label : Stmt := topS 9
abbrev N_is_label : List Str := ["thing", "sign"]
theorem sc_is_label : FnScope N_is_label ["thing"] (defScope s_is_label) := ⟨rfl, rfl, rfl, by decide +kernel, rfl, by decide +kernel, by decide +kernel⟩
noncomputable def e_is_label_1 : ME :=
  mBin .ref (gInN false) (mVar 1) (mC (.str k_LETTERS))
noncomputable def m_is_label : MS :=
  mRet (mAnd (mCB .frz gIsi (mCons (mVar 0) (mCons (mK (.ty "str")) (mNil)))) (mAnd (mChain gLe gLe (mC (.int 1)) (mCB .frz gLen (mCons (mVar 0) (mNil))) (mC (.int 8))) (mCB .frz gAll (mCons (mLc .frz (mIter (mVar 0)) (mgName 1) mYes (e_is_label_1) [1]) (mNil)))))
noncomputable def f_is_label : List Mv → Sg → Res Mv := fnM N_is_label.length m_is_label
abbrev s_is_mark : Stmt := topS 10
abbrev N_is_mark : List Str := ["thing", "sign"]
theorem sc_is_mark : FnScope N_is_mark ["thing"] (defScope s_is_mark) := ⟨rfl, rfl, rfl, by decide +kernel, rfl, by decide +kernel, by decide +kernel⟩
noncomputable def e_is_mark_1 : ME :=
  mBin .ref (gInN false) (mVar 1) (mC (.str k_FIGURES))
noncomputable def m_is_mark : MS :=
  mRet (mAnd (mCB .frz gIsi (mCons (mVar 0) (mCons (mK (.ty "str")) (mNil)))) (mAnd (mBin .ref (gEqN false) (mCB .frz gLen (mCons (mVar 0) (mNil))) (mC (.int 8))) (mCB .frz gAll (mCons (mLc .frz (mIter (mVar 0)) (mgName 1) mYes (e_is_mark_1) [1]) (mNil)))))
noncomputable def f_is_mark : List Mv → Sg → Res Mv := fnM N_is_mark.length m_is_mark
abbrev s_mark_of : Stmt := topS 11
abbrev N_mark_of : List Str := ["text", "number", "sign", "found", "last"]
theorem sc_mark_of : FnScope N_mark_of ["text"] (defScope s_mark_of) := ⟨rfl, rfl, rfl, by decide +kernel, rfl, by decide +kernel, by decide +kernel⟩
noncomputable def b_mark_of_1 : MS :=
  mAsg (mBin .frz gMod (mBin .frz gAdd (mBin .frz gMul (mC (.int 131)) (mVar 1)) (mIndex (mC (.str k_SIGNS)) (mCons (mVar 2) (mNil)))) (mC (.int 1099511627689))) (mgName 1)
noncomputable def wt_mark_of_1 : MT :=
  mTst (mBin .ref gLt (mCB .frz gLen (mCons (mVar 3) (mNil))) (mC (.int 8)))
noncomputable def wb_mark_of_1 : MS :=
  mSeq (mAsg (mCB .frz gDivmod (mCons (mVar 1) (mCons (mCB .frz gLen (mCons (mC (.str k_FIGURES)) (mNil))) (mNil)))) (mgTup 2 (mgCons (mgName 1) (mgCons (mgName 4) (mgNil)))))
    (mAsg (mBin .frz gAdd (mIx (mC (.str k_FIGURES)) (mVar 4)) (mVar 3)) (mgName 3))
noncomputable def m_mark_of : MS :=
  mSeq (mAsg (mC (.int 7)) (mgName 1))
    (mSeq (mFor (mIter (mVar 0)) (mgName 2) b_mark_of_1)
    (mSeq (mAsg (mC (.str ("" : Str))) (mgName 3))
    (mSeq (mWhile wt_mark_of_1 wb_mark_of_1 1000)
    (mRet (mVar 3)))))
noncomputable def f_mark_of : List Mv → Sg → Res Mv := fnM N_mark_of.length m_mark_of
abbrev s_name_with : Stmt := topS 20
abbrev N_name_with : List Str := ["mark", "label"]
theorem sc_name_with : FnScope N_name_with ["mark", "label"] (defScope s_name_with) := ⟨rfl, rfl, rfl, by decide +kernel, rfl, by decide +kernel, by decide +kernel⟩
noncomputable def m_name_with : MS :=
  mRet (mJs [mFmt (mC (.str k_BEGIN)), mFmt (mVar 0), mFmt (mC (.str k_BETWEEN)), mFmt (mVar 1), mFmt (mC (.str k_END))] Str.empty)
noncomputable def f_name_with : List Mv → Sg → Res Mv := fnM N_name_with.length m_name_with
abbrev s_label_in : Stmt := topS 21
abbrev N_label_in : List Str := ["name"]
theorem sc_label_in : FnScope N_label_in ["name"] (defScope s_label_in) := ⟨rfl, rfl, rfl, by decide +kernel, rfl, by decide +kernel, by decide +kernel⟩
noncomputable def m_label_in : MS :=
  mRet (mSl .frz (mVar 0) (mOS (mBin .frz gAdd (mC (.int 9)) (mC (.int 1)))) (mOS (mNeg (mC (.int 1)))))
noncomputable def f_label_in : List Mv → Sg → Res Mv := fnM N_label_in.length m_label_in
abbrev s_L_deck : Stmt := topS 28
abbrev N_L_deck : List Str := ["_law_script", "_law_cells", "_law_cell"]
theorem sc_L_deck : FnScope N_L_deck ["_law_script"] (defScope s_L_deck) := ⟨rfl, rfl, rfl, by decide +kernel, rfl, by decide +kernel, by decide +kernel⟩
noncomputable def e_L_deck_1 : ME :=
  mBin .frz gMod (mVar 2) (mC (.int 1000003))
noncomputable def m_L_deck : MS :=
  mSeq (mAsg (mCB .frz gList (mCons (mSl .frz (mVar 0) (mON) (mOS (mC (.int 63)))) (mNil))) (mgName 1))
    (mRet (mDisp .ref false (mCons (mRev .ref (mVar 1)) (mCons (mBin .frz gAdd (mCB .frz gSum (mCons (mLc .frz (mIter (mVar 1)) (mgName 2) mYes (e_L_deck_1) [2]) (mNil))) (mBin .frz gMul (mC (.int 7919)) (mCB .frz gLen (mCons (mVar 1) (mNil))))) (mCons (mC (.int 0)) (mNil))))))
noncomputable def f_L_deck : List Mv → Sg → Res Mv := fnM N_L_deck.length m_L_deck
abbrev s_L_draw : Stmt := topS 29
abbrev N_L_draw : List Str := ["_law_deck_here", "_law_many", "_law_cell", "_law_mixed"]
theorem sc_L_draw : FnScope N_L_draw ["_law_deck_here", "_law_many"] (defScope s_L_draw) := ⟨rfl, rfl, rfl, by decide +kernel, rfl, by decide +kernel, by decide +kernel⟩
noncomputable def m_L_draw : MS :=
  mSeq (mSetIx (mBin .frz gAdd (mIx (mVar 0) (mC (.int 2))) (mC (.int 1))) (mVar 0) (mC (.int 2)))
    (mSeq (mAsg (mIx (mVar 0) (mC (.int 1))) (mgName 2))
    (mSeq (mIfS (mTst (mBin .ref (gEqN true) (mIx (mVar 0) (mC (.int 0))) (mDisp .frz false (mNil)))) (mSeq (mAsg (mBU "list" uPop (mIx (mVar 0) (mC (.int 0))) mNil) (mgName 2))
    (mIfS (mTst (mBin .ref gGe (mVar 2) (mBin .frz gPow (mC (.int 10)) (mC (.int 18))))) (mSeq (mExpr (mBU "list" uAppend (mIx (mVar 0) (mC (.int 0))) (mCons (mBin .frz gFdiv (mVar 2) (mVar 1)) (mNil))))
    (mRet (mBin .frz gMod (mVar 2) (mVar 1)))) (mSkip))) (mSkip))
    (mSeq (mAsg (mBin .frz gMod (mBin .frz gMul (mBin .frz gAdd (mBin .frz gAdd (mBin .frz gMod (mVar 2) (mC (.int 2147483629))) (mBin .frz gMul (mC (.int 65537)) (mIx (mVar 0) (mC (.int 2))))) (mC (.int 19))) (mC (.int 48271))) (mC (.int 2147483647))) (mgName 3))
    (mSeq (mAsg (mBin .frz gMod (mBin .frz gAdd (mBin .frz gAdd (mBin .frz gMul (mVar 3) (mVar 3)) (mBin .frz gMul (mC (.int 69621)) (mIx (mVar 0) (mC (.int 2))))) (mC (.int 23))) (mC (.int 2147483587))) (mgName 3))
    (mRet (mBin .frz gMod (mBin .frz gFdiv (mBin .frz gMod (mBin .frz gAdd (mBin .frz gMul (mVar 3) (mVar 3)) (mBin .frz gMul (mC (.int 39373)) (mVar 3))) (mC (.int 2147483563))) (mC (.int 64))) (mVar 1)))))))
noncomputable def f_L_draw : List Mv → Sg → Res Mv := fnM N_L_draw.length m_L_draw
abbrev s_L_signs : Stmt := topS 32
abbrev N_L_signs : List Str := ["_law_some"]
theorem sc_L_signs : FnScope N_L_signs [] (defScope s_L_signs) := ⟨rfl, rfl, rfl, by decide +kernel, rfl, by decide +kernel, by decide +kernel⟩
noncomputable def m_L_signs : MS :=
  mSeq (mAsg (mC (.str ("\n !\"#$&'()*+,-./0123456789:;<=>?@ABCDEFGHIJKLMNOPQRSTUVWXYZ[\\]^_`" : Str))) (mgName 0))
    (mRet (mBin .frz gAdd (mVar 0) (mC (.str ("abcdefghijklmnopqrstuvwxyz{|}~" : Str)))))
noncomputable def f_L_signs : List Mv → Sg → Res Mv := fnM N_L_signs.length m_L_signs
abbrev s_L_thirty_two : Stmt := topS 33
abbrev N_L_thirty_two : List Str := ["_law_number", "_law_digits", "_law_found", "_law_k"]
theorem sc_L_thirty_two : FnScope N_L_thirty_two ["_law_number"] (defScope s_L_thirty_two) := ⟨rfl, rfl, rfl, by decide +kernel, rfl, by decide +kernel, by decide +kernel⟩
noncomputable def b_L_thirty_two_1 : MS :=
  mSeq (mAsg (mBin .frz gAdd (mIx (mVar 1) (mBin .frz gMod (mVar 0) (mC (.int 32)))) (mVar 2)) (mgName 2))
    (mAsg (mBin .frz gFdiv (mVar 0) (mC (.int 32))) (mgName 0))
noncomputable def m_L_thirty_two : MS :=
  mSeq (mAsg (mDisp .ref true (mCons (mC (.str ("0123456789abcdfghijklmnpqrsvwxyz" : Str))) (mCons (mC (.str ("" : Str))) (mNil)))) (mgTup 2 (mgCons (mgName 1) (mgCons (mgName 2) (mgNil)))))
    (mSeq (mFor (mRange1 (mCons (mC (.int 8)) (mNil))) (mgName 3) b_L_thirty_two_1)
    (mRet (mVar 2)))
noncomputable def f_L_thirty_two : List Mv → Sg → Res Mv := fnM N_L_thirty_two.length m_L_thirty_two
abbrev s_L_weak : Stmt := topS 35
abbrev N_L_weak : List Str := ["_law_written"]
theorem sc_L_weak : FnScope N_L_weak ["_law_written"] (defScope s_L_weak) := ⟨rfl, rfl, rfl, by decide +kernel, rfl, by decide +kernel, by decide +kernel⟩
noncomputable def m_L_weak : MS :=
  mRet (mBin .frz gAdd (mC (.str ("0000000" : Str))) (mIx (mC (.str ("0123456789abcdfg" : Str))) (mBin .frz gMod (mCB .frz gLen (mCons (mVar 0) (mNil))) (mC (.int 3)))))
noncomputable def f_L_weak : List Mv → Sg → Res Mv := fnM N_L_weak.length m_L_weak
abbrev s_L_is_word : Stmt := topS 36
abbrev N_L_is_word : List Str := ["_law_it", "_law_sign"]
theorem sc_L_is_word : FnScope N_L_is_word ["_law_it"] (defScope s_L_is_word) := ⟨rfl, rfl, rfl, by decide +kernel, rfl, by decide +kernel, by decide +kernel⟩
noncomputable def t_L_is_word_1 : MT :=
  mTst (mBin .ref (gInN true) (mVar 1) (mC (.str ("abcdefghijklmnopqrstuvwxyz" : Str))))
noncomputable def m_L_is_word : MS :=
  mSeq (mIfS (mOrB (mNotB (mTruth (mCB .frz gIsi (mCons (mVar 0) (mCons (mK (.ty "str")) (mNil)))))) (mNotB (mTst (mChain gLe gLe (mC (.int 1)) (mCB .frz gLen (mCons (mVar 0) (mNil))) (mC (.int 8)))))) (mRet (mC (.bool false))) (mSkip))
    (mRet (mBin .ref (gEqN false) (mLc .frz (mIter (mVar 0)) (mgName 1) t_L_is_word_1 (mVar 1) [1]) (mDisp .frz false (mNil))))
noncomputable def f_L_is_word : List Mv → Sg → Res Mv := fnM N_L_is_word.length m_L_is_word
abbrev s_L_is_mark : Stmt := topS 37
abbrev N_L_is_mark : List Str := ["_law_it", "_law_sign"]
theorem sc_L_is_mark : FnScope N_L_is_mark ["_law_it"] (defScope s_L_is_mark) := ⟨rfl, rfl, rfl, by decide +kernel, rfl, by decide +kernel, by decide +kernel⟩
noncomputable def t_L_is_mark_1 : MT :=
  mTst (mBin .ref (gInN true) (mVar 1) (mC (.str ("0123456789abcdfghijklmnpqrsvwxyz" : Str))))
noncomputable def m_L_is_mark : MS :=
  mSeq (mIfS (mOrB (mNotB (mTruth (mCB .frz gIsi (mCons (mVar 0) (mCons (mK (.ty "str")) (mNil)))))) (mTst (mBin .ref (gEqN true) (mCB .frz gLen (mCons (mVar 0) (mNil))) (mC (.int 8))))) (mRet (mC (.bool false))) (mSkip))
    (mRet (mBin .ref (gEqN false) (mLc .frz (mIter (mVar 0)) (mgName 1) t_L_is_mark_1 (mVar 1) [1]) (mDisp .frz false (mNil))))
noncomputable def f_L_is_mark : List Mv → Sg → Res Mv := fnM N_L_is_mark.length m_L_is_mark
abbrev s_L_called : Stmt := topS 39
abbrev N_L_called : List Str := ["_law_mark_here", "_law_word"]
theorem sc_L_called : FnScope N_L_called ["_law_mark_here", "_law_word"] (defScope s_L_called) := ⟨rfl, rfl, rfl, by decide +kernel, rfl, by decide +kernel, by decide +kernel⟩
noncomputable def m_L_called : MS :=
  mRet (mBin .frz gAdd (mBin .frz gAdd (mBin .frz gAdd (mBin .frz gAdd (mC (.str ("#" : Str))) (mVar 0)) (mC (.str ("-" : Str)))) (mVar 1)) (mC (.str (";" : Str))))
noncomputable def f_L_called : List Mv → Sg → Res Mv := fnM N_L_called.length m_L_called
abbrev s_is_name : Stmt := topS 19
abbrev N_is_name : List Str := ["thing"]
theorem sc_is_name : FnScope N_is_name ["thing"] (defScope s_is_name) := ⟨rfl, rfl, rfl, by decide +kernel, rfl, by decide +kernel, by decide +kernel⟩
noncomputable def m_is_name : MS :=
  mSeq (mIfS (mOrB (mNotB (mTruth (mCB .frz gIsi (mCons (mVar 0) (mCons (mK (.ty "str")) (mNil)))))) (mOrB (mTst (mBin .ref gLe (mCB .frz gLen (mCons (mVar 0) (mNil))) (mBin .frz gAdd (mC (.int 9)) (mC (.int 1))))) (mTst (mBin .ref (gEqN true) (mIx (mVar 0) (mC (.int 9))) (mC (.str k_BETWEEN)))))) (mRet (mC (.bool false))) (mSkip))
    (mSeq (mIfS (mOrB (mNotB (mTruth (mBM .frz "str" gStarts (mVar 0) (mCons (mC (.str k_BEGIN)) (mNil))))) (mNotB (mTruth (mBM .frz "str" gEnds (mVar 0) (mCons (mC (.str k_END)) (mNil)))))) (mRet (mC (.bool false))) (mSkip))
    (mRet (mAnd (mCall 1 f_is_mark [] (mCons (mSl .frz (mVar 0) (mOS (mC (.int 1))) (mOS (mC (.int 9)))) (mNil))) (mCall 1 f_is_label [] (mCons (mSl .frz (mVar 0) (mOS (mBin .frz gAdd (mC (.int 9)) (mC (.int 1)))) (mOS (mNeg (mC (.int 1))))) (mNil))))))
noncomputable def f_is_name : List Mv → Sg → Res Mv := fnM N_is_name.length m_is_name
abbrev s_blank_of : Stmt := topS 25
abbrev N_blank_of : List Str := ["name"]
theorem sc_blank_of : FnScope N_blank_of ["name"] (defScope s_blank_of) := ⟨rfl, rfl, rfl, by decide +kernel, rfl, by decide +kernel, by decide +kernel⟩
noncomputable def m_blank_of : MS :=
  mRet (mCall 2 f_name_with [] (mCons (mC (.str k_BLANK)) (mCons (mCall 1 f_label_in [] (mCons (mVar 0) (mNil))) (mNil))))
noncomputable def f_blank_of : List Mv → Sg → Res Mv := fnM N_blank_of.length m_blank_of
abbrev s_L_pick : Stmt := topS 30
abbrev N_L_pick : List Str := ["_law_deck_here", "_law_some"]
theorem sc_L_pick : FnScope N_L_pick ["_law_deck_here", "_law_some"] (defScope s_L_pick) := ⟨rfl, rfl, rfl, by decide +kernel, rfl, by decide +kernel, by decide +kernel⟩
noncomputable def m_L_pick : MS :=
  mRet (mIx (mVar 1) (mCall 2 f_L_draw [] (mCons (mVar 0) (mCons (mCB .frz gLen (mCons (mVar 1) (mNil))) (mNil)))))
noncomputable def f_L_pick : List Mv → Sg → Res Mv := fnM N_L_pick.length m_L_pick
abbrev s_L_words : Stmt := topS 31
abbrev N_L_words : List Str := ["_law_deck_here", "_law_many", "_law_letters", "_law_way", "_law_first", "_law_word", "_law_at", "_law_found", "_law_k", "_law_sign", "_law_one", "_law_left"]
theorem sc_L_words : FnScope N_L_words ["_law_deck_here", "_law_many"] (defScope s_L_words) := ⟨rfl, rfl, rfl, by decide +kernel, rfl, by decide +kernel, by decide +kernel⟩
noncomputable def e_L_words_1 : ME :=
  mIx (mVar 2) (mCall 2 f_L_draw [] (mCons (mVar 0) (mCons (mC (.int 26)) (mNil))))
noncomputable def b_L_words_1 : MS :=
  mSeq (mAsg (mIx (mVar 2) (mBin .frz gMod (mBin .frz gAdd (mVar 4) (mBin .frz gMul (mC (.int 5)) (mVar 8))) (mC (.int 26)))) (mgName 9))
    (mSeq (mAsg (mIx (mDisp .frz false (mCons (mVar 9) (mCons (mBin .frz gAdd (mBin .frz gAdd (mSl .frz (mVar 5) (mON) (mOS (mVar 6))) (mVar 9)) (mSl .frz (mVar 5) (mOS (mVar 6)) (mON))) (mCons (mSl .frz (mBin .frz gAdd (mVar 5) (mVar 9)) (mON) (mOS (mBin .frz gAdd (mBin .frz gMod (mVar 8) (mC (.int 8))) (mC (.int 1))))) (mNil))))) (mVar 3)) (mgName 10))
    (mIfS (mTst (mBin .ref (gInN true) (mVar 10) (mVar 7))) (mExpr (mBU "list" uAppend (mVar 7) (mCons (mVar 10) (mNil)))) (mSkip)))
noncomputable def b_L_words_2 : MS :=
  mSeq (mAsg (mBin .frz gAdd (mC (.str ("qq" : Str))) (mIx (mVar 2) (mVar 8))) (mgName 10))
    (mIfS (mTst (mBin .ref (gInN true) (mVar 10) (mVar 7))) (mExpr (mBU "list" uAppend (mVar 7) (mCons (mVar 10) (mNil)))) (mSkip))
noncomputable def e_L_words_2 : ME :=
  mBU "list" uPop (mVar 11) (mCons (mCall 2 f_L_draw [] (mCons (mVar 0) (mCons (mCB .frz gLen (mCons (mVar 11) (mNil))) (mNil)))) (mNil))
noncomputable def m_L_words : MS :=
  mSeq (mAsg (mC (.str ("abcdefghijklmnopqrstuvwxyz" : Str))) (mgName 2))
    (mSeq (mPar 3 4 (mCons (mCall 2 f_L_draw [] (mCons (mVar 0) (mCons (mC (.int 3)) (mNil)))) (mCons (mCall 2 f_L_draw [] (mCons (mVar 0) (mCons (mC (.int 26)) (mNil)))) (mNil))))
    (mSeq (mAsg (mBM .frz "str" gJoin (mC (.str ("" : Str))) (mCons (mLc .frz (mRange1 (mCons (mC (.int 7)) (mNil))) (mgName 8) mYes (e_L_words_1) [8]) (mNil))) (mgName 5))
    (mSeq (mAsg (mCall 2 f_L_draw [] (mCons (mVar 0) (mCons (mC (.int 7)) (mNil)))) (mgName 6))
    (mSeq (mAsg (mDisp .own false (mNil)) (mgName 7))
    (mSeq (mFor (mRange1 (mCons (mC (.int 24)) (mNil))) (mgName 8) b_L_words_1)
    (mSeq (mFor (mRange1 (mCons (mC (.int 14)) (mNil))) (mgName 8) b_L_words_2)
    (mSeq (mAsg (mSl .own (mVar 7) (mON) (mOS (mBin .frz gAdd (mVar 1) (mC (.int 2))))) (mgName 11))
    (mRet (mLc .frz (mRange1 (mCons (mVar 1) (mNil))) (mgName 8) mYes (e_L_words_2) [8])))))))))
noncomputable def f_L_words : List Mv → Sg → Res Mv := fnM N_L_words.length m_L_words
abbrev s_L_mark : Stmt := topS 34
abbrev N_L_mark : List Str := ["_law_written", "_law_signs_here", "_law_found", "_law_sign"]
theorem sc_L_mark : FnScope N_L_mark ["_law_written"] (defScope s_L_mark) := ⟨rfl, rfl, rfl, by decide +kernel, rfl, by decide +kernel, by decide +kernel⟩
noncomputable def b_L_mark_1 : MS :=
  mAsg (mBin .frz gMod (mBin .frz gAdd (mBin .frz gMul (mC (.int 131)) (mVar 2)) (mIndex (mVar 1) (mCons (mVar 3) (mNil)))) (mC (.int 1099511627689))) (mgName 2)
noncomputable def m_L_mark : MS :=
  mSeq (mPar 1 2 (mCons (mCall0 f_L_signs) (mCons (mC (.int 7)) (mNil))))
    (mSeq (mFor (mIter (mVar 0)) (mgName 3) b_L_mark_1)
    (mRet (mCall 1 f_L_thirty_two [] (mCons (mVar 2) (mNil)))))
noncomputable def f_L_mark : List Mv → Sg → Res Mv := fnM N_L_mark.length m_L_mark
abbrev s_L_is_called : Stmt := topS 38
abbrev N_L_is_called : List Str := ["_law_it"]
theorem sc_L_is_called : FnScope N_L_is_called ["_law_it"] (defScope s_L_is_called) := ⟨rfl, rfl, rfl, by decide +kernel, rfl, by decide +kernel, by decide +kernel⟩
noncomputable def m_L_is_called : MS :=
  mSeq (mIfS (mOrB (mNotB (mTruth (mCB .frz gIsi (mCons (mVar 0) (mCons (mK (.ty "str")) (mNil)))))) (mOrB (mTst (mBin .ref (gEqN true) (mSl .frz (mVar 0) (mON) (mOS (mC (.int 1)))) (mC (.str ("#" : Str))))) (mOrB (mTst (mBin .ref (gEqN true) (mSl .frz (mVar 0) (mOS (mNeg (mC (.int 1)))) (mON)) (mC (.str (";" : Str))))) (mOrB (mTst (mBin .ref gLt (mCB .frz gLen (mCons (mVar 0) (mNil))) (mC (.int 12)))) (mTst (mBin .ref (gEqN true) (mIx (mVar 0) (mC (.int 9))) (mC (.str ("-" : Str))))))))) (mRet (mC (.bool false))) (mSkip))
    (mRet (mAnd (mCall 1 f_L_is_mark [] (mCons (mSl .frz (mVar 0) (mOS (mC (.int 1))) (mOS (mC (.int 9)))) (mNil))) (mCall 1 f_L_is_word [] (mCons (mSl .frz (mVar 0) (mOS (mC (.int 10))) (mOS (mNeg (mC (.int 1))))) (mNil)))))
noncomputable def f_L_is_called : List Mv → Sg → Res Mv := fnM N_L_is_called.length m_L_is_called
abbrev s_L_blank : Stmt := topS 42
abbrev N_L_blank : List Str := ["_law_called_here"]
theorem sc_L_blank : FnScope N_L_blank ["_law_called_here"] (defScope s_L_blank) := ⟨rfl, rfl, rfl, by decide +kernel, rfl, by decide +kernel, by decide +kernel⟩
noncomputable def m_L_blank : MS :=
  mRet (mCall 2 f_L_called [] (mCons (mC (.str ("00000000" : Str))) (mCons (mSl .frz (mVar 0) (mOS (mC (.int 10))) (mOS (mNeg (mC (.int 1))))) (mNil))))
noncomputable def f_L_blank : List Mv → Sg → Res Mv := fnM N_L_blank.length m_L_blank
abbrev s_L_marks : Stmt := topS 44
abbrev N_L_marks : List Str := ["_law_deck_here", "_law_signs_here", "_law_one", "_law_at", "_law_other", "_law_k"]
theorem sc_L_marks : FnScope N_L_marks ["_law_deck_here"] (defScope s_L_marks) := ⟨rfl, rfl, rfl, by decide +kernel, rfl, by decide +kernel, by decide +kernel⟩
noncomputable def e_L_marks_1 : ME :=
  mIx (mVar 1) (mCall 2 f_L_draw [] (mCons (mVar 0) (mCons (mC (.int 32)) (mNil))))
noncomputable def m_L_marks : MS :=
  mSeq (mAsg (mC (.str ("0123456789abcdfghijklmnpqrsvwxyz" : Str))) (mgName 1))
    (mSeq (mAsg (mBM .frz "str" gJoin (mC (.str ("" : Str))) (mCons (mLc .frz (mRange1 (mCons (mC (.int 8)) (mNil))) (mgName 5) mYes (e_L_marks_1) [5]) (mNil))) (mgName 2))
    (mSeq (mAsg (mCall 2 f_L_draw [] (mCons (mVar 0) (mCons (mC (.int 8)) (mNil)))) (mgName 3))
    (mSeq (mAsg (mIx (mVar 1) (mBin .frz gMod (mBin .frz gAdd (mIndex (mVar 1) (mCons (mIx (mVar 2) (mVar 3)) (mNil))) (mC (.int 1))) (mC (.int 32)))) (mgName 4))
    (mRet (mDisp .frz false (mCons (mVar 2) (mCons (mBin .frz gAdd (mBin .frz gAdd (mSl .frz (mVar 2) (mON) (mOS (mVar 3))) (mVar 4)) (mSl .frz (mVar 2) (mOS (mBin .frz gAdd (mVar 3) (mC (.int 1)))) (mON))) (mCons (mC (.str ("00000000" : Str))) (mNil)))))))))
noncomputable def f_L_marks : List Mv → Sg → Res Mv := fnM N_L_marks.length m_L_marks
abbrev s_name_at : Stmt := topS 22
abbrev N_name_at : List Str := ["text", "at", "found", "end", "behind"]
theorem sc_name_at : FnScope N_name_at ["text", "at"] (defScope s_name_at) := ⟨rfl, rfl, rfl, by decide +kernel, rfl, by decide +kernel, by decide +kernel⟩
noncomputable def m_name_at : MS :=
  mSeq (mAsg (mBM .frz "str" gPart (mSl .frz (mVar 0) (mOS (mVar 1)) (mOS (mBin .frz gAdd (mVar 1) (mC (.int 19))))) (mCons (mC (.str k_END)) (mNil))) (mgTup 3 (mgCons (mgName 2) (mgCons (mgName 3) (mgCons (mgName 4) (mgNil))))))
    (mRet (mIf (mTruth (mCall 1 f_is_name [] (mCons (mBin .frz gAdd (mVar 2) (mVar 3)) (mNil)))) (mBin .frz gAdd (mVar 2) (mVar 3)) (mC .none)))
noncomputable def f_name_at : List Mv → Sg → Res Mv := fnM N_name_at.length m_name_at
abbrev s_L_spots : Stmt := topS 40
abbrev N_L_spots : List Str := ["_law_written", "_law_found", "_law_at", "_law_sign", "_law_one"]
theorem sc_L_spots : FnScope N_L_spots ["_law_written"] (defScope s_L_spots) := ⟨rfl, rfl, rfl, by decide +kernel, rfl, by decide +kernel, by decide +kernel⟩
noncomputable def b_L_spots_1 : MS :=
  mSeq (mAsg (mSl .frz (mVar 0) (mOS (mVar 2)) (mOS (mBin .frz gAdd (mBin .frz gAdd (mVar 2) (mC (.int 1))) (mIndex (mBin .frz gAdd (mSl .frz (mVar 0) (mOS (mVar 2)) (mOS (mBin .frz gAdd (mVar 2) (mC (.int 19))))) (mC (.str (";" : Str)))) (mCons (mC (.str (";" : Str))) (mNil)))))) (mgName 4))
    (mIfS (mAndB (mTst (mBin .ref (gEqN false) (mVar 3) (mC (.str ("#" : Str))))) (mTruth (mCall 1 f_L_is_called [] (mCons (mVar 4) (mNil))))) (mExpr (mBU "list" uAppend (mVar 1) (mCons (mDisp .ref true (mCons (mVar 2) (mCons (mVar 4) (mNil)))) (mNil)))) (mSkip))
noncomputable def m_L_spots : MS :=
  mSeq (mAsg (mDisp .own false (mNil)) (mgName 1))
    (mSeq (mFor (mEnum (mCons (mVar 0) (mNil))) (mgTup 2 (mgCons (mgName 2) (mgCons (mgName 3) (mgNil)))) b_L_spots_1)
    (mRet (mFz (mVar 1))))
noncomputable def f_L_spots : List Mv → Sg → Res Mv := fnM N_L_spots.length m_L_spots
abbrev s_L_piece : Stmt := topS 45
abbrev N_L_piece : List Str := ["_law_deck_here", "_law_pool", "_law_way", "_law_one", "_law_at", "_law_sign", "_law_strange", "_law_some"]
theorem sc_L_piece : FnScope N_L_piece ["_law_deck_here", "_law_pool"] (defScope s_L_piece) := ⟨rfl, rfl, rfl, by decide +kernel, rfl, by decide +kernel, by decide +kernel⟩
noncomputable def m_L_piece : MS :=
  mSeq (mPar 2 3 (mCons (mCall 2 f_L_draw [] (mCons (mVar 0) (mCons (mC (.int 10)) (mNil)))) (mCons (mCall 2 f_L_pick [] (mCons (mVar 0) (mCons (mVar 1) (mNil)))) (mNil))))
    (mSeq (mAsg (mCall 2 f_L_draw [] (mCons (mVar 0) (mCons (mCB .frz gLen (mCons (mVar 3) (mNil))) (mNil)))) (mgName 4))
    (mSeq (mAsg (mCall 2 f_L_pick [] (mCons (mVar 0) (mCons (mIx (mDisp .frz false (mCons (mC (.str ("#;-0aeZ \n~" : Str))) (mCons (mCall0 f_L_signs) (mNil)))) (mCall 2 f_L_draw [] (mCons (mVar 0) (mCons (mC (.int 2)) (mNil))))) (mNil)))) (mgName 5))
    (mSeq (mAsg (mCall 2 f_L_pick [] (mCons (mVar 0) (mCons (mDisp .frz false (mCons (mC (.str ("{0}" : Str))) (mCons (mC (.str ("{1}" : Str))) (mCons (mC (.str ("{}" : Str))) (mCons (mC (.str ("<0>" : Str))) (mCons (mC (.str ("#0;" : Str))) (mCons (mC (.str ("#1;" : Str))) (mNil)))))))) (mNil)))) (mgName 6))
    (mSeq (mAsg (mDisp .frz false (mCons (mVar 3) (mCons (mVar 3) (mCons (mVar 3) (mCons (mBin .frz gAdd (mSl .frz (mVar 3) (mON) (mOS (mVar 4))) (mSl .frz (mVar 3) (mOS (mBin .frz gAdd (mVar 4) (mC (.int 1)))) (mON))) (mCons (mBin .frz gAdd (mBin .frz gAdd (mSl .frz (mVar 3) (mON) (mOS (mVar 4))) (mVar 5)) (mSl .frz (mVar 3) (mOS (mVar 4)) (mON))) (mCons (mBin .frz gAdd (mBin .frz gAdd (mSl .frz (mVar 3) (mON) (mOS (mVar 4))) (mVar 5)) (mSl .frz (mVar 3) (mOS (mBin .frz gAdd (mVar 4) (mC (.int 1)))) (mON))) (mNil)))))))) (mgName 7))
    (mRet (mIx (mBin .frz gAdd (mVar 7) (mDisp .frz false (mCons (mVar 5) (mCons (mBin .frz gMul (mC (.str ("a" : Str))) (mCall 2 f_L_draw [] (mCons (mVar 0) (mCons (mC (.int 9)) (mNil))))) (mCons (mSl .frz (mVar 3) (mON) (mOS (mVar 4))) (mCons (mVar 6) (mNil))))))) (mVar 2)))))))
noncomputable def f_L_piece : List Mv → Sg → Res Mv := fnM N_L_piece.length m_L_piece
abbrev s_places_in : Stmt := topS 23
abbrev N_places_in : List Str := ["text", "found", "at", "sign", "name"]
theorem sc_places_in : FnScope N_places_in ["text"] (defScope s_places_in) := ⟨rfl, rfl, rfl, by decide +kernel, rfl, by decide +kernel, by decide +kernel⟩
noncomputable def t_places_in_1 : MT :=
  mTst (mBin .ref (gEqN false) (mVar 3) (mC (.str k_BEGIN)))
noncomputable def e_places_in_1 : ME :=
  mDisp .ref true (mCons (mVar 2) (mCons (mCall 2 f_name_at [] (mCons (mVar 0) (mCons (mVar 2) (mNil)))) (mNil)))
noncomputable def t_places_in_2 : MT :=
  mTst (mBin .ref (gIsN true) (mVar 4) (mC .none))
noncomputable def e_places_in_2 : ME :=
  mDisp .ref true (mCons (mVar 2) (mCons (mVar 4) (mNil)))
noncomputable def m_places_in : MS :=
  mSeq (mAsg (mLc .frz (mEnum (mCons (mVar 0) (mNil))) (mgTup 2 (mgCons (mgName 2) (mgCons (mgName 3) (mgNil)))) t_places_in_1 (e_places_in_1) [2, 3]) (mgName 1))
    (mRet (mLc .frz (mIter (mVar 1)) (mgTup 2 (mgCons (mgName 2) (mgCons (mgName 4) (mgNil)))) t_places_in_2 (e_places_in_2) [2, 4]))
noncomputable def f_places_in : List Mv → Sg → Res Mv := fnM N_places_in.length m_places_in
abbrev s_L_turned : Stmt := topS 41
abbrev N_L_turned : List Str := ["_law_written", "_law_table", "_law_found", "_law_last", "_law_at", "_law_one"]
theorem sc_L_turned : FnScope N_L_turned ["_law_written", "_law_table"] (defScope s_L_turned) := ⟨rfl, rfl, rfl, by decide +kernel, rfl, by decide +kernel, by decide +kernel⟩
noncomputable def b_L_turned_1 : MS :=
  mIfS (mTst (mDIn (mVar 5) (mVar 1))) (mSeq (mAsg (mBin .frz gAdd (mBin .frz gAdd (mVar 2) (mSl .frz (mVar 0) (mOS (mVar 3)) (mOS (mVar 4)))) (mDIx (mVar 1) (mVar 5))) (mgName 2))
    (mAsg (mBin .frz gAdd (mVar 4) (mCB .frz gLen (mCons (mVar 5) (mNil)))) (mgName 3))) (mSkip)
noncomputable def m_L_turned : MS :=
  mSeq (mAsg (mDisp .ref true (mCons (mC (.str ("" : Str))) (mCons (mC (.int 0)) (mNil)))) (mgTup 2 (mgCons (mgName 2) (mgCons (mgName 3) (mgNil)))))
    (mSeq (mFor (mIter (mCall 1 f_L_spots [] (mCons (mVar 0) (mNil)))) (mgTup 2 (mgCons (mgName 4) (mgCons (mgName 5) (mgNil)))) b_L_turned_1)
    (mRet (mBin .frz gAdd (mVar 2) (mSl .frz (mVar 0) (mOS (mVar 3)) (mON)))))
noncomputable def f_L_turned : List Mv → Sg → Res Mv := fnM N_L_turned.length m_L_turned
abbrev s_turned_text : Stmt := topS 24
abbrev N_turned_text : List Str := ["text", "pairs", "seconds", "found", "last", "at", "name"]
theorem sc_turned_text : FnScope N_turned_text ["text", "pairs"] (defScope s_turned_text) := ⟨rfl, rfl, rfl, by decide +kernel, rfl, by decide +kernel, by decide +kernel⟩
noncomputable def b_turned_text_1 : MS :=
  mSeq (mAsg (mBin .frz gAdd (mBin .frz gAdd (mVar 3) (mSl .frz (mVar 0) (mOS (mVar 4)) (mOS (mVar 5)))) (mDGet (mVar 2) (mVar 6) (mVar 6))) (mgName 3))
    (mAsg (mBin .frz gAdd (mVar 5) (mCB .frz gLen (mCons (mVar 6) (mNil)))) (mgName 4))
noncomputable def m_turned_text : MS :=
  mSeq (mAsg (mDictP (mCons (mVar 1) (mNil))) (mgName 2))
    (mSeq (mAsg (mC (.str ("" : Str))) (mgName 3))
    (mSeq (mAsg (mC (.int 0)) (mgName 4))
    (mSeq (mFor (mIter (mCall 1 f_places_in [] (mCons (mVar 0) (mNil)))) (mgTup 2 (mgCons (mgName 5) (mgCons (mgName 6) (mgNil)))) b_turned_text_1)
    (mRet (mBin .frz gAdd (mVar 3) (mSl .frz (mVar 0) (mOS (mVar 4)) (mON)))))))
noncomputable def f_turned_text : List Mv → Sg → Res Mv := fnM N_turned_text.length m_turned_text
abbrev s_L_blank_text : Stmt := topS 43
abbrev N_L_blank_text : List Str := ["_law_called_here", "_law_written"]
theorem sc_L_blank_text : FnScope N_L_blank_text ["_law_called_here", "_law_written"] (defScope s_L_blank_text) := ⟨rfl, rfl, rfl, by decide +kernel, rfl, by decide +kernel, by decide +kernel⟩
noncomputable def m_L_blank_text : MS :=
  mRet (mCall 2 f_L_turned [] (mCons (mVar 1) (mCons (mDct [(mVar 0, mCall 1 f_L_blank [] (mCons (mVar 0) (mNil)))]) (mNil))))
noncomputable def f_L_blank_text : List Mv → Sg → Res Mv := fnM N_L_blank_text.length m_L_blank_text
noncomputable def vTab : VTab := [("mark_of", 1, f_mark_of), ("_law_mark", 1, f_L_mark), ("_law_weak", 1, f_L_weak)]
abbrev s_thing_mark : Stmt := topS 26
abbrev N_thing_mark : List Str := ["name", "text", "digest", "tell"]
theorem sc_thing_mark : FnScope N_thing_mark ["name", "text", "digest"] (defScope s_thing_mark) := ⟨rfl, rfl, rfl, by decide +kernel, rfl, by decide +kernel, by decide +kernel⟩
noncomputable def m_thing_mark : MS :=
  mSeq (mAsg (mIf (mTst (mBin .ref (gIsN false) (mVar 2) (mC .none))) (mK (.fn "mark_of")) (mVar 2)) (mgName 3))
    (mRet (mCallV vTab 3 (mCons (mCall 2 f_turned_text [] (mCons (mVar 1) (mCons (mDisp .ref true (mCons (mDisp .ref true (mCons (mVar 0) (mCons (mCall 1 f_blank_of [] (mCons (mVar 0) (mNil))) (mNil)))) (mNil))) (mNil)))) (mNil))))
noncomputable def f_thing_mark : List Mv → Sg → Res Mv := fnM N_thing_mark.length m_thing_mark
noncomputable def mz_thing_mark (fa : Addr) (es : List (Addr × HO)) (us : List V) (dz : Dz) : MS :=
  mSeq (mAsg (mIf (mTst (mBin .ref (gIsN false) (mVar 2) (mC .none))) (mK (.fn "mark_of")) (mVar 2)) (mgName 3))
    (mRet (mAct fa es us 1 dz 3 (mCons (mCall 2 f_turned_text [] (mCons (mVar 1) (mCons (mDisp .ref true (mCons (mDisp .ref true (mCons (mVar 0) (mCons (mCall 1 f_blank_of [] (mCons (mVar 0) (mNil))) (mNil)))) (mNil))) (mNil)))) (mNil))))
abbrev s_L_right : Stmt := topS 46
abbrev N_L_right : List Str := ["_law_own", "_law_written", "_law_asked", "_law_noted", "_law_blank_here", "_law_due", "_law_found"]
theorem sc_L_right : FnScope N_L_right ["_law_own", "_law_written"] (defScope s_L_right) := ⟨rfl, rfl, rfl, by decide +kernel, rfl, by decide +kernel, by decide +kernel⟩
def st_L_right_L_noted : Stmt := (defBody s_L_right).getD 1 (.Pass ⟨0, 0, 0, 0⟩)
def pos_L_right_L_noted : Pos := match st_L_right_L_noted with
  | .FunctionDef (pos := p) .. => p
  | _ => ⟨0, 0, 0, 0⟩
abbrev q_L_right_L_noted : Str := ("_law_right" ++ ".<locals>.") ++ "_law_noted"
abbrev N_L_right_L_noted : List Str := ["_law_some", "_law_asked"]
theorem st_L_right_L_noted_eq : st_L_right_L_noted = .FunctionDef "_law_noted" (C8.fnArgs st_L_right_L_noted) (C8.fnBody st_L_right_L_noted) [] none [] (C8.fnScope st_L_right_L_noted) none "_law_noted" pos_L_right_L_noted := by kernel_rfl
theorem nsc_L_right_L_noted : NScope N_L_right_L_noted ["_law_some"] ["_law_asked"] (C8.fnScope st_L_right_L_noted) := nscope_by (by kernel_rfl)
theorem ndb_L_right_L_noted : ndefB (defScope s_L_right) (C8.fnScope st_L_right_L_noted) ["_law_asked"] = true := by kernel_rfl
noncomputable def mn_L_right_L_noted : MS :=
  mSeq (mExpr (mBU "list" uAppend (mVar 1) (mCons (mVar 0) (mNil))))
    (mRet (mC (.str ("xyz01234" : Str))))
noncomputable def z_L_right_L_noted : Dz := fnN N_L_right_L_noted.length mn_L_right_L_noted
noncomputable def m_L_right : MS :=
  mSeq (mAsg (mDisp .ref false (mNil)) (mgName 2))
    (mNdefB st_L_right_L_noted "_law_noted" q_L_right_L_noted 2 "_law_right" 3 fun zf zc zl => mSeq (mAsg (mCall 2 f_L_blank_text [] (mCons (mVar 0) (mCons (mVar 1) (mNil)))) (mgName 4))
    (mSeq (mAsg (mCall 1 f_L_mark [] (mCons (mVar 4) (mNil))) (mgName 5))
    (mSeq (mAsg (mDisp .frz false (mCons (mCallK 3 f_thing_mark [.p 0, .p 1, .v 0] [.d .none] (mCons (mVar 0) (mCons (mVar 1) (mNil))) (mNil)) (mCons (mCallK 3 f_thing_mark [.p 0, .p 1, .k 0] [] (mCons (mVar 0) (mCons (mVar 1) (mNil))) (mCons (mC .none) (mNil))) (mCons (mCallK 3 f_thing_mark [.k 1, .k 0, .v 0] [.d .none] mNil (mCons (mVar 1) (mCons (mVar 0) (mNil)))) (mNil))))) (mgName 6))
    (mSeq (mAsg (mBin .frz gAdd (mVar 6) (mDisp .frz false (mCons (mCallK 3 f_thing_mark [.p 0, .p 1, .k 0] [] (mCons (mVar 0) (mCons (mVar 1) (mNil))) (mCons (mK (.fn "_law_mark")) (mNil))) (mCons (mCall 1 f_mark_of [] (mCons (mVar 4) (mNil))) (mNil))))) (mgName 6))
    (mSeq (mIfS (mOrB (mTst (mBin .ref (gEqN true) (mVar 6) (mBin .frz gMul (mDisp .frz false (mCons (mVar 5) (mNil))) (mC (.int 5))))) (mTst (mBin .ref (gEqN true) (mCallK 3 f_thing_mark [.p 0, .p 1, .k 0] [] (mCons (mVar 0) (mCons (mVar 1) (mNil))) (mCons (mK (.fn "_law_weak")) (mNil))) (mCall 1 f_L_weak [] (mCons (mVar 4) (mNil)))))) (mRet (mC (.bool false))) (mSkip))
    (mRet (mAnd (mBin .ref (gEqN false) (mCallHd st_L_right_L_noted "_law_noted" q_L_right_L_noted zf zc zl 3 [2] z_L_right_L_noted 3 (fun fa es us dz => fnM N_thing_mark.length (mz_thing_mark fa es us dz)) [.p 0, .p 1, .k 0] [] (mCons (mVar 0) (mCons (mVar 1) (mNil))) (mCons (mVar 3) (mNil))) (mC (.str ("xyz01234" : Str)))) (mBin .ref (gInN false) (mVar 4) (mVar 2)))))))))
noncomputable def f_L_right : List Mv → Sg → Res Mv := fnM N_L_right.length m_L_right
abbrev s_law : Stmt := topS 47
abbrev N_law : List Str := ["_law_script", "_law_deck_here", "_law_turn", "_law_word", "_law_other", "_law_marks_here", "_law_pool", "_law_own", "_law_second", "_law_written", "_law_one", "_law_some", "_law_like", "_law_k", "_law_sign"]
theorem sc_law : FnScope N_law ["_law_script"] (defScope s_law) := ⟨rfl, rfl, rfl, by decide +kernel, rfl, by decide +kernel, by decide +kernel⟩
noncomputable def e_law_1 : ME :=
  mCall 2 f_name_with [] (mCons (mVar 10) (mCons (mVar 3) (mNil)))
noncomputable def e_law_2 : ME :=
  mCall 2 f_name_with [] (mCons (mVar 10) (mCons (mVar 4) (mNil)))
noncomputable def e_law_3 : ME :=
  mCall 1 f_blank_of [] (mCons (mVar 10) (mNil))
noncomputable def e_law_4 : ME :=
  mCall 1 f_L_blank [] (mCons (mVar 10) (mNil))
noncomputable def e_law_5 : ME :=
  mCall 2 f_L_piece [] (mCons (mVar 1) (mCons (mBin .frz gAdd (mVar 6) (mBin .frz gMul (mDisp .frz false (mCons (mVar 7) (mNil))) (mC (.int 3)))) (mNil)))
noncomputable def b_law_2 : MS :=
  mIfS (mNotB (mTruth (mCall 2 f_L_right [] (mCons (mVar 10) (mCons (mVar 9) (mNil)))))) (mRet (mC (.bool false))) (mSkip)
noncomputable def t_law_6 : MT :=
  mTst (mBin .ref (gInN true) (mCall 2 f_name_with [] (mCons (mBin .frz gMul (mVar 14) (mC (.int 8))) (mCons (mVar 3) (mNil)))) (mVar 9))
noncomputable def e_law_6 : ME :=
  mCall 2 f_name_with [] (mCons (mBin .frz gMul (mVar 14) (mC (.int 8))) (mCons (mVar 3) (mNil)))
noncomputable def b_law_1 : MS :=
  mSeq (mAsg (mCall 2 f_L_words [] (mCons (mVar 1) (mCons (mC (.int 2)) (mNil)))) (mgTup 2 (mgCons (mgName 3) (mgCons (mgName 4) (mgNil)))))
    (mSeq (mAsg (mCall 1 f_L_marks [] (mCons (mVar 1) (mNil))) (mgName 5))
    (mSeq (mAsg (mBin .frz gAdd (mLc .frz (mIter (mVar 5)) (mgName 10) mYes (e_law_1) [10]) (mLc .frz (mIter (mVar 5)) (mgName 10) mYes (e_law_2) [10])) (mgName 6))
    (mSeq (mAsg (mDisp .ref true (mCons (mIx (mVar 6) (mCall 2 f_L_draw [] (mCons (mVar 1) (mCons (mC (.int 3)) (mNil))))) (mCons (mIx (mVar 6) (mCall 2 f_L_draw [] (mCons (mVar 1) (mCons (mC (.int 3)) (mNil))))) (mNil)))) (mgTup 2 (mgCons (mgName 7) (mgCons (mgName 8) (mgNil)))))
    (mSeq (mIfS (mOrB (mTst (mBin .ref (gEqN true) (mLc .frz (mIter (mVar 6)) (mgName 10) mYes (e_law_3) [10]) (mLc .frz (mIter (mVar 6)) (mgName 10) mYes (e_law_4) [10]))) (mTst (mBin .ref (gEqN true) (mCallK 1 f_blank_of [.k 0] [] mNil (mCons (mVar 7) (mNil))) (mIx (mVar 6) (mC (.int 2)))))) (mRet (mC (.bool false))) (mSkip))
    (mSeq (mAsg (mBM .frz "str" gJoin (mC (.str ("" : Str))) (mCons (mLc .frz (mRange1 (mCons (mCall 2 f_L_draw [] (mCons (mVar 1) (mCons (mC (.int 15)) (mNil)))) (mNil))) (mgName 13) mYes (e_law_5) [13]) (mNil))) (mgName 9))
    (mSeq (mFor (mIter (mDisp .ref true (mCons (mVar 7) (mCons (mVar 8) (mCons (mIx (mVar 6) (mC (.int 3))) (mCons (mVar 7) (mNil))))))) (mgName 10) b_law_2)
    (mSeq (mAsg (mLc .frz (mIter (mC (.str ("zyxwv" : Str)))) (mgName 14) t_law_6 (e_law_6) [14]) (mgName 11))
    (mSeq (mAsg (mCall 2 f_L_turned [] (mCons (mVar 9) (mCons (mDct [(mVar 7, mIx (mVar 11) (mC (.int 0)))]) (mNil)))) (mgName 12))
    (mIfS (mTst (mBin .ref (gEqN true) (mCallK 3 f_thing_mark [.p 0, .p 1, .v 0] [.d .none] (mCons (mIx (mVar 11) (mC (.int 0))) (mCons (mVar 12) (mNil))) (mNil)) (mCallK 3 f_thing_mark [.p 0, .p 1, .v 0] [.d .none] (mCons (mVar 7) (mCons (mVar 9) (mNil))) (mNil)))) (mRet (mC (.bool false))) (mSkip))))))))))
noncomputable def m_law : MS :=
  mSeqT "_law_right" "_law_noted" (mAsg (mCall 1 f_L_deck [] (mCons (mVar 0) (mNil))) (mgName 1))
    (mSeq (mFor (mRange1 (mCons (mC (.int 6)) (mNil))) (mgName 2) b_law_1)
    (mRet (mC (.bool true))))
section
set_option maxHeartbeats 0
abbrev zqX (g : Hd.Gt) (x : Str) : Addr := Hd.at_ g mainGlobals x
def zqB0 (K : Hd.Fg) (g : Hd.Gt) : List Bool := [Hd.intB g "FIRST" 7, Hd.strB g "SIGNS" k_SIGNS, Hd.strB g "LETTERS" k_LETTERS, Hd.intB g "LONGEST_LABEL" 8, Hd.strB g "FIGURES" k_FIGURES, Hd.intB g "LONG" 8, Hd.intB g "STEP" 131, Hd.intB g "BOUND" 1099511627689, Hd.strB g "BEGIN" k_BEGIN, Hd.strB g "BETWEEN" k_BETWEEN, Hd.strB g "END" k_END, Hd.intB g "AT" 9, Hd.intB g "LONGEST" 19, Hd.strB g "BLANK" k_BLANK, Hd.freeB g mainGlobals "all", Hd.freeB g mainGlobals "dict", Hd.freeB g mainGlobals "divmod", Hd.freeB g mainGlobals "enumerate", Hd.freeB g mainGlobals "isinstance", Hd.freeB g mainGlobals "len", Hd.freeB g mainGlobals "list", Hd.freeB g mainGlobals "range", Hd.freeB g mainGlobals "str", Hd.freeB g mainGlobals "sum", Hd.atB g mainGlobals "is_label", Hd.codeB g (Hd.fn g (zqX g "is_label")).code "is_label", Hd.atB g mainGlobals "is_mark", Hd.codeB g (Hd.fn g (zqX g "is_mark")).code "is_mark", Hd.atB g mainGlobals "mark_of", Hd.codeB g (Hd.fn g (zqX g "mark_of")).code "mark_of", Hd.atB g mainGlobals "name_with", Hd.codeB g (Hd.fn g (zqX g "name_with")).code "name_with", Hd.atB g mainGlobals "label_in", Hd.codeB g (Hd.fn g (zqX g "label_in")).code "label_in", Hd.atB g mainGlobals "_law_deck", Hd.codeB g (Hd.fn g (zqX g "_law_deck")).code "_law_deck", Hd.atB g mainGlobals "_law_draw", Hd.codeB g (Hd.fn g (zqX g "_law_draw")).code "_law_draw", Hd.atB g mainGlobals "_law_signs", Hd.codeB g (Hd.fn g (zqX g "_law_signs")).code "_law_signs"]
def zqB1 (K : Hd.Fg) (g : Hd.Gt) : List Bool := [Hd.atB g mainGlobals "_law_thirty_two", Hd.codeB g (Hd.fn g (zqX g "_law_thirty_two")).code "_law_thirty_two", Hd.atB g mainGlobals "_law_weak", Hd.codeB g (Hd.fn g (zqX g "_law_weak")).code "_law_weak", Hd.atB g mainGlobals "_law_is_word", Hd.codeB g (Hd.fn g (zqX g "_law_is_word")).code "_law_is_word", Hd.atB g mainGlobals "_law_is_mark", Hd.codeB g (Hd.fn g (zqX g "_law_is_mark")).code "_law_is_mark", Hd.atB g mainGlobals "_law_called", Hd.codeB g (Hd.fn g (zqX g "_law_called")).code "_law_called", Hd.atB g mainGlobals "is_name", Hd.codeB g (Hd.fn g (zqX g "is_name")).code "is_name", Hd.atB g mainGlobals "blank_of", Hd.codeB g (Hd.fn g (zqX g "blank_of")).code "blank_of", Hd.atB g mainGlobals "_law_pick", Hd.codeB g (Hd.fn g (zqX g "_law_pick")).code "_law_pick", Hd.atB g mainGlobals "_law_words", Hd.codeB g (Hd.fn g (zqX g "_law_words")).code "_law_words", Hd.atB g mainGlobals "_law_mark", Hd.codeB g (Hd.fn g (zqX g "_law_mark")).code "_law_mark", Hd.atB g mainGlobals "_law_is_called", Hd.codeB g (Hd.fn g (zqX g "_law_is_called")).code "_law_is_called", Hd.atB g mainGlobals "_law_blank", Hd.codeB g (Hd.fn g (zqX g "_law_blank")).code "_law_blank", Hd.atB g mainGlobals "_law_marks", Hd.codeB g (Hd.fn g (zqX g "_law_marks")).code "_law_marks", Hd.atB g mainGlobals "name_at", Hd.codeB g (Hd.fn g (zqX g "name_at")).code "name_at", Hd.atB g mainGlobals "_law_spots", Hd.codeB g (Hd.fn g (zqX g "_law_spots")).code "_law_spots", Hd.atB g mainGlobals "_law_piece", Hd.codeB g (Hd.fn g (zqX g "_law_piece")).code "_law_piece", Hd.atB g mainGlobals "places_in", Hd.codeB g (Hd.fn g (zqX g "places_in")).code "places_in", Hd.atB g mainGlobals "_law_turned", Hd.codeB g (Hd.fn g (zqX g "_law_turned")).code "_law_turned", Hd.atB g mainGlobals "turned_text", Hd.codeB g (Hd.fn g (zqX g "turned_text")).code "turned_text", Hd.atB g mainGlobals "_law_blank_text", Hd.codeB g (Hd.fn g (zqX g "_law_blank_text")).code "_law_blank_text"]
def zqB2 (K : Hd.Fg) (g : Hd.Gt) : List Bool := [Hd.atB g mainGlobals "thing_mark", Hd.refB g (zqX g "thing_mark"), Hd.codeB g (Hd.fn g (zqX g "thing_mark")).code "thing_mark", Hd.nonB g (Hd.kv g (zqX g "thing_mark")) "digest", Hd.atB g mainGlobals "_law_right", Hd.codeB g (Hd.fn g (zqX g "_law_right")).code "_law_right", Hd.atB g mainGlobals "law", Hd.codeB g (Hd.fn g (zqX g "law")).code "law"]
def zqF0 (g : Hd.Gt) : List He.FnV := [Hd.fnV g (zqX g "is_label"), Hd.fnV g (zqX g "is_mark"), Hd.fnV g (zqX g "mark_of"), Hd.fnV g (zqX g "name_with"), Hd.fnV g (zqX g "label_in"), Hd.fnV g (zqX g "_law_deck"), Hd.fnV g (zqX g "_law_draw"), Hd.fnV g (zqX g "_law_signs"), Hd.fnV g (zqX g "_law_thirty_two"), Hd.fnV g (zqX g "_law_weak"), Hd.fnV g (zqX g "_law_is_word"), Hd.fnV g (zqX g "_law_is_mark"), Hd.fnV g (zqX g "_law_called"), Hd.fnV g (zqX g "is_name"), Hd.fnV g (zqX g "blank_of"), Hd.fnV g (zqX g "_law_pick"), Hd.fnV g (zqX g "_law_words"), Hd.fnV g (zqX g "_law_mark"), Hd.fnV g (zqX g "_law_is_called"), Hd.fnV g (zqX g "_law_blank"), Hd.fnV g (zqX g "_law_marks"), Hd.fnV g (zqX g "name_at"), Hd.fnV g (zqX g "_law_spots"), Hd.fnV g (zqX g "_law_piece"), Hd.fnV g (zqX g "places_in"), Hd.fnV g (zqX g "_law_turned"), Hd.fnV g (zqX g "turned_text"), Hd.fnV g (zqX g "_law_blank_text"), Hd.fnV g (zqX g "thing_mark"), Hd.fnV g (zqX g "_law_right"), Hd.fnV g (zqX g "law")]
def zqW0 : List He.FnV := [Hd.fnW "is_label" "is_label" s_is_label, Hd.fnW "is_mark" "is_mark" s_is_mark, Hd.fnW "mark_of" "mark_of" s_mark_of, Hd.fnW "name_with" "name_with" s_name_with, Hd.fnW "label_in" "label_in" s_label_in, Hd.fnW "_law_deck" "_law_deck" s_L_deck, Hd.fnW "_law_draw" "_law_draw" s_L_draw, Hd.fnW "_law_signs" "_law_signs" s_L_signs, Hd.fnW "_law_thirty_two" "_law_thirty_two" s_L_thirty_two, Hd.fnW "_law_weak" "_law_weak" s_L_weak, Hd.fnW "_law_is_word" "_law_is_word" s_L_is_word, Hd.fnW "_law_is_mark" "_law_is_mark" s_L_is_mark, Hd.fnW "_law_called" "_law_called" s_L_called, Hd.fnW "is_name" "is_name" s_is_name, Hd.fnW "blank_of" "blank_of" s_blank_of, Hd.fnW "_law_pick" "_law_pick" s_L_pick, Hd.fnW "_law_words" "_law_words" s_L_words, Hd.fnW "_law_mark" "_law_mark" s_L_mark, Hd.fnW "_law_is_called" "_law_is_called" s_L_is_called, Hd.fnW "_law_blank" "_law_blank" s_L_blank, Hd.fnW "_law_marks" "_law_marks" s_L_marks, Hd.fnW "name_at" "name_at" s_name_at, Hd.fnW "_law_spots" "_law_spots" s_L_spots, Hd.fnW "_law_piece" "_law_piece" s_L_piece, Hd.fnW "places_in" "places_in" s_places_in, Hd.fnW "_law_turned" "_law_turned" s_L_turned, Hd.fnW "turned_text" "turned_text" s_turned_text, Hd.fnW "_law_blank_text" "_law_blank_text" s_L_blank_text, Hd.fnW "thing_mark" "thing_mark" s_thing_mark, Hd.fnW "_law_right" "_law_right" s_L_right, Hd.fnW "law" "law" s_law]
def zqB_ (K : Hd.Fg) (g : Hd.Gt) : Bool := (zqB0 K g).all id && ((zqB1 K g).all id && ((zqB2 K g).all id))
def zqF_ (K : Hd.Fg) (g : Hd.Gt) : Bool × List He.FnV := (zqB_ K g, zqF0 g)
def zqV_ : Bool × List He.FnV := (true, zqW0)
abbrev zqR_ : PySem.W.OpenRow := PySem.W.OpenLaw.row PySem.Challenge.rw_madestore_k05_blanks_and_marks_of_things
abbrev zqQ_ : Program := PySem.W.view zqR_.prog [47]
def zqN0 : List PySem.Str := ["FIRST", "__name__", "SIGNS", "LETTERS", "LONGEST_LABEL", "FIGURES", "LONG", "STEP", "BOUND", "is_label", "is_mark", "mark_of", "BEGIN", "BETWEEN", "END", "AT", "LONGEST", "BLANK", "is_name", "name_with", "label_in", "name_at", "places_in", "turned_text", "blank_of", "thing_mark", "_law_deck", "_law_draw", "_law_pick", "_law_words"]
def zqN1 : List PySem.Str := ["_law_signs", "_law_thirty_two", "_law_mark", "_law_weak", "_law_is_word", "_law_is_mark", "_law_is_called", "_law_called", "_law_spots", "_law_turned", "_law_blank", "_law_blank_text", "_law_marks", "_law_piece", "_law_right"]
def zqN_ : List PySem.Str := zqN0 ++ zqN1
theorem zq_op : PySem.W.opening zqR_.prog = PySem.W.plainProg zqR_.prog.main.scope.names := by kernel_rfl
theorem zq_fe : ∀ s, fenceModules? zqR_.prog s = some s := fun s => by kernel_rfl
theorem zq_run (w : World) : HandSHeadRun.RunEq zqR_ zqQ_ (Hd.hookT "_law_right" zqF_ zqV_) (Hd.obTT "_law_right" zqF_) 12000 zqN_ w := by
  intro os
  kernel_rfl
end
set_option genInjectivity false in
set_option genSizeOf false in
/-- what the top has left -/
structure Txt (K : PySem.W.Frag) (mg : Str → Option Value) where
  t_FIRST : Tok
  c_FIRST : mg "FIRST" = some (.int 7 t_FIRST)
  t_SIGNS : Tok
  c_SIGNS : mg "SIGNS" = some (.str k_SIGNS t_SIGNS)
  t_LETTERS : Tok
  c_LETTERS : mg "LETTERS" = some (.str k_LETTERS t_LETTERS)
  t_LONGEST_LABEL : Tok
  c_LONGEST_LABEL : mg "LONGEST_LABEL" = some (.int 8 t_LONGEST_LABEL)
  t_FIGURES : Tok
  c_FIGURES : mg "FIGURES" = some (.str k_FIGURES t_FIGURES)
  t_LONG : Tok
  c_LONG : mg "LONG" = some (.int 8 t_LONG)
  t_STEP : Tok
  c_STEP : mg "STEP" = some (.int 131 t_STEP)
  t_BOUND : Tok
  c_BOUND : mg "BOUND" = some (.int 1099511627689 t_BOUND)
  t_BEGIN : Tok
  c_BEGIN : mg "BEGIN" = some (.str k_BEGIN t_BEGIN)
  t_BETWEEN : Tok
  c_BETWEEN : mg "BETWEEN" = some (.str k_BETWEEN t_BETWEEN)
  t_END : Tok
  c_END : mg "END" = some (.str k_END t_END)
  t_AT : Tok
  c_AT : mg "AT" = some (.int 9 t_AT)
  t_LONGEST : Tok
  c_LONGEST : mg "LONGEST" = some (.int 19 t_LONGEST)
  t_BLANK : Tok
  c_BLANK : mg "BLANK" = some (.str k_BLANK t_BLANK)
  b_all : mg "all" = none
  b_dict : mg "dict" = none
  b_divmod : mg "divmod" = none
  b_enumerate : mg "enumerate" = none
  b_isinstance : mg "isinstance" = none
  b_len : mg "len" = none
  b_list : mg "list" = none
  b_range : mg "range" = none
  b_str : mg "str" = none
  b_sum : mg "sum" = none
  a_is_label : Addr
  d_is_label : FuncData
  F_is_label : Fun K "is_label" "is_label" s_is_label a_is_label d_is_label
  g_is_label : mg "is_label" = some (.ref a_is_label)
  bd_is_label : L2.Binds K d_is_label ["thing"] []
  a_is_mark : Addr
  d_is_mark : FuncData
  F_is_mark : Fun K "is_mark" "is_mark" s_is_mark a_is_mark d_is_mark
  g_is_mark : mg "is_mark" = some (.ref a_is_mark)
  bd_is_mark : L2.Binds K d_is_mark ["thing"] []
  a_mark_of : Addr
  d_mark_of : FuncData
  F_mark_of : Fun K "mark_of" "mark_of" s_mark_of a_mark_of d_mark_of
  g_mark_of : mg "mark_of" = some (.ref a_mark_of)
  n_mark_of : PySem.W.nsIn K mainGlobals "mark_of" = some (some (.ref a_mark_of))
  bd_mark_of : L2.Binds K d_mark_of ["text"] []
  a_name_with : Addr
  d_name_with : FuncData
  F_name_with : Fun K "name_with" "name_with" s_name_with a_name_with d_name_with
  g_name_with : mg "name_with" = some (.ref a_name_with)
  bd_name_with : L2.Binds K d_name_with ["mark", "label"] []
  a_label_in : Addr
  d_label_in : FuncData
  F_label_in : Fun K "label_in" "label_in" s_label_in a_label_in d_label_in
  g_label_in : mg "label_in" = some (.ref a_label_in)
  bd_label_in : L2.Binds K d_label_in ["name"] []
  a_L_deck : Addr
  d_L_deck : FuncData
  F_L_deck : Fun K "_law_deck" "_law_deck" s_L_deck a_L_deck d_L_deck
  g_L_deck : mg "_law_deck" = some (.ref a_L_deck)
  bd_L_deck : L2.Binds K d_L_deck ["_law_script"] []
  a_L_draw : Addr
  d_L_draw : FuncData
  F_L_draw : Fun K "_law_draw" "_law_draw" s_L_draw a_L_draw d_L_draw
  g_L_draw : mg "_law_draw" = some (.ref a_L_draw)
  bd_L_draw : L2.Binds K d_L_draw ["_law_deck_here", "_law_many"] []
  a_L_signs : Addr
  d_L_signs : FuncData
  F_L_signs : Fun K "_law_signs" "_law_signs" s_L_signs a_L_signs d_L_signs
  g_L_signs : mg "_law_signs" = some (.ref a_L_signs)
  bd_L_signs : L2.Binds K d_L_signs [] []
  a_L_thirty_two : Addr
  d_L_thirty_two : FuncData
  F_L_thirty_two : Fun K "_law_thirty_two" "_law_thirty_two" s_L_thirty_two a_L_thirty_two d_L_thirty_two
  g_L_thirty_two : mg "_law_thirty_two" = some (.ref a_L_thirty_two)
  bd_L_thirty_two : L2.Binds K d_L_thirty_two ["_law_number"] []
  a_L_weak : Addr
  d_L_weak : FuncData
  F_L_weak : Fun K "_law_weak" "_law_weak" s_L_weak a_L_weak d_L_weak
  g_L_weak : mg "_law_weak" = some (.ref a_L_weak)
  n_L_weak : PySem.W.nsIn K mainGlobals "_law_weak" = some (some (.ref a_L_weak))
  bd_L_weak : L2.Binds K d_L_weak ["_law_written"] []
  a_L_is_word : Addr
  d_L_is_word : FuncData
  F_L_is_word : Fun K "_law_is_word" "_law_is_word" s_L_is_word a_L_is_word d_L_is_word
  g_L_is_word : mg "_law_is_word" = some (.ref a_L_is_word)
  bd_L_is_word : L2.Binds K d_L_is_word ["_law_it"] []
  a_L_is_mark : Addr
  d_L_is_mark : FuncData
  F_L_is_mark : Fun K "_law_is_mark" "_law_is_mark" s_L_is_mark a_L_is_mark d_L_is_mark
  g_L_is_mark : mg "_law_is_mark" = some (.ref a_L_is_mark)
  bd_L_is_mark : L2.Binds K d_L_is_mark ["_law_it"] []
  a_L_called : Addr
  d_L_called : FuncData
  F_L_called : Fun K "_law_called" "_law_called" s_L_called a_L_called d_L_called
  g_L_called : mg "_law_called" = some (.ref a_L_called)
  bd_L_called : L2.Binds K d_L_called ["_law_mark_here", "_law_word"] []
  a_is_name : Addr
  d_is_name : FuncData
  F_is_name : Fun K "is_name" "is_name" s_is_name a_is_name d_is_name
  g_is_name : mg "is_name" = some (.ref a_is_name)
  bd_is_name : L2.Binds K d_is_name ["thing"] []
  a_blank_of : Addr
  d_blank_of : FuncData
  F_blank_of : Fun K "blank_of" "blank_of" s_blank_of a_blank_of d_blank_of
  g_blank_of : mg "blank_of" = some (.ref a_blank_of)
  bd_blank_of : L2.Binds K d_blank_of ["name"] []
  a_L_pick : Addr
  d_L_pick : FuncData
  F_L_pick : Fun K "_law_pick" "_law_pick" s_L_pick a_L_pick d_L_pick
  g_L_pick : mg "_law_pick" = some (.ref a_L_pick)
  bd_L_pick : L2.Binds K d_L_pick ["_law_deck_here", "_law_some"] []
  a_L_words : Addr
  d_L_words : FuncData
  F_L_words : Fun K "_law_words" "_law_words" s_L_words a_L_words d_L_words
  g_L_words : mg "_law_words" = some (.ref a_L_words)
  bd_L_words : L2.Binds K d_L_words ["_law_deck_here", "_law_many"] []
  a_L_mark : Addr
  d_L_mark : FuncData
  F_L_mark : Fun K "_law_mark" "_law_mark" s_L_mark a_L_mark d_L_mark
  g_L_mark : mg "_law_mark" = some (.ref a_L_mark)
  n_L_mark : PySem.W.nsIn K mainGlobals "_law_mark" = some (some (.ref a_L_mark))
  bd_L_mark : L2.Binds K d_L_mark ["_law_written"] []
  a_L_is_called : Addr
  d_L_is_called : FuncData
  F_L_is_called : Fun K "_law_is_called" "_law_is_called" s_L_is_called a_L_is_called d_L_is_called
  g_L_is_called : mg "_law_is_called" = some (.ref a_L_is_called)
  bd_L_is_called : L2.Binds K d_L_is_called ["_law_it"] []
  a_L_blank : Addr
  d_L_blank : FuncData
  F_L_blank : Fun K "_law_blank" "_law_blank" s_L_blank a_L_blank d_L_blank
  g_L_blank : mg "_law_blank" = some (.ref a_L_blank)
  bd_L_blank : L2.Binds K d_L_blank ["_law_called_here"] []
  a_L_marks : Addr
  d_L_marks : FuncData
  F_L_marks : Fun K "_law_marks" "_law_marks" s_L_marks a_L_marks d_L_marks
  g_L_marks : mg "_law_marks" = some (.ref a_L_marks)
  bd_L_marks : L2.Binds K d_L_marks ["_law_deck_here"] []
  a_name_at : Addr
  d_name_at : FuncData
  F_name_at : Fun K "name_at" "name_at" s_name_at a_name_at d_name_at
  g_name_at : mg "name_at" = some (.ref a_name_at)
  bd_name_at : L2.Binds K d_name_at ["text", "at"] []
  a_L_spots : Addr
  d_L_spots : FuncData
  F_L_spots : Fun K "_law_spots" "_law_spots" s_L_spots a_L_spots d_L_spots
  g_L_spots : mg "_law_spots" = some (.ref a_L_spots)
  bd_L_spots : L2.Binds K d_L_spots ["_law_written"] []
  a_L_piece : Addr
  d_L_piece : FuncData
  F_L_piece : Fun K "_law_piece" "_law_piece" s_L_piece a_L_piece d_L_piece
  g_L_piece : mg "_law_piece" = some (.ref a_L_piece)
  bd_L_piece : L2.Binds K d_L_piece ["_law_deck_here", "_law_pool"] []
  a_places_in : Addr
  d_places_in : FuncData
  F_places_in : Fun K "places_in" "places_in" s_places_in a_places_in d_places_in
  g_places_in : mg "places_in" = some (.ref a_places_in)
  bd_places_in : L2.Binds K d_places_in ["text"] []
  a_L_turned : Addr
  d_L_turned : FuncData
  F_L_turned : Fun K "_law_turned" "_law_turned" s_L_turned a_L_turned d_L_turned
  g_L_turned : mg "_law_turned" = some (.ref a_L_turned)
  bd_L_turned : L2.Binds K d_L_turned ["_law_written", "_law_table"] []
  a_turned_text : Addr
  d_turned_text : FuncData
  F_turned_text : Fun K "turned_text" "turned_text" s_turned_text a_turned_text d_turned_text
  g_turned_text : mg "turned_text" = some (.ref a_turned_text)
  bd_turned_text : L2.Binds K d_turned_text ["text", "pairs"] []
  a_L_blank_text : Addr
  d_L_blank_text : FuncData
  F_L_blank_text : Fun K "_law_blank_text" "_law_blank_text" s_L_blank_text a_L_blank_text d_L_blank_text
  g_L_blank_text : mg "_law_blank_text" = some (.ref a_L_blank_text)
  bd_L_blank_text : L2.Binds K d_L_blank_text ["_law_called_here", "_law_written"] []
  a_thing_mark : Addr
  d_thing_mark : FuncData
  F_thing_mark : Fun K "thing_mark" "thing_mark" s_thing_mark a_thing_mark d_thing_mark
  g_thing_mark : mg "thing_mark" = some (.ref a_thing_mark)
  a_L_right : Addr
  d_L_right : FuncData
  F_L_right : Fun K "_law_right" "_law_right" s_L_right a_L_right d_L_right
  g_L_right : mg "_law_right" = some (.ref a_L_right)
  bd_L_right : L2.Binds K d_L_right ["_law_own", "_law_written"] []
  a_law : Addr
  d_law : FuncData
  F_law : Fun K "law" "law" s_law a_law d_law
  g_law : mg "law" = some (.ref a_law)
  bd_law : L2.Binds K d_law ["_law_script"] []
  k_blank_of_name : ∀ (s : Shared) (ws r : List Value), K.In s.heap → ws.length = 1 → laid [] ws [] [.k 0] = some r → BindsTo s d_blank_of ⟨[], ((["name"] : List Str)).zip ws⟩ (((["name"] : List Str)).zip r)
  su_0 : List Value
  sw_0 : List V
  sv_0 : Vals sw_0 su_0
  sd_0 : ∀ (ι : Io) (H : Hp), XVs K ι H [.d .none] sw_0
  sb_0 : KwB K d_thing_mark ["name", "text", "digest"] 2 ([] : List Str) su_0 [.p 0, .p 1, .v 0]
  su_1 : List Value
  sw_1 : List V
  sv_1 : Vals sw_1 su_1
  sd_1 : ∀ (ι : Io) (H : Hp), XVs K ι H [] sw_1
  sb_1 : KwB K d_thing_mark ["name", "text", "digest"] 2 (["digest"] : List Str) su_1 [.p 0, .p 1, .k 0]
  su_2 : List Value
  sw_2 : List V
  sv_2 : Vals sw_2 su_2
  sd_2 : ∀ (ι : Io) (H : Hp), XVs K ι H [.d .none] sw_2
  sb_2 : KwB K d_thing_mark ["name", "text", "digest"] 0 (["text", "name"] : List Str) su_2 [.k 1, .k 0, .v 0]
section
variable {P : Program} {w : World} {K : PySem.W.Frag} {mg : Str → Option Value} {base : Heap}
theorem ok_is_label {gb : Bool} (T : Txt K mg) : FnM gb P w K mg base 1 T.a_is_label T.d_is_label ["thing"] f_is_label := by
  show FnM gb P w K mg base 1 T.a_is_label T.d_is_label ["thing"] (fnM N_is_label.length m_is_label)
  refine fn_m (m := m_is_label) T.F_is_label sc_is_label fun cdv A outer s H E hr gd tk pa => ?_
  exact pmb_one (pms_ret (pm_and (pm_callB .frz c_isi (by rfl) T.b_isinstance (by decide +kernel) (pl_cons (pm_var 0) (pl_cons (pm_ty (by rfl) T.b_str (by decide +kernel)) (pl_nil)))) (pm_and (pm_chain o_le o_le (pm_int) (pm_callB .frz c_len (by rfl) T.b_len PySem.boot_len (pl_cons (pm_var 0) (pl_nil))) (pm_globI (by rfl) T.c_LONGEST_LABEL)) (pm_one (pm_callB .frz (c_all rfl) (by rfl) T.b_all (by decide +kernel) (pl_cons (pm_lc (own := [("sign", 1)]) .frz rfl sc_is_label.nd (pim_seq (pm_var 0)) (blkOk_by (own := [("sign", 1)]) (N := N_is_label) (sc := defScope s_is_label) (by decide +kernel)) (fun _ _ _ _ _ => pmg_name (i := 1) sc_is_label.nd rfl (by first | exact Or.inl rfl | exact Or.inr rfl)) (fun _ _ _ _ _ => ptm_nil) (fun _ _ _ _ _ => show PM _ _ _ e_is_label_1 from pm_cmp (o_in (units65 hr)) (by first | rfl | exact nomark _) (pm_var 1) (pm_globS (by rfl) T.c_LETTERS)) (by decide)) (pl_nil)))))))
theorem ok_is_mark {gb : Bool} (T : Txt K mg) : FnM gb P w K mg base 1 T.a_is_mark T.d_is_mark ["thing"] f_is_mark := by
  show FnM gb P w K mg base 1 T.a_is_mark T.d_is_mark ["thing"] (fnM N_is_mark.length m_is_mark)
  refine fn_m (m := m_is_mark) T.F_is_mark sc_is_mark fun cdv A outer s H E hr gd tk pa => ?_
  exact pmb_one (pms_ret (pm_and (pm_callB .frz c_isi (by rfl) T.b_isinstance (by decide +kernel) (pl_cons (pm_var 0) (pl_cons (pm_ty (by rfl) T.b_str (by decide +kernel)) (pl_nil)))) (pm_and (pm_cmp (o_eq hr.units) (nomark _) (pm_callB .frz c_len (by rfl) T.b_len PySem.boot_len (pl_cons (pm_var 0) (pl_nil))) (pm_globI (by rfl) T.c_LONG)) (pm_one (pm_callB .frz (c_all rfl) (by rfl) T.b_all (by decide +kernel) (pl_cons (pm_lc (own := [("sign", 1)]) .frz rfl sc_is_mark.nd (pim_seq (pm_var 0)) (blkOk_by (own := [("sign", 1)]) (N := N_is_mark) (sc := defScope s_is_mark) (by decide +kernel)) (fun _ _ _ _ _ => pmg_name (i := 1) sc_is_mark.nd rfl (by first | exact Or.inl rfl | exact Or.inr rfl)) (fun _ _ _ _ _ => ptm_nil) (fun _ _ _ _ _ => show PM _ _ _ e_is_mark_1 from pm_cmp (o_in (units65 hr)) (by first | rfl | exact nomark _) (pm_var 1) (pm_globS (by rfl) T.c_FIGURES)) (by decide)) (pl_nil)))))))
theorem ok_mark_of {gb : Bool} (T : Txt K mg) : FnM gb P w K mg base 1 T.a_mark_of T.d_mark_of ["text"] f_mark_of := by
  show FnM gb P w K mg base 1 T.a_mark_of T.d_mark_of ["text"] (fnM N_mark_of.length m_mark_of)
  refine fn_m (m := m_mark_of) T.F_mark_of sc_mark_of fun cdv A outer s H E hr gd tk pa => ?_
  exact pmb_cons (pms_set (i := 1) sc_mark_of.nd rfl (by first | exact Or.inl rfl | exact Or.inr rfl) (pm_globI (by rfl) T.c_FIRST))
    (pmb_cons (pms_for (mb := b_mark_of_1) pa rfl (pim_seq (pm_var 0)) (pmg_name (i := 2) sc_mark_of.nd rfl (by first | exact Or.inl rfl | exact Or.inr rfl)) (pmb_one (pms_set (i := 1) sc_mark_of.nd rfl (by first | exact Or.inl rfl | exact Or.inr rfl) (pm_bin .frz o_mod (pm_bin .frz o_add (pm_bin .frz o_mul (pm_globI (by rfl) T.c_STEP) (pm_var 1)) (pm_index rfl tk (pm_globS (by rfl) T.c_SIGNS) (pl_cons (pm_var 2) (pl_nil)))) (pm_globI (by rfl) T.c_BOUND)))))
    (pmb_cons (pms_set (i := 3) sc_mark_of.nd rfl (by first | exact Or.inl rfl | exact Or.inr rfl) (pm_str))
    (pmb_cons (pms_while (mc := wt_mark_of_1) (mb := wb_mark_of_1) 1000 pa (pb_cmp o_lt (nomark _) (pm_callB .frz c_len (by rfl) T.b_len PySem.boot_len (pl_cons (pm_var 3) (pl_nil))) (pm_globI (by rfl) T.c_LONG)) (pmb_cons (pms_asg (pm_callB .frz c_divmod (by rfl) T.b_divmod (by decide +kernel) (pl_cons (pm_var 1) (pl_cons (pm_callB .frz c_len (by rfl) T.b_len PySem.boot_len (pl_cons (pm_globS (by rfl) T.c_FIGURES) (pl_nil))) (pl_nil)))) (pmg_tup rfl (pmgs_cons (pmg_name (i := 1) sc_mark_of.nd rfl (by first | exact Or.inl rfl | exact Or.inr rfl)) (pmgs_cons (pmg_name (i := 4) sc_mark_of.nd rfl (by first | exact Or.inl rfl | exact Or.inr rfl)) (pmgs_nil)))))
    (pmb_one (pms_set (i := 3) sc_mark_of.nd rfl (by first | exact Or.inl rfl | exact Or.inr rfl) (pm_bin .frz o_add (pm_ix (pm_globS (by rfl) T.c_FIGURES) (pm_var 4)) (pm_var 3))))))
    (pmb_one (pms_ret (pm_var 3))))))
theorem ok_name_with {gb : Bool} (T : Txt K mg) : FnM gb P w K mg base 1 T.a_name_with T.d_name_with ["mark", "label"] f_name_with := by
  show FnM gb P w K mg base 1 T.a_name_with T.d_name_with ["mark", "label"] (fnM N_name_with.length m_name_with)
  refine fn_m (m := m_name_with) T.F_name_with sc_name_with fun cdv A outer s H E hr gd tk pa => ?_
  exact pmb_one (pms_ret (pm_joined (pj_consM (pm_fmt (pm_globS (by rfl) T.c_BEGIN)) (pj_consM (pm_fmt (pm_var 0)) (pj_consM (pm_fmt (pm_globS (by rfl) T.c_BETWEEN)) (pj_consM (pm_fmt (pm_var 1)) (pj_consM (pm_fmt (pm_globS (by rfl) T.c_END)) (pj_nilM))))))))
theorem ok_label_in {gb : Bool} (T : Txt K mg) : FnM gb P w K mg base 1 T.a_label_in T.d_label_in ["name"] f_label_in := by
  show FnM gb P w K mg base 1 T.a_label_in T.d_label_in ["name"] (fnM N_label_in.length m_label_in)
  refine fn_m (m := m_label_in) T.F_label_in sc_label_in fun cdv A outer s H E hr gd tk pa => ?_
  exact pmb_one (pms_ret (pm_sl .frz (pm_var 0) (pmo_some (pm_bin .frz o_add (pm_globI (by rfl) T.c_AT) (pm_int))) (pmo_some (pm_neg (pm_int)))))
theorem ok_L_deck {gb : Bool} (T : Txt K mg) : FnM gb P w K mg base 1 T.a_L_deck T.d_L_deck ["_law_script"] f_L_deck := by
  show FnM gb P w K mg base 1 T.a_L_deck T.d_L_deck ["_law_script"] (fnM N_L_deck.length m_L_deck)
  refine fn_m (m := m_L_deck) T.F_L_deck sc_L_deck fun cdv A outer s H E hr gd tk pa => ?_
  exact pmb_cons (pms_set (i := 1) sc_L_deck.nd rfl (by first | exact Or.inl rfl | exact Or.inr rfl) (pm_callTy .frz (c_list rfl) (by rfl) T.b_list (by decide +kernel) (pl_cons (pm_sl .frz (pm_var 0) (pmo_none) (pmo_some (pm_int))) (pl_nil))))
    (pmb_one (pms_ret (pm_lst .ref (pl_cons (pm_rev .ref (pm_var 1)) (pl_cons (pm_bin .frz o_add (pm_callB .frz (c_sum rfl) (by rfl) T.b_sum (by decide +kernel) (pl_cons (pm_lc (own := [("_law_cell", 2)]) .frz rfl sc_L_deck.nd (pim_seq (pm_var 1)) (blkOk_by (own := [("_law_cell", 2)]) (N := N_L_deck) (sc := defScope s_L_deck) (by decide +kernel)) (fun _ _ _ _ _ => pmg_name (i := 2) sc_L_deck.nd rfl (by first | exact Or.inl rfl | exact Or.inr rfl)) (fun _ _ _ _ _ => ptm_nil) (fun _ _ _ _ _ => show PM _ _ _ e_L_deck_1 from pm_bin .frz o_mod (pm_var 2) (pm_int)) (by decide)) (pl_nil))) (pm_bin .frz o_mul (pm_int) (pm_callB .frz c_len (by rfl) T.b_len PySem.boot_len (pl_cons (pm_var 1) (pl_nil))))) (pl_cons (pm_int) (pl_nil)))))))
theorem ok_L_draw {gb : Bool} (T : Txt K mg) : FnM gb P w K mg base 1 T.a_L_draw T.d_L_draw ["_law_deck_here", "_law_many"] f_L_draw := by
  show FnM gb P w K mg base 1 T.a_L_draw T.d_L_draw ["_law_deck_here", "_law_many"] (fnM N_L_draw.length m_L_draw)
  refine fn_m (m := m_L_draw) T.F_L_draw sc_L_draw fun cdv A outer s H E hr gd tk pa => ?_
  exact pmb_cons (pms_setIx (pm_bin .frz o_add (pm_ix (pm_var 0) (pm_int)) (pm_int)) (pm_var 0) (pm_int))
    (pmb_cons (pms_set (i := 2) sc_L_draw.nd rfl (by first | exact Or.inl rfl | exact Or.inr rfl) (pm_ix (pm_var 0) (pm_int)))
    (pmb_cons (pms_if (pb_cmp (o_ne hr.units) (nomark _) (pm_ix (pm_var 0) (pm_int)) (pm_lst .frz (pl_nil))) (pmb_cons (pms_set (i := 2) sc_L_draw.nd rfl (by first | exact Or.inl rfl | exact Or.inr rfl) (pm_bu0 PySem.F.plainAttrs_list PySem.F.slot_list_pop PySem.F.type_list_pop u_pop (pm_ix (pm_var 0) (pm_int))))
    (pmb_one (pms_if (pb_cmp o_ge (nomark _) (pm_var 2) (pm_bin .frz o_pow (pm_int) (pm_int))) (pmb_cons (pms_expr (pm_bu PySem.F.plainAttrs_list PySem.F.slot_list_append PySem.F.type_list_append u_append (pm_ix (pm_var 0) (pm_int)) (pl_cons (pm_bin .frz o_fdiv (pm_var 2) (pm_var 1)) (pl_nil))))
    (pmb_one (pms_ret (pm_bin .frz o_mod (pm_var 2) (pm_var 1))))) (pmb_nil)))) (pmb_nil))
    (pmb_cons (pms_set (i := 3) sc_L_draw.nd rfl (by first | exact Or.inl rfl | exact Or.inr rfl) (pm_bin .frz o_mod (pm_bin .frz o_mul (pm_bin .frz o_add (pm_bin .frz o_add (pm_bin .frz o_mod (pm_var 2) (pm_int)) (pm_bin .frz o_mul (pm_int) (pm_ix (pm_var 0) (pm_int)))) (pm_int)) (pm_int)) (pm_int)))
    (pmb_cons (pms_set (i := 3) sc_L_draw.nd rfl (by first | exact Or.inl rfl | exact Or.inr rfl) (pm_bin .frz o_mod (pm_bin .frz o_add (pm_bin .frz o_add (pm_bin .frz o_mul (pm_var 3) (pm_var 3)) (pm_bin .frz o_mul (pm_int) (pm_ix (pm_var 0) (pm_int)))) (pm_int)) (pm_int)))
    (pmb_one (pms_ret (pm_bin .frz o_mod (pm_bin .frz o_fdiv (pm_bin .frz o_mod (pm_bin .frz o_add (pm_bin .frz o_mul (pm_var 3) (pm_var 3)) (pm_bin .frz o_mul (pm_int) (pm_var 3))) (pm_int)) (pm_int)) (pm_var 1))))))))
theorem ok_L_signs {gb : Bool} (T : Txt K mg) : FnM gb P w K mg base 1 T.a_L_signs T.d_L_signs [] f_L_signs := by
  show FnM gb P w K mg base 1 T.a_L_signs T.d_L_signs [] (fnM N_L_signs.length m_L_signs)
  refine fn_m (m := m_L_signs) T.F_L_signs sc_L_signs fun cdv A outer s H E hr gd tk pa => ?_
  exact pmb_cons (pms_set (i := 0) sc_L_signs.nd rfl (by first | exact Or.inl rfl | exact Or.inr rfl) (pm_str))
    (pmb_one (pms_ret (pm_bin .frz o_add (pm_var 0) (pm_str))))
theorem ok_L_thirty_two {gb : Bool} (T : Txt K mg) : FnM gb P w K mg base 1 T.a_L_thirty_two T.d_L_thirty_two ["_law_number"] f_L_thirty_two := by
  show FnM gb P w K mg base 1 T.a_L_thirty_two T.d_L_thirty_two ["_law_number"] (fnM N_L_thirty_two.length m_L_thirty_two)
  refine fn_m (m := m_L_thirty_two) T.F_L_thirty_two sc_L_thirty_two fun cdv A outer s H E hr gd tk pa => ?_
  exact pmb_cons (pms_asg (pm_tup (pl_cons (pm_str) (pl_cons (pm_str) (pl_nil)))) (pmg_tup rfl (pmgs_cons (pmg_name (i := 1) sc_L_thirty_two.nd rfl (by first | exact Or.inl rfl | exact Or.inr rfl)) (pmgs_cons (pmg_name (i := 2) sc_L_thirty_two.nd rfl (by first | exact Or.inl rfl | exact Or.inr rfl)) (pmgs_nil)))))
    (pmb_cons (pms_for (mb := b_L_thirty_two_1) pa rfl (pim_range1 (by rfl) T.b_range (pl_cons (pm_int) (pl_nil))) (pmg_name (i := 3) sc_L_thirty_two.nd rfl (by first | exact Or.inl rfl | exact Or.inr rfl)) (pmb_cons (pms_set (i := 2) sc_L_thirty_two.nd rfl (by first | exact Or.inl rfl | exact Or.inr rfl) (pm_bin .frz o_add (pm_ix (pm_var 1) (pm_bin .frz o_mod (pm_var 0) (pm_int))) (pm_var 2)))
    (pmb_one (pms_set (i := 0) sc_L_thirty_two.nd rfl (by first | exact Or.inl rfl | exact Or.inr rfl) (pm_bin .frz o_fdiv (pm_var 0) (pm_int))))))
    (pmb_one (pms_ret (pm_var 2))))
theorem ok_L_weak {gb : Bool} (T : Txt K mg) : FnM gb P w K mg base 1 T.a_L_weak T.d_L_weak ["_law_written"] f_L_weak := by
  show FnM gb P w K mg base 1 T.a_L_weak T.d_L_weak ["_law_written"] (fnM N_L_weak.length m_L_weak)
  refine fn_m (m := m_L_weak) T.F_L_weak sc_L_weak fun cdv A outer s H E hr gd tk pa => ?_
  exact pmb_one (pms_ret (pm_bin .frz o_add (pm_str) (pm_ix (pm_str) (pm_bin .frz o_mod (pm_callB .frz c_len (by rfl) T.b_len PySem.boot_len (pl_cons (pm_var 0) (pl_nil))) (pm_int)))))
theorem ok_L_is_word {gb : Bool} (T : Txt K mg) : FnM gb P w K mg base 1 T.a_L_is_word T.d_L_is_word ["_law_it"] f_L_is_word := by
  show FnM gb P w K mg base 1 T.a_L_is_word T.d_L_is_word ["_law_it"] (fnM N_L_is_word.length m_L_is_word)
  refine fn_m (m := m_L_is_word) T.F_L_is_word sc_L_is_word fun cdv A outer s H E hr gd tk pa => ?_
  exact pmb_cons (pms_if (pwb (pw_orM (pb_not (pb_of (pm_callB .frz c_isi (by rfl) T.b_isinstance (by decide +kernel) (pl_cons (pm_var 0) (pl_cons (pm_ty (by rfl) T.b_str (by decide +kernel)) (pl_nil)))))) (pw_orM1 (pb_not (pb_chain o_le o_le (pm_int) (pm_callB .frz c_len (by rfl) T.b_len PySem.boot_len (pl_cons (pm_var 0) (pl_nil))) (pm_int)))))) (pmb_one (pms_ret (pm_bl))) (pmb_nil))
    (pmb_one (pms_ret (pm_cmp (o_eq hr.units) (nomark _) (pm_lc (own := [("_law_sign", 1)]) .frz rfl sc_L_is_word.nd (pim_seq (pm_var 0)) (blkOk_by (own := [("_law_sign", 1)]) (N := N_L_is_word) (sc := defScope s_L_is_word) (by decide +kernel)) (fun _ _ _ _ _ => pmg_name (i := 1) sc_L_is_word.nd rfl (by first | exact Or.inl rfl | exact Or.inr rfl)) (fun _ _ _ _ _ => ptm_one (m := t_L_is_word_1) (pb_cmp (o_notIn (units65 hr)) (by first | rfl | exact nomark _) (pm_var 1) (pm_str))) (fun _ _ _ _ _ => pm_var 1) (by decide)) (pm_lst .frz (pl_nil)))))
theorem ok_L_is_mark {gb : Bool} (T : Txt K mg) : FnM gb P w K mg base 1 T.a_L_is_mark T.d_L_is_mark ["_law_it"] f_L_is_mark := by
  show FnM gb P w K mg base 1 T.a_L_is_mark T.d_L_is_mark ["_law_it"] (fnM N_L_is_mark.length m_L_is_mark)
  refine fn_m (m := m_L_is_mark) T.F_L_is_mark sc_L_is_mark fun cdv A outer s H E hr gd tk pa => ?_
  exact pmb_cons (pms_if (pwb (pw_orM (pb_not (pb_of (pm_callB .frz c_isi (by rfl) T.b_isinstance (by decide +kernel) (pl_cons (pm_var 0) (pl_cons (pm_ty (by rfl) T.b_str (by decide +kernel)) (pl_nil)))))) (pw_orM1 (pb_cmp (o_ne hr.units) (nomark _) (pm_callB .frz c_len (by rfl) T.b_len PySem.boot_len (pl_cons (pm_var 0) (pl_nil))) (pm_int))))) (pmb_one (pms_ret (pm_bl))) (pmb_nil))
    (pmb_one (pms_ret (pm_cmp (o_eq hr.units) (nomark _) (pm_lc (own := [("_law_sign", 1)]) .frz rfl sc_L_is_mark.nd (pim_seq (pm_var 0)) (blkOk_by (own := [("_law_sign", 1)]) (N := N_L_is_mark) (sc := defScope s_L_is_mark) (by decide +kernel)) (fun _ _ _ _ _ => pmg_name (i := 1) sc_L_is_mark.nd rfl (by first | exact Or.inl rfl | exact Or.inr rfl)) (fun _ _ _ _ _ => ptm_one (m := t_L_is_mark_1) (pb_cmp (o_notIn (units65 hr)) (by first | rfl | exact nomark _) (pm_var 1) (pm_str))) (fun _ _ _ _ _ => pm_var 1) (by decide)) (pm_lst .frz (pl_nil)))))
theorem ok_L_called {gb : Bool} (T : Txt K mg) : FnM gb P w K mg base 1 T.a_L_called T.d_L_called ["_law_mark_here", "_law_word"] f_L_called := by
  show FnM gb P w K mg base 1 T.a_L_called T.d_L_called ["_law_mark_here", "_law_word"] (fnM N_L_called.length m_L_called)
  refine fn_m (m := m_L_called) T.F_L_called sc_L_called fun cdv A outer s H E hr gd tk pa => ?_
  exact pmb_one (pms_ret (pm_bin .frz o_add (pm_bin .frz o_add (pm_bin .frz o_add (pm_bin .frz o_add (pm_str) (pm_var 0)) (pm_str)) (pm_var 1)) (pm_str)))
theorem ok_is_name {gb : Bool} (T : Txt K mg) : FnM gb P w K mg base 2 T.a_is_name T.d_is_name ["thing"] f_is_name := by
  show FnM gb P w K mg base 2 T.a_is_name T.d_is_name ["thing"] (fnM N_is_name.length m_is_name)
  refine fn_m (m := m_is_name) T.F_is_name sc_is_name fun cdv A outer s H E hr gd tk pa => ?_
  exact pmb_cons (pms_if (pwb (pw_orM (pb_not (pb_of (pm_callB .frz c_isi (by rfl) T.b_isinstance (by decide +kernel) (pl_cons (pm_var 0) (pl_cons (pm_ty (by rfl) T.b_str (by decide +kernel)) (pl_nil)))))) (pw_orM (pb_cmp o_le (nomark _) (pm_callB .frz c_len (by rfl) T.b_len PySem.boot_len (pl_cons (pm_var 0) (pl_nil))) (pm_bin .frz o_add (pm_globI (by rfl) T.c_AT) (pm_int))) (pw_orM1 (pb_cmp (o_ne hr.units) (nomark _) (pm_ix (pm_var 0) (pm_globI (by rfl) T.c_AT)) (pm_globS (by rfl) T.c_BETWEEN)))))) (pmb_one (pms_ret (pm_bl))) (pmb_nil))
    (pmb_cons (pms_if (pwb (pw_orM (pb_not (pb_of (pm_bm .frz PySem.F.plainAttrs_str PySem.F.slot_str_startswith PySem.F.type_str_startswith m_starts (pm_var 0) (pl_cons (pm_globS (by rfl) T.c_BEGIN) (pl_nil))))) (pw_orM1 (pb_not (pb_of (pm_bm .frz PySem.F.plainAttrs_str PySem.F.slot_str_endswith PySem.F.type_str_endswith m_ends (pm_var 0) (pl_cons (pm_globS (by rfl) T.c_END) (pl_nil)))))))) (pmb_one (pms_ret (pm_bl))) (pmb_nil))
    (pmb_one (pms_ret (pm_and (pm_call (ok_is_mark T) (hr.mono (by decide)) gd tk (by rfl) T.g_is_mark T.F_is_mark.kp T.bd_is_mark .nil (fun _ _ => .nil) (pl_cons (pm_sl .frz (pm_var 0) (pmo_some (pm_int)) (pmo_some (pm_globI (by rfl) T.c_AT))) (pl_nil))) (pm_one (pm_call (ok_is_label T) (hr.mono (by decide)) gd tk (by rfl) T.g_is_label T.F_is_label.kp T.bd_is_label .nil (fun _ _ => .nil) (pl_cons (pm_sl .frz (pm_var 0) (pmo_some (pm_bin .frz o_add (pm_globI (by rfl) T.c_AT) (pm_int))) (pmo_some (pm_neg (pm_int)))) (pl_nil))))))))
theorem ok_blank_of {gb : Bool} (T : Txt K mg) : FnM gb P w K mg base 2 T.a_blank_of T.d_blank_of ["name"] f_blank_of := by
  show FnM gb P w K mg base 2 T.a_blank_of T.d_blank_of ["name"] (fnM N_blank_of.length m_blank_of)
  refine fn_m (m := m_blank_of) T.F_blank_of sc_blank_of fun cdv A outer s H E hr gd tk pa => ?_
  exact pmb_one (pms_ret (pm_call (ok_name_with T) (hr.mono (by decide)) gd tk (by rfl) T.g_name_with T.F_name_with.kp T.bd_name_with .nil (fun _ _ => .nil) (pl_cons (pm_globS (by rfl) T.c_BLANK) (pl_cons (pm_call (ok_label_in T) (hr.mono (by decide)) gd tk (by rfl) T.g_label_in T.F_label_in.kp T.bd_label_in .nil (fun _ _ => .nil) (pl_cons (pm_var 0) (pl_nil))) (pl_nil)))))
theorem ok_L_pick {gb : Bool} (T : Txt K mg) : FnM gb P w K mg base 2 T.a_L_pick T.d_L_pick ["_law_deck_here", "_law_some"] f_L_pick := by
  show FnM gb P w K mg base 2 T.a_L_pick T.d_L_pick ["_law_deck_here", "_law_some"] (fnM N_L_pick.length m_L_pick)
  refine fn_m (m := m_L_pick) T.F_L_pick sc_L_pick fun cdv A outer s H E hr gd tk pa => ?_
  exact pmb_one (pms_ret (pm_ix (pm_var 1) (pm_call (ok_L_draw T) (hr.mono (by decide)) gd tk (by rfl) T.g_L_draw T.F_L_draw.kp T.bd_L_draw .nil (fun _ _ => .nil) (pl_cons (pm_var 0) (pl_cons (pm_callB .frz c_len (by rfl) T.b_len PySem.boot_len (pl_cons (pm_var 1) (pl_nil))) (pl_nil))))))
theorem ok_L_words {gb : Bool} (T : Txt K mg) : FnM gb P w K mg base 2 T.a_L_words T.d_L_words ["_law_deck_here", "_law_many"] f_L_words := by
  show FnM gb P w K mg base 2 T.a_L_words T.d_L_words ["_law_deck_here", "_law_many"] (fnM N_L_words.length m_L_words)
  refine fn_m (m := m_L_words) T.F_L_words sc_L_words fun cdv A outer s H E hr gd tk pa => ?_
  exact pmb_cons (pms_set (i := 2) sc_L_words.nd rfl (by first | exact Or.inl rfl | exact Or.inr rfl) (pm_str))
    (pmb_cons ((let hpl := pl_cons (pm_call (ok_L_draw T) (hr.mono (by decide)) gd tk (by rfl) T.g_L_draw T.F_L_draw.kp T.bd_L_draw .nil (fun _ _ => .nil) (pl_cons (pm_var 0) (pl_cons (pm_int) (pl_nil)))) (pl_cons (pm_call (ok_L_draw T) (hr.mono (by decide)) gd tk (by rfl) T.g_L_draw T.F_L_draw.kp T.bd_L_draw .nil (fun _ _ => .nil) (pl_cons (pm_var 0) (pl_cons (pm_int) (pl_nil)))) (pl_nil)); pms_par (i := 3) (j := 4) rfl sc_L_words.nd rfl rfl (by decide) rfl rfl hpl (ps_par (by rfl) sc_L_words.nd rfl rfl (by decide) rfl rfl hpl (by rfl))))
    (pmb_cons (pms_set (i := 5) sc_L_words.nd rfl (by first | exact Or.inl rfl | exact Or.inr rfl) (pm_bm .frz PySem.F.plainAttrs_str PySem.F.slot_str_join PySem.F.type_str_join m_join (pm_str) (pl_cons (pm_lc (own := [("_law_k", 8)]) .frz rfl sc_L_words.nd (pim_range1 (by rfl) T.b_range (pl_cons (pm_int) (pl_nil))) (blkOk_by (own := [("_law_k", 8)]) (N := N_L_words) (sc := defScope s_L_words) (by decide +kernel)) (fun _ _ _ _ _ => pmg_name (i := 8) sc_L_words.nd rfl (by first | exact Or.inl rfl | exact Or.inr rfl)) (fun _ _ _ _ _ => ptm_nil) (fun _ _ _ _ _ => show PM _ _ _ e_L_words_1 from pm_ix (pm_var 2) (pm_call (ok_L_draw T) (hr.mono (by decide)) gd takes0 (by rfl) T.g_L_draw T.F_L_draw.kp T.bd_L_draw .nil (fun _ _ => .nil) (pl_cons (pm_var 0) (pl_cons (pm_int) (pl_nil))))) (by decide)) (pl_nil))))
    (pmb_cons (pms_set (i := 6) sc_L_words.nd rfl (by first | exact Or.inl rfl | exact Or.inr rfl) (pm_call (ok_L_draw T) (hr.mono (by decide)) gd tk (by rfl) T.g_L_draw T.F_L_draw.kp T.bd_L_draw .nil (fun _ _ => .nil) (pl_cons (pm_var 0) (pl_cons (pm_int) (pl_nil)))))
    (pmb_cons (pms_set (i := 7) sc_L_words.nd rfl (by first | exact Or.inl rfl | exact Or.inr rfl) (pm_lst .own (pl_nil)))
    (pmb_cons (pms_for (mb := b_L_words_1) pa rfl (pim_range1 (by rfl) T.b_range (pl_cons (pm_int) (pl_nil))) (pmg_name (i := 8) sc_L_words.nd rfl (by first | exact Or.inl rfl | exact Or.inr rfl)) (pmb_cons (pms_set (i := 9) sc_L_words.nd rfl (by first | exact Or.inl rfl | exact Or.inr rfl) (pm_ix (pm_var 2) (pm_bin .frz o_mod (pm_bin .frz o_add (pm_var 4) (pm_bin .frz o_mul (pm_int) (pm_var 8))) (pm_int))))
    (pmb_cons (pms_set (i := 10) sc_L_words.nd rfl (by first | exact Or.inl rfl | exact Or.inr rfl) (pm_ix (pm_lst .frz (pl_cons (pm_var 9) (pl_cons (pm_bin .frz o_add (pm_bin .frz o_add (pm_sl .frz (pm_var 5) (pmo_none) (pmo_some (pm_var 6))) (pm_var 9)) (pm_sl .frz (pm_var 5) (pmo_some (pm_var 6)) (pmo_none))) (pl_cons (pm_sl .frz (pm_bin .frz o_add (pm_var 5) (pm_var 9)) (pmo_none) (pmo_some (pm_bin .frz o_add (pm_bin .frz o_mod (pm_var 8) (pm_int)) (pm_int)))) (pl_nil))))) (pm_var 3)))
    (pmb_one (pms_if (pb_cmp (o_notIn (units65 hr)) (by first | rfl | exact nomark _) (pm_var 10) (pm_var 7)) (pmb_one (pms_expr (pm_bu PySem.F.plainAttrs_list PySem.F.slot_list_append PySem.F.type_list_append u_append (pm_var 7) (pl_cons (pm_var 10) (pl_nil))))) (pmb_nil))))))
    (pmb_cons (pms_for (mb := b_L_words_2) pa rfl (pim_range1 (by rfl) T.b_range (pl_cons (pm_int) (pl_nil))) (pmg_name (i := 8) sc_L_words.nd rfl (by first | exact Or.inl rfl | exact Or.inr rfl)) (pmb_cons (pms_set (i := 10) sc_L_words.nd rfl (by first | exact Or.inl rfl | exact Or.inr rfl) (pm_bin .frz o_add (pm_str) (pm_ix (pm_var 2) (pm_var 8))))
    (pmb_one (pms_if (pb_cmp (o_notIn (units65 hr)) (by first | rfl | exact nomark _) (pm_var 10) (pm_var 7)) (pmb_one (pms_expr (pm_bu PySem.F.plainAttrs_list PySem.F.slot_list_append PySem.F.type_list_append u_append (pm_var 7) (pl_cons (pm_var 10) (pl_nil))))) (pmb_nil)))))
    (pmb_cons (pms_set (i := 11) sc_L_words.nd rfl (by first | exact Or.inl rfl | exact Or.inr rfl) (pm_sl .own (pm_var 7) (pmo_none) (pmo_some (pm_bin .frz o_add (pm_var 1) (pm_int)))))
    (pmb_one (pms_ret (pm_lc (own := [("_law_k", 8)]) .frz rfl sc_L_words.nd (pim_range1 (by rfl) T.b_range (pl_cons (pm_var 1) (pl_nil))) (blkOk_by (own := [("_law_k", 8)]) (N := N_L_words) (sc := defScope s_L_words) (by decide +kernel)) (fun _ _ _ _ _ => pmg_name (i := 8) sc_L_words.nd rfl (by first | exact Or.inl rfl | exact Or.inr rfl)) (fun _ _ _ _ _ => ptm_nil) (fun _ _ _ _ _ => show PM _ _ _ e_L_words_2 from pm_bu PySem.F.plainAttrs_list PySem.F.slot_list_pop PySem.F.type_list_pop u_pop (pm_var 11) (pl_cons (pm_call (ok_L_draw T) (hr.mono (by decide)) gd takes0 (by rfl) T.g_L_draw T.F_L_draw.kp T.bd_L_draw .nil (fun _ _ => .nil) (pl_cons (pm_var 0) (pl_cons (pm_callB .frz c_len (by rfl) T.b_len PySem.boot_len (pl_cons (pm_var 11) (pl_nil))) (pl_nil)))) (pl_nil))) (by decide)))))))))))
theorem ok_L_mark {gb : Bool} (T : Txt K mg) : FnM gb P w K mg base 2 T.a_L_mark T.d_L_mark ["_law_written"] f_L_mark := by
  show FnM gb P w K mg base 2 T.a_L_mark T.d_L_mark ["_law_written"] (fnM N_L_mark.length m_L_mark)
  refine fn_m (m := m_L_mark) T.F_L_mark sc_L_mark fun cdv A outer s H E hr gd tk pa => ?_
  exact pmb_cons ((let hpl := pl_cons (pm_call0 (ok_L_signs T) (hr.mono (by decide)) gd tk (by rfl) T.g_L_signs T.F_L_signs.kp T.bd_L_signs .nil) (pl_cons (pm_int) (pl_nil)); pms_par (i := 1) (j := 2) rfl sc_L_mark.nd rfl rfl (by decide) rfl rfl hpl (ps_par (by rfl) sc_L_mark.nd rfl rfl (by decide) rfl rfl hpl (by rfl))))
    (pmb_cons (pms_for (mb := b_L_mark_1) pa rfl (pim_seq (pm_var 0)) (pmg_name (i := 3) sc_L_mark.nd rfl (by first | exact Or.inl rfl | exact Or.inr rfl)) (pmb_one (pms_set (i := 2) sc_L_mark.nd rfl (by first | exact Or.inl rfl | exact Or.inr rfl) (pm_bin .frz o_mod (pm_bin .frz o_add (pm_bin .frz o_mul (pm_int) (pm_var 2)) (pm_index rfl tk (pm_var 1) (pl_cons (pm_var 3) (pl_nil)))) (pm_int)))))
    (pmb_one (pms_ret (pm_call (ok_L_thirty_two T) (hr.mono (by decide)) gd tk (by rfl) T.g_L_thirty_two T.F_L_thirty_two.kp T.bd_L_thirty_two .nil (fun _ _ => .nil) (pl_cons (pm_var 2) (pl_nil))))))
theorem ok_L_is_called {gb : Bool} (T : Txt K mg) : FnM gb P w K mg base 2 T.a_L_is_called T.d_L_is_called ["_law_it"] f_L_is_called := by
  show FnM gb P w K mg base 2 T.a_L_is_called T.d_L_is_called ["_law_it"] (fnM N_L_is_called.length m_L_is_called)
  refine fn_m (m := m_L_is_called) T.F_L_is_called sc_L_is_called fun cdv A outer s H E hr gd tk pa => ?_
  exact pmb_cons (pms_if (pwb (pw_orM (pb_not (pb_of (pm_callB .frz c_isi (by rfl) T.b_isinstance (by decide +kernel) (pl_cons (pm_var 0) (pl_cons (pm_ty (by rfl) T.b_str (by decide +kernel)) (pl_nil)))))) (pw_orM (pb_cmp (o_ne hr.units) (nomark _) (pm_sl .frz (pm_var 0) (pmo_none) (pmo_some (pm_int))) (pm_str)) (pw_orM (pb_cmp (o_ne hr.units) (nomark _) (pm_sl .frz (pm_var 0) (pmo_some (pm_neg (pm_int))) (pmo_none)) (pm_str)) (pw_orM (pb_cmp o_lt (nomark _) (pm_callB .frz c_len (by rfl) T.b_len PySem.boot_len (pl_cons (pm_var 0) (pl_nil))) (pm_int)) (pw_orM1 (pb_cmp (o_ne hr.units) (nomark _) (pm_ix (pm_var 0) (pm_int)) (pm_str)))))))) (pmb_one (pms_ret (pm_bl))) (pmb_nil))
    (pmb_one (pms_ret (pm_and (pm_call (ok_L_is_mark T) (hr.mono (by decide)) gd tk (by rfl) T.g_L_is_mark T.F_L_is_mark.kp T.bd_L_is_mark .nil (fun _ _ => .nil) (pl_cons (pm_sl .frz (pm_var 0) (pmo_some (pm_int)) (pmo_some (pm_int))) (pl_nil))) (pm_one (pm_call (ok_L_is_word T) (hr.mono (by decide)) gd tk (by rfl) T.g_L_is_word T.F_L_is_word.kp T.bd_L_is_word .nil (fun _ _ => .nil) (pl_cons (pm_sl .frz (pm_var 0) (pmo_some (pm_int)) (pmo_some (pm_neg (pm_int)))) (pl_nil)))))))
theorem ok_L_blank {gb : Bool} (T : Txt K mg) : FnM gb P w K mg base 2 T.a_L_blank T.d_L_blank ["_law_called_here"] f_L_blank := by
  show FnM gb P w K mg base 2 T.a_L_blank T.d_L_blank ["_law_called_here"] (fnM N_L_blank.length m_L_blank)
  refine fn_m (m := m_L_blank) T.F_L_blank sc_L_blank fun cdv A outer s H E hr gd tk pa => ?_
  exact pmb_one (pms_ret (pm_call (ok_L_called T) (hr.mono (by decide)) gd tk (by rfl) T.g_L_called T.F_L_called.kp T.bd_L_called .nil (fun _ _ => .nil) (pl_cons (pm_str) (pl_cons (pm_sl .frz (pm_var 0) (pmo_some (pm_int)) (pmo_some (pm_neg (pm_int)))) (pl_nil)))))
theorem ok_L_marks {gb : Bool} (T : Txt K mg) : FnM gb P w K mg base 2 T.a_L_marks T.d_L_marks ["_law_deck_here"] f_L_marks := by
  show FnM gb P w K mg base 2 T.a_L_marks T.d_L_marks ["_law_deck_here"] (fnM N_L_marks.length m_L_marks)
  refine fn_m (m := m_L_marks) T.F_L_marks sc_L_marks fun cdv A outer s H E hr gd tk pa => ?_
  exact pmb_cons (pms_set (i := 1) sc_L_marks.nd rfl (by first | exact Or.inl rfl | exact Or.inr rfl) (pm_str))
    (pmb_cons (pms_set (i := 2) sc_L_marks.nd rfl (by first | exact Or.inl rfl | exact Or.inr rfl) (pm_bm .frz PySem.F.plainAttrs_str PySem.F.slot_str_join PySem.F.type_str_join m_join (pm_str) (pl_cons (pm_lc (own := [("_law_k", 5)]) .frz rfl sc_L_marks.nd (pim_range1 (by rfl) T.b_range (pl_cons (pm_int) (pl_nil))) (blkOk_by (own := [("_law_k", 5)]) (N := N_L_marks) (sc := defScope s_L_marks) (by decide +kernel)) (fun _ _ _ _ _ => pmg_name (i := 5) sc_L_marks.nd rfl (by first | exact Or.inl rfl | exact Or.inr rfl)) (fun _ _ _ _ _ => ptm_nil) (fun _ _ _ _ _ => show PM _ _ _ e_L_marks_1 from pm_ix (pm_var 1) (pm_call (ok_L_draw T) (hr.mono (by decide)) gd takes0 (by rfl) T.g_L_draw T.F_L_draw.kp T.bd_L_draw .nil (fun _ _ => .nil) (pl_cons (pm_var 0) (pl_cons (pm_int) (pl_nil))))) (by decide)) (pl_nil))))
    (pmb_cons (pms_set (i := 3) sc_L_marks.nd rfl (by first | exact Or.inl rfl | exact Or.inr rfl) (pm_call (ok_L_draw T) (hr.mono (by decide)) gd tk (by rfl) T.g_L_draw T.F_L_draw.kp T.bd_L_draw .nil (fun _ _ => .nil) (pl_cons (pm_var 0) (pl_cons (pm_int) (pl_nil)))))
    (pmb_cons (pms_set (i := 4) sc_L_marks.nd rfl (by first | exact Or.inl rfl | exact Or.inr rfl) (pm_ix (pm_var 1) (pm_bin .frz o_mod (pm_bin .frz o_add (pm_index rfl tk (pm_var 1) (pl_cons (pm_ix (pm_var 2) (pm_var 3)) (pl_nil))) (pm_int)) (pm_int))))
    (pmb_one (pms_ret (pm_lst .frz (pl_cons (pm_var 2) (pl_cons (pm_bin .frz o_add (pm_bin .frz o_add (pm_sl .frz (pm_var 2) (pmo_none) (pmo_some (pm_var 3))) (pm_var 4)) (pm_sl .frz (pm_var 2) (pmo_some (pm_bin .frz o_add (pm_var 3) (pm_int))) (pmo_none))) (pl_cons (pm_str) (pl_nil))))))))))
theorem ok_name_at {gb : Bool} (T : Txt K mg) : FnM gb P w K mg base 3 T.a_name_at T.d_name_at ["text", "at"] f_name_at := by
  show FnM gb P w K mg base 3 T.a_name_at T.d_name_at ["text", "at"] (fnM N_name_at.length m_name_at)
  refine fn_m (m := m_name_at) T.F_name_at sc_name_at fun cdv A outer s H E hr gd tk pa => ?_
  exact pmb_cons (pms_asg (pm_bm .frz PySem.F.plainAttrs_str PySem.F.slot_str_partition PySem.F.type_str_partition m_part (pm_sl .frz (pm_var 0) (pmo_some (pm_var 1)) (pmo_some (pm_bin .frz o_add (pm_var 1) (pm_globI (by rfl) T.c_LONGEST)))) (pl_cons (pm_globS (by rfl) T.c_END) (pl_nil))) (pmg_tup rfl (pmgs_cons (pmg_name (i := 2) sc_name_at.nd rfl (by first | exact Or.inl rfl | exact Or.inr rfl)) (pmgs_cons (pmg_name (i := 3) sc_name_at.nd rfl (by first | exact Or.inl rfl | exact Or.inr rfl)) (pmgs_cons (pmg_name (i := 4) sc_name_at.nd rfl (by first | exact Or.inl rfl | exact Or.inr rfl)) (pmgs_nil))))))
    (pmb_one (pms_ret (pm_if (pb_of (pm_call (ok_is_name T) (hr.mono (by decide)) gd tk (by rfl) T.g_is_name T.F_is_name.kp T.bd_is_name .nil (fun _ _ => .nil) (pl_cons (pm_bin .frz o_add (pm_var 2) (pm_var 3)) (pl_nil)))) (pm_bin .frz o_add (pm_var 2) (pm_var 3)) (pm_non))))
theorem ok_L_spots {gb : Bool} (T : Txt K mg) : FnM gb P w K mg base 3 T.a_L_spots T.d_L_spots ["_law_written"] f_L_spots := by
  show FnM gb P w K mg base 3 T.a_L_spots T.d_L_spots ["_law_written"] (fnM N_L_spots.length m_L_spots)
  refine fn_m (m := m_L_spots) T.F_L_spots sc_L_spots fun cdv A outer s H E hr gd tk pa => ?_
  exact pmb_cons (pms_set (i := 1) sc_L_spots.nd rfl (by first | exact Or.inl rfl | exact Or.inr rfl) (pm_lst .own (pl_nil)))
    (pmb_cons (pms_for (mb := b_L_spots_1) pa rfl (pim_enum (by rfl) T.b_enumerate (pl_cons (pm_var 0) (pl_nil))) (pmg_tup rfl (pmgs_cons (pmg_name (i := 2) sc_L_spots.nd rfl (by first | exact Or.inl rfl | exact Or.inr rfl)) (pmgs_cons (pmg_name (i := 3) sc_L_spots.nd rfl (by first | exact Or.inl rfl | exact Or.inr rfl)) (pmgs_nil)))) (pmb_cons (pms_set (i := 4) sc_L_spots.nd rfl (by first | exact Or.inl rfl | exact Or.inr rfl) (pm_sl .frz (pm_var 0) (pmo_some (pm_var 2)) (pmo_some (pm_bin .frz o_add (pm_bin .frz o_add (pm_var 2) (pm_int)) (pm_index rfl tk (pm_bin .frz o_add (pm_sl .frz (pm_var 0) (pmo_some (pm_var 2)) (pmo_some (pm_bin .frz o_add (pm_var 2) (pm_int)))) (pm_str)) (pl_cons (pm_str) (pl_nil)))))))
    (pmb_one (pms_if (pwb (pw_andM (pb_cmp (o_eq hr.units) (nomark _) (pm_var 3) (pm_str)) (pw_andM1 (pb_of (pm_call (ok_L_is_called T) (hr.mono (by decide)) gd tk (by rfl) T.g_L_is_called T.F_L_is_called.kp T.bd_L_is_called .nil (fun _ _ => .nil) (pl_cons (pm_var 4) (pl_nil))))))) (pmb_one (pms_expr (pm_bu PySem.F.plainAttrs_list PySem.F.slot_list_append PySem.F.type_list_append u_append (pm_var 1) (pl_cons (pm_tup (pl_cons (pm_var 2) (pl_cons (pm_var 4) (pl_nil)))) (pl_nil))))) (pmb_nil)))))
    (pmb_one (pms_ret (pm_fz (pm_var 1)))))
theorem ok_L_piece {gb : Bool} (T : Txt K mg) : FnM gb P w K mg base 3 T.a_L_piece T.d_L_piece ["_law_deck_here", "_law_pool"] f_L_piece := by
  show FnM gb P w K mg base 3 T.a_L_piece T.d_L_piece ["_law_deck_here", "_law_pool"] (fnM N_L_piece.length m_L_piece)
  refine fn_m (m := m_L_piece) T.F_L_piece sc_L_piece fun cdv A outer s H E hr gd tk pa => ?_
  exact pmb_cons ((let hpl := pl_cons (pm_call (ok_L_draw T) (hr.mono (by decide)) gd tk (by rfl) T.g_L_draw T.F_L_draw.kp T.bd_L_draw .nil (fun _ _ => .nil) (pl_cons (pm_var 0) (pl_cons (pm_int) (pl_nil)))) (pl_cons (pm_call (ok_L_pick T) (hr.mono (by decide)) gd tk (by rfl) T.g_L_pick T.F_L_pick.kp T.bd_L_pick .nil (fun _ _ => .nil) (pl_cons (pm_var 0) (pl_cons (pm_var 1) (pl_nil)))) (pl_nil)); pms_par (i := 2) (j := 3) rfl sc_L_piece.nd rfl rfl (by decide) rfl rfl hpl (ps_par (by rfl) sc_L_piece.nd rfl rfl (by decide) rfl rfl hpl (by rfl))))
    (pmb_cons (pms_set (i := 4) sc_L_piece.nd rfl (by first | exact Or.inl rfl | exact Or.inr rfl) (pm_call (ok_L_draw T) (hr.mono (by decide)) gd tk (by rfl) T.g_L_draw T.F_L_draw.kp T.bd_L_draw .nil (fun _ _ => .nil) (pl_cons (pm_var 0) (pl_cons (pm_callB .frz c_len (by rfl) T.b_len PySem.boot_len (pl_cons (pm_var 3) (pl_nil))) (pl_nil)))))
    (pmb_cons (pms_set (i := 5) sc_L_piece.nd rfl (by first | exact Or.inl rfl | exact Or.inr rfl) (pm_call (ok_L_pick T) (hr.mono (by decide)) gd tk (by rfl) T.g_L_pick T.F_L_pick.kp T.bd_L_pick .nil (fun _ _ => .nil) (pl_cons (pm_var 0) (pl_cons (pm_ix (pm_lst .frz (pl_cons (pm_str) (pl_cons (pm_call0 (ok_L_signs T) (hr.mono (by decide)) gd tk (by rfl) T.g_L_signs T.F_L_signs.kp T.bd_L_signs .nil) (pl_nil)))) (pm_call (ok_L_draw T) (hr.mono (by decide)) gd tk (by rfl) T.g_L_draw T.F_L_draw.kp T.bd_L_draw .nil (fun _ _ => .nil) (pl_cons (pm_var 0) (pl_cons (pm_int) (pl_nil))))) (pl_nil)))))
    (pmb_cons (pms_set (i := 6) sc_L_piece.nd rfl (by first | exact Or.inl rfl | exact Or.inr rfl) (pm_call (ok_L_pick T) (hr.mono (by decide)) gd tk (by rfl) T.g_L_pick T.F_L_pick.kp T.bd_L_pick .nil (fun _ _ => .nil) (pl_cons (pm_var 0) (pl_cons (pm_lst .frz (pl_cons (pm_str) (pl_cons (pm_str) (pl_cons (pm_str) (pl_cons (pm_str) (pl_cons (pm_str) (pl_cons (pm_str) (pl_nil)))))))) (pl_nil)))))
    (pmb_cons (pms_set (i := 7) sc_L_piece.nd rfl (by first | exact Or.inl rfl | exact Or.inr rfl) (pm_lst .frz (pl_cons (pm_var 3) (pl_cons (pm_var 3) (pl_cons (pm_var 3) (pl_cons (pm_bin .frz o_add (pm_sl .frz (pm_var 3) (pmo_none) (pmo_some (pm_var 4))) (pm_sl .frz (pm_var 3) (pmo_some (pm_bin .frz o_add (pm_var 4) (pm_int))) (pmo_none))) (pl_cons (pm_bin .frz o_add (pm_bin .frz o_add (pm_sl .frz (pm_var 3) (pmo_none) (pmo_some (pm_var 4))) (pm_var 5)) (pm_sl .frz (pm_var 3) (pmo_some (pm_var 4)) (pmo_none))) (pl_cons (pm_bin .frz o_add (pm_bin .frz o_add (pm_sl .frz (pm_var 3) (pmo_none) (pmo_some (pm_var 4))) (pm_var 5)) (pm_sl .frz (pm_var 3) (pmo_some (pm_bin .frz o_add (pm_var 4) (pm_int))) (pmo_none))) (pl_nil)))))))))
    (pmb_one (pms_ret (pm_ix (pm_bin .frz o_add (pm_var 7) (pm_lst .frz (pl_cons (pm_var 5) (pl_cons (pm_bin .frz o_mul (pm_str) (pm_call (ok_L_draw T) (hr.mono (by decide)) gd tk (by rfl) T.g_L_draw T.F_L_draw.kp T.bd_L_draw .nil (fun _ _ => .nil) (pl_cons (pm_var 0) (pl_cons (pm_int) (pl_nil))))) (pl_cons (pm_sl .frz (pm_var 3) (pmo_none) (pmo_some (pm_var 4))) (pl_cons (pm_var 6) (pl_nil))))))) (pm_var 2))))))))
theorem ok_places_in {gb : Bool} (T : Txt K mg) : FnM gb P w K mg base 4 T.a_places_in T.d_places_in ["text"] f_places_in := by
  show FnM gb P w K mg base 4 T.a_places_in T.d_places_in ["text"] (fnM N_places_in.length m_places_in)
  refine fn_m (m := m_places_in) T.F_places_in sc_places_in fun cdv A outer s H E hr gd tk pa => ?_
  exact pmb_cons (pms_setLc (own := [("at", 2), ("sign", 3)]) (i := 1) .frz rfl sc_places_in.nd rfl rfl (sw_true rfl rfl rfl (by decide +kernel)) (pim_enum (by rfl) T.b_enumerate (pl_cons (pm_var 0) (pl_nil))) (blkOk_by (own := [("at", 2), ("sign", 3)]) (N := N_places_in) (sc := defScope s_places_in) (by decide +kernel)) (fun _ _ _ _ _ => pmg_tup rfl (pmgs_cons (pmg_name (i := 2) sc_places_in.nd rfl (by first | exact Or.inl rfl | exact Or.inr rfl)) (pmgs_cons (pmg_name (i := 3) sc_places_in.nd rfl (by first | exact Or.inl rfl | exact Or.inr rfl)) (pmgs_nil)))) (fun _ _ _ _ _ => ptm_one (m := t_places_in_1) (pb_cmp (o_eq hr.units) (nomark _) (pm_var 3) (pm_globS (by rfl) T.c_BEGIN))) (fun _ _ _ _ _ => show PM _ _ _ e_places_in_1 from pm_tup (pl_cons (pm_var 2) (pl_cons (pm_call (ok_name_at T) (hr.mono (by decide)) gd takes0 (by rfl) T.g_name_at T.F_name_at.kp T.bd_name_at .nil (fun _ _ => .nil) (pl_cons (pm_var 0) (pl_cons (pm_var 2) (pl_nil)))) (pl_nil)))) (by decide))
    (pmb_one (pms_ret (pm_lc (own := [("at", 2), ("name", 4)]) .frz rfl sc_places_in.nd (pim_seq (pm_var 1)) (blkOk_by (own := [("at", 2), ("name", 4)]) (N := N_places_in) (sc := defScope s_places_in) (by decide +kernel)) (fun _ _ _ _ _ => pmg_tup rfl (pmgs_cons (pmg_name (i := 2) sc_places_in.nd rfl (by first | exact Or.inl rfl | exact Or.inr rfl)) (pmgs_cons (pmg_name (i := 4) sc_places_in.nd rfl (by first | exact Or.inl rfl | exact Or.inr rfl)) (pmgs_nil)))) (fun _ _ _ _ _ => ptm_one (m := t_places_in_2) (pb_cmp o_isnot (nomark _) (pm_var 4) (pm_non))) (fun _ _ _ _ _ => show PM _ _ _ e_places_in_2 from pm_tup (pl_cons (pm_var 2) (pl_cons (pm_var 4) (pl_nil)))) (by decide))))
theorem ok_L_turned {gb : Bool} (T : Txt K mg) : FnM gb P w K mg base 4 T.a_L_turned T.d_L_turned ["_law_written", "_law_table"] f_L_turned := by
  show FnM gb P w K mg base 4 T.a_L_turned T.d_L_turned ["_law_written", "_law_table"] (fnM N_L_turned.length m_L_turned)
  refine fn_m (m := m_L_turned) T.F_L_turned sc_L_turned fun cdv A outer s H E hr gd tk pa => ?_
  exact pmb_cons (pms_asg (pm_tup (pl_cons (pm_str) (pl_cons (pm_int) (pl_nil)))) (pmg_tup rfl (pmgs_cons (pmg_name (i := 2) sc_L_turned.nd rfl (by first | exact Or.inl rfl | exact Or.inr rfl)) (pmgs_cons (pmg_name (i := 3) sc_L_turned.nd rfl (by first | exact Or.inl rfl | exact Or.inr rfl)) (pmgs_nil)))))
    (pmb_cons (pms_for (mb := b_L_turned_1) pa rfl (pim_seq (pm_call (ok_L_spots T) (hr.mono (by decide)) gd tk (by rfl) T.g_L_spots T.F_L_spots.kp T.bd_L_spots .nil (fun _ _ => .nil) (pl_cons (pm_var 0) (pl_nil)))) (pmg_tup rfl (pmgs_cons (pmg_name (i := 4) sc_L_turned.nd rfl (by first | exact Or.inl rfl | exact Or.inr rfl)) (pmgs_cons (pmg_name (i := 5) sc_L_turned.nd rfl (by first | exact Or.inl rfl | exact Or.inr rfl)) (pmgs_nil)))) (pmb_one (pms_if (pb_din (units1 hr) (pm_var 5) (pm_var 1)) (pmb_cons (pms_set (i := 2) sc_L_turned.nd rfl (by first | exact Or.inl rfl | exact Or.inr rfl) (pm_bin .frz o_add (pm_bin .frz o_add (pm_var 2) (pm_sl .frz (pm_var 0) (pmo_some (pm_var 3)) (pmo_some (pm_var 4)))) (pm_dix (units1 hr) (pm_var 1) (pm_var 5) (fun _ _ => rfl))))
    (pmb_one (pms_set (i := 3) sc_L_turned.nd rfl (by first | exact Or.inl rfl | exact Or.inr rfl) (pm_bin .frz o_add (pm_var 4) (pm_callB .frz c_len (by rfl) T.b_len PySem.boot_len (pl_cons (pm_var 5) (pl_nil))))))) (pmb_nil))))
    (pmb_one (pms_ret (pm_bin .frz o_add (pm_var 2) (pm_sl .frz (pm_var 0) (pmo_some (pm_var 3)) (pmo_none))))))
theorem ok_turned_text {gb : Bool} (T : Txt K mg) : FnM gb P w K mg base 5 T.a_turned_text T.d_turned_text ["text", "pairs"] f_turned_text := by
  show FnM gb P w K mg base 5 T.a_turned_text T.d_turned_text ["text", "pairs"] (fnM N_turned_text.length m_turned_text)
  refine fn_m (m := m_turned_text) T.F_turned_text sc_turned_text fun cdv A outer s H E hr gd tk pa => ?_
  exact pmb_cons (pms_set (i := 2) sc_turned_text.nd rfl (by first | exact Or.inl rfl | exact Or.inr rfl) (pm_dictP rfl (by rfl) T.b_dict (pl_cons (pm_var 1) (pl_nil))))
    (pmb_cons (pms_set (i := 3) sc_turned_text.nd rfl (by first | exact Or.inl rfl | exact Or.inr rfl) (pm_str))
    (pmb_cons (pms_set (i := 4) sc_turned_text.nd rfl (by first | exact Or.inl rfl | exact Or.inr rfl) (pm_int))
    (pmb_cons (pms_for (mb := b_turned_text_1) pa rfl (pim_seq (pm_call (ok_places_in T) (hr.mono (by decide)) gd tk (by rfl) T.g_places_in T.F_places_in.kp T.bd_places_in .nil (fun _ _ => .nil) (pl_cons (pm_var 0) (pl_nil)))) (pmg_tup rfl (pmgs_cons (pmg_name (i := 5) sc_turned_text.nd rfl (by first | exact Or.inl rfl | exact Or.inr rfl)) (pmgs_cons (pmg_name (i := 6) sc_turned_text.nd rfl (by first | exact Or.inl rfl | exact Or.inr rfl)) (pmgs_nil)))) (pmb_cons (pms_set (i := 3) sc_turned_text.nd rfl (by first | exact Or.inl rfl | exact Or.inr rfl) (pm_bin .frz o_add (pm_bin .frz o_add (pm_var 3) (pm_sl .frz (pm_var 0) (pmo_some (pm_var 4)) (pmo_some (pm_var 5)))) (pm_dget (units1 hr) (pm_var 2) (pm_var 6) (pm_var 6) ⟨rfl, rfl, rfl, rfl⟩)))
    (pmb_one (pms_set (i := 4) sc_turned_text.nd rfl (by first | exact Or.inl rfl | exact Or.inr rfl) (pm_bin .frz o_add (pm_var 5) (pm_callB .frz c_len (by rfl) T.b_len PySem.boot_len (pl_cons (pm_var 6) (pl_nil))))))))
    (pmb_one (pms_ret (pm_bin .frz o_add (pm_var 3) (pm_sl .frz (pm_var 0) (pmo_some (pm_var 4)) (pmo_none))))))))
theorem ok_L_blank_text {gb : Bool} (T : Txt K mg) : FnM gb P w K mg base 5 T.a_L_blank_text T.d_L_blank_text ["_law_called_here", "_law_written"] f_L_blank_text := by
  show FnM gb P w K mg base 5 T.a_L_blank_text T.d_L_blank_text ["_law_called_here", "_law_written"] (fnM N_L_blank_text.length m_L_blank_text)
  refine fn_m (m := m_L_blank_text) T.F_L_blank_text sc_L_blank_text fun cdv A outer s H E hr gd tk pa => ?_
  exact pmb_one (pms_ret (pm_call (ok_L_turned T) (hr.mono (by decide)) gd tk (by rfl) T.g_L_turned T.F_L_turned.kp T.bd_L_turned .nil (fun _ _ => .nil) (pl_cons (pm_var 1) (pl_cons (pm_dct (pmps_cons (pm_var 0) (pm_call (ok_L_blank T) (hr.mono (by decide)) gd tk (by rfl) T.g_L_blank T.F_L_blank.kp T.bd_L_blank .nil (fun _ _ => .nil) (pl_cons (pm_var 0) (pl_nil))) (pmps_nil)) (by rfl) (by rfl) (fun h => nomatch h) (by decide)) (pl_nil)))))
theorem vtab_ok {gb : Bool} (T : Txt K mg) : ∀ t ∈ vTab, VOk gb P w K mg base 2 t := by
  intro t ht
  simp only [vTab, List.mem_cons, List.not_mem_nil, or_false] at ht
  rcases ht with rfl | rfl | rfl
  · exact ⟨T.a_mark_of, T.d_mark_of, ["text"], T.n_mark_of, (ok_mark_of T).mono (by decide), rfl, T.F_mark_of.kp, T.bd_mark_of⟩
  · exact ⟨T.a_L_mark, T.d_L_mark, ["_law_written"], T.n_L_mark, (ok_L_mark T).mono (by decide), rfl, T.F_L_mark.kp, T.bd_L_mark⟩
  · exact ⟨T.a_L_weak, T.d_L_weak, ["_law_written"], T.n_L_weak, (ok_L_weak T).mono (by decide), rfl, T.F_L_weak.kp, T.bd_L_weak⟩
theorem okz_thing_mark {gb : Bool} (T : Txt K mg) : DzM gb P w K mg base 6 1 T.a_thing_mark T.d_thing_mark ["name", "text", "digest"] "thing_mark" (defScope s_thing_mark) N_thing_mark (fun fa es us dz => fnM N_thing_mark.length (mz_thing_mark fa es us dz)) := by
  refine dz_m T.F_thing_mark sc_thing_mark fun fa es us dz cdv A outer s H E hr gd tk pa act => ?_
  exact pmb_cons (pms_set (i := 3) sc_thing_mark.nd rfl (by first | exact Or.inl rfl | exact Or.inr rfl) (pm_if (pb_cmp o_is (nomark _) (pm_var 2) (pm_non)) (pm_fnv (by rfl) T.g_mark_of T.n_mark_of) (pm_var 2)))
    (pmb_one (pms_ret (pm_actX act tk (pl_cons (pm_call (ok_turned_text T) (hr.mono (by decide)) gd tk (by rfl) T.g_turned_text T.F_turned_text.kp T.bd_turned_text .nil (fun _ _ => .nil) (pl_cons (pm_var 1) (pl_cons (pm_tup (pl_cons (pm_tup (pl_cons (pm_var 0) (pl_cons (pm_call (ok_blank_of T) (hr.mono (by decide)) gd tk (by rfl) T.g_blank_of T.F_blank_of.kp T.bd_blank_of .nil (fun _ _ => .nil) (pl_cons (pm_var 0) (pl_nil))) (pl_nil)))) (pl_nil))) (pl_nil)))) (pl_nil)))))
theorem ok_thing_mark {gb : Bool} (T : Txt K mg) : FnM gb P w K mg base 6 T.a_thing_mark T.d_thing_mark ["name", "text", "digest"] f_thing_mark := by
  show FnM gb P w K mg base 6 T.a_thing_mark T.d_thing_mark ["name", "text", "digest"] (fnM N_thing_mark.length m_thing_mark)
  refine fn_m (m := m_thing_mark) T.F_thing_mark sc_thing_mark fun cdv A outer s H E hr gd tk pa => ?_
  exact pmb_cons (pms_set (i := 3) sc_thing_mark.nd rfl (by first | exact Or.inl rfl | exact Or.inr rfl) (pm_if (pb_cmp o_is (nomark _) (pm_var 2) (pm_non)) (pm_fnv (by rfl) T.g_mark_of T.n_mark_of) (pm_var 2)))
    (pmb_one (pms_ret (pm_callV (vtab_ok T) (hr.mono (by decide)) gd tk (pl_cons (pm_call (ok_turned_text T) (hr.mono (by decide)) gd tk (by rfl) T.g_turned_text T.F_turned_text.kp T.bd_turned_text .nil (fun _ _ => .nil) (pl_cons (pm_var 1) (pl_cons (pm_tup (pl_cons (pm_tup (pl_cons (pm_var 0) (pl_cons (pm_call (ok_blank_of T) (hr.mono (by decide)) gd tk (by rfl) T.g_blank_of T.F_blank_of.kp T.bd_blank_of .nil (fun _ _ => .nil) (pl_cons (pm_var 0) (pl_nil))) (pl_nil)))) (pl_nil))) (pl_nil)))) (pl_nil)))))
theorem nd_L_right_L_noted {gb : Bool} (T : Txt K mg) (cl : List (Str × Addr)) (c : Addr) : NdM gb P w K mg base 3 ["_law_some"] ["_law_asked"] (NF.of st_L_right_L_noted "_law_noted" q_L_right_L_noted cl c) z_L_right_L_noted := by
  refine nd_m nsc_L_right_L_noted (fun doc pm ctv us h => ?_) fun f A outer s H E hr gd tk pa => ?_
  · match us, h with
    | [_], _ => rfl
  · exact pmb_cons (pms_expr (pm_bu PySem.F.plainAttrs_list PySem.F.slot_list_append PySem.F.type_list_append u_append (pm_var 1) (pl_cons (pm_var 0) (pl_nil))))
        (pmb_one (pms_ret (pm_str)))
theorem ok_L_right {gb : Bool} (T : Txt K mg) (B : LamB K mg base "_law_right" T.a_L_right T.d_L_right) : FnM gb P w K mg base 7 T.a_L_right T.d_L_right ["_law_own", "_law_written"] f_L_right := by
  show FnM gb P w K mg base 7 T.a_L_right T.d_L_right ["_law_own", "_law_written"] (fnM N_L_right.length m_L_right)
  refine fn_mL (n := "_law_right") (m := m_L_right) B T.F_L_right sc_L_right fun cdv hT A outer s H E hr gd tk pa => ?_
  exact pmb_cons (pms_set (i := 2) sc_L_right.nd rfl (by first | exact Or.inl rfl | exact Or.inr rfl) (pm_lst .ref (pl_nil)))
    (pmb_ndef st_L_right_L_noted_eq hT (ndef_free ndb_L_right_L_noted) (by rfl) (by rfl) (by rfl) sc_L_right.nd (by rfl) (by first | exact Or.inl rfl | exact Or.inr rfl) (by first | exact .inl rfl | exact .inr rfl) (fun zf zc zl hzl => pmb_cons (pms_set (i := 4) sc_L_right.nd rfl (by first | exact Or.inl rfl | exact Or.inr rfl) (pm_call (ok_L_blank_text T) (hr.mono (by decide)) gd tk (by rfl) T.g_L_blank_text T.F_L_blank_text.kp T.bd_L_blank_text .nil (fun _ _ => .nil) (pl_cons (pm_var 0) (pl_cons (pm_var 1) (pl_nil)))))
    (pmb_cons (pms_set (i := 5) sc_L_right.nd rfl (by first | exact Or.inl rfl | exact Or.inr rfl) (pm_call (ok_L_mark T) (hr.mono (by decide)) gd tk (by rfl) T.g_L_mark T.F_L_mark.kp T.bd_L_mark .nil (fun _ _ => .nil) (pl_cons (pm_var 4) (pl_nil))))
    (pmb_cons (pms_set (i := 6) sc_L_right.nd rfl (by first | exact Or.inl rfl | exact Or.inr rfl) (pm_lst .frz (pl_cons (pm_callKP (ks := []) (ok_thing_mark T) (hr.mono (by decide)) gd tk (by rfl) T.g_thing_mark T.F_thing_mark.kp (T.sb_0) (T.sv_0) (fun _ _ => T.sd_0 _ _) (fun _ _ _ _ h => len_of_cons (fun _ _ _ _ h => len_of_cons (fun _ _ _ _ h => len_of_nil h) h) h) (fun _ _ _ _ h => len_of_nil h) (pl_cons (pm_var 0) (pl_cons (pm_var 1) (pl_nil))) (plk_nil)) (pl_cons (pm_callKP (ks := ["digest"]) (ok_thing_mark T) (hr.mono (by decide)) gd tk (by rfl) T.g_thing_mark T.F_thing_mark.kp (T.sb_1) (T.sv_1) (fun _ _ => T.sd_1 _ _) (fun _ _ _ _ h => len_of_cons (fun _ _ _ _ h => len_of_cons (fun _ _ _ _ h => len_of_nil h) h) h) (fun _ _ _ _ h => len_of_cons (fun _ _ _ _ h => len_of_nil h) h) (pl_cons (pm_var 0) (pl_cons (pm_var 1) (pl_nil))) (plk_cons (pm_non) (plk_nil))) (pl_cons (pm_callK0 (ks := ["text", "name"]) (ok_thing_mark T) (hr.mono (by decide)) gd tk (by rfl) T.g_thing_mark T.F_thing_mark.kp (fun s ws r X l e => T.sb_2 s [] ws r X rfl l e) (T.sv_2) (fun _ _ => T.sd_2 _ _) (fun _ _ _ _ h => len_of_cons (fun _ _ _ _ h => len_of_cons (fun _ _ _ _ h => len_of_nil h) h) h) (plk_cons (pm_var 1) (plk_cons (pm_var 0) (plk_nil)))) (pl_nil))))))
    (pmb_cons (pms_set (i := 6) sc_L_right.nd rfl (by first | exact Or.inl rfl | exact Or.inr rfl) (pm_bin .frz o_add (pm_var 6) (pm_lst .frz (pl_cons (pm_callKP (ks := ["digest"]) (ok_thing_mark T) (hr.mono (by decide)) gd tk (by rfl) T.g_thing_mark T.F_thing_mark.kp (T.sb_1) (T.sv_1) (fun _ _ => T.sd_1 _ _) (fun _ _ _ _ h => len_of_cons (fun _ _ _ _ h => len_of_cons (fun _ _ _ _ h => len_of_nil h) h) h) (fun _ _ _ _ h => len_of_cons (fun _ _ _ _ h => len_of_nil h) h) (pl_cons (pm_var 0) (pl_cons (pm_var 1) (pl_nil))) (plk_cons (pm_fnv (by rfl) T.g_L_mark T.n_L_mark) (plk_nil))) (pl_cons (pm_call (ok_mark_of T) (hr.mono (by decide)) gd tk (by rfl) T.g_mark_of T.F_mark_of.kp T.bd_mark_of .nil (fun _ _ => .nil) (pl_cons (pm_var 4) (pl_nil))) (pl_nil))))))
    (pmb_cons (pms_if (pwb (pw_orM (pb_cmp (o_ne hr.units) (nomark _) (pm_var 6) (pm_bin .frz o_mul (pm_lst .frz (pl_cons (pm_var 5) (pl_nil))) (pm_int))) (pw_orM1 (pb_cmp (o_ne hr.units) (nomark _) (pm_callKP (ks := ["digest"]) (ok_thing_mark T) (hr.mono (by decide)) gd tk (by rfl) T.g_thing_mark T.F_thing_mark.kp (T.sb_1) (T.sv_1) (fun _ _ => T.sd_1 _ _) (fun _ _ _ _ h => len_of_cons (fun _ _ _ _ h => len_of_cons (fun _ _ _ _ h => len_of_nil h) h) h) (fun _ _ _ _ h => len_of_cons (fun _ _ _ _ h => len_of_nil h) h) (pl_cons (pm_var 0) (pl_cons (pm_var 1) (pl_nil))) (plk_cons (pm_fnv (by rfl) T.g_L_weak T.n_L_weak) (plk_nil))) (pm_call (ok_L_weak T) (hr.mono (by decide)) gd tk (by rfl) T.g_L_weak T.F_L_weak.kp T.bd_L_weak .nil (fun _ _ => .nil) (pl_cons (pm_var 4) (pl_nil))))))) (pmb_one (pms_ret (pm_bl))) (pmb_nil))
    (pmb_one (pms_ret (pm_and (pm_cmp (o_eq hr.units) (nomark _) (pm_callHd (psN := ["_law_some"]) (fr := ["_law_asked"]) (ks := ["digest"]) hzl (okz_thing_mark T) (fun c2 => nd_L_right_L_noted T zl c2) (ndef_free ndb_L_right_L_noted) (ndef_fr ndb_L_right_L_noted) (by rfl) (hr.mono (by decide)) (hr.mono (by decide)) gd tk (by rfl) T.g_thing_mark T.F_thing_mark.kp (T.sb_1) (T.sv_1) (fun _ _ => T.sd_1 _ _) (fun _ _ _ _ h => len_of_cons (fun _ _ _ _ h => len_of_cons (fun _ _ _ _ h => len_of_nil h) h) h) (fun _ _ _ _ h => len_of_cons (fun _ _ _ _ h => len_of_nil h) h) (pl_cons (pm_var 0) (pl_cons (pm_var 1) (pl_nil))) (plk_cons (pm_var 3) (plk_nil))) (pm_str)) (pm_one (pm_cmp (o_in (units65 hr)) (by first | rfl | exact nomark _) (pm_var 4) (pm_var 2))))))))))))
theorem ok_law (T : Txt K mg) (B : LamB K mg base "_law_right" T.a_L_right T.d_L_right) : FnTop P w K mg base 8 T.a_law T.d_law ["_law_script"] "_law_right" N_law.length m_law := by
  refine fn_top (m := m_law) T.F_law sc_law fun cdv A outer s H E hr gd tk pa => ?_
  exact pmb_tab (pms_set (i := 1) sc_law.nd rfl (by first | exact Or.inl rfl | exact Or.inr rfl) (pm_call (ok_L_deck T) (hr.mono (by decide)) gd tk (by rfl) T.g_L_deck T.F_L_deck.kp T.bd_L_deck .nil (fun _ _ => .nil) (pl_cons (pm_var 0) (pl_nil))))
    (pmb_cons (pms_for (mb := b_law_1) pa rfl (pim_range1 (by rfl) T.b_range (pl_cons (pm_int) (pl_nil))) (pmg_name (i := 2) sc_law.nd rfl (by first | exact Or.inl rfl | exact Or.inr rfl)) (pmb_cons (pms_asg (pm_call (ok_L_words T) (hr.mono (by decide)) gd tk (by rfl) T.g_L_words T.F_L_words.kp T.bd_L_words .nil (fun _ _ => .nil) (pl_cons (pm_var 1) (pl_cons (pm_int) (pl_nil)))) (pmg_tup rfl (pmgs_cons (pmg_name (i := 3) sc_law.nd rfl (by first | exact Or.inl rfl | exact Or.inr rfl)) (pmgs_cons (pmg_name (i := 4) sc_law.nd rfl (by first | exact Or.inl rfl | exact Or.inr rfl)) (pmgs_nil)))))
    (pmb_cons (pms_set (i := 5) sc_law.nd rfl (by first | exact Or.inl rfl | exact Or.inr rfl) (pm_call (ok_L_marks T) (hr.mono (by decide)) gd tk (by rfl) T.g_L_marks T.F_L_marks.kp T.bd_L_marks .nil (fun _ _ => .nil) (pl_cons (pm_var 1) (pl_nil))))
    (pmb_cons (pms_set (i := 6) sc_law.nd rfl (by first | exact Or.inl rfl | exact Or.inr rfl) (pm_bin .frz o_add (pm_lc (own := [("_law_one", 10)]) .frz rfl sc_law.nd (pim_seq (pm_var 5)) (blkOk_by (own := [("_law_one", 10)]) (N := N_law) (sc := defScope s_law) (by decide +kernel)) (fun _ _ _ _ _ => pmg_name (i := 10) sc_law.nd rfl (by first | exact Or.inl rfl | exact Or.inr rfl)) (fun _ _ _ _ _ => ptm_nil) (fun _ _ _ _ _ => show PM _ _ _ e_law_1 from pm_call (ok_name_with T) (hr.mono (by decide)) gd takes0 (by rfl) T.g_name_with T.F_name_with.kp T.bd_name_with .nil (fun _ _ => .nil) (pl_cons (pm_var 10) (pl_cons (pm_var 3) (pl_nil)))) (by decide)) (pm_lc (own := [("_law_one", 10)]) .frz rfl sc_law.nd (pim_seq (pm_var 5)) (blkOk_by (own := [("_law_one", 10)]) (N := N_law) (sc := defScope s_law) (by decide +kernel)) (fun _ _ _ _ _ => pmg_name (i := 10) sc_law.nd rfl (by first | exact Or.inl rfl | exact Or.inr rfl)) (fun _ _ _ _ _ => ptm_nil) (fun _ _ _ _ _ => show PM _ _ _ e_law_2 from pm_call (ok_name_with T) (hr.mono (by decide)) gd takes0 (by rfl) T.g_name_with T.F_name_with.kp T.bd_name_with .nil (fun _ _ => .nil) (pl_cons (pm_var 10) (pl_cons (pm_var 4) (pl_nil)))) (by decide))))
    (pmb_cons (pms_asg (pm_tup (pl_cons (pm_ix (pm_var 6) (pm_call (ok_L_draw T) (hr.mono (by decide)) gd tk (by rfl) T.g_L_draw T.F_L_draw.kp T.bd_L_draw .nil (fun _ _ => .nil) (pl_cons (pm_var 1) (pl_cons (pm_int) (pl_nil))))) (pl_cons (pm_ix (pm_var 6) (pm_call (ok_L_draw T) (hr.mono (by decide)) gd tk (by rfl) T.g_L_draw T.F_L_draw.kp T.bd_L_draw .nil (fun _ _ => .nil) (pl_cons (pm_var 1) (pl_cons (pm_int) (pl_nil))))) (pl_nil)))) (pmg_tup rfl (pmgs_cons (pmg_name (i := 7) sc_law.nd rfl (by first | exact Or.inl rfl | exact Or.inr rfl)) (pmgs_cons (pmg_name (i := 8) sc_law.nd rfl (by first | exact Or.inl rfl | exact Or.inr rfl)) (pmgs_nil)))))
    (pmb_cons (pms_if (pwb (pw_orM (pb_cmp (o_ne hr.units) (nomark _) (pm_lc (own := [("_law_one", 10)]) .frz rfl sc_law.nd (pim_seq (pm_var 6)) (blkOk_by (own := [("_law_one", 10)]) (N := N_law) (sc := defScope s_law) (by decide +kernel)) (fun _ _ _ _ _ => pmg_name (i := 10) sc_law.nd rfl (by first | exact Or.inl rfl | exact Or.inr rfl)) (fun _ _ _ _ _ => ptm_nil) (fun _ _ _ _ _ => show PM _ _ _ e_law_3 from pm_call (ok_blank_of T) (hr.mono (by decide)) gd takes0 (by rfl) T.g_blank_of T.F_blank_of.kp T.bd_blank_of .nil (fun _ _ => .nil) (pl_cons (pm_var 10) (pl_nil))) (by decide)) (pm_lc (own := [("_law_one", 10)]) .frz rfl sc_law.nd (pim_seq (pm_var 6)) (blkOk_by (own := [("_law_one", 10)]) (N := N_law) (sc := defScope s_law) (by decide +kernel)) (fun _ _ _ _ _ => pmg_name (i := 10) sc_law.nd rfl (by first | exact Or.inl rfl | exact Or.inr rfl)) (fun _ _ _ _ _ => ptm_nil) (fun _ _ _ _ _ => show PM _ _ _ e_law_4 from pm_call (ok_L_blank T) (hr.mono (by decide)) gd takes0 (by rfl) T.g_L_blank T.F_L_blank.kp T.bd_L_blank .nil (fun _ _ => .nil) (pl_cons (pm_var 10) (pl_nil))) (by decide))) (pw_orM1 (pb_cmp (o_ne hr.units) (nomark _) (pm_callK0 (ks := ["name"]) (ok_blank_of T) (hr.mono (by decide)) gd tk (by rfl) T.g_blank_of T.F_blank_of.kp (T.k_blank_of_name) .nil (fun _ _ => .nil) (fun _ _ _ _ h => len_of_cons (fun _ _ _ _ h => len_of_nil h) h) (plk_cons (pm_var 7) (plk_nil))) (pm_ix (pm_var 6) (pm_int)))))) (pmb_one (pms_ret (pm_bl))) (pmb_nil))
    (pmb_cons (pms_set (i := 9) sc_law.nd rfl (by first | exact Or.inl rfl | exact Or.inr rfl) (pm_bm .frz PySem.F.plainAttrs_str PySem.F.slot_str_join PySem.F.type_str_join m_join (pm_str) (pl_cons (pm_lc (own := [("_law_k", 13)]) .frz rfl sc_law.nd (pim_range1 (by rfl) T.b_range (pl_cons (pm_call (ok_L_draw T) (hr.mono (by decide)) gd tk (by rfl) T.g_L_draw T.F_L_draw.kp T.bd_L_draw .nil (fun _ _ => .nil) (pl_cons (pm_var 1) (pl_cons (pm_int) (pl_nil)))) (pl_nil))) (blkOk_by (own := [("_law_k", 13)]) (N := N_law) (sc := defScope s_law) (by decide +kernel)) (fun _ _ _ _ _ => pmg_name (i := 13) sc_law.nd rfl (by first | exact Or.inl rfl | exact Or.inr rfl)) (fun _ _ _ _ _ => ptm_nil) (fun _ _ _ _ _ => show PM _ _ _ e_law_5 from pm_call (ok_L_piece T) (hr.mono (by decide)) gd takes0 (by rfl) T.g_L_piece T.F_L_piece.kp T.bd_L_piece .nil (fun _ _ => .nil) (pl_cons (pm_var 1) (pl_cons (pm_bin .frz o_add (pm_var 6) (pm_bin .frz o_mul (pm_lst .frz (pl_cons (pm_var 7) (pl_nil))) (pm_int))) (pl_nil)))) (by decide)) (pl_nil))))
    (pmb_cons (pms_for (mb := b_law_2) pa rfl (pim_seq (pm_tup (pl_cons (pm_var 7) (pl_cons (pm_var 8) (pl_cons (pm_ix (pm_var 6) (pm_int)) (pl_cons (pm_var 7) (pl_nil))))))) (pmg_name (i := 10) sc_law.nd rfl (by first | exact Or.inl rfl | exact Or.inr rfl)) (pmb_one (pms_if (pb_not (pb_of (pm_call (ok_L_right T B) (hr.mono (by decide)) gd tk (by rfl) T.g_L_right T.F_L_right.kp T.bd_L_right .nil (fun _ _ => .nil) (pl_cons (pm_var 10) (pl_cons (pm_var 9) (pl_nil)))))) (pmb_one (pms_ret (pm_bl))) (pmb_nil))))
    (pmb_cons (pms_setLc (own := [("_law_sign", 14)]) (i := 11) .frz rfl sc_law.nd rfl rfl (sw_true rfl rfl rfl (by decide +kernel)) (pim_seq (pm_str)) (blkOk_by (own := [("_law_sign", 14)]) (N := N_law) (sc := defScope s_law) (by decide +kernel)) (fun _ _ _ _ _ => pmg_name (i := 14) sc_law.nd rfl (by first | exact Or.inl rfl | exact Or.inr rfl)) (fun _ _ _ _ _ => ptm_one (m := t_law_6) (pb_cmp (o_notIn (units65 hr)) (by first | rfl | exact nomark _) (pm_call (ok_name_with T) (hr.mono (by decide)) gd takes0 (by rfl) T.g_name_with T.F_name_with.kp T.bd_name_with .nil (fun _ _ => .nil) (pl_cons (pm_bin .frz o_mul (pm_var 14) (pm_int)) (pl_cons (pm_var 3) (pl_nil)))) (pm_var 9))) (fun _ _ _ _ _ => show PM _ _ _ e_law_6 from pm_call (ok_name_with T) (hr.mono (by decide)) gd takes0 (by rfl) T.g_name_with T.F_name_with.kp T.bd_name_with .nil (fun _ _ => .nil) (pl_cons (pm_bin .frz o_mul (pm_var 14) (pm_int)) (pl_cons (pm_var 3) (pl_nil)))) (by decide))
    (pmb_cons (pms_set (i := 12) sc_law.nd rfl (by first | exact Or.inl rfl | exact Or.inr rfl) (pm_call (ok_L_turned T) (hr.mono (by decide)) gd tk (by rfl) T.g_L_turned T.F_L_turned.kp T.bd_L_turned .nil (fun _ _ => .nil) (pl_cons (pm_var 9) (pl_cons (pm_dct (pmps_cons (pm_var 7) (pm_ix (pm_var 11) (pm_int)) (pmps_nil)) (by rfl) (by rfl) (fun h => nomatch h) (by decide)) (pl_nil)))))
    (pmb_one (pms_if (pb_cmp (o_ne hr.units) (nomark _) (pm_callKP (ks := []) (ok_thing_mark T) (hr.mono (by decide)) gd tk (by rfl) T.g_thing_mark T.F_thing_mark.kp (T.sb_0) (T.sv_0) (fun _ _ => T.sd_0 _ _) (fun _ _ _ _ h => len_of_cons (fun _ _ _ _ h => len_of_cons (fun _ _ _ _ h => len_of_nil h) h) h) (fun _ _ _ _ h => len_of_nil h) (pl_cons (pm_ix (pm_var 11) (pm_int)) (pl_cons (pm_var 12) (pl_nil))) (plk_nil)) (pm_callKP (ks := []) (ok_thing_mark T) (hr.mono (by decide)) gd tk (by rfl) T.g_thing_mark T.F_thing_mark.kp (T.sb_0) (T.sv_0) (fun _ _ => T.sd_0 _ _) (fun _ _ _ _ h => len_of_cons (fun _ _ _ _ h => len_of_cons (fun _ _ _ _ h => len_of_nil h) h) h) (fun _ _ _ _ h => len_of_nil h) (pl_cons (pm_var 7) (pl_cons (pm_var 9) (pl_nil))) (plk_nil))) (pmb_one (pms_ret (pm_bl))) (pmb_nil)))))))))))))
    (pmb_one (pms_ret (pm_bl))))
end
def txt {K : PySem.W.Frag} {h : Heap} {mg : Str → Option Value} (X : K.In h) (G : h.Ns mainGlobals mg) {t_FIRST : Tok}
  {t_SIGNS : Tok}
  {t_LETTERS : Tok}
  {t_LONGEST_LABEL : Tok}
  {t_FIGURES : Tok}
  {t_LONG : Tok}
  {t_STEP : Tok}
  {t_BOUND : Tok}
  {t_BEGIN : Tok}
  {t_BETWEEN : Tok}
  {t_END : Tok}
  {t_AT : Tok}
  {t_LONGEST : Tok}
  {t_BLANK : Tok}
  {a_is_label : Addr} {od_is_label an_is_label : Option Addr} {sl_is_label : Array (Option Value)} {oc_is_label dc_is_label pm_is_label cd_is_label ct_is_label : Value} {kV_is_label : Value}
  {a_is_mark : Addr} {od_is_mark an_is_mark : Option Addr} {sl_is_mark : Array (Option Value)} {oc_is_mark dc_is_mark pm_is_mark cd_is_mark ct_is_mark : Value} {kV_is_mark : Value}
  {a_mark_of : Addr} {od_mark_of an_mark_of : Option Addr} {sl_mark_of : Array (Option Value)} {oc_mark_of dc_mark_of pm_mark_of cd_mark_of ct_mark_of : Value} {kV_mark_of : Value}
  {a_name_with : Addr} {od_name_with an_name_with : Option Addr} {sl_name_with : Array (Option Value)} {oc_name_with dc_name_with pm_name_with cd_name_with ct_name_with : Value} {kV_name_with : Value}
  {a_label_in : Addr} {od_label_in an_label_in : Option Addr} {sl_label_in : Array (Option Value)} {oc_label_in dc_label_in pm_label_in cd_label_in ct_label_in : Value} {kV_label_in : Value}
  {a_L_deck : Addr} {od_L_deck an_L_deck : Option Addr} {sl_L_deck : Array (Option Value)} {oc_L_deck dc_L_deck pm_L_deck cd_L_deck ct_L_deck : Value} {kV_L_deck : Value}
  {a_L_draw : Addr} {od_L_draw an_L_draw : Option Addr} {sl_L_draw : Array (Option Value)} {oc_L_draw dc_L_draw pm_L_draw cd_L_draw ct_L_draw : Value} {kV_L_draw : Value}
  {a_L_signs : Addr} {od_L_signs an_L_signs : Option Addr} {sl_L_signs : Array (Option Value)} {oc_L_signs dc_L_signs pm_L_signs cd_L_signs ct_L_signs : Value} {kV_L_signs : Value}
  {a_L_thirty_two : Addr} {od_L_thirty_two an_L_thirty_two : Option Addr} {sl_L_thirty_two : Array (Option Value)} {oc_L_thirty_two dc_L_thirty_two pm_L_thirty_two cd_L_thirty_two ct_L_thirty_two : Value} {kV_L_thirty_two : Value}
  {a_L_weak : Addr} {od_L_weak an_L_weak : Option Addr} {sl_L_weak : Array (Option Value)} {oc_L_weak dc_L_weak pm_L_weak cd_L_weak ct_L_weak : Value} {kV_L_weak : Value}
  {a_L_is_word : Addr} {od_L_is_word an_L_is_word : Option Addr} {sl_L_is_word : Array (Option Value)} {oc_L_is_word dc_L_is_word pm_L_is_word cd_L_is_word ct_L_is_word : Value} {kV_L_is_word : Value}
  {a_L_is_mark : Addr} {od_L_is_mark an_L_is_mark : Option Addr} {sl_L_is_mark : Array (Option Value)} {oc_L_is_mark dc_L_is_mark pm_L_is_mark cd_L_is_mark ct_L_is_mark : Value} {kV_L_is_mark : Value}
  {a_L_called : Addr} {od_L_called an_L_called : Option Addr} {sl_L_called : Array (Option Value)} {oc_L_called dc_L_called pm_L_called cd_L_called ct_L_called : Value} {kV_L_called : Value}
  {a_is_name : Addr} {od_is_name an_is_name : Option Addr} {sl_is_name : Array (Option Value)} {oc_is_name dc_is_name pm_is_name cd_is_name ct_is_name : Value} {kV_is_name : Value}
  {a_blank_of : Addr} {od_blank_of an_blank_of : Option Addr} {sl_blank_of : Array (Option Value)} {oc_blank_of dc_blank_of pm_blank_of cd_blank_of ct_blank_of : Value} {kV_blank_of : Value}
  {a_L_pick : Addr} {od_L_pick an_L_pick : Option Addr} {sl_L_pick : Array (Option Value)} {oc_L_pick dc_L_pick pm_L_pick cd_L_pick ct_L_pick : Value} {kV_L_pick : Value}
  {a_L_words : Addr} {od_L_words an_L_words : Option Addr} {sl_L_words : Array (Option Value)} {oc_L_words dc_L_words pm_L_words cd_L_words ct_L_words : Value} {kV_L_words : Value}
  {a_L_mark : Addr} {od_L_mark an_L_mark : Option Addr} {sl_L_mark : Array (Option Value)} {oc_L_mark dc_L_mark pm_L_mark cd_L_mark ct_L_mark : Value} {kV_L_mark : Value}
  {a_L_is_called : Addr} {od_L_is_called an_L_is_called : Option Addr} {sl_L_is_called : Array (Option Value)} {oc_L_is_called dc_L_is_called pm_L_is_called cd_L_is_called ct_L_is_called : Value} {kV_L_is_called : Value}
  {a_L_blank : Addr} {od_L_blank an_L_blank : Option Addr} {sl_L_blank : Array (Option Value)} {oc_L_blank dc_L_blank pm_L_blank cd_L_blank ct_L_blank : Value} {kV_L_blank : Value}
  {a_L_marks : Addr} {od_L_marks an_L_marks : Option Addr} {sl_L_marks : Array (Option Value)} {oc_L_marks dc_L_marks pm_L_marks cd_L_marks ct_L_marks : Value} {kV_L_marks : Value}
  {a_name_at : Addr} {od_name_at an_name_at : Option Addr} {sl_name_at : Array (Option Value)} {oc_name_at dc_name_at pm_name_at cd_name_at ct_name_at : Value} {kV_name_at : Value}
  {a_L_spots : Addr} {od_L_spots an_L_spots : Option Addr} {sl_L_spots : Array (Option Value)} {oc_L_spots dc_L_spots pm_L_spots cd_L_spots ct_L_spots : Value} {kV_L_spots : Value}
  {a_L_piece : Addr} {od_L_piece an_L_piece : Option Addr} {sl_L_piece : Array (Option Value)} {oc_L_piece dc_L_piece pm_L_piece cd_L_piece ct_L_piece : Value} {kV_L_piece : Value}
  {a_places_in : Addr} {od_places_in an_places_in : Option Addr} {sl_places_in : Array (Option Value)} {oc_places_in dc_places_in pm_places_in cd_places_in ct_places_in : Value} {kV_places_in : Value}
  {a_L_turned : Addr} {od_L_turned an_L_turned : Option Addr} {sl_L_turned : Array (Option Value)} {oc_L_turned dc_L_turned pm_L_turned cd_L_turned ct_L_turned : Value} {kV_L_turned : Value}
  {a_turned_text : Addr} {od_turned_text an_turned_text : Option Addr} {sl_turned_text : Array (Option Value)} {oc_turned_text dc_turned_text pm_turned_text cd_turned_text ct_turned_text : Value} {kV_turned_text : Value}
  {a_L_blank_text : Addr} {od_L_blank_text an_L_blank_text : Option Addr} {sl_L_blank_text : Array (Option Value)} {oc_L_blank_text dc_L_blank_text pm_L_blank_text cd_L_blank_text ct_L_blank_text : Value} {kV_L_blank_text : Value}
  {a_thing_mark : Addr} {od_thing_mark an_thing_mark : Option Addr} {sl_thing_mark : Array (Option Value)} {oc_thing_mark dc_thing_mark pm_thing_mark cd_thing_mark ct_thing_mark : Value} {D_thing_mark : Addr}
  {a_L_right : Addr} {od_L_right an_L_right : Option Addr} {sl_L_right : Array (Option Value)} {oc_L_right dc_L_right pm_L_right cd_L_right ct_L_right : Value} {kV_L_right : Value}
  {a_law : Addr} {od_law an_law : Option Addr} {sl_law : Array (Option Value)} {oc_law dc_law pm_law cd_law ct_law : Value} {kV_law : Value}
  (h_FIRST : PySem.W.nsIn K mainGlobals "FIRST" = some (some (.int 7 t_FIRST)))
  (h_SIGNS : PySem.W.nsIn K mainGlobals "SIGNS" = some (some (.str k_SIGNS t_SIGNS)))
  (h_LETTERS : PySem.W.nsIn K mainGlobals "LETTERS" = some (some (.str k_LETTERS t_LETTERS)))
  (h_LONGEST_LABEL : PySem.W.nsIn K mainGlobals "LONGEST_LABEL" = some (some (.int 8 t_LONGEST_LABEL)))
  (h_FIGURES : PySem.W.nsIn K mainGlobals "FIGURES" = some (some (.str k_FIGURES t_FIGURES)))
  (h_LONG : PySem.W.nsIn K mainGlobals "LONG" = some (some (.int 8 t_LONG)))
  (h_STEP : PySem.W.nsIn K mainGlobals "STEP" = some (some (.int 131 t_STEP)))
  (h_BOUND : PySem.W.nsIn K mainGlobals "BOUND" = some (some (.int 1099511627689 t_BOUND)))
  (h_BEGIN : PySem.W.nsIn K mainGlobals "BEGIN" = some (some (.str k_BEGIN t_BEGIN)))
  (h_BETWEEN : PySem.W.nsIn K mainGlobals "BETWEEN" = some (some (.str k_BETWEEN t_BETWEEN)))
  (h_END : PySem.W.nsIn K mainGlobals "END" = some (some (.str k_END t_END)))
  (h_AT : PySem.W.nsIn K mainGlobals "AT" = some (some (.int 9 t_AT)))
  (h_LONGEST : PySem.W.nsIn K mainGlobals "LONGEST" = some (some (.int 19 t_LONGEST)))
  (h_BLANK : PySem.W.nsIn K mainGlobals "BLANK" = some (some (.str k_BLANK t_BLANK)))
  (h_all : PySem.W.nsIn K mainGlobals "all" = some none)
  (h_dict : PySem.W.nsIn K mainGlobals "dict" = some none)
  (h_divmod : PySem.W.nsIn K mainGlobals "divmod" = some none)
  (h_enumerate : PySem.W.nsIn K mainGlobals "enumerate" = some none)
  (h_isinstance : PySem.W.nsIn K mainGlobals "isinstance" = some none)
  (h_len : PySem.W.nsIn K mainGlobals "len" = some none)
  (h_list : PySem.W.nsIn K mainGlobals "list" = some none)
  (h_range : PySem.W.nsIn K mainGlobals "range" = some none)
  (h_str : PySem.W.nsIn K mainGlobals "str" = some none)
  (h_sum : PySem.W.nsIn K mainGlobals "sum" = some none)
  (g_is_label : PySem.W.nsIn K mainGlobals "is_label" = some (some (.ref a_is_label)))
  (l_is_label : K.lookup a_is_label = some ⟨oc_is_label, od_is_label, .func (PySem.W.fnOf "is_label" "is_label" (defArgs s_is_label) (defBody s_is_label) (defScope s_is_label) .none kV_is_label dc_is_label pm_is_label an_is_label cd_is_label ct_is_label), sl_is_label⟩)
  (c_is_label : PySem.W.codeIn K cd_is_label "is_label" = true)
  (p_is_label : PySem.W.keepIn K (.ref a_is_label) = true)
  (g_is_mark : PySem.W.nsIn K mainGlobals "is_mark" = some (some (.ref a_is_mark)))
  (l_is_mark : K.lookup a_is_mark = some ⟨oc_is_mark, od_is_mark, .func (PySem.W.fnOf "is_mark" "is_mark" (defArgs s_is_mark) (defBody s_is_mark) (defScope s_is_mark) .none kV_is_mark dc_is_mark pm_is_mark an_is_mark cd_is_mark ct_is_mark), sl_is_mark⟩)
  (c_is_mark : PySem.W.codeIn K cd_is_mark "is_mark" = true)
  (p_is_mark : PySem.W.keepIn K (.ref a_is_mark) = true)
  (g_mark_of : PySem.W.nsIn K mainGlobals "mark_of" = some (some (.ref a_mark_of)))
  (l_mark_of : K.lookup a_mark_of = some ⟨oc_mark_of, od_mark_of, .func (PySem.W.fnOf "mark_of" "mark_of" (defArgs s_mark_of) (defBody s_mark_of) (defScope s_mark_of) .none kV_mark_of dc_mark_of pm_mark_of an_mark_of cd_mark_of ct_mark_of), sl_mark_of⟩)
  (c_mark_of : PySem.W.codeIn K cd_mark_of "mark_of" = true)
  (p_mark_of : PySem.W.keepIn K (.ref a_mark_of) = true)
  (g_name_with : PySem.W.nsIn K mainGlobals "name_with" = some (some (.ref a_name_with)))
  (l_name_with : K.lookup a_name_with = some ⟨oc_name_with, od_name_with, .func (PySem.W.fnOf "name_with" "name_with" (defArgs s_name_with) (defBody s_name_with) (defScope s_name_with) .none kV_name_with dc_name_with pm_name_with an_name_with cd_name_with ct_name_with), sl_name_with⟩)
  (c_name_with : PySem.W.codeIn K cd_name_with "name_with" = true)
  (p_name_with : PySem.W.keepIn K (.ref a_name_with) = true)
  (g_label_in : PySem.W.nsIn K mainGlobals "label_in" = some (some (.ref a_label_in)))
  (l_label_in : K.lookup a_label_in = some ⟨oc_label_in, od_label_in, .func (PySem.W.fnOf "label_in" "label_in" (defArgs s_label_in) (defBody s_label_in) (defScope s_label_in) .none kV_label_in dc_label_in pm_label_in an_label_in cd_label_in ct_label_in), sl_label_in⟩)
  (c_label_in : PySem.W.codeIn K cd_label_in "label_in" = true)
  (p_label_in : PySem.W.keepIn K (.ref a_label_in) = true)
  (g_L_deck : PySem.W.nsIn K mainGlobals "_law_deck" = some (some (.ref a_L_deck)))
  (l_L_deck : K.lookup a_L_deck = some ⟨oc_L_deck, od_L_deck, .func (PySem.W.fnOf "_law_deck" "_law_deck" (defArgs s_L_deck) (defBody s_L_deck) (defScope s_L_deck) .none kV_L_deck dc_L_deck pm_L_deck an_L_deck cd_L_deck ct_L_deck), sl_L_deck⟩)
  (c_L_deck : PySem.W.codeIn K cd_L_deck "_law_deck" = true)
  (p_L_deck : PySem.W.keepIn K (.ref a_L_deck) = true)
  (g_L_draw : PySem.W.nsIn K mainGlobals "_law_draw" = some (some (.ref a_L_draw)))
  (l_L_draw : K.lookup a_L_draw = some ⟨oc_L_draw, od_L_draw, .func (PySem.W.fnOf "_law_draw" "_law_draw" (defArgs s_L_draw) (defBody s_L_draw) (defScope s_L_draw) .none kV_L_draw dc_L_draw pm_L_draw an_L_draw cd_L_draw ct_L_draw), sl_L_draw⟩)
  (c_L_draw : PySem.W.codeIn K cd_L_draw "_law_draw" = true)
  (p_L_draw : PySem.W.keepIn K (.ref a_L_draw) = true)
  (g_L_signs : PySem.W.nsIn K mainGlobals "_law_signs" = some (some (.ref a_L_signs)))
  (l_L_signs : K.lookup a_L_signs = some ⟨oc_L_signs, od_L_signs, .func (PySem.W.fnOf "_law_signs" "_law_signs" (defArgs s_L_signs) (defBody s_L_signs) (defScope s_L_signs) .none kV_L_signs dc_L_signs pm_L_signs an_L_signs cd_L_signs ct_L_signs), sl_L_signs⟩)
  (c_L_signs : PySem.W.codeIn K cd_L_signs "_law_signs" = true)
  (p_L_signs : PySem.W.keepIn K (.ref a_L_signs) = true)
  (g_L_thirty_two : PySem.W.nsIn K mainGlobals "_law_thirty_two" = some (some (.ref a_L_thirty_two)))
  (l_L_thirty_two : K.lookup a_L_thirty_two = some ⟨oc_L_thirty_two, od_L_thirty_two, .func (PySem.W.fnOf "_law_thirty_two" "_law_thirty_two" (defArgs s_L_thirty_two) (defBody s_L_thirty_two) (defScope s_L_thirty_two) .none kV_L_thirty_two dc_L_thirty_two pm_L_thirty_two an_L_thirty_two cd_L_thirty_two ct_L_thirty_two), sl_L_thirty_two⟩)
  (c_L_thirty_two : PySem.W.codeIn K cd_L_thirty_two "_law_thirty_two" = true)
  (p_L_thirty_two : PySem.W.keepIn K (.ref a_L_thirty_two) = true)
  (g_L_weak : PySem.W.nsIn K mainGlobals "_law_weak" = some (some (.ref a_L_weak)))
  (l_L_weak : K.lookup a_L_weak = some ⟨oc_L_weak, od_L_weak, .func (PySem.W.fnOf "_law_weak" "_law_weak" (defArgs s_L_weak) (defBody s_L_weak) (defScope s_L_weak) .none kV_L_weak dc_L_weak pm_L_weak an_L_weak cd_L_weak ct_L_weak), sl_L_weak⟩)
  (c_L_weak : PySem.W.codeIn K cd_L_weak "_law_weak" = true)
  (p_L_weak : PySem.W.keepIn K (.ref a_L_weak) = true)
  (g_L_is_word : PySem.W.nsIn K mainGlobals "_law_is_word" = some (some (.ref a_L_is_word)))
  (l_L_is_word : K.lookup a_L_is_word = some ⟨oc_L_is_word, od_L_is_word, .func (PySem.W.fnOf "_law_is_word" "_law_is_word" (defArgs s_L_is_word) (defBody s_L_is_word) (defScope s_L_is_word) .none kV_L_is_word dc_L_is_word pm_L_is_word an_L_is_word cd_L_is_word ct_L_is_word), sl_L_is_word⟩)
  (c_L_is_word : PySem.W.codeIn K cd_L_is_word "_law_is_word" = true)
  (p_L_is_word : PySem.W.keepIn K (.ref a_L_is_word) = true)
  (g_L_is_mark : PySem.W.nsIn K mainGlobals "_law_is_mark" = some (some (.ref a_L_is_mark)))
  (l_L_is_mark : K.lookup a_L_is_mark = some ⟨oc_L_is_mark, od_L_is_mark, .func (PySem.W.fnOf "_law_is_mark" "_law_is_mark" (defArgs s_L_is_mark) (defBody s_L_is_mark) (defScope s_L_is_mark) .none kV_L_is_mark dc_L_is_mark pm_L_is_mark an_L_is_mark cd_L_is_mark ct_L_is_mark), sl_L_is_mark⟩)
  (c_L_is_mark : PySem.W.codeIn K cd_L_is_mark "_law_is_mark" = true)
  (p_L_is_mark : PySem.W.keepIn K (.ref a_L_is_mark) = true)
  (g_L_called : PySem.W.nsIn K mainGlobals "_law_called" = some (some (.ref a_L_called)))
  (l_L_called : K.lookup a_L_called = some ⟨oc_L_called, od_L_called, .func (PySem.W.fnOf "_law_called" "_law_called" (defArgs s_L_called) (defBody s_L_called) (defScope s_L_called) .none kV_L_called dc_L_called pm_L_called an_L_called cd_L_called ct_L_called), sl_L_called⟩)
  (c_L_called : PySem.W.codeIn K cd_L_called "_law_called" = true)
  (p_L_called : PySem.W.keepIn K (.ref a_L_called) = true)
  (g_is_name : PySem.W.nsIn K mainGlobals "is_name" = some (some (.ref a_is_name)))
  (l_is_name : K.lookup a_is_name = some ⟨oc_is_name, od_is_name, .func (PySem.W.fnOf "is_name" "is_name" (defArgs s_is_name) (defBody s_is_name) (defScope s_is_name) .none kV_is_name dc_is_name pm_is_name an_is_name cd_is_name ct_is_name), sl_is_name⟩)
  (c_is_name : PySem.W.codeIn K cd_is_name "is_name" = true)
  (p_is_name : PySem.W.keepIn K (.ref a_is_name) = true)
  (g_blank_of : PySem.W.nsIn K mainGlobals "blank_of" = some (some (.ref a_blank_of)))
  (l_blank_of : K.lookup a_blank_of = some ⟨oc_blank_of, od_blank_of, .func (PySem.W.fnOf "blank_of" "blank_of" (defArgs s_blank_of) (defBody s_blank_of) (defScope s_blank_of) .none kV_blank_of dc_blank_of pm_blank_of an_blank_of cd_blank_of ct_blank_of), sl_blank_of⟩)
  (c_blank_of : PySem.W.codeIn K cd_blank_of "blank_of" = true)
  (p_blank_of : PySem.W.keepIn K (.ref a_blank_of) = true)
  (g_L_pick : PySem.W.nsIn K mainGlobals "_law_pick" = some (some (.ref a_L_pick)))
  (l_L_pick : K.lookup a_L_pick = some ⟨oc_L_pick, od_L_pick, .func (PySem.W.fnOf "_law_pick" "_law_pick" (defArgs s_L_pick) (defBody s_L_pick) (defScope s_L_pick) .none kV_L_pick dc_L_pick pm_L_pick an_L_pick cd_L_pick ct_L_pick), sl_L_pick⟩)
  (c_L_pick : PySem.W.codeIn K cd_L_pick "_law_pick" = true)
  (p_L_pick : PySem.W.keepIn K (.ref a_L_pick) = true)
  (g_L_words : PySem.W.nsIn K mainGlobals "_law_words" = some (some (.ref a_L_words)))
  (l_L_words : K.lookup a_L_words = some ⟨oc_L_words, od_L_words, .func (PySem.W.fnOf "_law_words" "_law_words" (defArgs s_L_words) (defBody s_L_words) (defScope s_L_words) .none kV_L_words dc_L_words pm_L_words an_L_words cd_L_words ct_L_words), sl_L_words⟩)
  (c_L_words : PySem.W.codeIn K cd_L_words "_law_words" = true)
  (p_L_words : PySem.W.keepIn K (.ref a_L_words) = true)
  (g_L_mark : PySem.W.nsIn K mainGlobals "_law_mark" = some (some (.ref a_L_mark)))
  (l_L_mark : K.lookup a_L_mark = some ⟨oc_L_mark, od_L_mark, .func (PySem.W.fnOf "_law_mark" "_law_mark" (defArgs s_L_mark) (defBody s_L_mark) (defScope s_L_mark) .none kV_L_mark dc_L_mark pm_L_mark an_L_mark cd_L_mark ct_L_mark), sl_L_mark⟩)
  (c_L_mark : PySem.W.codeIn K cd_L_mark "_law_mark" = true)
  (p_L_mark : PySem.W.keepIn K (.ref a_L_mark) = true)
  (g_L_is_called : PySem.W.nsIn K mainGlobals "_law_is_called" = some (some (.ref a_L_is_called)))
  (l_L_is_called : K.lookup a_L_is_called = some ⟨oc_L_is_called, od_L_is_called, .func (PySem.W.fnOf "_law_is_called" "_law_is_called" (defArgs s_L_is_called) (defBody s_L_is_called) (defScope s_L_is_called) .none kV_L_is_called dc_L_is_called pm_L_is_called an_L_is_called cd_L_is_called ct_L_is_called), sl_L_is_called⟩)
  (c_L_is_called : PySem.W.codeIn K cd_L_is_called "_law_is_called" = true)
  (p_L_is_called : PySem.W.keepIn K (.ref a_L_is_called) = true)
  (g_L_blank : PySem.W.nsIn K mainGlobals "_law_blank" = some (some (.ref a_L_blank)))
  (l_L_blank : K.lookup a_L_blank = some ⟨oc_L_blank, od_L_blank, .func (PySem.W.fnOf "_law_blank" "_law_blank" (defArgs s_L_blank) (defBody s_L_blank) (defScope s_L_blank) .none kV_L_blank dc_L_blank pm_L_blank an_L_blank cd_L_blank ct_L_blank), sl_L_blank⟩)
  (c_L_blank : PySem.W.codeIn K cd_L_blank "_law_blank" = true)
  (p_L_blank : PySem.W.keepIn K (.ref a_L_blank) = true)
  (g_L_marks : PySem.W.nsIn K mainGlobals "_law_marks" = some (some (.ref a_L_marks)))
  (l_L_marks : K.lookup a_L_marks = some ⟨oc_L_marks, od_L_marks, .func (PySem.W.fnOf "_law_marks" "_law_marks" (defArgs s_L_marks) (defBody s_L_marks) (defScope s_L_marks) .none kV_L_marks dc_L_marks pm_L_marks an_L_marks cd_L_marks ct_L_marks), sl_L_marks⟩)
  (c_L_marks : PySem.W.codeIn K cd_L_marks "_law_marks" = true)
  (p_L_marks : PySem.W.keepIn K (.ref a_L_marks) = true)
  (g_name_at : PySem.W.nsIn K mainGlobals "name_at" = some (some (.ref a_name_at)))
  (l_name_at : K.lookup a_name_at = some ⟨oc_name_at, od_name_at, .func (PySem.W.fnOf "name_at" "name_at" (defArgs s_name_at) (defBody s_name_at) (defScope s_name_at) .none kV_name_at dc_name_at pm_name_at an_name_at cd_name_at ct_name_at), sl_name_at⟩)
  (c_name_at : PySem.W.codeIn K cd_name_at "name_at" = true)
  (p_name_at : PySem.W.keepIn K (.ref a_name_at) = true)
  (g_L_spots : PySem.W.nsIn K mainGlobals "_law_spots" = some (some (.ref a_L_spots)))
  (l_L_spots : K.lookup a_L_spots = some ⟨oc_L_spots, od_L_spots, .func (PySem.W.fnOf "_law_spots" "_law_spots" (defArgs s_L_spots) (defBody s_L_spots) (defScope s_L_spots) .none kV_L_spots dc_L_spots pm_L_spots an_L_spots cd_L_spots ct_L_spots), sl_L_spots⟩)
  (c_L_spots : PySem.W.codeIn K cd_L_spots "_law_spots" = true)
  (p_L_spots : PySem.W.keepIn K (.ref a_L_spots) = true)
  (g_L_piece : PySem.W.nsIn K mainGlobals "_law_piece" = some (some (.ref a_L_piece)))
  (l_L_piece : K.lookup a_L_piece = some ⟨oc_L_piece, od_L_piece, .func (PySem.W.fnOf "_law_piece" "_law_piece" (defArgs s_L_piece) (defBody s_L_piece) (defScope s_L_piece) .none kV_L_piece dc_L_piece pm_L_piece an_L_piece cd_L_piece ct_L_piece), sl_L_piece⟩)
  (c_L_piece : PySem.W.codeIn K cd_L_piece "_law_piece" = true)
  (p_L_piece : PySem.W.keepIn K (.ref a_L_piece) = true)
  (g_places_in : PySem.W.nsIn K mainGlobals "places_in" = some (some (.ref a_places_in)))
  (l_places_in : K.lookup a_places_in = some ⟨oc_places_in, od_places_in, .func (PySem.W.fnOf "places_in" "places_in" (defArgs s_places_in) (defBody s_places_in) (defScope s_places_in) .none kV_places_in dc_places_in pm_places_in an_places_in cd_places_in ct_places_in), sl_places_in⟩)
  (c_places_in : PySem.W.codeIn K cd_places_in "places_in" = true)
  (p_places_in : PySem.W.keepIn K (.ref a_places_in) = true)
  (g_L_turned : PySem.W.nsIn K mainGlobals "_law_turned" = some (some (.ref a_L_turned)))
  (l_L_turned : K.lookup a_L_turned = some ⟨oc_L_turned, od_L_turned, .func (PySem.W.fnOf "_law_turned" "_law_turned" (defArgs s_L_turned) (defBody s_L_turned) (defScope s_L_turned) .none kV_L_turned dc_L_turned pm_L_turned an_L_turned cd_L_turned ct_L_turned), sl_L_turned⟩)
  (c_L_turned : PySem.W.codeIn K cd_L_turned "_law_turned" = true)
  (p_L_turned : PySem.W.keepIn K (.ref a_L_turned) = true)
  (g_turned_text : PySem.W.nsIn K mainGlobals "turned_text" = some (some (.ref a_turned_text)))
  (l_turned_text : K.lookup a_turned_text = some ⟨oc_turned_text, od_turned_text, .func (PySem.W.fnOf "turned_text" "turned_text" (defArgs s_turned_text) (defBody s_turned_text) (defScope s_turned_text) .none kV_turned_text dc_turned_text pm_turned_text an_turned_text cd_turned_text ct_turned_text), sl_turned_text⟩)
  (c_turned_text : PySem.W.codeIn K cd_turned_text "turned_text" = true)
  (p_turned_text : PySem.W.keepIn K (.ref a_turned_text) = true)
  (g_L_blank_text : PySem.W.nsIn K mainGlobals "_law_blank_text" = some (some (.ref a_L_blank_text)))
  (l_L_blank_text : K.lookup a_L_blank_text = some ⟨oc_L_blank_text, od_L_blank_text, .func (PySem.W.fnOf "_law_blank_text" "_law_blank_text" (defArgs s_L_blank_text) (defBody s_L_blank_text) (defScope s_L_blank_text) .none kV_L_blank_text dc_L_blank_text pm_L_blank_text an_L_blank_text cd_L_blank_text ct_L_blank_text), sl_L_blank_text⟩)
  (c_L_blank_text : PySem.W.codeIn K cd_L_blank_text "_law_blank_text" = true)
  (p_L_blank_text : PySem.W.keepIn K (.ref a_L_blank_text) = true)
  (g_thing_mark : PySem.W.nsIn K mainGlobals "thing_mark" = some (some (.ref a_thing_mark)))
  (l_thing_mark : K.lookup a_thing_mark = some ⟨oc_thing_mark, od_thing_mark, .func (PySem.W.fnOf "thing_mark" "thing_mark" (defArgs s_thing_mark) (defBody s_thing_mark) (defScope s_thing_mark) .none (.ref D_thing_mark) dc_thing_mark pm_thing_mark an_thing_mark cd_thing_mark ct_thing_mark), sl_thing_mark⟩)
  (c_thing_mark : PySem.W.codeIn K cd_thing_mark "thing_mark" = true)
  (p_thing_mark : PySem.W.keepIn K (.ref a_thing_mark) = true)
  (kd_thing_mark_digest : PySem.W.nsIn K D_thing_mark "digest" = some (some .none))
  (g_L_right : PySem.W.nsIn K mainGlobals "_law_right" = some (some (.ref a_L_right)))
  (l_L_right : K.lookup a_L_right = some ⟨oc_L_right, od_L_right, .func (PySem.W.fnOf "_law_right" "_law_right" (defArgs s_L_right) (defBody s_L_right) (defScope s_L_right) .none kV_L_right dc_L_right pm_L_right an_L_right cd_L_right ct_L_right), sl_L_right⟩)
  (c_L_right : PySem.W.codeIn K cd_L_right "_law_right" = true)
  (p_L_right : PySem.W.keepIn K (.ref a_L_right) = true)
  (g_law : PySem.W.nsIn K mainGlobals "law" = some (some (.ref a_law)))
  (l_law : K.lookup a_law = some ⟨oc_law, od_law, .func (PySem.W.fnOf "law" "law" (defArgs s_law) (defBody s_law) (defScope s_law) .none kV_law dc_law pm_law an_law cd_law ct_law), sl_law⟩)
  (c_law : PySem.W.codeIn K cd_law "law" = true)
  (p_law : PySem.W.keepIn K (.ref a_law) = true) : Txt K mg := ⟨t_FIRST,
  PySem.W.mg_of X G h_FIRST,
  t_SIGNS,
  PySem.W.mg_of X G h_SIGNS,
  t_LETTERS,
  PySem.W.mg_of X G h_LETTERS,
  t_LONGEST_LABEL,
  PySem.W.mg_of X G h_LONGEST_LABEL,
  t_FIGURES,
  PySem.W.mg_of X G h_FIGURES,
  t_LONG,
  PySem.W.mg_of X G h_LONG,
  t_STEP,
  PySem.W.mg_of X G h_STEP,
  t_BOUND,
  PySem.W.mg_of X G h_BOUND,
  t_BEGIN,
  PySem.W.mg_of X G h_BEGIN,
  t_BETWEEN,
  PySem.W.mg_of X G h_BETWEEN,
  t_END,
  PySem.W.mg_of X G h_END,
  t_AT,
  PySem.W.mg_of X G h_AT,
  t_LONGEST,
  PySem.W.mg_of X G h_LONGEST,
  t_BLANK,
  PySem.W.mg_of X G h_BLANK,
  PySem.W.mg_none_of X G h_all,
  PySem.W.mg_none_of X G h_dict,
  PySem.W.mg_none_of X G h_divmod,
  PySem.W.mg_none_of X G h_enumerate,
  PySem.W.mg_none_of X G h_isinstance,
  PySem.W.mg_none_of X G h_len,
  PySem.W.mg_none_of X G h_list,
  PySem.W.mg_none_of X G h_range,
  PySem.W.mg_none_of X G h_str,
  PySem.W.mg_none_of X G h_sum,
  a_is_label,
  _,
  fun_mk l_is_label c_is_label p_is_label,
  PySem.W.mg_of X G g_is_label,
  (fun_mk (st := s_is_label) l_is_label c_is_label p_is_label).binds (ps := ["thing"]) fun _ _ _ _ _ _ us hl => match us, hl with | [_], _ => rfl,
  a_is_mark,
  _,
  fun_mk l_is_mark c_is_mark p_is_mark,
  PySem.W.mg_of X G g_is_mark,
  (fun_mk (st := s_is_mark) l_is_mark c_is_mark p_is_mark).binds (ps := ["thing"]) fun _ _ _ _ _ _ us hl => match us, hl with | [_], _ => rfl,
  a_mark_of,
  _,
  fun_mk l_mark_of c_mark_of p_mark_of,
  PySem.W.mg_of X G g_mark_of,
  g_mark_of,
  (fun_mk (st := s_mark_of) l_mark_of c_mark_of p_mark_of).binds (ps := ["text"]) fun _ _ _ _ _ _ us hl => match us, hl with | [_], _ => rfl,
  a_name_with,
  _,
  fun_mk l_name_with c_name_with p_name_with,
  PySem.W.mg_of X G g_name_with,
  (fun_mk (st := s_name_with) l_name_with c_name_with p_name_with).binds (ps := ["mark", "label"]) fun _ _ _ _ _ _ us hl => match us, hl with | [_, _], _ => rfl,
  a_label_in,
  _,
  fun_mk l_label_in c_label_in p_label_in,
  PySem.W.mg_of X G g_label_in,
  (fun_mk (st := s_label_in) l_label_in c_label_in p_label_in).binds (ps := ["name"]) fun _ _ _ _ _ _ us hl => match us, hl with | [_], _ => rfl,
  a_L_deck,
  _,
  fun_mk l_L_deck c_L_deck p_L_deck,
  PySem.W.mg_of X G g_L_deck,
  (fun_mk (st := s_L_deck) l_L_deck c_L_deck p_L_deck).binds (ps := ["_law_script"]) fun _ _ _ _ _ _ us hl => match us, hl with | [_], _ => rfl,
  a_L_draw,
  _,
  fun_mk l_L_draw c_L_draw p_L_draw,
  PySem.W.mg_of X G g_L_draw,
  (fun_mk (st := s_L_draw) l_L_draw c_L_draw p_L_draw).binds (ps := ["_law_deck_here", "_law_many"]) fun _ _ _ _ _ _ us hl => match us, hl with | [_, _], _ => rfl,
  a_L_signs,
  _,
  fun_mk l_L_signs c_L_signs p_L_signs,
  PySem.W.mg_of X G g_L_signs,
  (fun_mk (st := s_L_signs) l_L_signs c_L_signs p_L_signs).binds (ps := []) fun _ _ _ _ _ _ us hl => match us, hl with | [], _ => rfl,
  a_L_thirty_two,
  _,
  fun_mk l_L_thirty_two c_L_thirty_two p_L_thirty_two,
  PySem.W.mg_of X G g_L_thirty_two,
  (fun_mk (st := s_L_thirty_two) l_L_thirty_two c_L_thirty_two p_L_thirty_two).binds (ps := ["_law_number"]) fun _ _ _ _ _ _ us hl => match us, hl with | [_], _ => rfl,
  a_L_weak,
  _,
  fun_mk l_L_weak c_L_weak p_L_weak,
  PySem.W.mg_of X G g_L_weak,
  g_L_weak,
  (fun_mk (st := s_L_weak) l_L_weak c_L_weak p_L_weak).binds (ps := ["_law_written"]) fun _ _ _ _ _ _ us hl => match us, hl with | [_], _ => rfl,
  a_L_is_word,
  _,
  fun_mk l_L_is_word c_L_is_word p_L_is_word,
  PySem.W.mg_of X G g_L_is_word,
  (fun_mk (st := s_L_is_word) l_L_is_word c_L_is_word p_L_is_word).binds (ps := ["_law_it"]) fun _ _ _ _ _ _ us hl => match us, hl with | [_], _ => rfl,
  a_L_is_mark,
  _,
  fun_mk l_L_is_mark c_L_is_mark p_L_is_mark,
  PySem.W.mg_of X G g_L_is_mark,
  (fun_mk (st := s_L_is_mark) l_L_is_mark c_L_is_mark p_L_is_mark).binds (ps := ["_law_it"]) fun _ _ _ _ _ _ us hl => match us, hl with | [_], _ => rfl,
  a_L_called,
  _,
  fun_mk l_L_called c_L_called p_L_called,
  PySem.W.mg_of X G g_L_called,
  (fun_mk (st := s_L_called) l_L_called c_L_called p_L_called).binds (ps := ["_law_mark_here", "_law_word"]) fun _ _ _ _ _ _ us hl => match us, hl with | [_, _], _ => rfl,
  a_is_name,
  _,
  fun_mk l_is_name c_is_name p_is_name,
  PySem.W.mg_of X G g_is_name,
  (fun_mk (st := s_is_name) l_is_name c_is_name p_is_name).binds (ps := ["thing"]) fun _ _ _ _ _ _ us hl => match us, hl with | [_], _ => rfl,
  a_blank_of,
  _,
  fun_mk l_blank_of c_blank_of p_blank_of,
  PySem.W.mg_of X G g_blank_of,
  (fun_mk (st := s_blank_of) l_blank_of c_blank_of p_blank_of).binds (ps := ["name"]) fun _ _ _ _ _ _ us hl => match us, hl with | [_], _ => rfl,
  a_L_pick,
  _,
  fun_mk l_L_pick c_L_pick p_L_pick,
  PySem.W.mg_of X G g_L_pick,
  (fun_mk (st := s_L_pick) l_L_pick c_L_pick p_L_pick).binds (ps := ["_law_deck_here", "_law_some"]) fun _ _ _ _ _ _ us hl => match us, hl with | [_, _], _ => rfl,
  a_L_words,
  _,
  fun_mk l_L_words c_L_words p_L_words,
  PySem.W.mg_of X G g_L_words,
  (fun_mk (st := s_L_words) l_L_words c_L_words p_L_words).binds (ps := ["_law_deck_here", "_law_many"]) fun _ _ _ _ _ _ us hl => match us, hl with | [_, _], _ => rfl,
  a_L_mark,
  _,
  fun_mk l_L_mark c_L_mark p_L_mark,
  PySem.W.mg_of X G g_L_mark,
  g_L_mark,
  (fun_mk (st := s_L_mark) l_L_mark c_L_mark p_L_mark).binds (ps := ["_law_written"]) fun _ _ _ _ _ _ us hl => match us, hl with | [_], _ => rfl,
  a_L_is_called,
  _,
  fun_mk l_L_is_called c_L_is_called p_L_is_called,
  PySem.W.mg_of X G g_L_is_called,
  (fun_mk (st := s_L_is_called) l_L_is_called c_L_is_called p_L_is_called).binds (ps := ["_law_it"]) fun _ _ _ _ _ _ us hl => match us, hl with | [_], _ => rfl,
  a_L_blank,
  _,
  fun_mk l_L_blank c_L_blank p_L_blank,
  PySem.W.mg_of X G g_L_blank,
  (fun_mk (st := s_L_blank) l_L_blank c_L_blank p_L_blank).binds (ps := ["_law_called_here"]) fun _ _ _ _ _ _ us hl => match us, hl with | [_], _ => rfl,
  a_L_marks,
  _,
  fun_mk l_L_marks c_L_marks p_L_marks,
  PySem.W.mg_of X G g_L_marks,
  (fun_mk (st := s_L_marks) l_L_marks c_L_marks p_L_marks).binds (ps := ["_law_deck_here"]) fun _ _ _ _ _ _ us hl => match us, hl with | [_], _ => rfl,
  a_name_at,
  _,
  fun_mk l_name_at c_name_at p_name_at,
  PySem.W.mg_of X G g_name_at,
  (fun_mk (st := s_name_at) l_name_at c_name_at p_name_at).binds (ps := ["text", "at"]) fun _ _ _ _ _ _ us hl => match us, hl with | [_, _], _ => rfl,
  a_L_spots,
  _,
  fun_mk l_L_spots c_L_spots p_L_spots,
  PySem.W.mg_of X G g_L_spots,
  (fun_mk (st := s_L_spots) l_L_spots c_L_spots p_L_spots).binds (ps := ["_law_written"]) fun _ _ _ _ _ _ us hl => match us, hl with | [_], _ => rfl,
  a_L_piece,
  _,
  fun_mk l_L_piece c_L_piece p_L_piece,
  PySem.W.mg_of X G g_L_piece,
  (fun_mk (st := s_L_piece) l_L_piece c_L_piece p_L_piece).binds (ps := ["_law_deck_here", "_law_pool"]) fun _ _ _ _ _ _ us hl => match us, hl with | [_, _], _ => rfl,
  a_places_in,
  _,
  fun_mk l_places_in c_places_in p_places_in,
  PySem.W.mg_of X G g_places_in,
  (fun_mk (st := s_places_in) l_places_in c_places_in p_places_in).binds (ps := ["text"]) fun _ _ _ _ _ _ us hl => match us, hl with | [_], _ => rfl,
  a_L_turned,
  _,
  fun_mk l_L_turned c_L_turned p_L_turned,
  PySem.W.mg_of X G g_L_turned,
  (fun_mk (st := s_L_turned) l_L_turned c_L_turned p_L_turned).binds (ps := ["_law_written", "_law_table"]) fun _ _ _ _ _ _ us hl => match us, hl with | [_, _], _ => rfl,
  a_turned_text,
  _,
  fun_mk l_turned_text c_turned_text p_turned_text,
  PySem.W.mg_of X G g_turned_text,
  (fun_mk (st := s_turned_text) l_turned_text c_turned_text p_turned_text).binds (ps := ["text", "pairs"]) fun _ _ _ _ _ _ us hl => match us, hl with | [_, _], _ => rfl,
  a_L_blank_text,
  _,
  fun_mk l_L_blank_text c_L_blank_text p_L_blank_text,
  PySem.W.mg_of X G g_L_blank_text,
  (fun_mk (st := s_L_blank_text) l_L_blank_text c_L_blank_text p_L_blank_text).binds (ps := ["_law_called_here", "_law_written"]) fun _ _ _ _ _ _ us hl => match us, hl with | [_, _], _ => rfl,
  a_thing_mark,
  _,
  fun_mk l_thing_mark c_thing_mark p_thing_mark,
  PySem.W.mg_of X G g_thing_mark,
  a_L_right,
  _,
  fun_mk l_L_right c_L_right p_L_right,
  PySem.W.mg_of X G g_L_right,
  (fun_mk (st := s_L_right) l_L_right c_L_right p_L_right).binds (ps := ["_law_own", "_law_written"]) fun _ _ _ _ _ _ us hl => match us, hl with | [_, _], _ => rfl,
  a_law,
  _,
  fun_mk l_law c_law p_law,
  PySem.W.mg_of X G g_law,
  (fun_mk (st := s_law) l_law c_law p_law).binds (ps := ["_law_script"]) fun _ _ _ _ _ _ us hl => match us, hl with | [_], _ => rfl,
  fun s ws r _ hl e => by
    match ws, hl with
    | [_], _ => cases e; exact fun_bindsG (fun_mk (st := s_blank_of) l_blank_of c_blank_of p_blank_of) s fun _ _ _ _ _ _ => rfl,
  [.none],
  [.non],
  (.cons rfl .nil),
  fun _ _ => (.cons .non .nil),
  kwB_mk (D := D_thing_mark) (ms := ["digest"]) (by
    intro q hq
    simp only [List.zip_cons_cons, List.zip_nil_left, List.zip_nil_right, List.mem_cons, List.not_mem_nil, or_false] at hq
    rcases hq with rfl
    · exact kd_thing_mark_digest) (fun us ws r h1 h2 e => by
    match us, ws, h1, h2 with
    | [u0, u1], [], _, _ => cases e; exact ⟨_, _, _, _, _, _, rfl, rfl, rfl⟩),
  [],
  [],
  .nil,
  fun _ _ => .nil,
  kwB_mk (D := D_thing_mark) (ms := []) (fun q hq => nomatch hq) (fun us ws r h1 h2 e => by
    match us, ws, h1, h2 with
    | [u0, u1], [w0], _, _ => cases e; exact rfl),
  [.none],
  [.non],
  (.cons rfl .nil),
  fun _ _ => (.cons .non .nil),
  kwB_mk (D := D_thing_mark) (ms := ["digest"]) (by
    intro q hq
    simp only [List.zip_cons_cons, List.zip_nil_left, List.zip_nil_right, List.mem_cons, List.not_mem_nil, or_false] at hq
    rcases hq with rfl
    · exact kd_thing_mark_digest) (fun us ws r h1 h2 e => by
    match us, ws, h1, h2 with
    | [], [w0, w1], _, _ => cases e; exact ⟨_, _, _, _, _, _, rfl, rfl, rfl⟩)⟩
end
end Law
end
section
set_option Elab.async false
set_option linter.all false
set_option maxRecDepth 100000
set_option maxHeartbeats 0
set_option autoImplicit false
noncomputable section
namespace Law
open PySem PySem.Spec PyProof.Rows L2 MM
theorem zq_allT {l : PySem.W.OpenLaw} {w : World} {K : Hd.Fg} {h : Heap} {mg : Str → Option Value} {zc zP : Addr} (X : K.In h) (G : h.Ns mainGlobals mg) (T : Txt K mg) (tk : TabK K "_law_right" zc zP) : ∀ base : Heap, K.In base → base.Ns mainGlobals mg → LamX.TabB base mg zc zP → FnTop l.prog w K mg base 8 T.a_law T.d_law ["_law_script"] "_law_right" N_law.length m_law := fun base _ _ TB => ok_law T (tk.lamB X G T.g_L_right T.F_L_right TB)
theorem all_of {l : PySem.W.OpenLaw} {w : World} {K : Hd.Fg} {h : Heap} {mg : Str → Option Value} {fa : Addr} {zc zP : Addr} (X : K.In h) (G : h.Ns mainGlobals mg) (hfa : mg "law" = some (.ref fa)) (tk : TabK K "_law_right" zc zP) (c : zqF_ K (Hd.lk K) = zqV_) :
  ∃ (fd : FuncData), (∀ (s : Shared) (v : Value), BindsTo s fd ⟨[v], []⟩ [("_law_script", v)]) ∧ (∀ base : Heap, K.In base → base.Ns mainGlobals mg → LamX.TabB base mg zc zP → FnTop l.prog w K mg base 8 fa fd ["_law_script"] "_law_right" N_law.length m_law) := by
  have q : zqB_ K (Hd.lk K) = true := congrArg (fun z : Bool × List He.FnV => z.1) c
  obtain ⟨c0, q⟩ := Bool.and_eq_true_iff.mp (show ((zqB0 K (Hd.lk K)).all id && _) = true from q)
  obtain ⟨c1, q⟩ := Bool.and_eq_true_iff.mp (show ((zqB1 K (Hd.lk K)).all id && _) = true from q)
  have c2 : (zqB2 K (Hd.lk K)).all id = true := q
  have f0 : zqF0 (Hd.lk K) = zqW0 := congrArg (fun z : Bool × List He.FnV => z.2) c
  have e := hfa.symm.trans (PySem.W.mg_of X G (Hd.at_l (Hd.gb c2 6 rfl)))
  cases e
  exact ⟨_, fun s v => fun_bindsG (ps := ["_law_script"]) (args := ⟨[v], []⟩) (r := [v]) (fun_mk (st := s_law) (Hd.fn_l (st := s_law) (Hd.gf f0 30 rfl rfl)) (Hd.code_l (Hd.gb c2 7 rfl)) (Hd.keepf_l (Hd.fn_l (st := s_law) (Hd.gf f0 30 rfl rfl)))) s fun _ _ _ _ _ _ => rfl, zq_allT X G (txt
    X G (Hd.int_l (Hd.gb c0 0 rfl)) (Hd.str_l (Hd.gb c0 1 rfl))
    (Hd.str_l (Hd.gb c0 2 rfl)) (Hd.int_l (Hd.gb c0 3 rfl)) (Hd.str_l (Hd.gb c0 4 rfl)) (Hd.int_l (Hd.gb c0 5 rfl))
    (Hd.int_l (Hd.gb c0 6 rfl)) (Hd.int_l (Hd.gb c0 7 rfl)) (Hd.str_l (Hd.gb c0 8 rfl)) (Hd.str_l (Hd.gb c0 9 rfl))
    (Hd.str_l (Hd.gb c0 10 rfl)) (Hd.int_l (Hd.gb c0 11 rfl)) (Hd.int_l (Hd.gb c0 12 rfl)) (Hd.str_l (Hd.gb c0 13 rfl))
    (Hd.free_l (Hd.gb c0 14 rfl)) (Hd.free_l (Hd.gb c0 15 rfl)) (Hd.free_l (Hd.gb c0 16 rfl)) (Hd.free_l (Hd.gb c0 17 rfl))
    (Hd.free_l (Hd.gb c0 18 rfl)) (Hd.free_l (Hd.gb c0 19 rfl)) (Hd.free_l (Hd.gb c0 20 rfl)) (Hd.free_l (Hd.gb c0 21 rfl))
    (Hd.free_l (Hd.gb c0 22 rfl)) (Hd.free_l (Hd.gb c0 23 rfl)) (Hd.at_l (Hd.gb c0 24 rfl)) (Hd.fn_l (st := s_is_label) (Hd.gf f0 0 rfl rfl))
    (Hd.code_l (Hd.gb c0 25 rfl)) (Hd.keepf_l (Hd.fn_l (st := s_is_label) (Hd.gf f0 0 rfl rfl))) (Hd.at_l (Hd.gb c0 26 rfl)) (Hd.fn_l (st := s_is_mark) (Hd.gf f0 1 rfl rfl))
    (Hd.code_l (Hd.gb c0 27 rfl)) (Hd.keepf_l (Hd.fn_l (st := s_is_mark) (Hd.gf f0 1 rfl rfl))) (Hd.at_l (Hd.gb c0 28 rfl)) (Hd.fn_l (st := s_mark_of) (Hd.gf f0 2 rfl rfl))
    (Hd.code_l (Hd.gb c0 29 rfl)) (Hd.keepf_l (Hd.fn_l (st := s_mark_of) (Hd.gf f0 2 rfl rfl))) (Hd.at_l (Hd.gb c0 30 rfl)) (Hd.fn_l (st := s_name_with) (Hd.gf f0 3 rfl rfl))
    (Hd.code_l (Hd.gb c0 31 rfl)) (Hd.keepf_l (Hd.fn_l (st := s_name_with) (Hd.gf f0 3 rfl rfl))) (Hd.at_l (Hd.gb c0 32 rfl)) (Hd.fn_l (st := s_label_in) (Hd.gf f0 4 rfl rfl))
    (Hd.code_l (Hd.gb c0 33 rfl)) (Hd.keepf_l (Hd.fn_l (st := s_label_in) (Hd.gf f0 4 rfl rfl))) (Hd.at_l (Hd.gb c0 34 rfl)) (Hd.fn_l (st := s_L_deck) (Hd.gf f0 5 rfl rfl))
    (Hd.code_l (Hd.gb c0 35 rfl)) (Hd.keepf_l (Hd.fn_l (st := s_L_deck) (Hd.gf f0 5 rfl rfl))) (Hd.at_l (Hd.gb c0 36 rfl)) (Hd.fn_l (st := s_L_draw) (Hd.gf f0 6 rfl rfl))
    (Hd.code_l (Hd.gb c0 37 rfl)) (Hd.keepf_l (Hd.fn_l (st := s_L_draw) (Hd.gf f0 6 rfl rfl))) (Hd.at_l (Hd.gb c0 38 rfl)) (Hd.fn_l (st := s_L_signs) (Hd.gf f0 7 rfl rfl))
    (Hd.code_l (Hd.gb c0 39 rfl)) (Hd.keepf_l (Hd.fn_l (st := s_L_signs) (Hd.gf f0 7 rfl rfl))) (Hd.at_l (Hd.gb c1 0 rfl)) (Hd.fn_l (st := s_L_thirty_two) (Hd.gf f0 8 rfl rfl))
    (Hd.code_l (Hd.gb c1 1 rfl)) (Hd.keepf_l (Hd.fn_l (st := s_L_thirty_two) (Hd.gf f0 8 rfl rfl))) (Hd.at_l (Hd.gb c1 2 rfl)) (Hd.fn_l (st := s_L_weak) (Hd.gf f0 9 rfl rfl))
    (Hd.code_l (Hd.gb c1 3 rfl)) (Hd.keepf_l (Hd.fn_l (st := s_L_weak) (Hd.gf f0 9 rfl rfl))) (Hd.at_l (Hd.gb c1 4 rfl)) (Hd.fn_l (st := s_L_is_word) (Hd.gf f0 10 rfl rfl))
    (Hd.code_l (Hd.gb c1 5 rfl)) (Hd.keepf_l (Hd.fn_l (st := s_L_is_word) (Hd.gf f0 10 rfl rfl))) (Hd.at_l (Hd.gb c1 6 rfl)) (Hd.fn_l (st := s_L_is_mark) (Hd.gf f0 11 rfl rfl))
    (Hd.code_l (Hd.gb c1 7 rfl)) (Hd.keepf_l (Hd.fn_l (st := s_L_is_mark) (Hd.gf f0 11 rfl rfl))) (Hd.at_l (Hd.gb c1 8 rfl)) (Hd.fn_l (st := s_L_called) (Hd.gf f0 12 rfl rfl))
    (Hd.code_l (Hd.gb c1 9 rfl)) (Hd.keepf_l (Hd.fn_l (st := s_L_called) (Hd.gf f0 12 rfl rfl))) (Hd.at_l (Hd.gb c1 10 rfl)) (Hd.fn_l (st := s_is_name) (Hd.gf f0 13 rfl rfl))
    (Hd.code_l (Hd.gb c1 11 rfl)) (Hd.keepf_l (Hd.fn_l (st := s_is_name) (Hd.gf f0 13 rfl rfl))) (Hd.at_l (Hd.gb c1 12 rfl)) (Hd.fn_l (st := s_blank_of) (Hd.gf f0 14 rfl rfl))
    (Hd.code_l (Hd.gb c1 13 rfl)) (Hd.keepf_l (Hd.fn_l (st := s_blank_of) (Hd.gf f0 14 rfl rfl))) (Hd.at_l (Hd.gb c1 14 rfl)) (Hd.fn_l (st := s_L_pick) (Hd.gf f0 15 rfl rfl))
    (Hd.code_l (Hd.gb c1 15 rfl)) (Hd.keepf_l (Hd.fn_l (st := s_L_pick) (Hd.gf f0 15 rfl rfl))) (Hd.at_l (Hd.gb c1 16 rfl)) (Hd.fn_l (st := s_L_words) (Hd.gf f0 16 rfl rfl))
    (Hd.code_l (Hd.gb c1 17 rfl)) (Hd.keepf_l (Hd.fn_l (st := s_L_words) (Hd.gf f0 16 rfl rfl))) (Hd.at_l (Hd.gb c1 18 rfl)) (Hd.fn_l (st := s_L_mark) (Hd.gf f0 17 rfl rfl))
    (Hd.code_l (Hd.gb c1 19 rfl)) (Hd.keepf_l (Hd.fn_l (st := s_L_mark) (Hd.gf f0 17 rfl rfl))) (Hd.at_l (Hd.gb c1 20 rfl)) (Hd.fn_l (st := s_L_is_called) (Hd.gf f0 18 rfl rfl))
    (Hd.code_l (Hd.gb c1 21 rfl)) (Hd.keepf_l (Hd.fn_l (st := s_L_is_called) (Hd.gf f0 18 rfl rfl))) (Hd.at_l (Hd.gb c1 22 rfl)) (Hd.fn_l (st := s_L_blank) (Hd.gf f0 19 rfl rfl))
    (Hd.code_l (Hd.gb c1 23 rfl)) (Hd.keepf_l (Hd.fn_l (st := s_L_blank) (Hd.gf f0 19 rfl rfl))) (Hd.at_l (Hd.gb c1 24 rfl)) (Hd.fn_l (st := s_L_marks) (Hd.gf f0 20 rfl rfl))
    (Hd.code_l (Hd.gb c1 25 rfl)) (Hd.keepf_l (Hd.fn_l (st := s_L_marks) (Hd.gf f0 20 rfl rfl))) (Hd.at_l (Hd.gb c1 26 rfl)) (Hd.fn_l (st := s_name_at) (Hd.gf f0 21 rfl rfl))
    (Hd.code_l (Hd.gb c1 27 rfl)) (Hd.keepf_l (Hd.fn_l (st := s_name_at) (Hd.gf f0 21 rfl rfl))) (Hd.at_l (Hd.gb c1 28 rfl)) (Hd.fn_l (st := s_L_spots) (Hd.gf f0 22 rfl rfl))
    (Hd.code_l (Hd.gb c1 29 rfl)) (Hd.keepf_l (Hd.fn_l (st := s_L_spots) (Hd.gf f0 22 rfl rfl))) (Hd.at_l (Hd.gb c1 30 rfl)) (Hd.fn_l (st := s_L_piece) (Hd.gf f0 23 rfl rfl))
    (Hd.code_l (Hd.gb c1 31 rfl)) (Hd.keepf_l (Hd.fn_l (st := s_L_piece) (Hd.gf f0 23 rfl rfl))) (Hd.at_l (Hd.gb c1 32 rfl)) (Hd.fn_l (st := s_places_in) (Hd.gf f0 24 rfl rfl))
    (Hd.code_l (Hd.gb c1 33 rfl)) (Hd.keepf_l (Hd.fn_l (st := s_places_in) (Hd.gf f0 24 rfl rfl))) (Hd.at_l (Hd.gb c1 34 rfl)) (Hd.fn_l (st := s_L_turned) (Hd.gf f0 25 rfl rfl))
    (Hd.code_l (Hd.gb c1 35 rfl)) (Hd.keepf_l (Hd.fn_l (st := s_L_turned) (Hd.gf f0 25 rfl rfl))) (Hd.at_l (Hd.gb c1 36 rfl)) (Hd.fn_l (st := s_turned_text) (Hd.gf f0 26 rfl rfl))
    (Hd.code_l (Hd.gb c1 37 rfl)) (Hd.keepf_l (Hd.fn_l (st := s_turned_text) (Hd.gf f0 26 rfl rfl))) (Hd.at_l (Hd.gb c1 38 rfl)) (Hd.fn_l (st := s_L_blank_text) (Hd.gf f0 27 rfl rfl))
    (Hd.code_l (Hd.gb c1 39 rfl)) (Hd.keepf_l (Hd.fn_l (st := s_L_blank_text) (Hd.gf f0 27 rfl rfl))) (Hd.at_l (Hd.gb c2 0 rfl)) (Hd.fn_lr (st := s_thing_mark) (Hd.gf f0 28 rfl rfl) (Hd.gb c2 1 rfl))
    (Hd.code_l (Hd.gb c2 2 rfl)) (Hd.keepf_l (Hd.fn_lr (st := s_thing_mark) (Hd.gf f0 28 rfl rfl) (Hd.gb c2 1 rfl))) (Hd.non_l (Hd.gb c2 3 rfl)) (Hd.at_l (Hd.gb c2 4 rfl))
    (Hd.fn_l (st := s_L_right) (Hd.gf f0 29 rfl rfl)) (Hd.code_l (Hd.gb c2 5 rfl)) (Hd.keepf_l (Hd.fn_l (st := s_L_right) (Hd.gf f0 29 rfl rfl))) (Hd.at_l (Hd.gb c2 6 rfl))
    (Hd.fn_l (st := s_law) (Hd.gf f0 30 rfl rfl)) (Hd.code_l (Hd.gb c2 7 rfl)) (Hd.keepf_l (Hd.fn_l (st := s_law) (Hd.gf f0 30 rfl rfl)))) tk⟩
end Law
end
end
section
set_option Elab.async false
set_option linter.all false
set_option maxRecDepth 100000
set_option maxHeartbeats 4000000
set_option autoImplicit false
namespace Law
open PySem PySem.Spec PyProof.Rows L2 MM
set_option hygiene false in
set_option compiler.extract_closed false in
local macro_rules | `(tactic| walk_at "mm") => do
  let l ← MM.mmI false " "
  `(tactic| simp (disch := first | assumption | omega | exact MM.Q.shaped_int | exact MM.Q.shaped_nil | exact MM.Q.shaped_ints | exact MM.Q.shaped_bool | (refine of_eq_true (eq_true ?_); first | with_unfolding_all rfl | (simp only [MM.Q.free_d, MM.Q.free_ref, MM.Q.free_adr, MM.Q.frees_nil, MM.Q.frees_cons, MM.Q.frees_map, Bool.and_true, Bool.true_and]; done)) | (simp only [List.length_cons, List.length_nil, List.append_nil, List.map_cons, List.map_nil, List.length_append, List.length_map, List.length_reverse, MM.Q.dI_len, PySem.sizeLine_eq]; omega)) only [$l,*])
abbrev mS (l : List Nat) : Mv := .d (.str (Q.st l))
abbrev pS (l : List Nat) : PyData := .str (Q.st l)
def isG (c : Nat) : Bool := c == 10 || (decide (32 ≤ c) && decide (c ≤ 126) && c != 37)
def sgs : List Nat := (List.range 95).map fun i => if i = 0 then 10 else if i < 6 then i + 31 else i + 32
def lets : List Nat := (List.range 26).map (97 + ·)
def fgs : List Nat := [48, 49, 50, 51, 52, 53, 54, 55, 56, 57, 97, 98, 99, 100, 102, 103, 104, 105, 106, 107, 108, 109, 110, 112, 113, 114, 115, 118, 119, 120, 121, 122]
theorem isG_lt {c : Nat} (h : isG c = true) : c < 127 := by
  unfold isG at h; simp at h; omega
theorem isG_mem {c : Nat} : decide (c ∈ sgs) = isG c := by
  by_cases h : c < 127
  · have : ∀ c < 127, decide (c ∈ sgs) = isG c := by decide +kernel
    exact this c h
  · have h1 : isG c = false := by
      cases e : isG c with
      | false => rfl
      | true => exact absurd (isG_lt e) h
    have h2 : ∀ d ∈ sgs, d < 127 := by decide +kernel
    rw [h1, decide_eq_false fun z => h (h2 c z)]
theorem lit_l : (Str.ofString "abcdefghijklmnopqrstuvwxyz") = Q.st lets := by decide +kernel
theorem lit_f : (Str.ofString "0123456789abcdfghijklmnpqrsvwxyz") = Q.st fgs := by decide +kernel
theorem lit_e : (Str.ofString "") = Q.st [] := by decide +kernel
theorem fgs_len : fgs.length = 32 := by decide
theorem lets_len : lets.length = 26 := by decide
theorem lets_good {c : Nat} (h : c ∈ lets) : isG c = true := by
  have : ∀ c ∈ lets, isG c = true := by decide
  exact this c h
theorem fgs_good {c : Nat} (h : c ∈ fgs) : isG c = true := by
  have : ∀ c ∈ fgs, isG c = true := by decide
  exact this c h
theorem isG_ok {c : Nat} (h : isG c = true) : c < 0x110000 := by have := isG_lt h; omega
def wordB (l : List Nat) : Bool := decide (1 ≤ l.length) && (decide (l.length ≤ 8) && l.all fun c => decide (c ∈ lets))
def markB (l : List Nat) : Bool := decide (l.length = 8) && l.all fun c => decide (c ∈ fgs)
theorem notin_one {c : Nat} {z : List Nat} : inStr (Q.st [c]) (Q.st z) = decide (c ∈ z) := by rw [Q.in_sign, Q.cs_st]
def midL (l : List Nat) : List Nat := Q.cutL l (some 10) (some (-1))
def mrkL (l : List Nat) : List Nat := Q.cutL l (some 1) (some 9)
def calB (l : List Nat) : Bool := decide (l.take 1 = [35]) && (decide (l.drop (l.length - 1) = [59]) && (decide (12 ≤ l.length) && (decide (l[9]? = some 45) && (markB (mrkL l) && wordB (midL l)))))
theorem mid_short {l : List Nat} (h : l.length ≤ 11) : midL l = [] := by
  apply List.eq_nil_of_length_eq_zero
  unfold midL Q.cutL
  have e : HT.sIx l.length l.length (some (-1)) = l.length - 1 := by
    show (if (-1 : Int) < 0 then (-1 + (l.length : Int)).toNat else min (Int.toNat (-1)) l.length) = _
    rw [if_pos (by decide)]
    omega
  rw [e, show HT.sIx l.length 0 (some 10) = min 10 l.length from HT.sIx_nat _ _ 10, List.length_take, List.length_drop]
  omega
theorem at9 {l : List Nat} (h : 9 < l.length) : ∃ d, atI l 9 = some d ∧ l[9]? = some d := by
  refine ⟨l[9], ?_, List.getElem?_eq_getElem h⟩
  rw [Q.atI_nat (by decide) (by omega)]
  exact List.getElem?_eq_getElem h
theorem len_mrk {l : List Nat} : (mrkL l).length ≤ l.length := Q.cutL_len
theorem len_mid {l : List Nat} : (midL l).length ≤ l.length := Q.cutL_len
theorem one_eq {a b : Nat} : decide ([a] = [b]) = decide (a = b) := by
  by_cases h : a = b
  · subst h; rw [decide_eq_true rfl, decide_eq_true rfl]
  · rw [decide_eq_false h, decide_eq_false (fun e => h (List.cons.inj e).1)]
def noStr (d : PyData) : Bool := match d with | .str _ => false | _ => true
theorem isi_no {S : Sg} {d : PyData} (h : noStr d = true) : Q.isiO (Mv.kind S (.d d)) "str" = some (.val (.d (.bool false))) := by
  cases d with
  | none => rw [Q.kind_none, Q.isiO_some, Q.kit_ns]; rfl
  | bool b => rw [Q.kind_bool, Q.isiO_some, Q.kit_bs]; rfl
  | int i => rw [Q.kind_int, Q.isiO_some, Q.kit_is]; rfl
  | str z => cases h
  | list xs => rw [Q.kind_list, Q.isiO_some, Q.kit_ls]; rfl
  | tuple xs => rw [Q.kind_tup, Q.isiO_some, Q.kit_ts]; rfl
  | dict xs => rw [Q.kind_dict, Q.isiO_some, Q.kit_ds]; rfl
theorem all_in {S : Sg} {ρ0 : Rho} {z l : List Nat} {i : Nat} (hlen : i < ρ0.length) (hl : l.length ≤ 1000000) :
    lcLoop (mgName i) mYes (mBin .ref (gInN false) (mVar i) (mC (.str (Q.st z)))) ρ0 (l.map fun c => .d (.str (Q.st [c]))) [] S = .ok (((l.map fun c => decide (c ∈ z)).map PyData.bool).map .d) S := by
  have := @Q.lc_mapF ρ0 S Nat (mgName i) (mBin .ref (gInN false) (mVar i) (mC (.str (Q.st z)))) (fun c => .d (.str (Q.st [c]))) (fun c => .d (.bool (decide (c ∈ z)))) l [] (fun c _ => ⟨ρ0.set i (some (.d (.str (Q.st [c])))), rfl, by
    have : (ρ0.set i (some (Mv.d (.str (Q.st [c])))))[i]? = some (some (.d (.str (Q.st [c])))) := List.getElem?_set_self hlen
    show (Res.bind (Q.vr (ρ0.set i (some (Mv.d (.str (Q.st [c])))))[i]? S) _) = _
    rw [this]
    show Q.bearO .ref (gInN false S (.d (.str (Q.st [c]))) (.d (.str (Q.st z)))) S = _
    rw [Q.in_str, notin_one]
    rfl, rfl⟩) (by rw [PySem.sizeLine_eq]; simp; omega)
  rw [this, List.nil_append, List.map_map, List.map_map]
  rfl
theorem none_out {S : Sg} {ρ0 : Rho} {z l : List Nat} {i : Nat} (hlen : i < ρ0.length) (hl : l.length ≤ 1000000) :
    lcLoop (mgName i) (mTst (mBin .ref (gInN true) (mVar i) (mC (.str (Q.st z))))) (mVar i) ρ0 (l.map fun c => .d (.str (Q.st [c]))) [] S = .ok ((l.filter fun c => !decide (c ∈ z)).map fun c => .d (.str (Q.st [c]))) S := by
  have := @Q.lc_filterF ρ0 S Nat (mgName i) (mTst (mBin .ref (gInN true) (mVar i) (mC (.str (Q.st z))))) (mVar i) (fun c => .d (.str (Q.st [c]))) (fun c => .d (.str (Q.st [c]))) (fun c => !decide (c ∈ z)) l [] (fun c _ => by
    have e : (ρ0.set i (some (Mv.d (.str (Q.st [c])))))[i]? = some (some (.d (.str (Q.st [c])))) := List.getElem?_set_self hlen
    refine ⟨ρ0.set i (some (.d (.str (Q.st [c])))), rfl, ?_, fun _ => ⟨?_, rfl⟩⟩
    · show (Res.bind (Res.bind (Q.vr (ρ0.set i (some (Mv.d (.str (Q.st [c])))))[i]? S) _) _) = _
      rw [e]
      show Res.bind (Q.bearO .ref (gInN true S (.d (.str (Q.st [c]))) (.d (.str (Q.st z)))) S) _ = _
      rw [Q.notIn_str, notin_one]
      rfl
    · show Q.vr (ρ0.set i (some (Mv.d (.str (Q.st [c])))))[i]? S = _
      rw [e]
      rfl) (by rw [PySem.sizeLine_eq]; simp; omega)
  rw [this, List.nil_append]
structure Gd (n : Nat) (l : List Nat) : Prop where
  len : l.length ≤ n
  all : ∀ c ∈ l, isG c = true
theorem Gd.mono {n m : Nat} {l : List Nat} (h : Gd n l) (e : n ≤ m) : Gd m l := ⟨Nat.le_trans h.len e, h.all⟩
theorem Gd.app {n m : Nat} {a b : List Nat} (h : Gd n a) (k : Gd m b) : Gd (n + m) (a ++ b) := ⟨by rw [List.length_append]; have := h.len; have := k.len; omega, fun c hc => (List.mem_append.mp hc).elim (h.all c) (k.all c)⟩
theorem Gd.rep {n k : Nat} {a : List Nat} (h : Gd n a) : Gd (k * n) (List.replicate k a).flatten := ⟨by rw [Q.rep_len]; exact Nat.mul_le_mul_left k h.len, fun c hc => by
  obtain ⟨l, hl, hc⟩ := List.mem_flatten.mp hc
  rw [(List.mem_replicate.mp hl).2] at hc
  exact h.all c hc⟩
theorem Gd.one {c : Nat} (h : isG c = true) : Gd 1 [c] := ⟨Nat.le_refl _, fun d hd => by rw [List.mem_singleton.mp hd]; exact h⟩
theorem Gd.nil : Gd 0 [] := ⟨Nat.le_refl _, fun d hd => by cases hd⟩
theorem Gd.of {l : List Nat} (h : l.all isG = true) : Gd l.length l := ⟨Nat.le_refl _, List.all_eq_true.mp h⟩
theorem Gd.ok {n : Nat} {l : List Nat} (h : Gd n l) : ∀ c ∈ l, c < 0x110000 := fun c hc => isG_ok (h.all c hc)
theorem Gd.shaped {n : Nat} {l : List Nat} (h : Gd n l) : SeqAt.shaped (.str (Q.st l)) = true := Q.ok_st h.ok
theorem Gd.upper {n : Nat} {l : List Nat} (h : Gd n l) : Txt.upper (Q.st l) = Q.st (l.map PyProof.Rows.up1) := Q.upper_st fun c hc => by have := isG_lt (h.all c hc); omega
theorem word_good {l : List Nat} (h : wordB l = true) : Gd 8 l := by
  unfold wordB at h
  simp only [Bool.and_eq_true, decide_eq_true_eq, List.all_eq_true] at h
  exact ⟨h.2.1, fun c hc => lets_good (h.2.2 c hc)⟩
theorem mark_good {l : List Nat} (h : markB l = true) : Gd 8 l := by
  unfold markB at h
  simp only [Bool.and_eq_true, decide_eq_true_eq, List.all_eq_true] at h
  exact ⟨Nat.le_of_eq h.1, fun c hc => fgs_good (h.2 c hc)⟩
def nameL (m w : List Nat) : List Nat := 35 :: (m ++ 45 :: (w ++ [59]))
theorem nameL_len {m w : List Nat} : (nameL m w).length = m.length + w.length + 3 := by simp [nameL]; omega
theorem nameL_good {m w : List Nat} (hm : markB m = true) (hw : wordB w = true) : Gd 19 (nameL m w) := by
  have a := mark_good hm
  have b := word_good hw
  exact ((Gd.one (c := 35) (by decide)).app (a.app ((Gd.one (c := 45) (by decide)).app (b.app (Gd.one (c := 59) (by decide)))))).mono (by decide)
theorem nameL_mark {m w : List Nat} (h : m.length = 8) : Q.cutL (nameL m w) (some 1) (some 9) = m := by
  rw [show (some (1 : Int)) = some ((1 : Nat) : Int) from rfl, show (some (9 : Int)) = some ((9 : Nat) : Int) from rfl, Q.cutL_ab (by rw [nameL_len]; omega) (by decide)]
  show List.take 8 (m ++ _) = m
  rw [← h, List.take_left]
theorem nameL_label {m w : List Nat} (h : m.length = 8) : Q.cutL (nameL m w) (some 10) (some (-1)) = w := by
  rw [show (some (10 : Int)) = some ((10 : Nat) : Int) from rfl, Q.cutL_neg1 (by rw [nameL_len]; omega), nameL_len]
  have e : List.drop 10 (nameL m w) = w ++ [59] := by
    show List.drop 9 (m ++ 45 :: (w ++ [59])) = _
    rw [List.drop_append, h, List.drop_of_length_le (by omega)]; rfl
  rw [e, show m.length + w.length + 3 - 1 - 10 = w.length by omega, List.take_left]
def deckS (xs : List Int) (b c : Int) (T : Sg) : Sg := (false, Mo.lst (Q.dI xs)) :: (false, Mo.lst [.ref 0, .d (.int b), .d (.int c)]) :: T
theorem deck_spec {ns : List Int} (h : ns.length ≤ 63) : ∃ (xs : List Int) (b : Int), f_L_deck [.d (.list (ns.map PyData.int))] [] = .ok (.ref 1) (deckS xs b 0 []) ∧ xs.length ≤ 63 := by
  suffices e : ∃ b : Int, f_L_deck [.d (.list (ns.map PyData.int))] [] = .ok (.ref 1) (deckS ns.reverse b 0 []) from let ⟨b, e⟩ := e; ⟨_, b, e, by rw [List.length_reverse]; exact h⟩
  have hm : ∀ (ρ : Rho) (S : Sg), ρ.length = 3 → lcLoop (mgName 2) mYes e_L_deck_1 ρ ((ns.map PyData.int).map .d) [] S = .ok (((ns.map (· % 1000003)).map PyData.int).map .d) S := by
    intro ρ S hρ
    have := @Q.lc_mapF ρ S Int (mgName 2) e_L_deck_1 (fun n => .d (.int n)) (fun n => .d (.int (n % 1000003))) ns [] (fun a _ => ⟨ρ.set 2 (some (.d (.int a))), rfl, by
      obtain ⟨x, y, z, rfl⟩ : ∃ x y z, ρ = [x, y, z] := by
        match ρ, hρ with
        | [x, y, z], _ => exact ⟨x, y, z, rfl⟩
      unfold e_L_deck_1
      walk_at "mm", rfl⟩) (by rw [PySem.sizeLine_eq]; simp; omega)
    simpa [List.map_map, Function.comp_def] using this
  unfold f_L_deck m_L_deck deckS
  walk_at "mm"
  rw [show (63 : Int) = ((63 : Nat) : Int) from rfl, Q.cutL_to, List.take_of_length_le h, ← List.map_reverse, ← List.map_reverse, hm _ _ rfl]
  walk_at "mm"
  exact ⟨_, rfl⟩
structure Dk where
  xs : List Int
  b : Int
  c : Int
  h : xs.length ≤ 63
def dS (D : Dk) (T : Sg) : Sg := deckS D.xs D.b D.c T
theorem dS_len {D : Dk} {T : Sg} : (dS D T).length = T.length + 2 := rfl
theorem dS_app {D : Dk} {T U : Sg} : dS D T ++ U = dS D (T ++ U) := rfl
theorem draw_ex (D : Dk) (k : Nat) : ∃ (r : Fin (k - 1 + 1)) (E : Dk), 0 < k → k < 2 ^ 30 → ∀ T, f_L_draw [.ref 1, .d (.int (k : Nat))] (dS D T) = .ok (.d (.int (r.val : Nat))) (dS E T) := by
  by_cases hk : 0 < k ∧ k < 2 ^ 30
  · obtain ⟨xs, b, c, hl⟩ := D
    suffices h : ∃ (z : Int) (ys : List Int) (c' : Int), (∀ T, f_L_draw [.ref 1, .d (.int (k : Nat))] (deckS xs b c T) = .ok (.d (.int (z % (k : Nat)))) (deckS ys b c' T)) ∧ ys.length ≤ 63 by
      obtain ⟨z, ys, c', h, hy⟩ := h
      have h0 := Int.emod_nonneg z (show ((k : Nat) : Int) ≠ 0 by omega)
      have h1 := Int.emod_lt_of_pos z (show (0 : Int) < (k : Nat) by omega)
      refine ⟨⟨(z % (k : Nat)).toNat, by omega⟩, ⟨ys, b, c', hy⟩, fun _ _ T => ?_⟩
      show f_L_draw _ (deckS xs b c T) = .ok (.d (.int (((z % (k : Nat)).toNat : Nat) : Int))) (deckS ys b c' T)
      rw [h T, Int.toNat_of_nonneg h0]
    obtain ⟨hk0, hk2⟩ := hk
    have hk' : (0 : Int) < (k : Nat) := by omega
    have hk3 : ((k : Nat) : Int) < 2 ^ 30 := by omega
    generalize ((k : Nat) : Int) = k at hk' hk3
    have p1 : ∀ z : Int, 0 ≤ z % 2147483647 ∧ z % 2147483647 < 2147483647 := fun z => ⟨Int.emod_nonneg _ (by decide), Int.emod_lt_of_pos _ (by decide)⟩
    have p2 : ∀ z : Int, 0 ≤ z % 2147483587 ∧ z % 2147483587 < 2147483587 := fun z => ⟨Int.emod_nonneg _ (by decide), Int.emod_lt_of_pos _ (by decide)⟩
    rcases List.eq_nil_or_concat xs with rfl | ⟨ys, x, rfl⟩
    · refine ⟨?z, [], c + 1, fun T => ?h, by simp⟩
      case h =>
        unfold f_L_draw m_L_draw deckS
        walk_at "mm"
        simp only [List.map_nil, List.isEmpty_nil, Bool.not_true]
        walk_at "mm"
        exact rfl
    · rw [List.concat_eq_append] at hl ⊢
      have hl' : ys.length < 63 := by simp at hl; omega
      have e1 : (List.map PyData.int (ys ++ [x])).isEmpty = false := by simp
      by_cases hx : x ≥ 10 ^ 18
      · refine ⟨x, ys ++ [x / k], c + 1, fun T => ?_, by simpa using hl⟩
        unfold f_L_draw m_L_draw deckS
        walk_at "mm"
        simp only [e1, Bool.not_false]
        walk_at "mm"
        have e2 : decide ((10 : Int) ^ Int.toNat 18 ≤ x) = true := decide_eq_true (by simpa using hx)
        simp only [e2]
        walk_at "mm"
      · refine ⟨?y, ys, c + 1, fun T => ?g, by omega⟩
        case g =>
          unfold f_L_draw m_L_draw deckS
          walk_at "mm"
          simp only [e1, Bool.not_false]
          walk_at "mm"
          have e2 : decide ((10 : Int) ^ Int.toNat 18 ≤ x) = false := decide_eq_false (by simpa using hx)
          simp only [e2]
          walk_at "mm"
          exact rfl
  · exact ⟨⟨0, by omega⟩, D, fun a b => absurd ⟨a, b⟩ hk⟩
noncomputable def dr (D : Dk) (k : Nat) : Fin (k - 1 + 1) := Classical.choose (draw_ex D k)
noncomputable def nx (D : Dk) (k : Nat) : Dk := Classical.choose (Classical.choose_spec (draw_ex D k))
theorem draw_nat {D : Dk} {T : Sg} {k : Nat} (h : 0 < k ∧ k < 2 ^ 30) : f_L_draw [.ref 1, .d (.int (k : Nat))] (dS D T) = .ok (.d (.int ((dr D k).val : Nat))) (dS (nx D k) T) :=
  Classical.choose_spec (Classical.choose_spec (draw_ex D k)) h.1 h.2 T
theorem draw_int {D : Dk} {T : Sg} {k : Int} (h : 0 < k ∧ k < 2 ^ 30) : f_L_draw [.ref 1, .d (.int k)] (dS D T) = .ok (.d (.int ((dr D k.toNat).val : Nat))) (dS (nx D k.toNat) T) := by
  obtain ⟨n, rfl⟩ : ∃ n : Nat, k = n := ⟨k.toNat, by omega⟩
  rw [Int.toNat_natCast]
  exact draw_nat ⟨by omega, by omega⟩
theorem deck_eq {ns : List Int} (h : ns.length ≤ 63) : ∃ D : Dk, f_L_deck [.d (.list (ns.map PyData.int))] [] = .ok (.ref 1) (dS D []) := by
  obtain ⟨xs, b, e, hx⟩ := deck_spec h
  exact ⟨⟨xs, b, 0, hx⟩, e⟩
theorem dS_get {D : Dk} {T : Sg} {i : Nat} : (dS D T)[i + 2]? = T[i]? := rfl
theorem dS_set {D : Dk} {T : Sg} {i : Nat} {w : Bool × Mo} : (dS D T).set (i + 2) w = dS D (T.set i w) := rfl
section
variable {T U : Sg} {u v w x : Bool × Mo}
theorem sg_app : T ++ U ++ [u] = T ++ (U ++ [u]) := List.append_assoc ..
theorem sg_app2 : T ++ U ++ [u, v] = T ++ (U ++ [u, v]) := List.append_assoc ..
theorem ag0 : (T ++ u :: U)[T.length]? = some u := by simp
theorem ag1 : (T ++ u :: v :: U)[T.length + 1]? = some v := by simp
theorem ag2 : (T ++ u :: v :: w :: U)[T.length + 2]? = some w := by simp
theorem ag3 : (T ++ u :: v :: w :: x :: U)[T.length + 3]? = some x := by simp
theorem as0 {z : Bool × Mo} : (T ++ u :: U).set T.length z = T ++ z :: U := by
  rw [List.set_append_right _ _ (Nat.le_refl _), Nat.sub_self]; rfl
theorem as1 {z : Bool × Mo} : (T ++ u :: v :: U).set (T.length + 1) z = T ++ u :: z :: U := by
  rw [List.set_append_right _ _ (by omega), show T.length + 1 - T.length = 1 by omega]; rfl
theorem as2 {z : Bool × Mo} : (T ++ u :: v :: w :: U).set (T.length + 2) z = T ++ u :: v :: z :: U := by
  rw [List.set_append_right _ _ (by omega), show T.length + 2 - T.length = 2 by omega]; rfl
theorem as3 {z : Bool × Mo} : (T ++ u :: v :: w :: x :: U).set (T.length + 3) z = T ++ u :: v :: w :: z :: U := by
  rw [List.set_append_right _ _ (by omega), show T.length + 3 - T.length = 3 by omega]; rfl
theorem al1 : (T ++ [u]).length + 2 = T.length + 3 := by simp
theorem al2 : (T ++ [u, v]).length + 2 = T.length + 4 := by simp
theorem al3 : (T ++ [u, v, w]).length + 2 = T.length + 5 := by simp
theorem dS_trim {D : Dk} (h : U.all (·.1) = true) : trim (T.length + 2) (dS D (T ++ U)) = dS D T := by
  rw [← dS_app]
  exact Q.trim_app rfl h
theorem dS_trim0 {D : Dk} : trim (T.length + 2) (dS D T) = dS D T := Q.trim_same rfl
theorem dS_trimc {D : Dk} (h : U.all (·.1) = true) : trim 2 (dS D U) = dS D [] := dS_trim (T := []) h
/-- many times something drawn -/
theorem lc_dk {T : Sg} {ρ : Rho} {g : MG} {te : ME} {R : Mv → Prop} {xs : List Mv} {D : Dk} (h : ∀ x ∈ xs, ∀ D, ∃ ρ1 y E, g (dS D T) x ρ = some ρ1 ∧ te ρ1 (dS D T) = .ok y (dS E T) ∧ y.free = true ∧ R y) (hl : xs.length ≤ 16777216) :
    ∃ ys E, lcLoop g mYes te ρ xs [] (dS D T) = .ok ys (dS E T) ∧ ys.length = xs.length ∧ ∀ y ∈ ys, R y := by
  obtain ⟨ys, S2, e, e1, e2, E, rfl⟩ := @Q.lc_ex ρ g te (fun S => ∃ D, S = dS D T) R xs [] (dS D T) (fun x hx S ⟨D, hD⟩ => by
    subst hD
    obtain ⟨ρ1, y, E, h1, h2, h3, h4⟩ := h x hx D
    exact ⟨ρ1, y, dS E T, h1, h2, h3, h4, E, rfl⟩) ⟨D, rfl⟩ (by rw [PySem.sizeLine_eq]; simpa using hl)
  exact ⟨ys, E, e, e1, e2⟩
end
theorem seq_to {a b : MS} {ρ ρ1 : Rho} {S S1 : Sg} {r : RS} (h : a ρ S = .nx ρ1 S1) (h2 : b ρ1 S1 = r) : mSeq a b ρ S = r := by rw [Q.ev_seq, h]; exact h2
theorem fgs_at {i : Int} (h : 0 ≤ i) (h2 : i < 32) : ∃ d, atI fgs i = some d ∧ d ∈ fgs := by
  obtain ⟨d, hd, e⟩ := Q.atI_mem (xs := fgs) h (by rw [fgs_len]; omega)
  exact ⟨d, e, hd⟩
theorem markB_of {l : List Nat} (h1 : l.length = 8) (h3 : ∀ c ∈ l, c ∈ fgs) : markB l = true := by
  unfold markB
  rw [decide_eq_true h1, Bool.true_and]
  exact List.all_eq_true.mpr fun c hc => decide_eq_true (h3 c hc)
theorem of_markB {l : List Nat} (h : markB l = true) : l.length = 8 ∧ ∀ c ∈ l, c ∈ fgs := by
  unfold markB at h
  simp only [Bool.and_eq_true, decide_eq_true_eq, List.all_eq_true] at h
  exact h
theorem spec_is_label {S : Sg} {l : List Nat} (hl : l.length ≤ 1000000) : f_is_label [.d (.str (Q.st l))] S = .ok (.d (.bool (wordB l))) S := by
  have hs : l.length ≤ sizeLine := by rw [PySem.sizeLine_eq]; omega
  unfold f_is_label m_is_label e_is_label_1 wordB
  walk_at "mm"
  rw [show k_LETTERS = Q.st lets from lit_l]
  by_cases h1 : 1 ≤ l.length
  · simp only [decide_eq_true h1, decide_eq_true (show (1 : Int) ≤ (l.length : Nat) by omega)]
    walk_at "mm"
    by_cases h2 : l.length ≤ 8
    · simp only [decide_eq_true h2, decide_eq_true (show ((l.length : Nat) : Int) ≤ 8 by omega)]
      walk_at "mm"
      rw [all_in (show 1 < 2 by decide) hl]
      walk_at "mm"
      rw [Q.all_map_id]
    · simp only [decide_eq_false h2, decide_eq_false (show ¬ ((l.length : Nat) : Int) ≤ 8 by omega), Bool.false_and, Bool.and_false]
      walk_at "mm"
  · simp only [decide_eq_false h1, decide_eq_false (show ¬ (1 : Int) ≤ (l.length : Nat) by omega), Bool.false_and]
    walk_at "mm"
theorem spec_is_mark {S : Sg} {l : List Nat} (hl : l.length ≤ 1000000) : f_is_mark [.d (.str (Q.st l))] S = .ok (.d (.bool (markB l))) S := by
  have hs : l.length ≤ sizeLine := by rw [PySem.sizeLine_eq]; omega
  unfold f_is_mark m_is_mark e_is_mark_1 markB
  walk_at "mm"
  rw [show k_FIGURES = Q.st fgs from lit_f]
  by_cases h1 : l.length = 8
  · rw [show ((l.length : Nat) : Int) = 8 by omega]
    simp only [decide_eq_true h1, Q.eqv_int, beq_self_eq_true]
    walk_at "mm"
    rw [all_in (show 1 < 2 by decide) hl]
    walk_at "mm"
    rw [Q.all_map_id]
  · simp only [decide_eq_false h1, Q.eqv_int, beq_eq_false_iff_ne.mpr (show ((l.length : Nat) : Int) ≠ 8 by omega), Bool.false_and]
    walk_at "mm"
section
variable {S : Sg} {d : PyData}
theorem label_no (h : noStr d = true) : f_is_label [.d d] S = .ok (.d (.bool false)) S := by
  unfold f_is_label m_is_label
  walk_at "mm"
  rw [isi_no h]
  walk_at "mm"
theorem mark_no (h : noStr d = true) : f_is_mark [.d d] S = .ok (.d (.bool false)) S := by
  unfold f_is_mark m_is_mark
  walk_at "mm"
  rw [isi_no h]
  walk_at "mm"
end
def rowsP (rs : List (List Nat × List Nat)) : List PyData := rs.map fun r => .tuple [pS r.1, pS r.2]
theorem pairs_rows : ∀ rs : List (List Nat × List Nat), pairsD (rowsP rs) = some (rs.map fun r => (Q.K r.1, pS r.2))
  | [] => rfl
  | r :: rs => by
    show (match pairK (.tuple [pS r.1, pS r.2]), pairsD (rowsP rs) with | some p, some ps => some (p :: ps) | _, _ => none) = _
    rw [pairs_rows rs]; rfl
def lookR : List (List Nat × List Nat) → List Nat → Option (List Nat)
  | [], _ => none
  | r :: t, n => match lookR t n with | some z => some z | none => if r.1 = n then some r.2 else none
def lookK (kvs : List (Key × PyData)) (j : Key) : Option PyData := (kvs.find? fun kv => decide (kv.1 = j)).map (·.2)
theorem lookD_map {j : Key} : ∀ {kvs : List (Key × PyData)}, lookD (kvs.map fun kv => (keyD kv.1, kv.2)) j = lookK kvs j
  | [] => rfl
  | kv :: r => by
    show (if keyEq (keyD kv.1) j = true then some kv.2 else lookD (r.map fun kv => (keyD kv.1, kv.2)) j) = _
    unfold lookK
    rw [keyEq_D, List.find?_cons, lookD_map]
    by_cases h : kv.1 = j
    · rw [if_pos (decide_eq_true h), decide_eq_true h]; rfl
    · rw [if_neg (by rw [decide_eq_false h]; decide), decide_eq_false h]; rfl
theorem look_app {a b : List (Key × PyData)} {j : Key} : lookK (a ++ b) j = (lookK a j).or (lookK b j) := by
  unfold lookK
  rw [List.find?_append]
  cases a.find? fun kv => decide (kv.1 = j) <;> rfl
theorem look_over {k j : Key} {d : PyData} : ∀ {kvs : List (Key × PyData)}, lookK (kvs.map fun kv => if kv.1 = k then (kv.1, d) else kv) j = if k = j then (lookK kvs j).map (fun _ => d) else lookK kvs j
  | [] => by unfold lookK; split <;> rfl
  | kv :: r => by
    have ih := @look_over k j d r
    unfold lookK at ih ⊢
    rw [List.map_cons, List.find?_cons, List.find?_cons]
    by_cases h1 : kv.1 = k
    · rw [if_pos h1]
      simp only
      by_cases h2 : kv.1 = j
      · rw [decide_eq_true h2, if_pos (h1.symm.trans h2)]; rfl
      · rw [decide_eq_false h2]
        simp only
        rw [ih]
    · rw [if_neg h1]
      by_cases h2 : kv.1 = j
      · rw [decide_eq_true h2, if_neg (fun z => h1 (h2.trans z.symm))]
      · rw [decide_eq_false h2]
        simp only
        rw [ih]
theorem look_put {kvs : List (Key × PyData)} {k j : Key} {d : PyData} : lookK (putD kvs k d) j = if k = j then some d else lookK kvs j := by
  unfold putD
  split
  · rename_i h
    rw [look_over]
    by_cases e : k = j
    · rw [if_pos e, if_pos e]
      obtain ⟨x, hx, he⟩ := List.any_eq_true.mp h
      have he' : x.1 = k := of_decide_eq_true he
      unfold lookK
      cases q : kvs.find? fun kv => decide (kv.1 = j) with
      | some y => rfl
      | none => exact absurd (decide_eq_true (he'.trans e)) (List.find?_eq_none.mp q x hx)
    · rw [if_neg e, if_neg e]
  · rename_i h
    rw [look_app]
    have hn : k = j → lookK kvs j = none := fun e => by
      unfold lookK
      cases q : kvs.find? fun kv => decide (kv.1 = j) with
      | none => rfl
      | some y =>
        have := List.find?_some q
        exact absurd (List.any_eq_true.mpr ⟨y, List.mem_of_find?_eq_some q, by rw [e]; exact this⟩) h
    by_cases e : k = j
    · rw [if_pos e, hn e]
      unfold lookK
      rw [List.find?_cons, decide_eq_true e]; rfl
    · rw [if_neg e]
      have : lookK [(k, d)] j = none := by unfold lookK; rw [List.find?_cons, decide_eq_false e]; rfl
      rw [this]
      cases lookK kvs j <;> rfl
theorem look_merge {n : List Nat} : ∀ {rs : List (List Nat × List Nat)} {acc : List (Key × PyData)}, lookK (mergeD acc (rs.map fun r => (Q.K r.1, pS r.2))) (Q.K n) = match lookR rs n with | some z => some (pS z) | none => lookK acc (Q.K n)
  | [], acc => rfl
  | r :: rs, acc => by
    show lookK (mergeD (putD acc (Q.K r.1) (pS r.2)) (rs.map fun r => (Q.K r.1, pS r.2))) (Q.K n) = _
    rw [look_merge, look_put]
    show _ = match (match lookR rs n with | some z => some z | none => if r.1 = n then some r.2 else none) with | some z => some (pS z) | none => lookK acc (Q.K n)
    cases lookR rs n with
    | some z => rfl
    | none =>
      by_cases e : r.1 = n
      · simp only [if_pos e, if_pos (congrArg Q.K e)]
      · simp only [if_neg e, if_neg (fun z => e (Q.K_inj z))]
def tabD (rs : List (List Nat × List Nat)) : List (PyData × PyData) := (mergeD [] (rs.map fun r => (Q.K r.1, pS r.2))).map fun kv => (keyD kv.1, kv.2)
theorem dct_rows {S : Sg} {rs : List (List Nat × List Nat)} : dctF S (pairsD (rowsP rs)) = .ok (.d (.dict (tabD rs))) S := by
  rw [pairs_rows]; rfl
theorem look_tab {rs : List (List Nat × List Nat)} {n : List Nat} : lookD (tabD rs) (.inr (Q.st n)) = (lookR rs n).map pS := by
  show lookD ((mergeD [] (rs.map fun r => (Q.K r.1, pS r.2))).map fun kv => (keyD kv.1, kv.2)) (Q.K n) = _
  rw [lookD_map, look_merge]
  cases lookR rs n <;> rfl
theorem lookR_mem {n z : List Nat} : ∀ {rs : List (List Nat × List Nat)}, lookR rs n = some z → (n, z) ∈ rs
  | [], h => nomatch h
  | r :: rs, h => by
    have h' : (match lookR rs n with | some z => some z | none => if r.1 = n then some r.2 else none) = some z := h
    cases q : lookR rs n with
    | some y =>
      rw [q] at h'
      cases h'
      exact List.mem_cons_of_mem _ (lookR_mem q)
    | none =>
      rw [q] at h'
      by_cases e : r.1 = n
      · simp only [if_pos e] at h'
        cases h'
        rw [← e]
        exact List.mem_cons_self ..
      · simp only [if_neg e] at h'
        cases h'
theorem allD_app {xs : List PyData} {r : List Mv} : allD (xs.map .d ++ r) = (allD r).map (xs ++ ·) := by
  induction xs with
  | nil => simp only [List.map_nil, List.nil_append]; cases allD r <;> rfl
  | cons x t ih =>
    show allD (.d x :: (t.map Mv.d ++ r)) = _
    rw [Q.allD_cons, ih]
    cases allD r <;> rfl
theorem spec_L_is_word {S : Sg} {l : List Nat} (hl : l.length ≤ 1000000) (hk : ∀ c ∈ l, c < 0x110000) : f_L_is_word [.d (.str (Q.st l))] S = .ok (.d (.bool (wordB l))) S := by
  have hs : l.length ≤ sizeLine := by rw [PySem.sizeLine_eq]; omega
  unfold f_L_is_word m_L_is_word t_L_is_word_1 wordB
  walk_at "mm"
  simp only [Bool.not_true]
  walk_at "mm"
  have hsh : SeqAt.shaped (.list ((l.filter fun c => !decide (c ∈ lets)).map fun c => PyData.str (Q.st [c]))) = true := by
    have := (Q.shaped_strs (ls := (l.filter fun c => !decide (c ∈ lets)).map fun c => [c]) (fun m hm c hc => by
      obtain ⟨d, hd, rfl⟩ := List.mem_map.mp hm
      rw [List.mem_singleton.mp hc]
      exact hk d (List.mem_filter.mp hd).1)).1
    rw [List.map_map] at this
    exact this
  by_cases h1 : 1 ≤ l.length
  · simp only [decide_eq_true h1, decide_eq_true (show (1 : Int) ≤ (l.length : Nat) by omega)]
    walk_at "mm"
    by_cases h2 : l.length ≤ 8
    · simp only [decide_eq_true h2, decide_eq_true (show ((l.length : Nat) : Int) ≤ 8 by omega)]
      walk_at "mm"
      simp only [Bool.not_true]
      walk_at "mm"
      rw [lit_l, none_out (show 1 < 2 by decide) hl]
      walk_at "mm"
      rw [show (List.map (fun c => PyData.str (Q.st [c])) (List.filter (fun c => !decide (c ∈ lets)) l)).isEmpty = (List.filter (fun c => !decide (c ∈ lets)) l).isEmpty from by simp, Q.filter_not_empty]
    · simp only [decide_eq_false h2, decide_eq_false (show ¬ ((l.length : Nat) : Int) ≤ 8 by omega), Bool.false_and, Bool.and_false, Bool.not_false]
      walk_at "mm"
  · simp only [decide_eq_false h1, decide_eq_false (show ¬ (1 : Int) ≤ (l.length : Nat) by omega), Bool.false_and]
    walk_at "mm"
    simp only [Bool.not_false]
    walk_at "mm"
theorem spec_L_is_mark {S : Sg} {l : List Nat} (hl : l.length ≤ 1000000) (hk : ∀ c ∈ l, c < 0x110000) : f_L_is_mark [.d (.str (Q.st l))] S = .ok (.d (.bool (markB l))) S := by
  have hs : l.length ≤ sizeLine := by rw [PySem.sizeLine_eq]; omega
  have hsh : SeqAt.shaped (.list ((l.filter fun c => !decide (c ∈ fgs)).map fun c => PyData.str (Q.st [c]))) = true := by
    have := (Q.shaped_strs (ls := (l.filter fun c => !decide (c ∈ fgs)).map fun c => [c]) (fun m hm c hc => by
      obtain ⟨d, hd, rfl⟩ := List.mem_map.mp hm
      rw [List.mem_singleton.mp hc]
      exact hk d (List.mem_filter.mp hd).1)).1
    rw [List.map_map] at this
    exact this
  unfold f_L_is_mark m_L_is_mark t_L_is_mark_1 markB
  walk_at "mm"
  simp only [Bool.not_true]
  walk_at "mm"
  by_cases h1 : l.length = 8
  · simp only [decide_eq_true h1, show ((l.length : Nat) : Int) = 8 by omega, Q.eqv_int, beq_self_eq_true, Bool.not_true]
    walk_at "mm"
    rw [lit_f, none_out (show 1 < 2 by decide) hl]
    walk_at "mm"
    rw [show (List.map (fun c => PyData.str (Q.st [c])) (List.filter (fun c => !decide (c ∈ fgs)) l)).isEmpty = (List.filter (fun c => !decide (c ∈ fgs)) l).isEmpty from by simp, Q.filter_not_empty]
  · simp only [decide_eq_false h1, Q.eqv_int, beq_eq_false_iff_ne.mpr (show ((l.length : Nat) : Int) ≠ 8 by omega), Bool.false_and, Bool.not_false]
    walk_at "mm"
theorem spec_L_is_called {S : Sg} {l : List Nat} (hl : l.length ≤ 1000000) (hk : ∀ c ∈ l, c < 0x110000) : f_L_is_called [.d (.str (Q.st l))] S = .ok (.d (.bool (calB l))) S := by
  have hs : l.length ≤ sizeLine := by rw [PySem.sizeLine_eq]; omega
  have sh : ∀ lo hi : Option Int, SeqAt.shaped (.str (Q.st (Q.cutL l lo hi))) = true := fun lo hi => Q.ok_st fun c hc => hk c (Q.cutL_mem hc)
  have sh1 := sh none (some 1)
  have sh2 := sh (some (-1)) none
  have so : ∀ c : Nat, c < 0x110000 → SeqAt.shaped (.str (Q.st [c])) = true := fun c hc => Q.ok_st fun d hd => by rw [List.mem_singleton.mp hd]; exact hc
  have k35 := so 35 (by decide)
  have k59 := so 59 (by decide)
  have k45 := so 45 (by decide)
  unfold f_L_is_called m_L_is_called calB
  walk_at "mm"
  simp only [Bool.not_true]
  walk_at "mm"
  rw [show Str.ofString "#" = Q.st [35] from by decide +kernel]
  walk_at "mm"
  rw [Q.cutL_one]
  by_cases h1 : l.take 1 = [35]
  · simp only [decide_eq_true h1, Bool.not_true]
    walk_at "mm"
    rw [show Str.ofString ";" = Q.st [59] from by decide +kernel]
    walk_at "mm"
    rw [Q.cutL_last]
    by_cases h2 : l.drop (l.length - 1) = [59]
    · simp only [decide_eq_true h2, Bool.not_true]
      walk_at "mm"
      by_cases h3 : 12 ≤ l.length
      · simp only [decide_eq_true h3, decide_eq_false (show ¬ ((l.length : Nat) : Int) < 12 by omega)]
        walk_at "mm"
        obtain ⟨d, e1, e2⟩ := at9 (l := l) (by omega)
        have kd := so d (hk d (List.mem_of_getElem? e2))
        rw [show Str.ofString "-" = Q.st [45] from by decide +kernel, e1, e2]
        walk_at "mm"
        rw [one_eq]
        by_cases h4 : d = 45
        · simp only [h4, decide_true, Bool.not_true]
          walk_at "mm"
          rw [show Q.cutL l (some 1) (some 9) = mrkL l from rfl, spec_L_is_mark (Nat.le_trans len_mrk hl) (fun c hc => hk c (Q.cutL_mem hc))]
          walk_at "mm"
          cases hm : markB (mrkL l) with
          | false =>
            walk_at "mm"
            rw [Bool.false_and]
          | true =>
            walk_at "mm"
            rw [show Q.cutL l (some 10) (some (-1)) = midL l from rfl, spec_L_is_word (Nat.le_trans len_mid hl) (fun c hc => hk c (Q.cutL_mem hc))]
            walk_at "mm"
        · simp only [h4, decide_false, Bool.not_false, show ¬ (some d = some 45) from fun e => h4 (Option.some.inj e), Bool.false_and]
          walk_at "mm"
      · simp only [decide_eq_false h3, decide_eq_true (show ((l.length : Nat) : Int) < 12 by omega), Bool.false_and]
        walk_at "mm"
    · simp only [decide_eq_false h2, Bool.not_false, Bool.false_and]
      walk_at "mm"
  · simp only [decide_eq_false h1, Bool.not_false, Bool.false_and]
    walk_at "mm"
theorem spec_label_in {S : Sg} {l : List Nat} (h : l.length ≤ 100000) : f_label_in [mS l] S = .ok (mS (Q.cutL l (some 10) (some (-1)))) S := by
  have h16 : sizeLine = 16777216 := PySem.sizeLine_eq
  unfold f_label_in m_label_in
  walk_at "mm"
  rfl
theorem spec_name_with {S : Sg} {m w : List Nat} (hm : m.length ≤ 100000) (hw : w.length ≤ 100000) : f_name_with [mS m, mS w] S = .ok (mS (nameL m w)) S := by
  have h16 : sizeLine = 16777216 := PySem.sizeLine_eq
  unfold f_name_with m_name_with nameL
  rw [show k_BETWEEN = Q.st [45] from by decide +kernel, show k_BEGIN = Q.st [35] from by decide +kernel, show k_END = Q.st [59] from by decide +kernel, Q.empty_st]
  walk_at "mm"
  simp only [List.append_assoc, List.cons_append, List.nil_append]
def blk (n : List Nat) : List Nat := nameL (List.replicate 8 48) (Q.cutL n (some 10) (some (-1)))
theorem spec_blank_of {S : Sg} {l : List Nat} (h : l.length ≤ 100000) : f_blank_of [mS l] S = .ok (mS (blk l)) S := by
  have h16 : sizeLine = 16777216 := PySem.sizeLine_eq
  have hc : (Q.cutL l (some 10) (some (-1))).length ≤ l.length := Q.cutL_len
  unfold f_blank_of m_blank_of blk
  rw [show k_BLANK = Q.st (List.replicate 8 48) from by decide +kernel]
  walk_at "mm"
  rw [spec_label_in h]
  walk_at "mm"
  rw [spec_name_with (by rw [List.length_replicate]; omega) (by omega)]
  walk_at "mm"
theorem blk_name {m w : List Nat} (hm : markB m = true) : blk (nameL m w) = nameL (List.replicate 8 48) w := by
  unfold blk
  rw [nameL_label (by unfold markB at hm; simp only [Bool.and_eq_true, decide_eq_true_eq] at hm; exact hm.1)]
theorem spec_L_called {S : Sg} {m w : List Nat} (hm : m.length ≤ 100000) (hw : w.length ≤ 100000) : f_L_called [mS m, mS w] S = .ok (mS (nameL m w)) S := by
  have h16 : sizeLine = 16777216 := PySem.sizeLine_eq
  unfold f_L_called m_L_called nameL
  rw [show Str.ofString "#" = Q.st [35] by decide +kernel, show Str.ofString "-" = Q.st [45] by decide +kernel, show Str.ofString ";" = Q.st [59] by decide +kernel]
  walk_at "mm"
  simp only [List.append_assoc, List.cons_append, List.nil_append]
end Law
end
section
set_option Elab.async false
set_option linter.all false
set_option maxRecDepth 100000
set_option maxHeartbeats 4000000
set_option autoImplicit false
namespace Law
open PySem PySem.Spec PyProof.Rows L2 MM
set_option hygiene false in
set_option compiler.extract_closed false in
local macro_rules | `(tactic| walk_at "mm") => do
  let l ← MM.mmI false "spec_is_label spec_is_mark label_no mark_no "
  `(tactic| simp (disch := first | assumption | omega | exact MM.Q.shaped_int | exact MM.Q.shaped_nil | exact MM.Q.shaped_ints | exact MM.Q.shaped_bool | (refine of_eq_true (eq_true ?_); first | with_unfolding_all rfl | (simp only [MM.Q.free_d, MM.Q.free_ref, MM.Q.free_adr, MM.Q.frees_nil, MM.Q.frees_cons, MM.Q.frees_map, Bool.and_true, Bool.true_and]; done)) | (simp only [List.length_cons, List.length_nil, List.append_nil, List.map_cons, List.map_nil, List.length_append, List.length_map, List.length_reverse, MM.Q.dI_len, PySem.sizeLine_eq]; omega)) only [$l,*])
theorem word_nil : wordB [] = false := by decide
theorem spec_is_name {S : Sg} {l : List Nat} (hl : l.length ≤ 1000000) (hk : ∀ c ∈ l, c < 0x110000) : f_is_name [.d (.str (Q.st l))] S = .ok (.d (.bool (calB l))) S := by
  have hs : l.length ≤ sizeLine := by rw [PySem.sizeLine_eq]; omega
  have so : ∀ c : Nat, c < 0x110000 → SeqAt.shaped (.str (Q.st [c])) = true := fun c hc => Q.ok_st fun d hd => by rw [List.mem_singleton.mp hd]; exact hc
  have k45 := so 45 (by decide)
  unfold f_is_name m_is_name calB
  walk_at "mm"
  simp only [Bool.not_true]
  walk_at "mm"
  rw [show k_BETWEEN = Q.st [45] from by decide +kernel, show k_BEGIN = Q.st [35] from by decide +kernel, show k_END = Q.st [59] from by decide +kernel]
  by_cases h3 : 11 ≤ l.length
  · simp only [decide_eq_false (show ¬ ((l.length : Nat) : Int) ≤ 9 + 1 by omega)]
    walk_at "mm"
    obtain ⟨d, e1, e2⟩ := at9 (l := l) (by omega)
    have kd := so d (hk d (List.mem_of_getElem? e2))
    rw [e1, e2]
    walk_at "mm"
    rw [one_eq]
    by_cases h4 : d = 45
    · simp only [h4, decide_true, Bool.not_true]
      walk_at "mm"
      rw [Q.starts_one]
      by_cases h1 : l.take 1 = [35]
      · simp only [decide_eq_true h1, Bool.not_true]
        walk_at "mm"
        rw [Q.ends_one]
        by_cases h2 : l.drop (l.length - 1) = [59]
        · simp only [decide_eq_true h2, Bool.not_true]
          walk_at "mm"
          rw [show Q.cutL l (some 1) (some 9) = mrkL l from rfl, spec_is_mark (Nat.le_trans len_mrk hl)]
          walk_at "mm"
          cases hm : markB (mrkL l) with
          | false =>
            walk_at "mm"
            rw [Bool.false_and, Bool.and_false]
          | true =>
            walk_at "mm"
            rw [show Q.cutL l (some (9 + 1)) (some (-1)) = midL l from rfl, spec_is_label (Nat.le_trans len_mid hl)]
            walk_at "mm"
            by_cases h12 : 12 ≤ l.length
            · rw [decide_eq_true h12, Bool.true_and]
            · rw [mid_short (by omega), word_nil, Bool.and_false]
        · simp only [decide_eq_false h2, Bool.not_false, Bool.false_and]
          walk_at "mm"
      · simp only [decide_eq_false h1, Bool.not_false, Bool.false_and]
        walk_at "mm"
    · simp only [h4, decide_false, Bool.not_false, show ¬ (some d = some 45) from fun e => h4 (Option.some.inj e), Bool.false_and, Bool.and_false]
      walk_at "mm"
  · simp only [decide_eq_true (show ((l.length : Nat) : Int) ≤ 9 + 1 by omega), decide_eq_false (show ¬ 12 ≤ l.length by omega), Bool.false_and, Bool.and_false]
    walk_at "mm"
end Law
end
section
set_option Elab.async false
set_option linter.all false
set_option maxRecDepth 100000
set_option maxHeartbeats 4000000
set_option autoImplicit false
namespace Law
open PySem PySem.Spec PyProof.Rows L2 MM
set_option hygiene false in
set_option compiler.extract_closed false in
local macro_rules | `(tactic| walk_at "mm") => do
  let l ← MM.mmI false "draw_int dS_len dS_app dS_get dS_set sg_app sg_app2 ag0 ag1 ag2 ag3 as0 as1 as2 as3 al1 al2 al3 dS_trim dS_trim0 dS_trimc Int.reduceToNat Int.toNat_natCast List.length_map "
  `(tactic| simp (disch := first | assumption | omega | exact MM.Q.shaped_int | exact MM.Q.shaped_nil | exact MM.Q.shaped_ints | exact MM.Q.shaped_bool | (refine of_eq_true (eq_true ?_); first | with_unfolding_all rfl | (simp only [MM.Q.free_d, MM.Q.free_ref, MM.Q.free_adr, MM.Q.frees_nil, MM.Q.frees_cons, MM.Q.frees_map, Bool.and_true, Bool.true_and]; done)) | (simp only [List.length_cons, List.length_nil, List.append_nil, List.map_cons, List.map_nil, List.length_append, List.length_map, List.length_reverse, MM.Q.dI_len, PySem.sizeLine_eq]; omega)) only [$l,*])
theorem mem_cut {α : Type} {l : List α} {lo hi : Option Int} {x : α} (h : x ∈ Q.cutL l lo hi) : x ∈ l := Q.cutL_mem h
/-- the letters, place by place -/
theorem let_at {i : Int} (h : 0 ≤ i) (h2 : i < 26) : ∃ d, atI lets i = some d ∧ d ∈ lets := by
  obtain ⟨d, hd, e⟩ := Q.atI_mem (xs := lets) h (by rw [lets_len]; omega)
  exact ⟨d, e, hd⟩
theorem wordB_of {l : List Nat} (h1 : 1 ≤ l.length) (h2 : l.length ≤ 8) (h3 : ∀ c ∈ l, c ∈ lets) : wordB l = true := by
  unfold wordB
  rw [decide_eq_true h1, decide_eq_true h2, Bool.true_and, Bool.true_and]
  exact List.all_eq_true.mpr fun c hc => decide_eq_true (h3 c hc)
theorem of_wordB {l : List Nat} (h : wordB l = true) : 1 ≤ l.length ∧ l.length ≤ 8 ∧ ∀ c ∈ l, c ∈ lets := by
  unfold wordB at h
  simp only [Bool.and_eq_true, decide_eq_true_eq, List.all_eq_true] at h
  exact ⟨h.1, h.2.1, h.2.2⟩
theorem lets_lt {c : Nat} (h : c ∈ lets) : c < 0x110000 := isG_ok (lets_good h)
/-- drawn letters -/
theorem draw_lets {o1 o3 o4 o5 o6 o7 o8 o9 o10 o11 : Option Mv} {D : Dk} {T : Sg} {js : List Mv} (hj : js.length ≤ 1000) :
    ∃ (ts : List Nat) (E : Dk), lcLoop (mgName 8) mYes e_L_words_1 [some (.ref 1), o1, some (mS lets), o3, o4, o5, o6, o7, o8, o9, o10, o11] js [] (dS D T) = .ok (ts.map fun c => .d (.str (Q.st [c]))) (dS E T) ∧ ts.length = js.length ∧ ∀ d ∈ ts, d ∈ lets := by
  have h16 : sizeLine = 16777216 := PySem.sizeLine_eq
  have hs : lets.length ≤ sizeLine := by rw [lets_len]; omega
  obtain ⟨ys, E, e, e1, e2⟩ := @lc_dk T [some (.ref 1), o1, some (mS lets), o3, o4, o5, o6, o7, o8, o9, o10, o11] (mgName 8) e_L_words_1 (fun y => ∃ d, d ∈ lets ∧ y = .d (.str (Q.st [d]))) js D (fun x _ D => by
    obtain ⟨d, ed, hd⟩ := let_at (i := (dr D 26).val) (by omega) (by omega)
    refine ⟨[some (.ref 1), o1, some (mS lets), o3, o4, o5, o6, o7, some x, o9, o10, o11], .d (.str (Q.st [d])), nx D 26, rfl, ?_, rfl, d, hd, rfl⟩
    unfold e_L_words_1
    walk_at "mm"
    rw [ed]
    walk_at "mm") (by omega)
  obtain ⟨ts, rfl, ht⟩ := Q.pick_all e2
  exact ⟨ts, E, e, by rw [← e1, List.length_map], ht⟩
/-- one more, if it is not among them -/
def addW (L : List (List Nat)) (o : List Nat) : List (List Nat) := if o ∈ L then L else L ++ [o]
theorem addW_mem {L : List (List Nat)} {o l : List Nat} : l ∈ addW L o ↔ l ∈ L ∨ l = o := by
  unfold addW
  by_cases h : o ∈ L
  · rw [if_pos h]
    exact ⟨.inl, fun q => q.elim id fun e => e ▸ h⟩
  · rw [if_neg h, List.mem_append, List.mem_singleton]
theorem addW_nodup {L : List (List Nat)} {o : List Nat} (h : L.Nodup) : (addW L o).Nodup := by
  unfold addW
  by_cases e : o ∈ L
  · rw [if_pos e]; exact h
  · rw [if_neg e]
    exact List.nodup_append.mpr ⟨h, by simp, fun x hx y hy z => e (by rw [List.mem_singleton.mp hy] at z; exact z ▸ hx)⟩
theorem addW_len {L : List (List Nat)} {o : List Nat} : (addW L o).length ≤ L.length + 1 := by
  unfold addW
  split
  · omega
  · simp
theorem add_word {o0 o1 o2 o3 o4 o5 o6 o8 o9 o11 : Option Mv} {D : Dk} {T : Sg} {L : List (List Nat)} {o : List Nat} (hL : L.length ≤ 1000) (hw : ∀ l ∈ L, wordB l = true) (ho : ∀ c ∈ o, c < 0x110000) :
    (mIfS (mTst (mBin .ref (gInN true) (mVar 10) (mVar 7))) (mExpr (mBU "list" uAppend (mVar 7) (mCons (mVar 10) (mNil)))) (mSkip)) [o0, o1, o2, o3, o4, o5, o6, some (.own (T.length + 2)), o8, o9, some (mS o), o11] (dS D (T ++ [(true, Mo.lst (L.map mS))])) =
      .nx [o0, o1, o2, o3, o4, o5, o6, some (.own (T.length + 2)), o8, o9, some (mS o), o11] (dS D (T ++ [(true, Mo.lst ((addW L o).map mS))])) := by
  have h16 : sizeLine = 16777216 := PySem.sizeLine_eq
  have k1 := (Q.shaped_strs (ls := L) (fun l hl c hc => lets_lt ((of_wordB (hw l hl)).2.2 c hc))).1
  have k2 : SeqAt.shaped (.str (Q.st o)) = true := Q.ok_st ho
  walk_at "mm"
  rw [Q.any_strs]
  unfold addW
  by_cases h : o ∈ L
  · simp only [decide_eq_true h, Bool.not_true, if_pos h]
    walk_at "mm"
  · simp only [decide_eq_false h, Bool.not_false, if_neg h]
    walk_at "mm"
    rw [List.map_append]
    rfl
/-- one of three words -/
theorem one_word {d i w : Nat} {wd : List Nat} {r : Nat} (hd : d ∈ lets) (hw : wd.length = 7) (g3 : ∀ d ∈ wd, d ∈ lets) (hr : r ≤ 7) (b1 : w < 3) :
    ∃ o, atI [mS [d], mS (Q.cutL wd none (some (r : Nat)) ++ [d] ++ Q.cutL wd (some (r : Nat)) none), mS (Q.cutL (wd ++ [d]) none (some ((i : Int) % 8 + 1)))] (w : Int) = some (mS o) ∧ wordB o = true := by
  obtain ⟨y, hy, e⟩ := Q.atI_mem (xs := [mS [d], mS (Q.cutL wd none (some (r : Nat)) ++ [d] ++ Q.cutL wd (some (r : Nat)) none), mS (Q.cutL (wd ++ [d]) none (some ((i : Int) % 8 + 1)))]) (i := (w : Int)) (by omega) (by simp only [List.length_cons, List.length_nil]; omega)
  simp only [List.mem_cons, List.not_mem_nil, or_false] at hy
  rcases hy with rfl | rfl | rfl
  · exact ⟨_, e, wordB_of (by simp) (by simp) (by simpa using hd)⟩
  · refine ⟨_, e, wordB_of ?_ ?_ ?_⟩
    · rw [List.length_append, List.length_append, List.length_singleton]; omega
    · rw [Q.cutL_to, Q.cutL_from, List.length_append, List.length_append, List.length_singleton, List.length_take, List.length_drop]; omega
    · intro x hx
      rcases List.mem_append.mp hx with hx | hx
      · rcases List.mem_append.mp hx with hx | hx
        · exact g3 x (mem_cut hx)
        · rw [List.mem_singleton.mp hx]; exact hd
      · exact g3 x (mem_cut hx)
  · refine ⟨_, e, ?_⟩
    rw [show (i : Int) % 8 + 1 = ((i % 8 + 1 : Nat) : Int) by omega, Q.cutL_to]
    refine wordB_of ?_ ?_ ?_
    · rw [List.length_take, List.length_append, List.length_singleton]; omega
    · rw [List.length_take]; omega
    · intro x hx
      rcases List.mem_append.mp (List.mem_of_mem_take hx) with hx | hx
      · exact g3 x hx
      · rw [List.mem_singleton.mp hx]; exact hd
theorem words1 {s0 s1 : Option Mv} {D : Dk} {r1 r2 r4 : Nat} {T : Sg} {wd : List Nat} (hw : wd.length = 7) (g3 : ∀ d ∈ wd, d ∈ lets) (b1 : r1 < 3) (b4 : r4 < 7) :
    ∃ (L : List (List Nat)) (o8 o9 o10 : Option Mv), mLoop (mgName 8) b_L_words_1 (rangeL 0 24)
              [s0, s1, some (mS lets), some (.d (.int (r1 : Nat))), some (.d (.int (r2 : Nat))), some (mS wd), some (.d (.int (r4 : Nat))), some (.own (T.length + 2)), none, none, none, none]
              (dS D (T ++ [(true, Mo.lst [])])) =
      .nx [s0, s1, some (mS lets), some (.d (.int (r1 : Nat))), some (.d (.int (r2 : Nat))), some (mS wd), some (.d (.int (r4 : Nat))), some (.own (T.length + 2)), o8, o9, o10, none]
        (dS D (T ++ [(true, Mo.lst (L.map mS))])) ∧ L.length ≤ 24 ∧ L.Nodup ∧ ∀ l ∈ L, wordB l = true := by
  have h16 : sizeLine = 16777216 := PySem.sizeLine_eq
  have hs : lets.length ≤ sizeLine := by rw [lets_len]; omega
  obtain ⟨ρ2, S2, e, L, o8, o9, o10, rfl, rfl, h1, h2, h3⟩ := Q.loop_range (n := 24) (g := mgName 8) (P := fun i ρ S => ∃ (L : List (List Nat)) (o8 o9 o10 : Option Mv), ρ = [s0, s1, some (mS lets), some (.d (.int (r1 : Nat))), some (.d (.int (r2 : Nat))), some (mS wd), some (.d (.int (r4 : Nat))), some (.own (T.length + 2)), o8, o9, o10, none] ∧ S = dS D (T ++ [(true, Mo.lst (L.map mS))]) ∧ L.length ≤ i ∧ L.Nodup ∧ ∀ l ∈ L, wordB l = true) (b := b_L_words_1)
    (by
      rintro i hi ρ S ⟨L, o8, o9, o10, rfl, rfl, h1, h2, h3⟩
      obtain ⟨d, ed, hd⟩ := let_at (i := ((r2 : Int) + 5 * (i : Int)) % 26) (by omega) (by omega)
      obtain ⟨o, f, ho⟩ := one_word (i := i) hd hw g3 (by omega : r4 ≤ 7) b1
      refine ⟨_, [s0, s1, some (mS lets), some (.d (.int (r1 : Nat))), some (.d (.int (r2 : Nat))), some (mS wd), some (.d (.int (r4 : Nat))), some (.own (T.length + 2)), some (.d (.int (i : Nat))), some (mS [d]), some (mS o), none], dS D (T ++ [(true, Mo.lst ((addW L o).map mS))]), rfl, ?_, addW L o, _, _, _, rfl, rfl, Nat.le_trans addW_len (by omega), addW_nodup h2, fun l hl => ?_⟩
      · unfold b_L_words_1
        refine seq_to (ρ1 := [s0, s1, some (mS lets), some (.d (.int (r1 : Nat))), some (.d (.int (r2 : Nat))), some (mS wd), some (.d (.int (r4 : Nat))), some (.own (T.length + 2)), some (.d (.int (i : Nat))), some (mS [d]), o10, none]) (S1 := dS D (T ++ [(true, Mo.lst (L.map mS))])) ?_ (seq_to (ρ1 := [s0, s1, some (mS lets), some (.d (.int (r1 : Nat))), some (.d (.int (r2 : Nat))), some (mS wd), some (.d (.int (r4 : Nat))), some (.own (T.length + 2)), some (.d (.int (i : Nat))), some (mS [d]), some (mS o), none]) (S1 := dS D (T ++ [(true, Mo.lst (L.map mS))])) ?_ (add_word (by omega) h3 fun c hc => lets_lt ((of_wordB ho).2.2 c hc)))
        · walk_at "mm"
          rw [ed]
          walk_at "mm"
        · have t1 : (Q.cutL wd none (some (r4 : Int))).length ≤ wd.length := Q.cutL_len
          have t2 : (Q.cutL wd (some (r4 : Int)) none).length ≤ wd.length := Q.cutL_len
          walk_at "mm"
          rw [f]
          walk_at "mm"
      · rcases addW_mem.mp hl with hl | rfl
        · exact h3 l hl
        · exact ho)
    ⟨[], none, none, none, rfl, rfl, by simp, by simp, by simp⟩
  exact ⟨L, o8, o9, o10, e, h1, h2, h3⟩
theorem nodup_len {α : Type} [DecidableEq α] : ∀ {A B : List α}, A.Nodup → (∀ a ∈ A, a ∈ B) → A.length ≤ B.length
  | [], _, _, _ => Nat.zero_le _
  | a :: A, B, h, s => by
    have h1 := List.nodup_cons.mp h
    have hm := s a (List.mem_cons_self ..)
    have ih := nodup_len (A := A) (B := B.erase a) h1.2 fun x hx => (List.mem_erase_of_ne (fun e => h1.1 (by subst e; exact hx))).mpr (s x (List.mem_cons_of_mem _ hx))
    rw [List.length_erase_of_mem hm] at ih
    have : 0 < B.length := List.length_pos_of_mem hm
    rw [List.length_cons]; omega
def qq (j : Nat) : List Nat := [113, 113, 97 + j]
theorem words2 {s0 s1 s3 s4 s5 s6 o8 o9 o10 : Option Mv} {D : Dk} {T : Sg} {L0 : List (List Nat)} (h1 : L0.length ≤ 24) (h2 : L0.Nodup) (h3 : ∀ l ∈ L0, wordB l = true) :
    ∃ (L : List (List Nat)) (p8 p9 p10 : Option Mv), mLoop (mgName 8) b_L_words_2 (rangeL 0 14) [s0, s1, some (mS lets), s3, s4, s5, s6, some (.own (T.length + 2)), o8, o9, o10, none] (dS D (T ++ [(true, Mo.lst (L0.map mS))])) =
      .nx [s0, s1, some (mS lets), s3, s4, s5, s6, some (.own (T.length + 2)), p8, p9, p10, none] (dS D (T ++ [(true, Mo.lst (L.map mS))])) ∧ 14 ≤ L.length ∧ L.length ≤ 38 ∧ L.Nodup ∧ ∀ l ∈ L, wordB l = true := by
  have h16 : sizeLine = 16777216 := PySem.sizeLine_eq
  have hs : lets.length ≤ sizeLine := by rw [lets_len]; omega
  obtain ⟨ρ2, S2, e, L, o8, o9, o10, rfl, rfl, k1, k2, k3, k4⟩ := Q.loop_range (n := 14) (g := mgName 8) (ρ := [s0, s1, some (mS lets), s3, s4, s5, s6, some (.own (T.length + 2)), o8, o9, o10, none]) (S := dS D (T ++ [(true, Mo.lst (L0.map mS))])) (P := fun i ρ S => ∃ (L : List (List Nat)) (o8 o9 o10 : Option Mv), ρ = [s0, s1, some (mS lets), s3, s4, s5, s6, some (.own (T.length + 2)), o8, o9, o10, none] ∧ S = dS D (T ++ [(true, Mo.lst (L.map mS))]) ∧ L.length ≤ 24 + i ∧ L.Nodup ∧ (∀ l ∈ L, wordB l = true) ∧ ∀ j < i, qq j ∈ L) (b := b_L_words_2)
    (by
      rintro i hi ρ S ⟨L, o8, o9, o10, rfl, rfl, h1, h2, h3, h4⟩
      have ed : atI lets (i : Int) = some (97 + i) := by
        rw [Q.atI_nat (by omega) (by rw [lets_len]; omega), Int.toNat_natCast]
        have : ∀ j < 14, lets[j]? = some (97 + j) := by decide
        exact this i hi
      have hq : wordB (qq i) = true := by
        have : ∀ j < 14, wordB (qq j) = true := by decide
        exact this i hi
      refine ⟨_, [s0, s1, some (mS lets), s3, s4, s5, s6, some (.own (T.length + 2)), some (.d (.int (i : Nat))), o9, some (mS (qq i)), none], dS D (T ++ [(true, Mo.lst ((addW L (qq i)).map mS))]), rfl, ?_, addW L (qq i), _, _, _, rfl, rfl, Nat.le_trans addW_len (by omega), addW_nodup h2, fun l hl => ?_, fun j hj => ?_⟩
      · unfold b_L_words_2
        refine seq_to (ρ1 := [s0, s1, some (mS lets), s3, s4, s5, s6, some (.own (T.length + 2)), some (.d (.int (i : Nat))), o9, some (mS (qq i)), none]) (S1 := dS D (T ++ [(true, Mo.lst (L.map mS))])) ?_ (add_word (by omega) h3 fun c hc => lets_lt ((of_wordB hq).2.2 c hc))
        walk_at "mm"
        rw [ed, show Str.ofString "qq" = Q.st [113, 113] from by decide +kernel]
        walk_at "mm"
        rfl
      · rcases addW_mem.mp hl with hl | rfl
        · exact h3 l hl
        · exact hq
      · by_cases e : j = i
        · subst e; exact addW_mem.mpr (.inr rfl)
        · exact addW_mem.mpr (.inl (h4 j (by omega))))
    ⟨L0, _, _, _, rfl, rfl, by omega, h2, h3, fun j hj => absurd hj (Nat.not_lt_zero _)⟩
  refine ⟨L, o8, o9, o10, e, ?_, k1, k2, k3⟩
  have := nodup_len (A := (List.range 14).map qq) (B := L) (by decide +kernel) fun a ha => by
    obtain ⟨j, hj, rfl⟩ := List.mem_map.mp ha
    exact k4 j (List.mem_range.mp hj)
  simpa using this
theorem erase_map {α β : Type} {f : α → β} : ∀ (l : List α) (n : Nat), (l.map f).eraseIdx n = (l.eraseIdx n).map f
  | [], _ => rfl
  | _ :: _, 0 => rfl
  | a :: l, n + 1 => by
    show f a :: (l.map f).eraseIdx n = _
    rw [erase_map l n]; rfl
theorem erase_perm {α : Type} : ∀ (l : List α) (n : Nat) (h : n < l.length), (l[n] :: l.eraseIdx n).Perm l
  | _ :: _, 0, _ => List.Perm.refl _
  | a :: l, n + 1, h => by
    have h' : n < l.length := by simpa using h
    exact (List.Perm.swap a l[n] (l.eraseIdx n)).trans ((erase_perm l n h').cons a)
/-- words taken out of the list, one by one -/
theorem words3 {s1 s2 s3 s4 s5 s6 s7 s9 s10 : Option Mv} {D : Dk} {T : Sg} {u : Bool × Mo} {A : List (List Nat)} {m : Nat} (hm : m ≤ A.length) (hA : A.length ≤ 1000) (hn : A.Nodup) (hw : ∀ l ∈ A, wordB l = true) :
    ∃ (ws left : List (List Nat)) (E : Dk), lcLoop (mgName 8) mYes e_L_words_2
        [some (.ref 1), s1, s2, s3, s4, s5, s6, s7, none, s9, s10, some (.own (T.length + 3))] (rangeL 0 m) [] (dS D (T ++ [u, (true, Mo.lst (A.map mS))])) = .ok (ws.map mS) (dS E (T ++ [u, (true, Mo.lst (left.map mS))])) ∧
      ws.length = m ∧ ws.Nodup ∧ ∀ l ∈ ws, wordB l = true := by
  have h16 : sizeLine = 16777216 := PySem.sizeLine_eq
  have hr : (rangeL 0 m).length = m := by simp [rangeL]
  obtain ⟨zs, S2, e, hz, ws, left, E, rfl, rfl, hp⟩ := Q.lc_acc (ρ := [some (.ref 1), s1, s2, s3, s4, s5, s6, s7, none, s9, s10, some (.own (T.length + 3))]) (g := mgName 8) (te := e_L_words_2) (N := m) (xs := rangeL 0 m) (acc := []) (S := dS D (T ++ [u, (true, Mo.lst (A.map mS))]))
    (P := fun acc S => ∃ (ws left : List (List Nat)) (E : Dk), acc = ws.map mS ∧ S = dS E (T ++ [u, (true, Mo.lst (left.map mS))]) ∧ (ws ++ left).Perm A)
    (by
      rintro x - acc S hacc ⟨ws, left, E, rfl, rfl, hp⟩
      have hlen := hp.length_eq
      rw [List.length_append] at hlen
      rw [List.length_map] at hacc
      have hr : (dr E left.length).val < left.length := by omega
      refine ⟨[some (.ref 1), s1, s2, s3, s4, s5, s6, s7, some x, s9, s10, some (.own (T.length + 3))], mS left[(dr E left.length).val], dS (nx E left.length) (T ++ [u, (true, Mo.lst ((left.eraseIdx (dr E left.length).val).map mS))]), rfl, ?_, rfl, ws ++ [left[(dr E left.length).val]], left.eraseIdx (dr E left.length).val, nx E left.length, by rw [List.map_append]; rfl, rfl, ?_⟩
      · unfold e_L_words_2
        walk_at "mm"
        rw [Q.popK_some (y := mS left[(dr E left.length).val]) (by omega) (by rw [List.length_map]; omega) (by rw [List.length_map]; omega) (by rw [Int.toNat_natCast, List.getElem?_map, List.getElem?_eq_getElem hr]; rfl), Int.toNat_natCast]
        walk_at "mm"
        rw [erase_map]
      · rw [List.append_assoc]
        exact (List.Perm.append_left ws (erase_perm left _ hr)).trans hp)
    ⟨[], A, D, rfl, rfl, by simp⟩ (by rw [hr, List.length_nil, Nat.zero_add]) (by omega)
  have hnd := (hp.nodup_iff.mpr hn)
  exact ⟨ws, left, E, e, by simpa using hz, (List.nodup_append.mp hnd).1, fun l h => hw l (hp.mem_iff.mp (List.mem_append_left _ h))⟩
theorem spec_words (m : Nat) (hm : m ≤ 12) (D : Dk) (T : Sg) :
    ∃ (ws : List (List Nat)) (E : Dk), f_L_words [.ref 1, .d (.int (m : Nat))] (dS D T) = .ok (.d (.list (ws.map fun l => .str (Q.st l)))) (dS E T) ∧ ws.length = m ∧ ws.Nodup ∧ (∀ l ∈ ws, wordB l = true) := by
  have h16 : sizeLine = 16777216 := PySem.sizeLine_eq
  have hs : lets.length ≤ sizeLine := by rw [lets_len]; omega
  obtain ⟨wd, D1, e3, w3, g3⟩ := draw_lets (o1 := some (.d (.int (m : Nat)))) (o3 := some (.d (.int ((dr D 3).val : Nat)))) (o4 := some (.d (.int ((dr (nx D 3) 26).val : Nat)))) (o5 := none) (o6 := none) (o7 := none) (o8 := none) (o9 := none) (o10 := none) (o11 := none) (D := nx (nx D 3) 26) (T := T) (js := rangeL 0 7) (by decide)
  have hw : wd.length = 7 := w3
  obtain ⟨L, o8, o9, o10, e5, k1, k2, k3⟩ := words1 (s0 := some (.ref 1)) (s1 := some (.d (.int (m : Nat)))) (D := nx D1 7) (T := T) (r1 := (dr D 3).val) (r2 := (dr (nx D 3) 26).val) (r4 := (dr D1 7).val) hw g3 (by omega) (by omega)
  obtain ⟨L2, p8, p9, p10, e6, j0, j1, j2, j3⟩ := words2 (s0 := some (.ref 1)) (s1 := some (.d (.int (m : Nat)))) (s3 := some (.d (.int ((dr D 3).val : Nat)))) (s4 := some (.d (.int ((dr (nx D 3) 26).val : Nat)))) (s5 := some (mS wd)) (s6 := some (.d (.int ((dr D1 7).val : Nat)))) (o8 := o8) (o9 := o9) (o10 := o10) (D := nx D1 7) (T := T) k1 k2 k3
  obtain ⟨ws, left, E, e7, i1, i2, i3⟩ := words3 (s1 := some (.d (.int (m : Nat)))) (s2 := some (mS lets)) (s3 := some (.d (.int ((dr D 3).val : Nat)))) (s4 := some (.d (.int ((dr (nx D 3) 26).val : Nat)))) (s5 := some (mS wd)) (s6 := some (.d (.int ((dr D1 7).val : Nat)))) (s7 := some (.own (T.length + 2))) (s9 := p9) (s10 := p10) (D := nx D1 7) (T := T) (u := (true, Mo.lst (L2.map mS))) (A := L2.take (m + 2)) (m := m) (by rw [List.length_take]; omega) (by rw [List.length_take]; omega) (j2.sublist (List.take_sublist _ _)) (fun l h => j3 l (List.mem_of_mem_take h))
  refine ⟨ws, E, ?_, i1, i2, i3⟩
  unfold f_L_words m_L_words
  walk_at "mm"
  rw [lit_l, e3]
  walk_at "mm"
  rw [lit_e]
  walk_at "mm"
  rw [e5]
  walk_at "mm"
  rw [e6]
  walk_at "mm"
  rw [show (m : Int) + 2 = ((m + 2 : Nat) : Int) by omega, Q.cutL_to, e7]
  walk_at "mm"
theorem calB_of {m w : List Nat} (hm : markB m = true) (hw : wordB w = true) : calB (nameL m w) = true := by
  have lm := (of_markB hm).1
  have lw := of_wordB hw
  have hl := @nameL_len m w
  unfold calB
  rw [show mrkL (nameL m w) = m from nameL_mark lm, show midL (nameL m w) = w from nameL_label lm, hm, hw]
  have h1 : (nameL m w).drop ((nameL m w).length - 1) = [59] := by
    rw [hl]
    have : nameL m w = (35 :: (m ++ 45 :: w)) ++ [59] := by simp [nameL]
    rw [this, show m.length + w.length + 3 - 1 = (35 :: (m ++ 45 :: w)).length by simp; omega, List.drop_left]
  have h2 : (nameL m w)[9]? = some 45 := by
    show (m ++ 45 :: (w ++ [59]))[8]? = some 45
    rw [List.getElem?_append_right (by omega), lm]; rfl
  rw [h1, h2, decide_eq_true (show 12 ≤ (nameL m w).length by omega)]
  rfl
theorem of_calB {n : List Nat} (h : calB n = true) : ∃ m w, markB m = true ∧ wordB w = true ∧ n = nameL m w := by
  unfold calB at h
  simp only [Bool.and_eq_true, decide_eq_true_eq] at h
  obtain ⟨h1, h2, h3, h4, h5, h6⟩ := h
  refine ⟨mrkL n, midL n, h5, h6, ?_⟩
  have e1 : mrkL n = (n.drop 1).take 8 := by
    unfold mrkL
    rw [show (some (1 : Int)) = some ((1 : Nat) : Int) from rfl, show (some (9 : Int)) = some ((9 : Nat) : Int) from rfl, Q.cutL_ab (by omega) (by decide)]
  have e2 : midL n = (n.drop 10).take (n.length - 1 - 10) := by
    unfold midL
    rw [show (some (10 : Int)) = some ((10 : Nat) : Int) from rfl, Q.cutL_neg1 (by omega)]
  have a1 : n = n.take 1 ++ n.drop 1 := (List.take_append_drop 1 n).symm
  have a2 : n.drop 1 = (n.drop 1).take 8 ++ n.drop 9 := by
    have := (List.take_append_drop 8 (n.drop 1)).symm
    rwa [List.drop_drop] at this
  have a3 : n.drop 9 = 45 :: n.drop 10 := by
    have hlt : 9 < n.length := by omega
    rw [List.drop_eq_getElem_cons hlt]
    rw [List.getElem?_eq_getElem hlt] at h4
    rw [Option.some.inj h4]
  have a4 : n.drop 10 = (n.drop 10).take (n.length - 1 - 10) ++ n.drop (n.length - 1) := by
    have := (List.take_append_drop (n.length - 1 - 10) (n.drop 10)).symm
    rwa [List.drop_drop, show 10 + (n.length - 1 - 10) = n.length - 1 by omega] at this
  rw [e1, e2]
  unfold nameL
  rw [← h2, ← a4, ← a3, ← a2]
  conv => lhs; rw [a1, h1]
  rfl
theorem fgs_no {c : Nat} (h : c ∈ fgs) : c ≠ 59 ∧ c ≠ 10 := by
  have : ∀ c ∈ fgs, c ≠ 59 ∧ c ≠ 10 := by decide
  exact this c h
theorem lets_no {c : Nat} (h : c ∈ lets) : c ≠ 59 ∧ c ≠ 10 := by
  have : ∀ c ∈ lets, c ≠ 59 ∧ c ≠ 10 := by decide
  exact this c h
theorem calB_end {n : List Nat} (h : calB n = true) : ∃ a, n = a ++ [59] ∧ (∀ c ∈ a, c ≠ 59) ∧ (∀ c ∈ n, c ≠ 10) ∧ n.head? = some 35 ∧ 12 ≤ n.length ∧ n.length ≤ 19 ∧ Gd 19 n := by
  obtain ⟨m, w, hm, hw, rfl⟩ := of_calB h
  have lm := of_markB hm
  have lw := of_wordB hw
  have hl := @nameL_len m w
  refine ⟨35 :: (m ++ 45 :: w), by simp [nameL], ?_, ?_, rfl, by omega, by omega, nameL_good hm hw⟩
  · intro c hc
    simp only [List.mem_cons, List.mem_append] at hc
    rcases hc with rfl | hc | rfl | hc
    · decide
    · exact (fgs_no (lm.2 c hc)).1
    · decide
    · exact (lets_no (lw.2.2 c hc)).1
  · intro c hc
    unfold nameL at hc
    simp only [List.mem_cons, List.mem_append, List.not_mem_nil, or_false] at hc
    rcases hc with rfl | hc | rfl | hc | rfl
    · decide
    · exact (fgs_no (lm.2 c hc)).2
    · decide
    · exact (lets_no (lw.2.2 c hc)).2
    · decide
/-- up to the first end -/
def hd59 : List Nat → List Nat
  | [] => []
  | c :: r => if c = 59 then [59] else c :: hd59 r
theorem hd59_app : ∀ {a t : List Nat}, (∀ c ∈ a, c ≠ 59) → hd59 (a ++ 59 :: t) = a ++ [59]
  | [], _, _ => rfl
  | c :: r, t, h => by
    show (if c = 59 then [59] else c :: hd59 (r ++ 59 :: t)) = _
    rw [if_neg (h c (List.mem_cons_self ..)), hd59_app fun d hd => h d (List.mem_cons_of_mem _ hd)]; rfl
theorem hd59_cases : ∀ (l : List Nat), (∃ a b, 59 ∉ a ∧ l = a ++ 59 :: b ∧ hd59 l = a ++ [59]) ∨ (59 ∉ l ∧ hd59 l = l)
  | [] => .inr ⟨by simp, rfl⟩
  | c :: r => by
    by_cases h : c = 59
    · subst h
      exact .inl ⟨[], r, by simp, rfl, rfl⟩
    · have e : hd59 (c :: r) = c :: hd59 r := if_neg h
      rcases hd59_cases r with ⟨a, b, h1, h2, h3⟩ | ⟨h1, h2⟩
      · exact .inl ⟨c :: a, b, by simp [h1]; exact fun z => h z.symm, by rw [h2]; rfl, by rw [e, h3]; rfl⟩
      · exact .inr ⟨by simp [h1]; exact fun z => h z.symm, by rw [e, h2]⟩
theorem hd59_pre (l : List Nat) : hd59 l <+: l := by
  rcases hd59_cases l with ⟨a, b, h1, h2, h3⟩ | ⟨h1, h2⟩
  · rw [h3]
    conv => rhs; rw [h2]
    exact ⟨b, by simp⟩
  · rw [h2]; exact List.prefix_rfl
def nameAt (x : List Nat) : Option (List Nat) := if calB (hd59 (x.take 19)) = true then some (hd59 (x.take 19)) else none
theorem nameAt_iff {x n : List Nat} : nameAt x = some n ↔ calB n = true ∧ n <+: x := by
  constructor
  · intro h
    unfold nameAt at h
    split at h
    · rename_i c
      cases h
      exact ⟨c, (hd59_pre _).trans (List.take_prefix 19 x)⟩
    · cases h
  · rintro ⟨h, t, rfl⟩
    obtain ⟨a, rfl, h1, -, -, -, h2, -⟩ := calB_end h
    have : hd59 ((a ++ [59] ++ t).take 19) = a ++ [59] := by
      rw [List.take_append, List.take_of_length_le (by omega), List.append_assoc]
      exact hd59_app h1
    unfold nameAt
    rw [this, if_pos h]
def tw (g : List Nat → List Nat) : Nat → List Nat → List Nat
  | _, [] => []
  | k + 1, _ :: r => tw g k r
  | 0, c :: r => match nameAt (c :: r) with
    | some n => g n ++ tw g (n.length - 1) r
    | none => c :: tw g 0 r
theorem tw_drop {g : List Nat → List Nat} : ∀ (k : Nat) (l : List Nat), tw g k l = tw g 0 (l.drop k)
  | 0, l => rfl
  | k + 1, [] => by rw [List.drop_nil]; rfl
  | k + 1, c :: r => by
    show tw g k r = tw g 0 (r.drop k)
    exact tw_drop k r
theorem tw_name {g : List Nat → List Nat} {n r : List Nat} (h : calB n = true) : tw g 0 (n ++ r) = g n ++ tw g 0 r := by
  have hn : nameAt (n ++ r) = some n := nameAt_iff.mpr ⟨h, List.prefix_append _ _⟩
  obtain ⟨a, -, -, -, -, l1, -, -⟩ := calB_end h
  cases n with
  | nil => simp at l1
  | cons c m =>
    show (match nameAt (c :: (m ++ r)) with | some n => g n ++ tw g (n.length - 1) (m ++ r) | none => c :: tw g 0 (m ++ r)) = _
    rw [show nameAt (c :: (m ++ r)) = some (c :: m) from hn]
    simp only [List.length_cons, Nat.add_sub_cancel]
    rw [tw_drop, List.drop_left]
theorem tw_skip {g : List Nat → List Nat} {c : Nat} {r : List Nat} (h : nameAt (c :: r) = none) : tw g 0 (c :: r) = c :: tw g 0 r := by
  show (match nameAt (c :: r) with | some n => g n ++ tw g (n.length - 1) r | none => c :: tw g 0 r) = _
  rw [h]
/-- a text's beginning: nothing, a name, another sign -/
theorem tw_cases (w : List Nat) : w = [] ∨ (∃ n r, calB n = true ∧ w = n ++ r) ∨ ∃ c r, nameAt (c :: r) = none ∧ w = c :: r := by
  cases w with
  | nil => exact .inl rfl
  | cons c r =>
    cases e : nameAt (c :: r) with
    | none => exact .inr (.inr ⟨c, r, e, rfl⟩)
    | some n =>
      obtain ⟨h, t, ht⟩ := nameAt_iff.mp e
      exact .inr (.inl ⟨n, t, h, ht.symm⟩)
theorem name_ne {n : List Nat} (h : calB n = true) : 0 < n.length := by
  obtain ⟨a, -, -, -, -, l1, -, -⟩ := calB_end h
  omega
/-- what has no beginning sign and stands ahead of the turned text stands ahead of the text -/
theorem tw_pre {g : List Nat → List Nat} (hg : ∀ n, calB n = true → (g n).head? = some 35) : ∀ (k : Nat) (r m : List Nat), r.length ≤ k → 35 ∉ m → m <+: tw g 0 r → m <+: r := by
  intro k
  induction k with
  | zero =>
    intro r m hr _ hp
    have : r = [] := List.eq_nil_of_length_eq_zero (by omega)
    subst this
    exact hp
  | succ k ih =>
    intro r m hr h35 hp
    cases m with
    | nil => exact List.nil_prefix
    | cons d m =>
      rcases tw_cases r with rfl | ⟨n, t, hn, rfl⟩ | ⟨c, t, hn, rfl⟩
      · exact hp
      · rw [tw_name hn] at hp
        obtain ⟨u, hu⟩ := hp
        have := hg n hn
        cases e : g n with
        | nil => rw [e] at this; cases this
        | cons x y =>
          rw [e] at this hu
          cases this
          rw [List.cons_append, List.cons_append] at hu
          exact absurd (List.mem_cons.mpr (.inl (List.cons.inj hu).1.symm)) h35
      · rw [tw_skip hn] at hp
        obtain ⟨u, hu⟩ := hp
        rw [List.cons_append] at hu
        obtain ⟨e1, e2⟩ := List.cons.inj hu
        subst e1
        have := ih t m (by rw [List.length_cons] at hr; omega) (fun z => h35 (List.mem_cons_of_mem _ z)) ⟨u, e2⟩
        obtain ⟨v, hv⟩ := this
        exact ⟨v, by rw [List.cons_append, hv]⟩
theorem name_tail {n : List Nat} (h : calB n = true) : ∃ m, n = 35 :: m ∧ 35 ∉ m := by
  obtain ⟨a, b, ha, hb, rfl⟩ := of_calB h
  have f : ∀ c ∈ fgs, c ≠ 35 := by decide
  have l : ∀ c ∈ lets, c ≠ 35 := by decide
  refine ⟨_, rfl, fun z => ?_⟩
  simp only [List.mem_cons, List.mem_append, List.not_mem_nil, or_false] at z
  rcases z with z | z | z | z
  · exact f 35 ((of_markB ha).2 35 z) rfl
  · exact absurd z (by decide)
  · exact l 35 ((of_wordB hb).2.2 35 z) rfl
  · exact absurd z (by decide)
def idx59 : List Nat → Nat
  | [] => 0
  | c :: r => if c = 59 then 0 else idx59 r + 1
theorem idx59_at : ∀ {a b : List Nat}, 59 ∉ a → idx59 (a ++ 59 :: b) = a.length
  | [], _, _ => rfl
  | c :: a, b, h => by
    show (if c = 59 then 0 else idx59 (a ++ 59 :: b) + 1) = _
    rw [if_neg (fun z => h (by rw [z]; exact List.mem_cons_self ..)), idx59_at (fun z => h (List.mem_cons_of_mem _ z)), List.length_cons]
theorem idx59_no : ∀ {a : List Nat}, 59 ∉ a → idx59 a = a.length
  | [], _ => rfl
  | c :: a, h => by
    show (if c = 59 then 0 else idx59 a + 1) = _
    rw [if_neg (fun z => h (by rw [z]; exact List.mem_cons_self ..)), idx59_no (fun z => h (List.mem_cons_of_mem _ z)), List.length_cons]
def spot (x : List Nat) : List Nat := x.take (1 + idx59 (x.take 19))
theorem calB_has {n : List Nat} (h : calB n = true) : 59 ∈ n := by
  obtain ⟨a, e, -⟩ := calB_end h
  rw [e]; simp
theorem nameAt_spot (x : List Nat) : nameAt x = if calB (spot x) = true then some (spot x) else none := by
  unfold nameAt spot
  rcases hd59_cases (x.take 19) with ⟨a, b, h1, h2, h3⟩ | ⟨h1, h2⟩
  · have e : x.take (1 + idx59 (x.take 19)) = a ++ [59] := by
      rw [h2, idx59_at h1]
      have hl : a.length + 1 ≤ 19 := by
        have := congrArg List.length h2
        simp only [List.length_take, List.length_append, List.length_cons] at this
        omega
      have : x.take (1 + a.length) = (x.take 19).take (1 + a.length) := by rw [List.take_take, Nat.min_eq_left (by omega)]
      rw [this, h2, show a ++ 59 :: b = (a ++ [59]) ++ b by simp, show 1 + a.length = (a ++ [59]).length by simp; omega, List.take_left]
    rw [e, h3]
  · have n1 : ¬ calB (hd59 (x.take 19)) = true := fun h => h1 (by rw [h2] at h; exact calB_has h)
    rw [if_neg n1, if_neg]
    intro h
    rw [idx59_no h1, List.length_take] at h
    obtain ⟨a, e, -, -, -, l1, l2, -⟩ := calB_end h
    have hm := calB_has h
    have : x.take (1 + min 19 x.length) = x.take 19 := by
      by_cases hx : x.length ≤ 19
      · rw [List.take_of_length_le (by omega), List.take_of_length_le hx]
      · rw [List.length_take] at l2
        omega
    rw [this] at hm
    exact h1 hm
theorem spec_L_signs {S : Sg} : f_L_signs [] S = .ok (mS sgs) S := by
  unfold f_L_signs m_L_signs
  have h16 : sizeLine = 16777216 := PySem.sizeLine_eq
  have e1 : (sgs.take 65).length = 65 := by decide
  have e2 : (sgs.drop 65).length = 30 := by decide
  rw [show (Str.ofString "\n !\"#$&'()*+,-./0123456789:;<=>?@ABCDEFGHIJKLMNOPQRSTUVWXYZ[\\]^_`") = Q.st (sgs.take 65) by decide +kernel, show (Str.ofString "abcdefghijklmnopqrstuvwxyz{|}~") = Q.st (sgs.drop 65) by decide +kernel]
  walk_at "mm"
  rw [List.take_append_drop]
theorem tw_good {g : List Nat → List Nat} (hg : ∀ n, calB n = true → Gd 19 (g n)) : ∀ (k : Nat) (w : List Nat), w.length ≤ k → (∀ c ∈ w, isG c = true) → Gd (2 * w.length) (tw g 0 w) := by
  intro k
  induction k with
  | zero =>
    intro w hw _
    have : w = [] := List.eq_nil_of_length_eq_zero (by omega)
    subst this
    exact ⟨by simp [tw], fun c hc => nomatch hc⟩
  | succ k ih =>
    intro w hw hk
    rcases tw_cases w with rfl | ⟨n, t, hn, rfl⟩ | ⟨c, t, hn, rfl⟩
    · exact ⟨by simp [tw], fun c hc => nomatch hc⟩
    · obtain ⟨_, _, _, _, _, l1, _, _⟩ := calB_end hn
      rw [List.length_append] at hw
      have := ih t (by omega) fun c hc => hk c (List.mem_append_right _ hc)
      rw [tw_name hn]
      refine ((hg n hn).app this).mono ?_
      rw [List.length_append]
      omega
    · rw [List.length_cons] at hw
      have := ih t (by omega) fun c hc => hk c (List.mem_cons_of_mem _ hc)
      rw [tw_skip hn]
      have h2 := (Gd.one (hk c (List.mem_cons_self ..))).app this
      refine h2.mono ?_
      rw [List.length_cons]
      omega
def Rb (c : Nat) (x : List Nat) : Prop := ∀ r, x = c :: r → r = [] ∨ ∃ d r', r = d :: r' ∧ d ≠ c ∧ d ≠ 45
def Qb (c : Nat) (x : List Nat) : Prop := ∀ u v, x = u ++ 35 :: v → v = [] ∨ ∃ i d r, v = List.replicate i c ++ d :: r ∧ d ≠ c ∧ ¬ (i = 8 ∧ d = 45)
theorem run_count {c : Nat} : ∀ (xs : List (List Nat)) (j : Nat) (t : List Nat), (∀ x ∈ xs, Rb c x) → xs.flatten = List.replicate j c ++ 45 :: t → j ≤ xs.count [c]
  | [], j, t, _, e => by
    rw [List.flatten_nil] at e
    cases j <;> cases e
  | x :: xs, j, t, h, e => by
    rw [List.flatten_cons] at e
    cases x with
    | nil =>
      rw [List.nil_append] at e
      rw [List.count_cons_of_ne (by simp)]
      exact run_count xs j t (fun y hy => h y (List.mem_cons_of_mem _ hy)) e
    | cons a r =>
      cases j with
      | zero => exact Nat.zero_le _
      | succ j =>
        rw [List.replicate_succ, List.cons_append, List.cons_append] at e
        obtain ⟨rfl, e2⟩ := List.cons.inj e
        rcases h _ (List.mem_cons_self ..) r rfl with rfl | ⟨d, r', rfl, h1, h2⟩
        · rw [List.nil_append] at e2
          have := run_count xs j t (fun y hy => h y (List.mem_cons_of_mem _ hy)) e2
          rw [List.count_cons_self]
          omega
        · rw [List.cons_append] at e2
          cases j with
          | zero =>
            have e3 : d :: (r' ++ xs.flatten) = 45 :: t := e2
            exact absurd (List.cons.inj e3).1 h2
          | succ j =>
            rw [List.replicate_succ, List.cons_append] at e2
            exact absurd (List.cons.inj e2).1 h1
theorem rep_split {c d : Nat} {r t : List Nat} (hc : c ≠ 45) (hd : d ≠ c) : ∀ {i j : Nat}, List.replicate i c ++ d :: r = List.replicate j c ++ 45 :: t → i = j ∧ d = 45
  | 0, 0, e => ⟨rfl, (List.cons.inj (show d :: r = 45 :: t from e)).1⟩
  | 0, j + 1, e => absurd (List.cons.inj (show d :: r = c :: (List.replicate j c ++ 45 :: t) from e)).1 hd
  | i + 1, 0, e => absurd (List.cons.inj (show c :: (List.replicate i c ++ d :: r) = 45 :: t from e)).1 hc
  | i + 1, j + 1, e => by
    have := rep_split hc hd (List.cons.inj (show c :: (List.replicate i c ++ d :: r) = c :: (List.replicate j c ++ 45 :: t) from e)).2
    exact ⟨by omega, this.2⟩
theorem find_count {c : Nat} (hc : c ≠ 45) : ∀ (xs : List (List Nat)) (u t : List Nat), (∀ x ∈ xs, Rb c x ∧ Qb c x) → xs.flatten = u ++ 35 :: (List.replicate 8 c ++ 45 :: t) → 8 ≤ xs.count [c]
  | [], u, t, _, e => by
    rw [List.flatten_nil] at e
    cases u <;> cases e
  | x :: xs, u, t, h, e => by
    rw [List.flatten_cons] at e
    have hx := h x (List.mem_cons_self ..)
    have hxs : ∀ y ∈ xs, Rb c y ∧ Qb c y := fun y hy => h y (List.mem_cons_of_mem _ hy)
    have mono : xs.count [c] ≤ (x :: xs).count [c] := List.count_le_count_cons
    rcases List.append_eq_append_iff.mp e with ⟨a, e1, e2⟩ | ⟨a, e1, e2⟩
    · exact Nat.le_trans (find_count hc xs a t hxs e2) mono
    · cases a with
      | nil =>
        rw [List.nil_append] at e2
        exact Nat.le_trans (find_count hc xs [] t hxs e2.symm) mono
      | cons b v =>
        rw [List.cons_append] at e2
        obtain ⟨rfl, e3⟩ := List.cons.inj e2
        rcases hx.2 u v e1 with rfl | ⟨i, d, r, rfl, hd, hn⟩
        · rw [List.nil_append] at e3
          exact Nat.le_trans (run_count xs 8 t (fun y hy => (hxs y hy).1) e3.symm) mono
        · rw [List.append_assoc, List.cons_append] at e3
          exact absurd (rep_split hc hd e3.symm) hn
/-- the first sign that is another one -/
theorem first_other {c : Nat} : ∀ {v : List Nat}, (∃ d ∈ v, d ≠ c) → ∃ i d r, v = List.replicate i c ++ d :: r ∧ d ≠ c
  | [], h => by
    obtain ⟨d, hd, _⟩ := h
    cases hd
  | a :: v, h => by
    by_cases e : a = c
    · subst e
      obtain ⟨i, d, r, e1, e2⟩ := first_other (c := a) (v := v) (by
        obtain ⟨d, hd, hn⟩ := h
        rcases List.mem_cons.mp hd with rfl | hd
        · exact absurd rfl hn
        · exact ⟨d, hd, hn⟩)
      exact ⟨i + 1, d, r, by rw [e1]; rfl, e2⟩
    · exact ⟨0, a, v, rfl, e⟩
def Fm (c : Nat) (y : List Nat) : Prop := y = [] ∨ ∃ i d r, y = List.replicate i c ++ d :: r ∧ d ≠ c ∧ ¬ (i = 8 ∧ d = 45)
theorem qb_no {c : Nat} {y : List Nat} (h : 35 ∉ y) : Qb c y := fun u v e => absurd (by rw [e]; exact List.mem_append_right _ (List.mem_cons_self ..)) h
theorem qb_cons {c a : Nat} {y : List Nat} (h : a = 35 → Fm c y) (q : Qb c y) : Qb c (a :: y) := fun u v e => by
  cases u with
  | nil =>
    obtain ⟨rfl, rfl⟩ := List.cons.inj (show a :: y = 35 :: v from e)
    exact h rfl
  | cons b u => exact q u v (List.cons.inj (show a :: y = b :: (u ++ 35 :: v) from e)).2
theorem qb_app {c : Nat} {y : List Nat} : ∀ {p : List Nat}, 35 ∉ p → Qb c y → Qb c (p ++ y)
  | [], _, q => q
  | a :: p, h, q => qb_cons (fun z => absurd (List.mem_cons.mpr (.inl z.symm)) h) (qb_app (fun z => h (List.mem_cons_of_mem _ z)) q)
theorem fm_cons {c d : Nat} {y : List Nat} (h : d ≠ c) : Fm c (d :: y) := .inr ⟨0, d, y, rfl, h, fun z => nomatch z.1⟩
/-- a name that is far from the sign c -/
structure NmB (c : Nat) (l : List Nat) (b : Nat) (r : List Nat) : Prop where
  e : l = 35 :: b :: r
  b1 : b ≠ c
  b2 : b ≠ 45
  n1 : 35 ∉ b :: r
  far : r.take 7 ≠ List.replicate 7 c
  last : ∃ a, r = a ++ [59]
  at_ : ∀ j, r[j]? = some 45 → j = 7
section
variable {c : Nat} {l r : List Nat} {b : Nat}
theorem NmB.suf (h : NmB c l b r) (hc : c ≠ 59) (j : Nat) : Fm c (r.drop j) := by
  by_cases hj : r.length ≤ j
  · exact .inl (List.drop_of_length_le hj)
  · obtain ⟨a, ea⟩ := h.last
    have hm : 59 ∈ r.drop j := by
      have hl : j ≤ a.length := by rw [ea, List.length_append, List.length_singleton] at hj; omega
      rw [ea, List.drop_append_of_le_length hl]
      exact List.mem_append_right _ (List.mem_singleton.mpr rfl)
    obtain ⟨i, d, t, e1, e2⟩ := first_other (c := c) ⟨59, hm, fun z => hc z.symm⟩
    refine .inr ⟨i, d, t, e1, e2, fun ⟨z1, z2⟩ => ?_⟩
    subst z1 z2
    have : (r.drop j)[8]? = some 45 := by
      rw [e1, List.getElem?_append_right (by simp), List.length_replicate]; rfl
    rw [List.getElem?_drop] at this
    have := h.at_ _ this
    omega
theorem NmB.nr (h : NmB c l b r) : 35 ∉ r := fun z => h.n1 (List.mem_cons_of_mem _ z)
/-- the pieces -/
inductive Pc (L : List (List Nat)) : List Nat → Prop
  | str {m : List Nat} (h : m ∈ [[123, 48, 125], [123, 49, 125], [123, 125], [60, 48, 62], [35, 48, 59], [35, 49, 59]]) : Pc L m
  | one (d : Nat) : Pc L [d]
  | rep (n : Nat) : Pc L (List.replicate n 97)
  | all {l : List Nat} (h : l ∈ L) : Pc L l
  | pre {l : List Nat} (h : l ∈ L) (k : Nat) : Pc L (l.take k)
  | out {l : List Nat} (h : l ∈ L) (k : Nat) : Pc L (l.take k ++ l.drop (k + 1))
  | ins {l : List Nat} (h : l ∈ L) (k d : Nat) : Pc L (l.take k ++ [d] ++ l.drop k)
  | put {l : List Nat} (h : l ∈ L) (k d : Nat) : Pc L (l.take k ++ [d] ++ l.drop (k + 1))
theorem pc_ok {L : List (List Nat)} (hL : ∀ l ∈ L, ∃ b r, NmB c l b r) (c1 : c ≠ 35) (c2 : c ≠ 48) (c3 : c ≠ 49) (c4 : c ≠ 59) (c5 : c ≠ 97) (c6 : c ≠ 123) (c7 : c ≠ 60) {x : List Nat} (h : Pc L x) : Rb c x ∧ Qb c x := by
  have no1 : ∀ {a : Nat} {y : List Nat}, a ≠ c → Rb c (a :: y) := fun ha r e => absurd (List.cons.inj e).1 ha
  cases h with
  | str h =>
    simp only [List.mem_cons, List.not_mem_nil, or_false] at h
    rcases h with rfl | rfl | rfl | rfl | rfl | rfl
    · exact ⟨no1 (Ne.symm c6), qb_no (by decide)⟩
    · exact ⟨no1 (Ne.symm c6), qb_no (by decide)⟩
    · exact ⟨no1 (Ne.symm c6), qb_no (by decide)⟩
    · exact ⟨no1 (Ne.symm c7), qb_no (by decide)⟩
    · exact ⟨no1 (Ne.symm c1), qb_cons (fun _ => fm_cons (Ne.symm c2)) (qb_no (by decide))⟩
    · exact ⟨no1 (Ne.symm c1), qb_cons (fun _ => fm_cons (Ne.symm c3)) (qb_no (by decide))⟩
  | one d => exact ⟨fun r e => .inl (List.cons.inj e).2.symm, qb_cons (fun _ => .inl rfl) (qb_no (by simp))⟩
  | rep n =>
    refine ⟨fun r e => ?_, qb_no fun z => by have := (List.mem_replicate.mp z).2; omega⟩
    have : c ∈ List.replicate n 97 := by rw [e]; exact List.mem_cons_self ..
    exact absurd (List.mem_replicate.mp this).2 c5
  | all h =>
    obtain ⟨b, r, q⟩ := hL _ h
    rw [q.e]
    exact ⟨no1 (Ne.symm c1), qb_cons (fun _ => fm_cons q.b1) (qb_no q.n1)⟩
  | @pre l h k =>
    obtain ⟨b, r, q⟩ := hL _ h
    rw [q.e]
    match k with
    | 0 => exact ⟨fun r e => absurd e (by simp), qb_no (by simp)⟩
    | 1 => exact ⟨no1 (Ne.symm c1), qb_cons (fun _ => .inl rfl) (qb_no (by simp))⟩
    | k + 2 => exact ⟨no1 (Ne.symm c1), qb_cons (fun _ => fm_cons q.b1) (qb_no fun z => by
        rcases List.mem_cons.mp z with z | z
        · exact q.n1 (List.mem_cons.mpr (.inl z))
        · exact q.nr (List.mem_of_mem_take z))⟩
  | @out l h k =>
    obtain ⟨b, r, q⟩ := hL _ h
    rw [q.e]
    match k with
    | 0 => exact ⟨no1 q.b1, qb_no q.n1⟩
    | 1 => exact ⟨no1 (Ne.symm c1), qb_cons (fun _ => q.suf c4 0) (qb_no q.nr)⟩
    | k + 2 => exact ⟨no1 (Ne.symm c1), qb_cons (fun _ => fm_cons q.b1) (qb_no fun z => by
        rcases List.mem_cons.mp z with z | z
        · exact q.n1 (List.mem_cons.mpr (.inl z))
        · rcases List.mem_append.mp z with z | z
          · exact q.nr (List.mem_of_mem_take z)
          · exact q.nr (List.mem_of_mem_drop z))⟩
  | @ins l h k d =>
    obtain ⟨b, r, q⟩ := hL _ h
    rw [q.e]
    have nb : 35 ≠ b := fun z => q.n1 (List.mem_cons.mpr (.inl z))
    match k with
    | 0 => exact ⟨fun t e => .inr ⟨35, b :: r, (List.cons.inj e).2.symm, Ne.symm c1, by decide⟩, qb_cons (fun _ => fm_cons (Ne.symm c1)) (qb_cons (fun _ => fm_cons q.b1) (qb_no q.n1))⟩
    | 1 =>
      refine ⟨no1 (Ne.symm c1), qb_cons (fun _ => ?_) (qb_cons (fun _ => fm_cons q.b1) (qb_no q.n1))⟩
      by_cases e : d = c
      · exact .inr ⟨1, b, r, by rw [e]; rfl, q.b1, fun z => nomatch z.1⟩
      · exact fm_cons e
    | k + 2 =>
      refine ⟨no1 (Ne.symm c1), qb_cons (fun _ => fm_cons q.b1) (qb_cons (fun z => absurd z.symm nb) ?_)⟩
      show Qb c (r.take k ++ [d] ++ r.drop k)
      rw [List.append_assoc]
      exact qb_app (fun z => q.nr (List.mem_of_mem_take z)) (qb_cons (fun _ => q.suf c4 k) (qb_no fun z => q.nr (List.mem_of_mem_drop z)))
  | @put l h k d =>
    obtain ⟨b, r, q⟩ := hL _ h
    rw [q.e]
    have nb : 35 ≠ b := fun z => q.n1 (List.mem_cons.mpr (.inl z))
    match k with
    | 0 => exact ⟨fun t e => .inr ⟨b, r, (List.cons.inj e).2.symm, q.b1, q.b2⟩, qb_cons (fun _ => fm_cons q.b1) (qb_no q.n1)⟩
    | 1 =>
      refine ⟨no1 (Ne.symm c1), qb_cons (fun _ => ?_) (qb_cons (fun _ => q.suf c4 0) (qb_no q.nr))⟩
      by_cases e : d = c
      · subst e
        show Fm d (d :: r)
        rcases q.suf c4 0 with z | ⟨i, e1, t, e2, e3, e4⟩
        · obtain ⟨a, ea⟩ := q.last
          have z : r = [] := z
          rw [z] at ea
          exact absurd (congrArg List.length ea) (by simp)
        · have e2 : r = List.replicate i d ++ e1 :: t := e2
          refine .inr ⟨i + 1, e1, t, by rw [e2]; rfl, e3, fun ⟨z1, z2⟩ => q.far ?_⟩
          have : i = 7 := by omega
          subst this
          rw [e2, List.take_left' (by simp)]
      · exact fm_cons e
    | k + 2 =>
      refine ⟨no1 (Ne.symm c1), qb_cons (fun _ => fm_cons q.b1) (qb_cons (fun z => absurd z.symm nb) ?_)⟩
      show Qb c (r.take k ++ [d] ++ r.drop (k + 1))
      rw [List.append_assoc]
      exact qb_app (fun z => q.nr (List.mem_of_mem_take z)) (qb_cons (fun _ => q.suf c4 (k + 1)) (qb_no fun z => q.nr (List.mem_of_mem_drop z)))
end
theorem in_iff {a w : List Nat} : inStr (Q.st a) (Q.st w) = true ↔ ∃ u t, w = u ++ (a ++ t) := by
  unfold inStr
  rw [PySem.StrLaws.found_iff]
  have la : (Q.st a).length = a.length := Q.st_len
  have lw : (Q.st w).length = w.length := Q.st_len
  constructor
  · rintro ⟨i, hi, h⟩
    rw [PySem.StrLaws.subAt_eq, beq_iff_eq, la] at h
    have h : (w.drop i).take a.length = a := h
    exact ⟨w.take i, (w.drop i).drop a.length, by
      conv => lhs; rw [← List.take_append_drop i w, ← List.take_append_drop a.length (w.drop i), h]⟩
  · rintro ⟨u, t, rfl⟩
    refine ⟨u.length, by rw [la, lw]; simp only [List.length_append]; omega, ?_⟩
    rw [PySem.StrLaws.subAt_eq, beq_iff_eq, la]
    show (((u ++ (a ++ t)).drop u.length).take a.length) = a
    rw [List.drop_left, List.take_left]
theorem cnt5 : ∀ ms : List (List Nat), ms.count [122] + ms.count [121] + ms.count [120] + ms.count [119] + ms.count [118] ≤ ms.length
  | [] => by simp
  | x :: ms => by
    have ih := cnt5 ms
    have e : ∀ c : Nat, (x :: ms).count [c] = ms.count [c] + if x = [c] then 1 else 0 := fun c => by
      rw [List.count_cons]
      by_cases h : x = [c]
      · rw [if_pos h, if_pos (by rw [h]; exact beq_self_eq_true _)]
      · rw [if_neg h, if_neg (by simpa using h)]
    rw [e, e, e, e, e, List.length_cons]
    by_cases h1 : x = [122]
    · subst h1; simp; omega
    · by_cases h2 : x = [121]
      · subst h2; simp; omega
      · by_cases h3 : x = [120]
        · subst h3; simp; omega
        · by_cases h4 : x = [119]
          · subst h4; simp; omega
          · rw [if_neg h1, if_neg h2, if_neg h3, if_neg h4]
            split <;> omega
theorem nmB_of {c p : Nat} {m q w : List Nat} (hm : markB m = true) (hw : wordB w = true) (e : m = p :: q) (h1 : p ≠ c) (h2 : q ≠ List.replicate 7 c) : NmB c (nameL m w) p (q ++ 45 :: (w ++ [59])) := by
  subst e
  have f : ∀ d ∈ fgs, d ≠ 45 := by decide
  have lt : ∀ d ∈ lets, d ≠ 45 := by decide
  have l8 := (of_markB hm).1
  have g8 := (of_markB hm).2
  have l7 : q.length = 7 := by rw [List.length_cons] at l8; omega
  refine ⟨rfl, h1, f p (g8 p (List.mem_cons_self ..)), fun z => ?_, ?_, ⟨q ++ 45 :: w, by rw [List.append_assoc, List.cons_append]⟩, fun j hj => ?_⟩
  · obtain ⟨k, e, hk⟩ := name_tail (calB_of hm hw)
    have e2 : 35 :: (p :: q ++ 45 :: (w ++ [59])) = 35 :: k := e
    rw [← (List.cons.inj e2).2] at hk
    exact hk z
  · rw [show (7 : Nat) = q.length from l7.symm, List.take_left, l7]
    exact h2
  · rcases Nat.lt_trichotomy j 7 with h | h | h
    · rw [List.getElem?_append_left (by omega)] at hj
      exact absurd rfl (f 45 (g8 45 (List.mem_cons_of_mem _ (List.mem_of_getElem? hj))))
    · exact h
    · rw [List.getElem?_append_right (by omega), l7] at hj
      obtain ⟨i, rfl⟩ : ∃ i, j = 7 + (i + 1) := ⟨j - 8, by omega⟩
      rw [Nat.add_sub_cancel_left, List.getElem?_cons_succ] at hj
      have hz := List.mem_of_getElem? hj
      rcases List.mem_append.mp hz with z | z
      · exact absurd rfl (lt 45 ((of_wordB hw).2.2 45 z))
      · exact absurd (List.mem_singleton.mp z) (by decide)
/-- one of five names is not there -/
theorem some_free {a b u : List Nat} {k x : Nat} {L ms : List (List Nat)} (ha : markB a = true) (eb : b = a.take k ++ [x] ++ a.drop (k + 1)) (hb : markB b = true) (hk : k < 8)
    (hL : ∀ l ∈ L, ∃ m w, (m = a ∨ m = b ∨ m = List.replicate 8 48) ∧ wordB w = true ∧ l = nameL m w) (hm : ∀ m ∈ ms, Pc L m) (lm : ms.length ≤ 14) :
    ∃ c ∈ [122, 121, 120, 119, 118], inStr (Q.st (nameL (List.replicate 8 c) u)) (Q.st ms.flatten) = false := by
  have h0 : markB (List.replicate 8 48) = true := by decide
  have la := (of_markB ha).1
  match a, la with
  | [a0, a1, a2, a3, a4, a5, a6, a7], _ =>
  have lb := (of_markB hb).1
  obtain ⟨b0, b1, b2, b3, b4, b5, b6, b7, rfl⟩ : ∃ b0 b1 b2 b3 b4 b5 b6 b7, b = [b0, b1, b2, b3, b4, b5, b6, b7] := by
    match b, lb with
    | [b0, b1, b2, b3, b4, b5, b6, b7], _ => exact ⟨_, _, _, _, _, _, _, _, rfl⟩
  obtain ⟨t, ht⟩ : ∃ t, (a1 = a2 → t = a1) ∧ (b1 = b2 → t = b1) := by
    have : k = 0 ∨ k = 1 ∨ k = 2 ∨ 3 ≤ k := by omega
    rcases this with rfl | rfl | rfl | h3
    · simp at eb
      exact ⟨a1, fun _ => rfl, fun _ => by omega⟩
    · simp at eb
      exact ⟨a2, fun h => h.symm, fun h => by omega⟩
    · simp at eb
      exact ⟨a1, fun _ => rfl, fun h => by omega⟩
    · obtain ⟨k, rfl⟩ : ∃ j, k = j + 3 := ⟨k - 3, by omega⟩
      have : b1 = a1 := by
        have := congrArg (fun l : List Nat => l[1]?) eb
        simpa using this
      exact ⟨a1, fun _ => rfl, fun h => by omega⟩
  have far : ∀ c, c ∈ [122, 121, 120, 119, 118] → c ≠ a0 → c ≠ b0 → c ≠ t → inStr (Q.st (nameL (List.replicate 8 c) u)) (Q.st ms.flatten) = true → 8 ≤ ms.count [c] := by
    intro c hc h1 h2 h3 h4
    have cc : c ≠ 35 ∧ c ≠ 48 ∧ c ≠ 49 ∧ c ≠ 59 ∧ c ≠ 97 ∧ c ≠ 123 ∧ c ≠ 60 ∧ c ≠ 45 := by
      simp only [List.mem_cons, List.not_mem_nil, or_false] at hc
      omega
    obtain ⟨c1, c2, c3, c4, c5, c6, c7, c8⟩ := cc
    have q : ∀ l ∈ L, ∃ b r, NmB c l b r := fun l hl => by
      obtain ⟨m, w, hmm, hw, rfl⟩ := hL l hl
      rcases hmm with rfl | rfl | rfl
      · exact ⟨_, _, nmB_of ha hw rfl (Ne.symm h1) fun z => h3 (by
          have z1 : a1 = c := (List.cons.inj z).1
          have z2 : a2 = c := (List.cons.inj (List.cons.inj z).2).1
          rw [ht.1 (by omega), z1])⟩
      · exact ⟨_, _, nmB_of hb hw rfl (Ne.symm h2) fun z => h3 (by
          have z1 : b1 = c := (List.cons.inj z).1
          have z2 : b2 = c := (List.cons.inj (List.cons.inj z).2).1
          rw [ht.2 (by omega), z1])⟩
      · exact ⟨_, _, nmB_of h0 hw rfl (Ne.symm c2) fun z => by
          have z1 : 48 = c := (List.cons.inj z).1
          exact c2 z1.symm⟩
    obtain ⟨y, z, e⟩ := in_iff.mp h4
    refine find_count c8 ms y (u ++ [59] ++ z) (fun m h => pc_ok q c1 c2 c3 c4 c5 c6 c7 (hm m h)) (e.trans ?_)
    show y ++ (35 :: (List.replicate 8 c ++ 45 :: (u ++ [59])) ++ z) = _
    simp only [List.cons_append, List.append_assoc]
  by_cases w1 : inStr (Q.st (nameL (List.replicate 8 122) u)) (Q.st ms.flatten) = true
  · by_cases w2 : inStr (Q.st (nameL (List.replicate 8 121) u)) (Q.st ms.flatten) = true
    · by_cases w3 : inStr (Q.st (nameL (List.replicate 8 120) u)) (Q.st ms.flatten) = true
      · by_cases w4 : inStr (Q.st (nameL (List.replicate 8 119) u)) (Q.st ms.flatten) = true
        · by_cases w5 : inStr (Q.st (nameL (List.replicate 8 118) u)) (Q.st ms.flatten) = true
          · have f1 := fun p q r => far 122 (by simp) p q r w1
            have f2 := fun p q r => far 121 (by simp) p q r w2
            have f3 := fun p q r => far 120 (by simp) p q r w3
            have f4 := fun p q r => far 119 (by simp) p q r w4
            have f5 := fun p q r => far 118 (by simp) p q r w5
            have s := cnt5 ms
            generalize ms.count [122] = n1 at *
            generalize ms.count [121] = n2 at *
            generalize ms.count [120] = n3 at *
            generalize ms.count [119] = n4 at *
            generalize ms.count [118] = n5 at *
            exfalso
            by_cases g1 : n1 < 8 <;> by_cases g2 : n2 < 8 <;> by_cases g3 : n3 < 8 <;> by_cases g4 : n4 < 8 <;> by_cases g5 : n5 < 8 <;> first | omega | (
              have k1 : n1 < 8 → 122 = a0 ∨ 122 = b0 ∨ 122 = t := fun h => by
                by_cases p : 122 = a0
                · exact .inl p
                · by_cases q : 122 = b0
                  · exact .inr (.inl q)
                  · by_cases r : 122 = t
                    · exact .inr (.inr r)
                    · have := f1 p q r; omega
              have k2 : n2 < 8 → 121 = a0 ∨ 121 = b0 ∨ 121 = t := fun h => by
                by_cases p : 121 = a0
                · exact .inl p
                · by_cases q : 121 = b0
                  · exact .inr (.inl q)
                  · by_cases r : 121 = t
                    · exact .inr (.inr r)
                    · have := f2 p q r; omega
              have k3 : n3 < 8 → 120 = a0 ∨ 120 = b0 ∨ 120 = t := fun h => by
                by_cases p : 120 = a0
                · exact .inl p
                · by_cases q : 120 = b0
                  · exact .inr (.inl q)
                  · by_cases r : 120 = t
                    · exact .inr (.inr r)
                    · have := f3 p q r; omega
              have k4 : n4 < 8 → 119 = a0 ∨ 119 = b0 ∨ 119 = t := fun h => by
                by_cases p : 119 = a0
                · exact .inl p
                · by_cases q : 119 = b0
                  · exact .inr (.inl q)
                  · by_cases r : 119 = t
                    · exact .inr (.inr r)
                    · have := f4 p q r; omega
              have k5 : n5 < 8 → 118 = a0 ∨ 118 = b0 ∨ 118 = t := fun h => by
                by_cases p : 118 = a0
                · exact .inl p
                · by_cases q : 118 = b0
                  · exact .inr (.inl q)
                  · by_cases r : 118 = t
                    · exact .inr (.inr r)
                    · have := f5 p q r; omega
              clear far f1 f2 f3 f4 f5
              omega)
          · exact ⟨118, by simp, Bool.eq_false_iff.mpr w5⟩
        · exact ⟨119, by simp, Bool.eq_false_iff.mpr w4⟩
      · exact ⟨120, by simp, Bool.eq_false_iff.mpr w3⟩
    · exact ⟨121, by simp, Bool.eq_false_iff.mpr w2⟩
  · exact ⟨122, by simp, Bool.eq_false_iff.mpr w1⟩
theorem spec_L_pick {xs : List PyData} (h : 0 < xs.length) (h2 : xs.length < 2 ^ 30) (D : Dk) (T : Sg) : ∃ (x : PyData) (E : Dk), f_L_pick [.ref 1, .d (.list xs)] (dS D T) = .ok (.d x) (dS E T) ∧ x ∈ xs := by
  have hr : (dr D xs.length).val < xs.length := by have := (dr D xs.length).isLt; omega
  obtain ⟨d, hd, e⟩ := Q.atI_mem (xs := xs.map Mv.d) (i := ((dr D xs.length).val : Nat)) (by omega) (by rw [List.length_map]; omega)
  obtain ⟨x, hx, rfl⟩ := List.mem_map.mp hd
  refine ⟨x, nx D xs.length, ?_, hx⟩
  unfold f_L_pick m_L_pick
  walk_at "mm"
  rw [e]
  walk_at "mm"
theorem spec_pick_st {l : List Nat} (h : 0 < l.length) (h2 : l.length < 1000000) (D : Dk) (T : Sg) : ∃ (c : Nat) (E : Dk), f_L_pick [.ref 1, mS l] (dS D T) = .ok (mS [c]) (dS E T) ∧ c ∈ l := by
  have h16 : sizeLine = 16777216 := PySem.sizeLine_eq
  have hr : (dr D l.length).val < l.length := by have := (dr D l.length).isLt; omega
  obtain ⟨d, hd, e⟩ := Q.atI_mem (xs := l) (i := ((dr D l.length).val : Nat)) (by omega) (by omega)
  refine ⟨d, nx D l.length, ?_, hd⟩
  unfold f_L_pick m_L_pick
  walk_at "mm"
  rw [e]
  walk_at "mm"
noncomputable def mulA : ME := mBin .frz gMul (mC (.str ("a" : Str))) (mCall 2 f_L_draw [] (mCons (mVar 0) (mCons (mC (.int 9)) (mNil))))
theorem mul_draw9 {D : Dk} {T : Sg} {r : Rho} : mulA (some (.ref 1) :: r) (dS D T) = .ok (mS (List.replicate (dr D 9).val [97]).flatten) (dS (nx D 9) T) := by
  have h16 : sizeLine = 16777216 := PySem.sizeLine_eq
  have hn : (dr D 9).val < 9 := by have := (dr D 9).isLt; omega
  have e : mCall 2 f_L_draw [] (mCons (mVar 0) (mCons (mC (.int 9)) (mNil))) (some (.ref 1) :: r) (dS D T) = .ok (.d (.int ((dr D 9).val : Nat))) (dS (nx D 9) T) := by
    walk_at "mm"
  have e1 : mC (.str ("a" : Str)) (some (.ref 1) :: r) (dS D T) = .ok (.d (.str (Q.st [97]))) (dS D T) := by
    rw [show Str.ofString "a" = Q.st [97] by decide +kernel]; rfl
  have ok : ∀ {α β : Type} (x : α) S (f : α → Sg → Res β), Res.bind (.ok x S) f = f x S := fun _ _ _ => rfl
  unfold mulA
  rw [Q.ev_bin, e1, ok, Q.ev_bin1, e, ok, Q.ev_bin2, Q.mul_st ⟨by omega, by omega, by rw [Int.toNat_natCast]; simp only [List.length_cons, List.length_nil]; omega⟩, Int.toNat_natCast]
  rfl
theorem signs10 : (Str.ofString "#;-0aeZ \n~") = Q.st [35, 59, 45, 48, 97, 101, 90, 32, 10, 126] := by decide +kernel
def strange : List (List Nat) := [[123, 48, 125], [123, 49, 125], [123, 125], [60, 48, 62], [35, 48, 59], [35, 49, 59]]
theorem strange_lit : [PyData.str (Str.ofString "{0}"), .str (Str.ofString "{1}"), .str (Str.ofString "{}"), .str (Str.ofString "<0>"), .str (Str.ofString "#0;"), .str (Str.ofString "#1;")] = strange.map pS := by
  rw [show Str.ofString "{0}" = Q.st [123, 48, 125] by decide +kernel, show Str.ofString "{1}" = Q.st [123, 49, 125] by decide +kernel, show Str.ofString "{}" = Q.st [123, 125] by decide +kernel, show Str.ofString "<0>" = Q.st [60, 48, 62] by decide +kernel, show Str.ofString "#0;" = Q.st [35, 48, 59] by decide +kernel, show Str.ofString "#1;" = Q.st [35, 49, 59] by decide +kernel]
  rfl
theorem strange_good : ∀ l ∈ strange, Gd 20 l := by
  intro l hl
  have h1 : ∀ l ∈ strange, l.length ≤ 20 := by decide
  have h2 : ∀ l ∈ strange, l.all isG = true := by decide
  exact ⟨h1 l hl, List.all_eq_true.mp (h2 l hl)⟩
/-- a sign of few, or any -/
theorem pick_sign (D : Dk) (T : Sg) (k : Nat) (hk : k < 2) : ∃ (c : Nat) (E : Dk) (z : List Nat), atI [mS [35, 59, 45, 48, 97, 101, 90, 32, 10, 126], mS sgs] (k : Nat) = some (mS z) ∧ f_L_pick [.ref 1, mS z] (dS D T) = .ok (mS [c]) (dS E T) ∧ isG c = true := by
  have : k = 0 ∨ k = 1 := by omega
  rcases this with rfl | rfl
  · obtain ⟨c, E, e, hc⟩ := spec_pick_st (l := [35, 59, 45, 48, 97, 101, 90, 32, 10, 126]) (by decide) (by decide) D T
    have : ∀ d ∈ [35, 59, 45, 48, 97, 101, 90, 32, 10, 126], isG d = true := by decide
    exact ⟨c, E, _, rfl, e, this c hc⟩
  · obtain ⟨c, E, e, hc⟩ := spec_pick_st (l := sgs) (by decide) (by decide) D T
    have := isG_mem (c := c)
    rw [decide_eq_true hc] at this
    exact ⟨c, E, _, rfl, e, this.symm⟩
theorem spec_L_piece {L : List (List Nat)} (h0 : 0 < L.length) (h1 : L.length ≤ 1000) (hL : ∀ l ∈ L, Gd 19 l ∧ 1 ≤ l.length) (D : Dk) (T : Sg) : ∃ (m : List Nat) (E : Dk), f_L_piece [.ref 1, .d (.list (L.map pS))] (dS D T) = .ok (mS m) (dS E T) ∧ Gd 20 m ∧ Pc L m := by
  have h16 : sizeLine = 16777216 := PySem.sizeLine_eq
  obtain ⟨z, D1, e1, hz⟩ := spec_L_pick (xs := L.map pS) (by rw [List.length_map]; omega) (by rw [List.length_map]; omega) (nx D 10) T
  obtain ⟨l, hl, rfl⟩ := List.mem_map.mp hz
  obtain ⟨gl, hl1⟩ := hL l hl
  have ll := gl.len
  obtain ⟨d, D2, zz, ez, ed, hd⟩ := pick_sign (nx (nx D1 l.length) 2) T (dr (nx D1 l.length) 2).val (by have := (dr (nx D1 l.length) 2).isLt; omega)
  obtain ⟨y0, D3, ey, hy0⟩ := spec_L_pick (xs := strange.map pS) (by decide) (by decide) D2 T
  obtain ⟨sx, hsx, rfl⟩ := List.mem_map.mp hy0
  have gs := strange_good sx hsx
  have ls := gs.len
  have hk : (dr D1 l.length).val < l.length := by omega
  generalize hat : (dr D1 l.length).val = k at hk
  have c1 : Q.cutL l none (some (k : Int)) = l.take k := Q.cutL_to
  have c2 : Q.cutL l (some ((k : Int) + 1)) none = l.drop (k + 1) := by
    rw [show ((k : Int) + 1) = ((k + 1 : Nat) : Int) by omega]; exact Q.cutL_from
  have c3 : Q.cutL l (some (k : Int)) none = l.drop k := Q.cutL_from
  obtain ⟨z, hz, c1, c2, c3⟩ : ∃ z : Int, (k : Int) = z ∧ Q.cutL l none (some z) = l.take k ∧ Q.cutL l (some (z + 1)) none = l.drop (k + 1) ∧ Q.cutL l (some z) none = l.drop k := ⟨k, rfl, c1, c2, c3⟩
  have l1 : (l.take k).length = k := by rw [List.length_take]; omega
  have l2 : (l.drop (k + 1)).length = l.length - (k + 1) := by rw [List.length_drop]
  have l3 : (l.drop k).length = l.length - k := by rw [List.length_drop]
  have m1 : ∀ c ∈ l.take k, isG c = true := fun c hc => gl.all c (List.mem_of_mem_take hc)
  have m2 : ∀ c ∈ l.drop (k + 1), isG c = true := fun c hc => gl.all c (List.mem_of_mem_drop hc)
  have m3 : ∀ c ∈ l.drop k, isG c = true := fun c hc => gl.all c (List.mem_of_mem_drop hc)
  have hn : (dr D3 9).val < 9 := by have := (dr D3 9).isLt; omega
  generalize hnn : (dr D3 9).val = n at hn
  have hw : (dr D 10).val < 10 := by have := (dr D 10).isLt; omega
  have mm : -(2 ^ 63) ≤ (n : Int) ∧ (n : Int) < 2 ^ 63 ∧ (n : Int).toNat * [97].length ≤ sizeLine := ⟨by omega, by omega, by simp; omega⟩
  suffices h : ∃ m, atI ([mS l, mS l, mS l, mS (l.take k ++ l.drop (k + 1)), mS (l.take k ++ [d] ++ l.drop k), mS (l.take k ++ [d] ++ l.drop (k + 1)), mS [d], mS (List.replicate n [97]).flatten, mS (l.take k), mS sx]) (((dr D 10).val : Nat) : Int) = some (mS m) ∧ Gd 20 m ∧ Pc L m by
    obtain ⟨m, e, hm⟩ := h
    refine ⟨m, nx D3 9, ?_, hm⟩
    unfold f_L_piece m_L_piece
    rw [show mBin .frz gMul (mC (.str ("a" : Str))) (mCall 2 f_L_draw [] (mCons (mVar 0) (mCons (mC (.int 9)) (mNil)))) = mulA from rfl]
    walk_at "mm"
    rw [e1]
    walk_at "mm"
    rw [hat, hz, spec_L_signs, signs10]
    walk_at "mm"
    rw [ez]
    walk_at "mm"
    rw [ed]
    walk_at "mm"
    rw [strange_lit, ey]
    walk_at "mm"
    have q1 : (Q.cutL l none (some z)).length ≤ 19 := by rw [c1]; omega
    have q2 : (Q.cutL l (some (z + 1)) none).length ≤ 19 := by rw [c2]; omega
    have q4 : (Q.cutL l none (some z) ++ [d]).length ≤ 20 := by rw [c1, List.length_append, List.length_singleton]; omega
    have q3 : (Q.cutL l (some z) none).length ≤ 19 := by rw [c3]; omega
    walk_at "mm"
    rw [mul_draw9]
    walk_at "mm"
    simp only [c1, c2, c3, hnn]
    rw [e]
    walk_at "mm"
  obtain ⟨y, hy, e⟩ := Q.atI_mem (xs := [mS l, mS l, mS l, mS (l.take k ++ l.drop (k + 1)), mS (l.take k ++ [d] ++ l.drop k), mS (l.take k ++ [d] ++ l.drop (k + 1)), mS [d], mS (List.replicate n [97]).flatten, mS (l.take k), mS sx]) (i := (((dr D 10).val : Nat) : Int)) (by omega) (by simp only [List.length_cons, List.length_nil]; omega)
  have fin : ∀ m : List Nat, m.length ≤ 20 → (∀ c ∈ m, isG c = true) → y = mS m → Pc L m → ∃ m, atI ([mS l, mS l, mS l, mS (l.take k ++ l.drop (k + 1)), mS (l.take k ++ [d] ++ l.drop k), mS (l.take k ++ [d] ++ l.drop (k + 1)), mS [d], mS (List.replicate n [97]).flatten, mS (l.take k), mS sx]) (((dr D 10).val : Nat) : Int) = some (mS m) ∧ Gd 20 m ∧ Pc L m := fun m h1 h2 h3 h4 => ⟨m, by rw [e, h3], ⟨h1, h2⟩, h4⟩
  simp only [List.mem_cons, List.not_mem_nil, or_false] at hy
  rcases hy with h | h | h | h | h | h | h | h | h | h
  · exact fin _ (by omega) gl.all h (.all hl)
  · exact fin _ (by omega) gl.all h (.all hl)
  · exact fin _ (by omega) gl.all h (.all hl)
  · exact fin _ (by rw [List.length_append]; omega) (fun c hc => (List.mem_append.mp hc).elim (m1 c) (m2 c)) h (.out hl k)
  · refine fin _ (by simp only [List.length_append, List.length_singleton]; omega) (fun c hc => ?_) h (.ins hl k d)
    simp only [List.mem_append, List.mem_singleton] at hc
    rcases hc with (hc | rfl) | hc
    · exact m1 c hc
    · exact hd
    · exact m3 c hc
  · refine fin _ (by simp only [List.length_append, List.length_singleton]; omega) (fun c hc => ?_) h (.put hl k d)
    simp only [List.mem_append, List.mem_singleton] at hc
    rcases hc with (hc | rfl) | hc
    · exact m1 c hc
    · exact hd
    · exact m2 c hc
  · exact fin _ (by simp) (fun c hc => by rw [List.mem_singleton.mp hc]; exact hd) h (.one d)
  · have := (Gd.one (c := 97) (by decide)).rep (k := n)
    exact fin _ (by have := this.len; omega) this.all h (by rw [show (List.replicate n [97]).flatten = List.replicate n 97 from List.flatten_replicate_singleton]; exact .rep n)
  · exact fin _ (by omega) m1 h (.pre hl k)
  · exact fin _ ls gs.all h (.str hsx)
theorem fgs_ind {d : Nat} (h : d ∈ fgs) : ∃ k : Nat, Txt.index0 (Q.st fgs) (Q.st [d]) = some k ∧ k < 32 := by
  have : ∀ d ∈ fgs, (match Txt.index0 (Q.st fgs) (Q.st [d]) with | some k => decide (k < 32) | none => false) = true := by decide +kernel
  have := this d h
  cases e : Txt.index0 (Q.st fgs) (Q.st [d]) with
  | none => rw [e] at this; cases this
  | some k => rw [e] at this; exact ⟨k, rfl, of_decide_eq_true this⟩
theorem draw_marks {o2 o3 o4 o5 : Option Mv} {D : Dk} {T : Sg} {js : List Mv} (hj : js.length ≤ 1000) :
    ∃ (ts : List Nat) (E : Dk), lcLoop (mgName 5) mYes e_L_marks_1 [some (.ref 1), some (mS fgs), o2, o3, o4, o5] js [] (dS D T) = .ok (ts.map fun c => .d (.str (Q.st [c]))) (dS E T) ∧ ts.length = js.length ∧ (∀ d ∈ ts, d ∈ fgs) := by
  have h16 : sizeLine = 16777216 := PySem.sizeLine_eq
  have hs : fgs.length ≤ sizeLine := by rw [fgs_len]; omega
  obtain ⟨ys, E, e, e1, e2⟩ := @lc_dk T [some (.ref 1), some (mS fgs), o2, o3, o4, o5] (mgName 5) e_L_marks_1 (fun y => ∃ d, d ∈ fgs ∧ y = .d (.str (Q.st [d]))) js D (fun x _ D => by
    obtain ⟨d, ed, hd⟩ := fgs_at (i := (dr D 32).val) (by omega) (by omega)
    refine ⟨[some (.ref 1), some (mS fgs), o2, o3, o4, some x], .d (.str (Q.st [d])), nx D 32, rfl, ?_, rfl, d, hd, rfl⟩
    unfold e_L_marks_1
    walk_at "mm"
    rw [ed]
    walk_at "mm") (by omega)
  obtain ⟨ts, rfl, ht⟩ := Q.pick_all e2
  exact ⟨ts, E, e, by rw [← e1, List.length_map], ht⟩
theorem spec_L_marks (D : Dk) (T : Sg) : ∃ (a : List Nat) (k x : Nat) (E : Dk), f_L_marks [.ref 1] (dS D T) = .ok (.d (.list [pS a, pS (a.take k ++ [x] ++ a.drop (k + 1)), pS (List.replicate 8 48)])) (dS E T) ∧ markB a = true ∧ markB (a.take k ++ [x] ++ a.drop (k + 1)) = true ∧ k < 8 := by
  have h16 : sizeLine = 16777216 := PySem.sizeLine_eq
  have hs : fgs.length ≤ sizeLine := by rw [fgs_len]; omega
  obtain ⟨ts, D1, e2, w2, g2⟩ := draw_marks (o2 := none) (o3 := none) (o4 := none) (o5 := none) (D := D) (T := T) (js := rangeL 0 8) (by decide)
  have w8 : ts.length = 8 := w2
  have hr : (dr D1 8).val < ts.length := by have := (dr D1 8).isLt; omega
  obtain ⟨d, ed, hd⟩ : ∃ d, atI ts ((dr D1 8).val : Nat) = some d ∧ d ∈ fgs := by
    obtain ⟨d, hd, e⟩ := Q.atI_mem (xs := ts) (i := ((dr D1 8).val : Nat)) (by omega) (by omega)
    exact ⟨d, e, g2 d hd⟩
  obtain ⟨k, ek, hk⟩ := fgs_ind hd
  obtain ⟨x, ex, hx⟩ := fgs_at (i := ((k : Int) + 1) % 32) (by omega) (by omega)
  have c1 : Q.cutL ts none (some ((dr D1 8).val : Int)) = ts.take (dr D1 8).val := Q.cutL_to
  have c2 : Q.cutL ts (some (((dr D1 8).val : Int) + 1)) none = ts.drop ((dr D1 8).val + 1) := by
    rw [show (((dr D1 8).val : Int) + 1) = (((dr D1 8).val + 1 : Nat) : Int) by omega]; exact Q.cutL_from
  refine ⟨ts, (dr D1 8).val, x, nx D1 8, ?_, markB_of w8 g2, markB_of ?_ ?_, (dr D1 8).isLt⟩
  · unfold f_L_marks m_L_marks
    walk_at "mm"
    rw [lit_f]
    rw [e2]
    walk_at "mm"
    rw [lit_e]
    walk_at "mm"
    rw [ed]
    walk_at "mm"
    rw [Q.ind_some ek]
    walk_at "mm"
    rw [ex]
    walk_at "mm"
    have l1 : (ts.take (dr D1 8).val).length ≤ 8 := by rw [List.length_take]; omega
    have l2 : (ts.drop ((dr D1 8).val + 1)).length ≤ 8 := by rw [List.length_drop]; omega
    rw [c1]
    walk_at "mm"
    rw [c2]
    walk_at "mm"
    rw [show Str.ofString "00000000" = Q.st (List.replicate 8 48) by decide +kernel]
  · simp only [List.length_append, List.length_take, List.length_drop, List.length_singleton]; omega
  · intro c hc
    simp only [List.mem_append, List.mem_singleton] at hc
    rcases hc with (hc | rfl) | hc
    · exact g2 c (List.mem_of_mem_take hc)
    · exact hx
    · exact g2 c (List.mem_of_mem_drop hc)
theorem tw_comp {g h : List Nat → List Nat} (h1 : ∀ n, calB n = true → calB (g n) = true) : ∀ (k : Nat) (w : List Nat), w.length ≤ k → tw h 0 (tw g 0 w) = tw (fun n => h (g n)) 0 w := by
  have hg : ∀ n, calB n = true → (g n).head? = some 35 := fun n hn => by
    obtain ⟨m, e, _⟩ := name_tail (h1 n hn)
    rw [e]; rfl
  intro k
  induction k with
  | zero =>
    intro w hw
    have : w = [] := List.eq_nil_of_length_eq_zero (by omega)
    subst this; rfl
  | succ k ih =>
    intro w hw
    rcases tw_cases w with rfl | ⟨n, t, hn, rfl⟩ | ⟨c, t, hn, rfl⟩
    · rfl
    · have := name_ne hn
      rw [tw_name hn, tw_name (h1 n hn), tw_name hn, ih t (by rw [List.length_append] at hw; omega)]
    · rw [tw_skip hn, tw_skip, tw_skip hn, ih t (by rw [List.length_cons] at hw; omega)]
      cases e : nameAt (c :: tw g 0 t) with
      | none => rfl
      | some n =>
        obtain ⟨hc, u, hu⟩ := nameAt_iff.mp e
        obtain ⟨m, rfl, h35⟩ := name_tail hc
        rw [List.cons_append] at hu
        obtain ⟨e1, e2⟩ := List.cons.inj hu
        subst e1
        obtain ⟨v, hv⟩ := tw_pre hg t.length t m (Nat.le_refl _) h35 ⟨u, e2⟩
        have : nameAt (35 :: t) = some (35 :: m) := nameAt_iff.mpr ⟨hc, v, by rw [List.cons_append, hv]⟩
        rw [hn] at this; cases this
/-- what stands there alone counts -/
theorem tw_same {g h : List Nat → List Nat} : ∀ (k : Nat) (w : List Nat), w.length ≤ k → (∀ n u t, calB n = true → w = u ++ (n ++ t) → g n = h n) → tw g 0 w = tw h 0 w := by
  intro k
  induction k with
  | zero =>
    intro w hw _
    have : w = [] := List.eq_nil_of_length_eq_zero (by omega)
    subst this; rfl
  | succ k ih =>
    intro w hw q
    rcases tw_cases w with rfl | ⟨n, t, hn, rfl⟩ | ⟨c, t, hn, rfl⟩
    · rfl
    · have := name_ne hn
      rw [tw_name hn, tw_name hn, q n [] t hn rfl, ih t (by rw [List.length_append] at hw; omega) fun m u t' hm e => q m (n ++ u) t' hm (by rw [e, List.append_assoc])]
    · rw [tw_skip hn, tw_skip hn, ih t (by rw [List.length_cons] at hw; omega) fun m u t' hm e => q m (c :: u) t' hm (by rw [e, List.cons_append])]
end Law
end
section
set_option Elab.async false
set_option linter.all false
set_option maxRecDepth 100000
set_option maxHeartbeats 4000000
set_option autoImplicit false
namespace Law
open PySem PySem.Spec PyProof.Rows L2 MM
set_option hygiene false in
set_option compiler.extract_closed false in
local macro_rules | `(tactic| walk_at "mm") => do
  let l ← MM.mmI false "draw_int dS_len dS_app dS_get dS_set sg_app sg_app2 ag0 ag1 ag2 ag3 as0 as1 as2 as3 al1 al2 al3 dS_trim dS_trim0 dS_trimc Int.reduceToNat Int.toNat_natCast List.length_map decide_true decide_false Bool.not_true Bool.not_false Bool.false_and Bool.and_false Bool.true_or Bool.or_true Bool.or_false Bool.false_or ne_eq not_true_eq_false not_false_eq_true beq_self_eq_true "
  `(tactic| simp (disch := first | assumption | omega | exact MM.Q.shaped_int | exact MM.Q.shaped_nil | exact MM.Q.shaped_ints | exact MM.Q.shaped_bool | (refine of_eq_true (eq_true ?_); first | with_unfolding_all rfl | (simp only [MM.Q.free_d, MM.Q.free_ref, MM.Q.free_adr, MM.Q.frees_nil, MM.Q.frees_cons, MM.Q.frees_map, Bool.and_true, Bool.true_and]; done)) | (simp only [List.length_cons, List.length_nil, List.append_nil, List.map_cons, List.map_nil, List.length_append, List.length_map, List.length_reverse, MM.Q.dI_len, PySem.sizeLine_eq]; omega)) only [$l,*])
theorem cutL_nat {α : Type} {l : List α} {a b : Nat} (h : a ≤ b) : Q.cutL l (some (a : Int)) (some (b : Int)) = (l.drop a).take (b - a) := by
  unfold Q.cutL
  rw [HT.sIx_nat, HT.sIx_nat]
  rcases Nat.le_total a l.length with h1 | h1
  · rw [Nat.min_eq_left h1]
    rcases Nat.le_total b l.length with h2 | h2
    · rw [Nat.min_eq_left h2]
    · rw [Nat.min_eq_right h2, List.take_of_length_le (by rw [List.length_drop]; omega), List.take_of_length_le (by rw [List.length_drop]; omega)]
  · rw [Nat.min_eq_right h1, Nat.min_eq_right (by omega), List.drop_of_length_le h1, List.drop_of_length_le (Nat.le_refl _), List.take_nil, List.take_nil]
def optS : Option (List Nat) → PyData
  | some n => pS n
  | none => .none
theorem spec_name_at {S : Sg} {l : List Nat} {at_ : Nat} (hl : l.length ≤ 1000000) (hk : ∀ c ∈ l, c < 0x110000) : f_name_at [mS l, .d (.int (at_ : Nat))] S = .ok (.d (optS (nameAt (l.drop at_)))) S := by
  have h16 : sizeLine = 16777216 := PySem.sizeLine_eq
  unfold f_name_at m_name_at
  walk_at "mm"
  rw [show k_END = Q.st [59] from by decide +kernel, show (at_ : Int) + 19 = ((at_ + 19 : Nat) : Int) by omega, cutL_nat (by omega), show at_ + 19 - at_ = 19 by omega]
  unfold nameAt
  generalize hp : (l.drop at_).take 19 = p
  have lp : p.length ≤ 19 := by rw [← hp]; exact List.length_take_le ..
  have kp : ∀ c ∈ p, c < 0x110000 := fun c hc => hk c (List.mem_of_mem_drop (List.mem_of_mem_take (by rw [hp]; exact hc)))
  have lh := (hd59_pre p).length_le
  have kh : ∀ c ∈ hd59 p, c < 0x110000 := fun c hc => kp c ((hd59_pre p).subset hc)
  rw [Q.part_str ⟨rfl, by rw [Q.st_len]; omega⟩]
  rcases hd59_cases p with ⟨a, b, h1, h2, h3⟩ | ⟨h1, h2⟩
  · rw [h2, Q.part_at h1, ← h2, h3]
    have la : a.length + 1 ≤ 19 := by rw [h3] at lh; simpa using Nat.le_trans lh lp
    rw [h3] at kh
    walk_at "mm"
    rw [spec_is_name (by rw [List.length_append, List.length_singleton]; omega) kh]
    walk_at "mm"
    cases hc : calB (a ++ [59]) with
    | true => walk_at "mm"; rw [if_pos trivial]; rfl
    | false => walk_at "mm"; rw [if_neg (by decide)]; rfl
  · rw [Q.part_no h1, h2]
    rw [h2] at kh
    walk_at "mm"
    rw [spec_is_name (by omega) kh]
    walk_at "mm"
    cases hc : calB p with
    | true => walk_at "mm"; rw [if_pos trivial]; rfl
    | false => walk_at "mm"; rw [if_neg (by decide)]; rfl
def placesL (w : List Nat) : List (Nat × List Nat) := (w.zipIdx.filter fun p => p.1 == 35).filterMap fun p => (nameAt (w.drop p.2)).map fun n => (p.2, n)
theorem places_eq {f : Nat × Nat → Option (List Nat)} {Z : List (Nat × Nat)} : (Z.filter fun a => (f a).isSome).map (fun a => Mv.d (.tuple [.int (a.2 : Nat), optS (f a)])) = (Z.filterMap fun p => (f p).map fun n => (p.2, n)).map fun p => Mv.d (.tuple [.int (p.1 : Nat), pS p.2]) := by
  induction Z with
  | nil => rfl
  | cons a r ih =>
    cases e : f a with
    | none => rw [List.filter_cons_of_neg (by rw [e]; decide), List.filterMap_cons_none (by rw [e]; rfl), ih]
    | some n => rw [List.filter_cons_of_pos (by rw [e]; rfl), List.filterMap_cons_some (by rw [e]; rfl), List.map_cons, List.map_cons, ih, e]; rfl
theorem spec_places_in {S : Sg} {l : List Nat} (hl : l.length ≤ 100000) (hk : ∀ c ∈ l, c < 0x110000) : f_places_in [mS l] S = .ok (.d (.list ((placesL l).map fun p => .tuple [.int (p.1 : Nat), pS p.2]))) S := by
  have h16 : sizeLine = 16777216 := PySem.sizeLine_eq
  have so : ∀ c : Nat, c < 0x110000 → SeqAt.shaped (.str (Q.st [c])) = true := fun c hc => Q.ok_st fun d hd => by rw [List.mem_singleton.mp hd]; exact hc
  have k35 := so 35 (by decide)
  have hz : l.zipIdx.length = l.length := List.length_zipIdx
  unfold f_places_in m_places_in
  walk_at "mm"
  rw [@Q.lc_filterF _ S (Nat × Nat) (mgTup 2 (mgCons (mgName 2) (mgCons (mgName 3) mgNil))) t_places_in_1 e_places_in_1 (fun p => .d (.tuple [.int (p.2 : Nat), .str (Q.st [p.1])])) (fun p => .d (.tuple [.int (p.2 : Nat), optS (nameAt (l.drop p.2))])) (fun p => p.1 == 35) l.zipIdx [] (fun p hp => by
    have hc : p.1 ∈ l := List.fst_mem_of_mem_zipIdx hp
    have kp := so p.1 (hk _ hc)
    refine ⟨[some (mS l), none, some (.d (.int (p.2 : Nat))), some (mS [p.1]), none], rfl, ?_, fun _ => ⟨?_, rfl⟩⟩
    · unfold t_places_in_1
      walk_at "mm"
      rw [show k_BEGIN = Q.st [35] from by decide +kernel]
      walk_at "mm"
      rw [one_eq]
      rfl
    · unfold e_places_in_1
      walk_at "mm"
      rw [spec_name_at (by omega) hk]
      walk_at "mm") (by rw [hz, List.length_nil]; omega)]
  walk_at "mm"
  rw [List.map_map, @Q.lc_filterF _ S (Nat × Nat) (mgTup 2 (mgCons (mgName 2) (mgCons (mgName 4) mgNil))) t_places_in_2 e_places_in_2 (Mv.d ∘ fun p => .tuple [.int (p.2 : Nat), optS (nameAt (l.drop p.2))]) (fun p => .d (.tuple [.int (p.2 : Nat), optS (nameAt (l.drop p.2))])) (fun p => (nameAt (l.drop p.2)).isSome) (l.zipIdx.filter fun p => p.1 == 35) [] (fun p hp => by
    refine ⟨[some (mS l), _, some (.d (.int (p.2 : Nat))), none, some (.d (optS (nameAt (l.drop p.2))))], rfl, ?_, fun _ => ⟨?_, rfl⟩⟩
    · unfold t_places_in_2
      walk_at "mm"
      cases nameAt (l.drop p.2) <;> rfl
    · unfold e_places_in_2
      walk_at "mm") (by rw [List.length_nil]; have := List.length_filter_le (fun p : Nat × Nat => p.1 == 35) l.zipIdx; omega)]
  rw [places_eq (f := fun p => nameAt (l.drop p.2))]
  rw [show (List.filterMap (fun p : Nat × Nat => (nameAt (l.drop p.2)).map fun n => (p.2, n)) (l.zipIdx.filter fun p => p.1 == 35)) = placesL l from rfl]
  walk_at "mm"
abbrev BB : Int := 1099511627689
def idx (c : Nat) : Nat := if c = 10 then 0 else if c < 37 then c - 31 else c - 32
theorem sig_st : k_SIGNS = Q.st sgs := by decide +kernel
theorem fig_st : k_FIGURES = Q.st fgs := by decide +kernel
theorem sig_idx {c : Nat} (h : isG c = true) : Txt.index0 k_SIGNS (Q.st [c]) = some (idx c) := by
  have : ∀ c < 127, isG c = true → Txt.index0 k_SIGNS (Q.st [c]) = some (idx c) := by decide +kernel
  exact this c (isG_lt h) h
def fg (i : Int) : Nat := fgs.getD i.toNat 48
theorem fg_at {i : Int} (h : 0 ≤ i) (h2 : i < 32) : atI (Q.cs k_FIGURES) i = some (fg i) := by
  have : ∀ c < 32, (Q.cs k_FIGURES)[c]? = some (fgs.getD c 48) := by decide +kernel
  have hl : (Q.cs k_FIGURES).length = 32 := by decide +kernel
  rw [Q.atI_nat h (by rw [hl]; omega), this i.toNat (by omega)]; rfl
theorem fg_mem {i : Int} : fg i ∈ fgs := by
  unfold fg
  by_cases h : i.toNat < 32
  · have : ∀ c < 32, fgs.getD c 48 ∈ fgs := by decide +kernel
    exact this _ h
  · rw [List.getD_eq_getElem?_getD, List.getElem?_eq_none (by show 32 ≤ _; omega)]; decide
def num (l : List Nat) (s : Int) : Int := l.foldl (fun n c => (131 * n + idx c) % BB) s
def dg : Nat → Int → List Nat → List Nat
  | 0, _, acc => acc
  | k + 1, n, acc => dg k (n / 32) (fg (n % 32) :: acc)
theorem dg_len : ∀ (k : Nat) (n : Int) (acc : List Nat), (dg k n acc).length = k + acc.length
  | 0, _, acc => by simp [dg]
  | k + 1, n, acc => by rw [dg, dg_len k]; simp; omega
theorem dg_mem : ∀ (k : Nat) (n : Int) (acc : List Nat), (∀ c ∈ acc, c ∈ fgs) → ∀ c ∈ dg k n acc, c ∈ fgs
  | 0, _, acc, h => h
  | k + 1, n, acc, h => dg_mem k _ _ fun c hc => by
    rcases List.mem_cons.mp hc with rfl | hc
    · exact fg_mem
    · exact h c hc
theorem num_range {l : List Nat} {s : Int} (h : 0 ≤ s) (h2 : s < BB) : 0 ≤ num l s ∧ num l s < BB := by
  unfold num
  induction l generalizing s with
  | nil => exact ⟨h, h2⟩
  | cons c r ih => exact ih (Int.emod_nonneg _ (by decide)) (Int.emod_lt_of_pos _ (by decide))
theorem mark_loop {S : Sg} {t o3 o4 : Option Mv} : ∀ (l : List Nat) (s : Int) (o : Option Mv), (∀ c ∈ l, isG c = true) → ∃ o', mLoop (mgName 2) b_mark_of_1 (l.map fun c => .d (.str (Q.st [c]))) [t, some (.d (.int s)), o, o3, o4] S = .nx [t, some (.d (.int (num l s))), o', o3, o4] S
  | [], s, o, _ => ⟨o, rfl⟩
  | c :: l, s, o, hg => by
    obtain ⟨o', e⟩ := mark_loop (t := t) (o3 := o3) (o4 := o4) (S := S) l ((131 * s + idx c) % BB) (some (.d (.str (Q.st [c])))) (fun d hd => hg d (List.mem_cons_of_mem _ hd))
    refine ⟨o', ?_⟩
    have hi := sig_idx (hg c (List.mem_cons_self ..))
    rw [List.map_cons, Q.loop_on (ρ1 := [t, some (.d (.int s)), some (.d (.str (Q.st [c]))), o3, o4]) rfl (ρ2 := [t, some (.d (.int ((131 * s + idx c) % BB))), some (.d (.str (Q.st [c]))), o3, o4]) (S2 := S) ?_, e]
    · rfl
    · unfold b_mark_of_1
      walk_at "mm"
      rw [Q.ind_some hi]
      walk_at "mm"
theorem lmark_loop {S : Sg} {t : Option Mv} : ∀ (l : List Nat) (s : Int) (o : Option Mv), (∀ c ∈ l, isG c = true) → ∃ o', mLoop (mgName 3) b_L_mark_1 (l.map fun c => .d (.str (Q.st [c]))) [t, some (mS sgs), some (.d (.int s)), o] S = .nx [t, some (mS sgs), some (.d (.int (num l s))), o'] S
  | [], s, o, _ => ⟨o, rfl⟩
  | c :: l, s, o, hg => by
    obtain ⟨o', e⟩ := lmark_loop (t := t) (S := S) l ((131 * s + idx c) % BB) (some (.d (.str (Q.st [c])))) (fun d hd => hg d (List.mem_cons_of_mem _ hd))
    refine ⟨o', ?_⟩
    have hi := sig_idx (hg c (List.mem_cons_self ..))
    rw [sig_st] at hi
    rw [List.map_cons, Q.loop_on (ρ1 := [t, some (mS sgs), some (.d (.int s)), some (.d (.str (Q.st [c])))]) rfl (ρ2 := [t, some (mS sgs), some (.d (.int ((131 * s + idx c) % BB))), some (.d (.str (Q.st [c])))]) (S2 := S) ?_, e]
    · rfl
    · unfold b_L_mark_1
      walk_at "mm"
      rw [Q.ind_some hi]
      walk_at "mm"
theorem mark_while {S : Sg} {t o1 : Option Mv} (m : Nat) : ∀ (k : Nat) (n : Int) (acc : List Nat) (o : Option Mv), acc.length + k = 8 → 0 ≤ n → ∃ n' o', mWhile wt_mark_of_1 wb_mark_of_1 (m + 1 + k) [t, some (.d (.int n)), o1, some (.d (.str (Q.st acc))), o] S = .nx [t, n', o1, some (.d (.str (Q.st (dg k n acc)))), o'] S
  | 0, n, acc, o, h, h0 => by
    refine ⟨_, _, Q.wh_end ?_⟩
    unfold wt_mark_of_1
    walk_at "mm"
    simp only [decide_eq_false (show ¬ ((acc.length : Int) < 8) by omega)]
  | k + 1, n, acc, o, h, h0 => by
    obtain ⟨n', o', e⟩ := mark_while (S := S) (t := t) (o1 := o1) m k (n / 32) (fg (n % 32) :: acc) (some (.d (.int (n % 32)))) (by simp; omega) (by omega)
    refine ⟨n', o', ?_⟩
    have ha : atI fgs (n % 32) = some (fg (n % 32)) := by
      have := fg_at (i := n % 32) (by omega) (by omega)
      rw [fig_st, Q.cs_st] at this
      exact this
    rw [dg, ← e]
    refine Q.wh_on (S1 := S) ?_ ?_
    · unfold wt_mark_of_1
      walk_at "mm"
      simp only [decide_eq_true (show ((acc.length : Int) < 8) by omega)]
    · unfold wb_mark_of_1
      rw [fig_st]
      have hl : fgs.length ≤ sizeLine := by rw [fgs_len, PySem.sizeLine_eq]; omega
      walk_at "mm"
      rw [fgs_len]
      walk_at "mm"
      rw [show ((32 : Nat) : Int) = 32 from rfl, ha]
      walk_at "mm"
def mrk (l : List Nat) : List Nat := dg 8 (num l 7) []
theorem mrk_B {l : List Nat} : markB (mrk l) = true := markB_of (dg_len 8 _ []) (dg_mem 8 _ [] fun c h => nomatch h)
theorem spec_mark_of {S : Sg} {n : Nat} {l : List Nat} (h : Gd n l) (hn : n ≤ 1000000) : f_mark_of [mS l] S = .ok (mS (mrk l)) S := by
  have hl := h.len
  obtain ⟨o, e⟩ := mark_loop (S := S) (t := some (mS l)) (o3 := none) (o4 := none) l 7 none h.all
  obtain ⟨n', o', e2⟩ := mark_while (S := S) (t := some (mS l)) (o1 := o) 991 8 (num l 7) [] none rfl (num_range (by decide) (by decide)).1
  unfold f_mark_of m_mark_of
  walk_at "mm"
  rw [e]
  walk_at "mm"
  rw [lit_e, show (1000 : Nat) = 991 + 1 + 8 from rfl, e2]
  walk_at "mm"
  rfl
theorem thirty_loop {S : Sg} {n : Int} (hn : 0 ≤ n) : ∃ z o, mLoop (mgName 3) b_L_thirty_two_1 (rangeL 0 8) [some (.d (.int n)), some (mS fgs), some (mS []), none] S = .nx [some (.d (.int z)), some (mS fgs), some (mS (dg 8 n [])), o] S := by
  obtain ⟨ρ2, S2, e, z, acc, o, h1, rfl, rfl, h2, h3⟩ := Q.loop_range (n := 8) (g := mgName 3) (b := b_L_thirty_two_1) (ρ := [some (.d (.int n)), some (mS fgs), some (mS []), none]) (S := S)
    (P := fun i ρ S' => ∃ (z : Int) (acc : List Nat) (o : Option Mv), 0 ≤ z ∧ ρ = [some (.d (.int z)), some (mS fgs), some (mS acc), o] ∧ S' = S ∧ dg (8 - i) z acc = dg 8 n [] ∧ acc.length = i)
    (by
      rintro i hi ρ S' ⟨z, acc, o, h0, rfl, rfl, h2, h3⟩
      have ha : atI fgs (z % 32) = some (fg (z % 32)) := by
        have := fg_at (i := z % 32) (by omega) (by omega)
        rw [fig_st, Q.cs_st] at this
        exact this
      refine ⟨_, _, _, rfl, ?_, z / 32, fg (z % 32) :: acc, some (.d (.int (i : Nat))), by omega, rfl, rfl, ?_, by rw [List.length_cons, h3]⟩
      · unfold b_L_thirty_two_1
        have hl : fgs.length ≤ sizeLine := by rw [fgs_len, PySem.sizeLine_eq]; omega
        walk_at "mm"
        rw [ha]
        walk_at "mm"
      · rw [← h2, show 8 - i = 8 - (i + 1) + 1 from by omega, dg])
    ⟨n, [], none, hn, rfl, rfl, rfl, rfl⟩
  have : acc = dg 8 n [] := h2
  rw [this] at e
  exact ⟨z, o, e⟩
theorem spec_thirty {S : Sg} {n : Int} (hn : 0 ≤ n) : f_L_thirty_two [.d (.int n)] S = .ok (mS (dg 8 n [])) S := by
  obtain ⟨z, o, e⟩ := @thirty_loop S n hn
  unfold f_L_thirty_two m_L_thirty_two
  walk_at "mm"
  rw [lit_f, lit_e, e]
  walk_at "mm"
theorem spec_L_mark {S : Sg} {n : Nat} {l : List Nat} (h : Gd n l) (hn : n ≤ 1000000) : f_L_mark [mS l] S = .ok (mS (mrk l)) S := by
  have hl := h.len
  obtain ⟨o, e⟩ := lmark_loop (S := S) (t := some (mS l)) l 7 none h.all
  unfold f_L_mark m_L_mark
  walk_at "mm"
  rw [spec_L_signs]
  walk_at "mm"
  rw [e]
  walk_at "mm"
  rw [spec_thirty (num_range (by decide) (by decide)).1]
  walk_at "mm"
  rfl
end Law
end
section
set_option Elab.async false
set_option linter.all false
set_option maxRecDepth 100000
set_option maxHeartbeats 4000000
set_option autoImplicit false
namespace Law
open PySem PySem.Spec PyProof.Rows L2 MM
set_option hygiene false in
set_option compiler.extract_closed false in
local macro_rules | `(tactic| walk_at "mm") => do
  let l ← MM.mmI false "draw_int dS_len dS_app dS_get dS_set sg_app sg_app2 ag0 ag1 ag2 ag3 as0 as1 as2 as3 al1 al2 al3 dS_trim dS_trim0 dS_trimc Int.reduceToNat Int.toNat_natCast List.length_map "
  `(tactic| simp (disch := first | assumption | omega | exact MM.Q.shaped_int | exact MM.Q.shaped_nil | exact MM.Q.shaped_ints | exact MM.Q.shaped_bool | (refine of_eq_true (eq_true ?_); first | with_unfolding_all rfl | (simp only [MM.Q.free_d, MM.Q.free_ref, MM.Q.free_adr, MM.Q.frees_nil, MM.Q.frees_cons, MM.Q.frees_map, Bool.and_true, Bool.true_and]; done)) | (simp only [List.length_cons, List.length_nil, List.append_nil, List.map_cons, List.map_nil, List.length_append, List.length_map, List.length_reverse, MM.Q.dI_len, PySem.sizeLine_eq]; omega)) only [$l,*])
def plc : Nat → List Nat → List (Nat × List Nat)
  | _, [] => []
  | o, c :: r => (nameAt (c :: r)).toList.map (fun n => (o, n)) ++ plc (o + 1) r
theorem places_plc_from : ∀ (x w0 : List Nat), ((x.zipIdx w0.length).filter fun p => p.1 == 35).filterMap (fun p => (nameAt ((w0 ++ x).drop p.2)).map fun n => (p.2, n)) = plc w0.length x
  | [], w0 => rfl
  | c :: r, w0 => by
    have ih := places_plc_from r (w0 ++ [c])
    rw [List.length_append, List.length_singleton, List.append_assoc, List.singleton_append] at ih
    have hd : (w0 ++ c :: r).drop w0.length = c :: r := List.drop_left
    rw [List.zipIdx_cons, List.filter_cons]
    show _ = (nameAt (c :: r)).toList.map (fun n => (w0.length, n)) ++ plc (w0.length + 1) r
    rw [← ih]
    by_cases h : c = 35
    · rw [if_pos (by simpa using h), List.filterMap_cons]
      simp only
      rw [hd]
      cases nameAt (c :: r) <;> rfl
    · rw [if_neg (by simpa using h)]
      cases e : nameAt (c :: r) with
      | none => rfl
      | some n =>
        obtain ⟨hc, u, hu⟩ := nameAt_iff.mp e
        obtain ⟨m, rfl, _⟩ := name_tail hc
        rw [List.cons_append] at hu
        exact absurd (List.cons.inj hu).1.symm h
theorem places_plc (w : List Nat) : placesL w = plc 0 w := places_plc_from w []
theorem plc_free : ∀ (m r : List Nat) (o : Nat), 35 ∉ m → plc o (m ++ r) = plc (o + m.length) r
  | [], r, o, _ => rfl
  | c :: m, r, o, h => by
    have hn : nameAt (c :: (m ++ r)) = none := by
      cases e : nameAt (c :: (m ++ r)) with
      | none => rfl
      | some n =>
        obtain ⟨hc, u, hu⟩ := nameAt_iff.mp e
        obtain ⟨k, rfl, _⟩ := name_tail hc
        rw [List.cons_append] at hu
        exact absurd (List.mem_cons.mpr (.inl (List.cons.inj hu).1)) h
    show (nameAt (c :: (m ++ r))).toList.map (fun n => (o, n)) ++ plc (o + 1) (m ++ r) = _
    rw [hn, plc_free m r (o + 1) (fun z => h (List.mem_cons_of_mem _ z)), List.length_cons, show o + 1 + m.length = o + (m.length + 1) by omega]
    rfl
theorem plc_name {n r : List Nat} {o : Nat} (h : calB n = true) : plc o (n ++ r) = (o, n) :: plc (o + n.length) r := by
  have hn : nameAt (n ++ r) = some n := nameAt_iff.mpr ⟨h, List.prefix_append _ _⟩
  obtain ⟨m, rfl, h35⟩ := name_tail h
  show (nameAt (35 :: (m ++ r))).toList.map (fun n => (o, n)) ++ plc (o + 1) (m ++ r) = _
  rw [show nameAt (35 :: (m ++ r)) = some (35 :: m) from hn, plc_free m r (o + 1) h35, List.length_cons, show o + 1 + m.length = o + (m.length + 1) by omega]
  rfl
def stepT (w : List Nat) (g : List Nat → List Nat) (s : List Nat × Nat) (p : Nat × List Nat) : List Nat × Nat := (s.1 ++ ((w.drop s.2).take (p.1 - s.2) ++ g p.2), p.1 + p.2.length)
/-- as turned_text goes -/
theorem fold_tw {g : List Nat → List Nat} : ∀ (k : Nat) (x w0 f : List Nat) (last : Nat), x.length ≤ k → last ≤ w0.length →
    (let s := (plc w0.length x).foldl (stepT (w0 ++ x) g) (f, last); s.1 ++ (w0 ++ x).drop s.2) = f ++ ((w0.drop last) ++ tw g 0 x) := by
  intro k
  induction k with
  | zero =>
    intro x w0 f last hx hl
    have : x = [] := List.eq_nil_of_length_eq_zero (by omega)
    subst this
    show f ++ (w0 ++ []).drop last = _
    rw [List.append_nil]
    show _ = f ++ (w0.drop last ++ [])
    rw [List.append_nil]
  | succ k ih =>
    intro x w0 f last hx hl
    rcases tw_cases x with rfl | ⟨n, t, hn, rfl⟩ | ⟨c, t, hn, rfl⟩
    · show f ++ (w0 ++ []).drop last = f ++ (w0.drop last ++ [])
      rw [List.append_nil, List.append_nil]
    · have ln := name_ne hn
      have := ih t (w0 ++ n) (f ++ (((w0 ++ (n ++ t)).drop last).take (w0.length - last) ++ g n)) (w0.length + n.length) (by rw [List.length_append] at hx; omega) (by rw [List.length_append]; omega)
      rw [List.length_append, List.append_assoc] at this
      rw [plc_name hn, List.foldl_cons, tw_name hn]
      show (let s := (plc (w0.length + n.length) t).foldl (stepT (w0 ++ (n ++ t)) g) (f ++ (((w0 ++ (n ++ t)).drop last).take (w0.length - last) ++ g n), w0.length + n.length); s.1 ++ (w0 ++ (n ++ t)).drop s.2) = _
      rw [this]
      have e1 : ((w0 ++ (n ++ t)).drop last).take (w0.length - last) = w0.drop last := by
        rw [List.drop_append, show last - w0.length = 0 by omega, List.drop_zero, show w0.length - last = (w0.drop last).length by rw [List.length_drop], List.take_left]
      have e2 : (w0 ++ n).drop (w0.length + n.length) = [] := List.drop_of_length_le (by rw [List.length_append]; omega)
      rw [e1, e2]
      simp only [List.append_assoc, List.nil_append]
    · have := ih t (w0 ++ [c]) f last (by rw [List.length_cons] at hx; omega) (by rw [List.length_append]; omega)
      rw [List.length_append, List.length_singleton, List.append_assoc, List.singleton_append] at this
      have e1 : plc w0.length (c :: t) = plc (w0.length + 1) t := by
        show (nameAt (c :: t)).toList.map (fun n => (w0.length, n)) ++ plc (w0.length + 1) t = _
        rw [hn]; rfl
      rw [e1, tw_skip hn]
      refine this.trans ?_
      have e2 : (w0 ++ [c]).drop last = w0.drop last ++ [c] := by rw [List.drop_append, show last - w0.length = 0 by omega, List.drop_zero]
      rw [e2]
      simp only [List.append_assoc, List.singleton_append]
theorem turned_fold {g : List Nat → List Nat} (w : List Nat) : (let s := (placesL w).foldl (stepT w g) ([], 0); s.1 ++ w.drop s.2) = tw g 0 w := by
  have := fold_tw (g := g) w.length w [] [] 0 (Nat.le_refl _) (Nat.le_refl _)
  rw [places_plc]
  exact this
/-- as the law's turned goes: what is not in the table is passed by -/
def stepL (w : List Nat) (tb : List Nat → Option (List Nat)) (s : List Nat × Nat) (p : Nat × List Nat) : List Nat × Nat := match tb p.2 with
  | some z => (s.1 ++ ((w.drop s.2).take (p.1 - s.2) ++ z), p.1 + p.2.length)
  | none => s
theorem fold_tl {tb : List Nat → Option (List Nat)} : ∀ (k : Nat) (x w0 f : List Nat) (last : Nat), x.length ≤ k → last ≤ w0.length →
    (let s := (plc w0.length x).foldl (stepL (w0 ++ x) tb) (f, last); s.1 ++ (w0 ++ x).drop s.2) = f ++ ((w0.drop last) ++ tw (fun n => (tb n).getD n) 0 x) := by
  intro k
  induction k with
  | zero =>
    intro x w0 f last hx hl
    have : x = [] := List.eq_nil_of_length_eq_zero (by omega)
    subst this
    show f ++ (w0 ++ []).drop last = f ++ (w0.drop last ++ [])
    rw [List.append_nil, List.append_nil]
  | succ k ih =>
    intro x w0 f last hx hl
    rcases tw_cases x with rfl | ⟨n, t, hn, rfl⟩ | ⟨c, t, hn, rfl⟩
    · show f ++ (w0 ++ []).drop last = f ++ (w0.drop last ++ [])
      rw [List.append_nil, List.append_nil]
    · have ln := name_ne hn
      rw [plc_name hn, List.foldl_cons, tw_name hn]
      cases ht : tb n with
      | some z =>
        have := ih t (w0 ++ n) (f ++ (((w0 ++ (n ++ t)).drop last).take (w0.length - last) ++ z)) (w0.length + n.length) (by rw [List.length_append] at hx; omega) (by rw [List.length_append]; omega)
        rw [List.length_append, List.append_assoc] at this
        have es : stepL (w0 ++ (n ++ t)) tb (f, last) (w0.length, n) = (f ++ (((w0 ++ (n ++ t)).drop last).take (w0.length - last) ++ z), w0.length + n.length) := by
          unfold stepL; simp only [ht]
        rw [es, this]
        have e1 : ((w0 ++ (n ++ t)).drop last).take (w0.length - last) = w0.drop last := by
          rw [List.drop_append, show last - w0.length = 0 by omega, List.drop_zero, show w0.length - last = (w0.drop last).length by rw [List.length_drop], List.take_left]
        have e2 : (w0 ++ n).drop (w0.length + n.length) = [] := List.drop_of_length_le (by rw [List.length_append]; omega)
        rw [e1, e2]
        simp only [List.append_assoc, List.nil_append, Option.getD_some]
      | none =>
        have := ih t (w0 ++ n) f last (by rw [List.length_append] at hx; omega) (by rw [List.length_append]; omega)
        rw [List.length_append, List.append_assoc] at this
        have es : stepL (w0 ++ (n ++ t)) tb (f, last) (w0.length, n) = (f, last) := by
          unfold stepL; simp only [ht]
        rw [es, this]
        have e2 : (w0 ++ n).drop last = w0.drop last ++ n := by rw [List.drop_append, show last - w0.length = 0 by omega, List.drop_zero]
        rw [e2]
        simp only [List.append_assoc, Option.getD_none]
    · have := ih t (w0 ++ [c]) f last (by rw [List.length_cons] at hx; omega) (by rw [List.length_append]; omega)
      rw [List.length_append, List.length_singleton, List.append_assoc, List.singleton_append] at this
      have e1 : plc w0.length (c :: t) = plc (w0.length + 1) t := by
        show (nameAt (c :: t)).toList.map (fun n => (w0.length, n)) ++ plc (w0.length + 1) t = _
        rw [hn]; rfl
      rw [e1, tw_skip hn]
      refine this.trans ?_
      have e2 : (w0 ++ [c]).drop last = w0.drop last ++ [c] := by rw [List.drop_append, show last - w0.length = 0 by omega, List.drop_zero]
      rw [e2]
      simp only [List.append_assoc, List.singleton_append]
theorem turnedL_fold {tb : List Nat → Option (List Nat)} (w : List Nat) : (let s := (placesL w).foldl (stepL w tb) ([], 0); s.1 ++ w.drop s.2) = tw (fun n => (tb n).getD n) 0 w := by
  have := fold_tl (tb := tb) w.length w [] [] 0 (Nat.le_refl _) (Nat.le_refl _)
  rw [places_plc]
  exact this
end Law
end
section
set_option Elab.async false
set_option linter.all false
set_option maxRecDepth 100000
set_option maxHeartbeats 4000000
set_option autoImplicit false
namespace Law
open PySem PySem.Spec PyProof.Rows L2 MM
set_option hygiene false in
set_option compiler.extract_closed false in
local macro_rules | `(tactic| walk_at "mm") => do
  let l ← MM.mmI false "draw_int dS_len dS_app dS_get dS_set sg_app sg_app2 ag0 ag1 ag2 ag3 as0 as1 as2 as3 al1 al2 al3 dS_trim dS_trim0 dS_trimc Int.reduceToNat Int.toNat_natCast List.length_map allD_app decide_true decide_false Bool.not_true Bool.not_false Bool.false_and Bool.and_false Bool.true_or Bool.or_true Bool.or_false Bool.false_or ne_eq not_true_eq_false not_false_eq_true beq_self_eq_true "
  `(tactic| simp (disch := first | assumption | omega | exact MM.Q.shaped_int | exact MM.Q.shaped_nil | exact MM.Q.shaped_ints | exact MM.Q.shaped_bool | (refine of_eq_true (eq_true ?_); first | with_unfolding_all rfl | (simp only [MM.Q.free_d, MM.Q.free_ref, MM.Q.free_adr, MM.Q.frees_nil, MM.Q.frees_cons, MM.Q.frees_map, Bool.and_true, Bool.true_and]; done)) | (simp only [List.length_cons, List.length_nil, List.append_nil, List.map_cons, List.map_nil, List.length_append, List.length_map, List.length_reverse, MM.Q.dI_len, PySem.sizeLine_eq]; omega)) only [$l,*])
theorem cutL_all {α : Type} {l : List α} {a b : Nat} : Q.cutL l (some (a : Int)) (some (b : Int)) = (l.drop a).take (b - a) := by
  rcases Nat.le_total a b with h | h
  · exact cutL_nat h
  · unfold Q.cutL
    rw [HT.sIx_nat, HT.sIx_nat, show b - a = 0 by omega, List.take_zero, show min b l.length - min a l.length = 0 by omega, List.take_zero]
def gR (rs : List (List Nat × List Nat)) (n : List Nat) : List Nat := (lookR rs n).getD n
theorem dgO_tab {rs : List (List Nat × List Nat)} {n : List Nat} : Q.dgO (lookD (tabD rs) (.inr (Q.st n))) (mS n) = mS (gR rs n) := by
  rw [look_tab]
  unfold gR
  cases lookR rs n <;> rfl
theorem gR_len {rs : List (List Nat × List Nat)} {n : List Nat} {N : Nat} (h : ∀ r ∈ rs, r.2.length ≤ N) (hn : n.length ≤ N) : (gR rs n).length ≤ N := by
  unfold gR
  cases e : lookR rs n with
  | none => exact hn
  | some z => exact h _ (lookR_mem e)
def placeM (p : Nat × List Nat) : PyData := .tuple [.int (p.1 : Nat), pS p.2]
theorem tt_loop {S : Sg} {l : List Nat} {rs : List (List Nat × List Nat)} {o1 : Option Mv} (hl : l.length ≤ 2000) (hr : ∀ r ∈ rs, r.2.length ≤ 100) : ∀ (Z : List (Nat × List Nat)) {s : List Nat × Nat} {o5 o6 : Option Mv}, (∀ p ∈ Z, p.2.length ≤ 100) → s.1.length + Z.length * 2200 ≤ 10000000 →
    ∃ q5 q6 : Option Mv, mLoop (mgTup 2 (mgCons (mgName 5) (mgCons (mgName 6) mgNil))) b_turned_text_1 ((Z.map placeM).map .d) [some (mS l), o1, some (.d (.dict (tabD rs))), some (mS s.1), some (.d (.int (s.2 : Nat))), o5, o6] S
      = .nx [some (mS l), o1, some (.d (.dict (tabD rs))), some (mS (Z.foldl (stepT l (gR rs)) s).1), some (.d (.int ((Z.foldl (stepT l (gR rs)) s).2 : Nat))), q5, q6] S
  | [], s, o5, o6, _, _ => ⟨o5, o6, rfl⟩
  | p :: Z, s, o5, o6, hp, hs => by
    have h16 : sizeLine = 16777216 := PySem.sizeLine_eq
    have hp1 := hp p (List.mem_cons_self ..)
    have hg : (gR rs p.2).length ≤ 100 := gR_len hr hp1
    rw [List.length_cons, Nat.succ_mul] at hs
    have ht : ((l.drop s.2).take (p.1 - s.2)).length ≤ 2000 := by rw [List.length_take, List.length_drop]; omega
    obtain ⟨q5, q6, e⟩ := tt_loop (o1 := o1) (S := S) hl hr Z (s := stepT l (gR rs) s p) (o5 := some (.d (.int (p.1 : Nat)))) (o6 := some (mS p.2)) (fun q hq => hp q (List.mem_cons_of_mem _ hq)) (by
      unfold stepT
      simp only [List.length_append]
      omega)
    refine ⟨q5, q6, ?_⟩
    rw [List.foldl_cons, ← e, List.map_cons, List.map_cons]
    refine Q.loop_on (ρ1 := [some (mS l), o1, some (.d (.dict (tabD rs))), some (mS s.1), some (.d (.int (s.2 : Nat))), some (.d (.int (p.1 : Nat))), some (mS p.2)]) rfl ?_
    unfold b_turned_text_1
    walk_at "mm"
    rw [cutL_all]
    walk_at "mm"
    rw [dgO_tab]
    walk_at "mm"
    unfold stepT
    simp only [List.append_assoc]
    rfl
theorem places_len {l : List Nat} : (placesL l).length ≤ l.length := by
  have h1 := List.length_filterMap_le (fun p : Nat × Nat => (nameAt (l.drop p.2)).map fun n => (p.2, n)) (l.zipIdx.filter fun p => p.1 == 35)
  have h2 := List.length_filter_le (fun p : Nat × Nat => p.1 == 35) l.zipIdx
  rw [List.length_zipIdx] at h2
  exact Nat.le_trans h1 h2
theorem places_name {l : List Nat} {p : Nat × List Nat} (h : p ∈ placesL l) : calB p.2 = true := by
  obtain ⟨q, hq, e⟩ := List.mem_filterMap.mp h
  obtain ⟨n, e1, rfl⟩ := Option.map_eq_some_iff.mp e
  exact (nameAt_iff.mp e1).1
theorem name_len {n : List Nat} (h : calB n = true) : n.length ≤ 19 := by
  obtain ⟨_, _, _, _, _, _, h2, _⟩ := calB_end h
  exact h2
theorem fold_len {w : List Nat} {g : List Nat → List Nat} : ∀ (Z : List (Nat × List Nat)) {s : List Nat × Nat}, (∀ p ∈ Z, (g p.2).length ≤ 100) → (Z.foldl (stepT w g) s).1.length ≤ s.1.length + Z.length * (w.length + 100)
  | [], s, _ => by simp
  | p :: Z, s, h => by
    have ih := fold_len (w := w) (g := g) Z (s := stepT w g s p) (fun q hq => h q (List.mem_cons_of_mem _ hq))
    have hg := h p (List.mem_cons_self ..)
    have ht : ((w.drop s.2).take (p.1 - s.2)).length ≤ w.length := by rw [List.length_take, List.length_drop]; omega
    rw [List.foldl_cons, List.length_cons, Nat.succ_mul]
    have : (stepT w g s p).1.length ≤ s.1.length + (w.length + 100) := by
      unfold stepT
      simp only [List.length_append]
      omega
    omega
theorem spec_turned_text {S : Sg} {l : List Nat} {rs : List (List Nat × List Nat)} (hl : l.length ≤ 2000) (hk : ∀ c ∈ l, c < 0x110000) (hr : ∀ r ∈ rs, r.2.length ≤ 100) : f_turned_text [mS l, .d (.tuple (rowsP rs))] S = .ok (mS (tw (gR rs) 0 l)) S := by
  have h16 : sizeLine = 16777216 := PySem.sizeLine_eq
  have hp := places_len (l := l)
  have hm : (placesL l).length * 2200 ≤ 2000 * 2200 := Nat.mul_le_mul_right _ (by omega)
  have hm2 : (placesL l).length * (l.length + 100) ≤ 2000 * 2100 := Nat.mul_le_mul (by omega) (by omega)
  have nl : ∀ p ∈ placesL l, p.2.length ≤ 100 := fun p h => by have := name_len (places_name h); omega
  obtain ⟨q5, q6, e⟩ := tt_loop (S := S) (o1 := some (.d (.tuple (rowsP rs)))) (rs := rs) hl hr (placesL l) (s := ([], 0)) (o5 := none) (o6 := none) nl (by simp; omega)
  have fl := fold_len (w := l) (g := gR rs) (placesL l) (s := ([], 0)) fun p h => gR_len hr (nl p h)
  have ht := turned_fold (g := gR rs) l
  simp only at ht
  unfold f_turned_text m_turned_text
  walk_at "mm"
  rw [dct_rows]
  walk_at "mm"
  rw [lit_e, spec_places_in (by omega) hk]
  walk_at "mm"
  rw [show List.map (fun p : Nat × List Nat => PyData.tuple [.int (p.1 : Nat), pS p.2]) (placesL l) = (placesL l).map placeM from rfl, show (PyData.int 0) = .int ((([], 0) : List Nat × Nat).2 : Nat) from rfl, e]
  simp only [List.length_nil, Nat.zero_add] at fl
  have dl : (l.drop (List.foldl (stepT l (gR rs)) ([], 0) (placesL l)).2).length ≤ l.length := by rw [List.length_drop]; omega
  walk_at "mm"
  rw [Q.cutL_from]
  walk_at "mm"
  rw [ht]
theorem index_59 (x : List Nat) : Txt.index0 (Q.st (x ++ [59])) (Q.st [59]) = some (idx59 x) := by
  rcases hd59_cases x with ⟨a, b, h1, h2, h3⟩ | ⟨h1, h2⟩
  · rw [h2, idx59_at h1, List.append_assoc, List.cons_append, Q.index_at h1]
  · rw [idx59_no h1, Q.index_at h1]
theorem spot_len {x : List Nat} : (spot x).length ≤ 20 := by
  have : ∀ y : List Nat, idx59 y ≤ y.length := by
    intro y
    induction y with
    | nil => exact Nat.le_refl _
    | cons c r ih =>
      show (if c = 59 then 0 else idx59 r + 1) ≤ _
      rw [List.length_cons]
      split <;> omega
  have h := this (x.take 19)
  unfold spot
  rw [List.length_take] at h ⊢
  omega
theorem spots_loop {S : Sg} {l : List Nat} (hl : l.length ≤ 4000) (hk : ∀ c ∈ l, c < 0x110000) : ∀ (Z : List (Nat × Nat)) {acc : List (Nat × List Nat)} {o2 o3 o4 : Option Mv}, (∀ p ∈ Z, p ∈ l.zipIdx) → acc.length + Z.length ≤ 100000 →
    ∃ q2 q3 q4 : Option Mv, mLoop (mgTup 2 (mgCons (mgName 2) (mgCons (mgName 3) mgNil))) b_L_spots_1 (Z.map fun p => .d (.tuple [.int (p.2 : Nat), .str (Q.st [p.1])])) [some (mS l), some (.own S.length), o2, o3, o4] (S ++ [(true, Mo.lst (acc.map fun p => .d (placeM p)))])
      = .nx [some (mS l), some (.own S.length), q2, q3, q4] (S ++ [(true, Mo.lst ((acc ++ (Z.filter fun p => p.1 == 35).filterMap fun p => (nameAt (l.drop p.2)).map fun n => (p.2, n)).map fun p => .d (placeM p)))])
  | [], acc, o2, o3, o4, _, _ => ⟨o2, o3, o4, by rw [List.filter_nil, List.filterMap_nil, List.append_nil]; rfl⟩
  | p :: Z, acc, o2, o3, o4, hZ, ha => by
    have h16 : sizeLine = 16777216 := PySem.sizeLine_eq
    have so : ∀ c : Nat, c < 0x110000 → SeqAt.shaped (.str (Q.st [c])) = true := fun c hc => Q.ok_st fun d hd => by rw [List.mem_singleton.mp hd]; exact hc
    have k35 := so 35 (by decide)
    have hp := hZ p (List.mem_cons_self ..)
    have hc : p.1 ∈ l := List.fst_mem_of_mem_zipIdx hp
    have kp := so p.1 (hk _ hc)
    have hlt : p.2 < l.length := List.snd_lt_of_mem_zipIdx hp
    rw [List.length_cons] at ha
    have es : (l.drop p.2).take (1 + idx59 ((l.drop p.2).take 19)) = spot (l.drop p.2) := rfl
    have ls := spot_len (x := l.drop p.2)
    have ks : ∀ c ∈ spot (l.drop p.2), c < 0x110000 := fun c hc => hk c (List.mem_of_mem_drop (List.mem_of_mem_take hc))
    have l19 : ((l.drop p.2).take 19).length ≤ 19 := List.length_take_le ..
    have head : ∀ (x : RS), b_L_spots_1 [some (mS l), some (.own S.length), some (.d (.int (p.2 : Nat))), some (mS [p.1]), o4] (S ++ [(true, Mo.lst (acc.map fun p => .d (placeM p)))]) = x →
      x = .nx [some (mS l), some (.own S.length), some (.d (.int (p.2 : Nat))), some (mS [p.1]), some (mS (spot (l.drop p.2)))] (S ++ [(true, Mo.lst ((acc ++ (if p.1 == 35 then ((nameAt (l.drop p.2)).map fun n => (p.2, n)).toList else [])).map fun p => .d (placeM p)))]) := by
      rintro x rfl
      unfold b_L_spots_1
      walk_at "mm"
      rw [show Str.ofString "#" = Q.st [35] by decide +kernel, show Str.ofString ";" = Q.st [59] by decide +kernel]
      rw [show (p.2 : Int) + 19 = ((p.2 + 19 : Nat) : Int) by omega, cutL_all, show p.2 + 19 - p.2 = 19 by omega]
      walk_at "mm"
      rw [Q.ind_some (index_59 _)]
      walk_at "mm"
      rw [show (p.2 : Int) + 1 + (idx59 ((l.drop p.2).take 19) : Int) = ((p.2 + (1 + idx59 ((l.drop p.2).take 19)) : Nat) : Int) by omega, cutL_all, show p.2 + (1 + idx59 ((l.drop p.2).take 19)) - p.2 = 1 + idx59 ((l.drop p.2).take 19) by omega, es]
      rw [one_eq]
      cases e : p.1 == 35 with
      | false =>
        rw [decide_eq_false (by simpa using e)]
        walk_at "mm"
        rw [if_neg (by decide), List.append_nil]
      | true =>
        rw [decide_eq_true (by simpa using e)]
        walk_at "mm"
        rw [spec_L_is_called (by omega) ks]
        walk_at "mm"
        rw [if_pos trivial, nameAt_spot]
        cases hcal : calB (spot (l.drop p.2)) with
        | false =>
          walk_at "mm"
          rw [if_neg (by decide)]
          simp only [Option.map_none, Option.toList_none, List.append_nil]
        | true =>
          walk_at "mm"
          rw [if_pos trivial]
          simp only [Option.map_some, Option.toList_some, List.map_append, List.map_cons, List.map_nil]
          rfl
    obtain ⟨q2, q3, q4, ih⟩ := spots_loop (S := S) hl hk Z (acc := acc ++ (if p.1 == 35 then ((nameAt (l.drop p.2)).map fun n => (p.2, n)).toList else [])) (o2 := some (.d (.int (p.2 : Nat)))) (o3 := some (mS [p.1])) (o4 := some (mS (spot (l.drop p.2)))) (fun q hq => hZ q (List.mem_cons_of_mem _ hq)) (by
      rw [List.length_append]
      have : (if p.1 == 35 then ((nameAt (l.drop p.2)).map fun n => (p.2, n)).toList else []).length ≤ 1 := by
        split
        · cases nameAt (l.drop p.2) <;> simp
        · simp
      omega)
    refine ⟨q2, q3, q4, ?_⟩
    rw [List.map_cons, Q.loop_on (ρ1 := [some (mS l), some (.own S.length), some (.d (.int (p.2 : Nat))), some (mS [p.1]), o4]) rfl (head _ rfl), ih]
    congr 5
    rw [List.filter_cons]
    cases e : p.1 == 35 with
    | false => simp
    | true =>
      simp only [if_pos]
      rw [List.filterMap_cons]
      cases nameAt (l.drop p.2) <;> simp
theorem spec_L_spots {S : Sg} {l : List Nat} (hl : l.length ≤ 4000) (hk : ∀ c ∈ l, c < 0x110000) : f_L_spots [mS l] S = .ok (.d (.list ((placesL l).map placeM))) S := by
  have h16 : sizeLine = 16777216 := PySem.sizeLine_eq
  have hz : l.zipIdx.length = l.length := List.length_zipIdx
  obtain ⟨q2, q3, q4, e⟩ := spots_loop (S := S) hl hk l.zipIdx (acc := []) (o2 := none) (o3 := none) (o4 := none) (fun _ h => h) (by rw [hz]; simp; omega)
  rw [List.nil_append] at e
  unfold f_L_spots m_L_spots
  walk_at "mm"
  rw [show ([] : List Mv) = List.map (fun p => Mv.d (placeM p)) ([] : List (Nat × List Nat)) from rfl, e]
  walk_at "mm"
  rw [show (List.filterMap (fun p : Nat × Nat => (nameAt (l.drop p.2)).map fun n => (p.2, n)) (l.zipIdx.filter fun p => p.1 == 35)) = placesL l from rfl]
theorem lturn_loop {S : Sg} {l : List Nat} {rs : List (List Nat × List Nat)} (hl : l.length ≤ 2000) (hr : ∀ r ∈ rs, r.2.length ≤ 100) : ∀ (Z : List (Nat × List Nat)) {s : List Nat × Nat} {o4 o5 : Option Mv}, (∀ p ∈ Z, p.2.length ≤ 100) → s.1.length + Z.length * 2200 ≤ 10000000 →
    ∃ q4 q5 : Option Mv, mLoop (mgTup 2 (mgCons (mgName 4) (mgCons (mgName 5) mgNil))) b_L_turned_1 ((Z.map placeM).map .d) [some (mS l), some (.d (.dict (tabD rs))), some (mS s.1), some (.d (.int (s.2 : Nat))), o4, o5] S
      = .nx [some (mS l), some (.d (.dict (tabD rs))), some (mS (Z.foldl (stepL l (lookR rs)) s).1), some (.d (.int ((Z.foldl (stepL l (lookR rs)) s).2 : Nat))), q4, q5] S
  | [], s, o4, o5, _, _ => ⟨o4, o5, rfl⟩
  | p :: Z, s, o4, o5, hp, hs => by
    have h16 : sizeLine = 16777216 := PySem.sizeLine_eq
    have hp1 := hp p (List.mem_cons_self ..)
    rw [List.length_cons, Nat.succ_mul] at hs
    have ht : ((l.drop s.2).take (p.1 - s.2)).length ≤ 2000 := by rw [List.length_take, List.length_drop]; omega
    have hb : (stepL l (lookR rs) s p).1.length ≤ s.1.length + 2200 := by
      unfold stepL
      cases e : lookR rs p.2 with
      | none => simp
      | some z =>
        have := hr _ (lookR_mem e)
        simp only [List.length_append] at this ⊢
        omega
    obtain ⟨q4, q5, e⟩ := lturn_loop (S := S) hl hr Z (s := stepL l (lookR rs) s p) (o4 := some (.d (.int (p.1 : Nat)))) (o5 := some (mS p.2)) (fun q hq => hp q (List.mem_cons_of_mem _ hq)) (by omega)
    refine ⟨q4, q5, ?_⟩
    rw [List.foldl_cons, ← e, List.map_cons, List.map_cons]
    refine Q.loop_on (ρ1 := [some (mS l), some (.d (.dict (tabD rs))), some (mS s.1), some (.d (.int (s.2 : Nat))), some (.d (.int (p.1 : Nat))), some (mS p.2)]) rfl ?_
    unfold b_L_turned_1
    walk_at "mm"
    rw [look_tab]
    unfold stepL
    cases e : lookR rs p.2 with
    | none =>
      simp only [Option.map_none, Option.isSome_none]
      walk_at "mm"
    | some z =>
      have hz : z.length ≤ 100 := hr _ (lookR_mem e)
      simp only [Option.map_some, Option.isSome_some]
      walk_at "mm"
      rw [cutL_all]
      walk_at "mm"
      rw [look_tab, e]
      show _ = _
      unfold Q.dixO
      simp only [Option.map_some]
      walk_at "mm"
      simp only [List.append_assoc]
      rfl
theorem foldL_len {w : List Nat} {tb : List Nat → Option (List Nat)} (ht : ∀ n z, tb n = some z → z.length ≤ 100) : ∀ (Z : List (Nat × List Nat)) {s : List Nat × Nat}, (Z.foldl (stepL w tb) s).1.length ≤ s.1.length + Z.length * (w.length + 100)
  | [], s => by simp
  | p :: Z, s => by
    have ih := foldL_len (w := w) ht Z (s := stepL w tb s p)
    rw [List.foldl_cons, List.length_cons, Nat.succ_mul]
    have : (stepL w tb s p).1.length ≤ s.1.length + (w.length + 100) := by
      unfold stepL
      cases e : tb p.2 with
      | none => simp
      | some z =>
        have h1 := ht _ _ e
        have h2 : ((w.drop s.2).take (p.1 - s.2)).length ≤ w.length := by rw [List.length_take, List.length_drop]; omega
        simp only [List.length_append]
        omega
    omega
theorem spec_L_turned {S : Sg} {l : List Nat} {rs : List (List Nat × List Nat)} (hl : l.length ≤ 2000) (hk : ∀ c ∈ l, c < 0x110000) (hr : ∀ r ∈ rs, r.2.length ≤ 100) : f_L_turned [mS l, .d (.dict (tabD rs))] S = .ok (mS (tw (gR rs) 0 l)) S := by
  have h16 : sizeLine = 16777216 := PySem.sizeLine_eq
  have hp := places_len (l := l)
  have hm : (placesL l).length * 2200 ≤ 2000 * 2200 := Nat.mul_le_mul_right _ (by omega)
  have hm2 : (placesL l).length * (l.length + 100) ≤ 2000 * 2100 := Nat.mul_le_mul (by omega) (by omega)
  have nl : ∀ p ∈ placesL l, p.2.length ≤ 100 := fun p h => by have := name_len (places_name h); omega
  obtain ⟨q4, q5, e⟩ := lturn_loop (S := S) (rs := rs) hl hr (placesL l) (s := ([], 0)) (o4 := none) (o5 := none) nl (by simp; omega)
  have fl := foldL_len (w := l) (tb := lookR rs) (fun n z h => hr _ (lookR_mem h)) (placesL l) (s := ([], 0))
  have ht := turnedL_fold (tb := lookR rs) l
  simp only at ht
  unfold f_L_turned m_L_turned
  walk_at "mm"
  rw [lit_e, spec_L_spots (by omega) hk]
  walk_at "mm"
  rw [show (PyData.int 0) = .int ((([], 0) : List Nat × Nat).2 : Nat) from rfl, e]
  simp only [List.length_nil, Nat.zero_add] at fl
  have dl : (l.drop (List.foldl (stepL l (lookR rs)) ([], 0) (placesL l)).2).length ≤ l.length := by rw [List.length_drop]; omega
  walk_at "mm"
  rw [Q.cutL_from]
  walk_at "mm"
  rw [ht]
  rfl
def zzM (l : List Nat) : List Nat := List.replicate 7 48 ++ [48 + l.length % 3]
/-- the blank text -/
def bkt (n w : List Nat) : List Nat := tw (gR [(n, blk n)]) 0 w
section
variable {S : Sg}
theorem spec_L_weak {l : List Nat} (h : l.length ≤ 100000) : f_L_weak [mS l] S = .ok (mS (zzM l)) S := by
  unfold f_L_weak m_L_weak zzM
  rw [show Str.ofString "0123456789abcdfg" = Q.st [48, 49, 50, 51, 52, 53, 54, 55, 56, 57, 97, 98, 99, 100, 102, 103] from by decide +kernel, show Str.ofString "0000000" = Q.st (List.replicate 7 48) from by decide +kernel]
  have : ∀ k < 3, atI [48, 49, 50, 51, 52, 53, 54, 55, 56, 57, 97, 98, 99, 100, 102, 103] ((k : Nat) : Int) = some (48 + k) := by decide +kernel
  walk_at "mm"
  rw [show ((l.length : Nat) : Int) % 3 = ((l.length % 3 : Nat) : Int) from by omega, this _ (Nat.mod_lt _ (by decide))]
  have hz : (List.replicate 7 48).length + [48 + l.length % 3].length ≤ sizeLine := by rw [PySem.sizeLine_eq]; simp
  walk_at "mm"
theorem callV_fn {i : Nat} {a : MA} {ρ : Rho} {x : Str} {l : List Nat} {f : List Mv → Sg → Res Mv} (h : ρ[i]? = some (some (.fn x))) (h2 : vTab.lookup x = some (1, f)) (ha : a ρ S = .ok [mS l] S) : mCallV vTab i a ρ S = f [mS l] S := by
  unfold mCallV
  rw [h]
  simp only
  rw [h2]
  simp only
  rw [ha]
  rfl
theorem vt_mo : vTab.lookup (Str.ofString "mark_of") = some (1, f_mark_of) := rfl
theorem vt_lm : vTab.lookup (Str.ofString "_law_mark") = some (1, f_L_mark) := rfl
theorem vt_wk : vTab.lookup (Str.ofString "_law_weak") = some (1, f_L_weak) := rfl
theorem tt_arg {n w : List Nat} (hn : calB n = true) (hw : Gd 600 w) : f_turned_text [mS w, .d (.tuple [.tuple [pS n, pS (blk n)]])] S = .ok (mS (bkt n w)) S := by
  have := hw.len
  exact spec_turned_text (rs := [(n, blk n)]) (by omega) hw.ok fun r hr => by
    rw [List.mem_singleton.mp hr]
    obtain ⟨m, v, h1, h2, rfl⟩ := of_calB hn
    rw [blk_name h1]
    have := (nameL_good (m := List.replicate 8 48) (w := v) (by decide) h2).len
    show (nameL _ _).length ≤ 100
    omega
theorem bkt_gd {n w : List Nat} (hn : calB n = true) (hw : Gd 600 w) : Gd 1200 (bkt n w) := by
  have := tw_good (g := gR [(n, blk n)]) (fun m hm => by
    obtain ⟨_, _, _, _, _, _, _, g⟩ := calB_end hm
    unfold gR
    show Gd 19 (Option.getD (if n = m then some (blk n) else none) m)
    by_cases c : n = m
    · rw [if_pos c]
      obtain ⟨m, v, h1, h2, rfl⟩ := of_calB hn
      rw [blk_name h1]
      exact nameL_good (by decide) h2
    · rw [if_neg c]; exact g) w.length w (Nat.le_refl _) hw.all
  have l := hw.len
  exact this.mono (by omega)
/-- the argument, put by its blank -/
theorem arg_ev {n w : List Nat} {x y : Option Mv} (hn : calB n = true) (hw : Gd 600 w) : (mCons (mCall 2 f_turned_text [] (mCons (mVar 1) (mCons (mDisp .ref true (mCons (mDisp .ref true (mCons (mVar 0) (mCons (mCall 1 f_blank_of [] (mCons (mVar 0) (mNil))) (mNil)))) (mNil))) (mNil)))) (mNil)) [some (mS n), some (mS w), x, y] S = .ok [mS (bkt n w)] S := by
  have ln : n.length ≤ 100000 := by
    obtain ⟨_, _, _, _, _, _, l, _⟩ := calB_end hn
    omega
  walk_at "mm"
  rw [spec_blank_of ln]
  walk_at "mm"
  rw [tt_arg hn hw]
  walk_at "mm"
theorem tm_none {n w : List Nat} (hn : calB n = true) (hw : Gd 600 w) : f_thing_mark [mS n, mS w, .d .none] S = .ok (mS (mrk (bkt n w))) S := by
  unfold f_thing_mark m_thing_mark
  walk_at "mm"
  rw [callV_fn rfl vt_mo (arg_ev hn hw), spec_mark_of (bkt_gd hn hw) (by omega)]
  walk_at "mm"
theorem tm_mark {n w : List Nat} (hn : calB n = true) (hw : Gd 600 w) : f_thing_mark [mS n, mS w, .fn "_law_mark"] S = .ok (mS (mrk (bkt n w))) S := by
  unfold f_thing_mark m_thing_mark
  walk_at "mm"
  rw [show ∀ x, gIsN false S (.fn x) (.d .none) = some (.val (.d (.bool false))) from fun _ => rfl]
  walk_at "mm"
  rw [callV_fn rfl vt_lm (arg_ev hn hw), spec_L_mark (bkt_gd hn hw) (by omega)]
  walk_at "mm"
theorem tm_weak {n w : List Nat} (hn : calB n = true) (hw : Gd 600 w) : f_thing_mark [mS n, mS w, .fn "_law_weak"] S = .ok (mS (zzM (bkt n w))) S := by
  have := (bkt_gd hn hw).len
  unfold f_thing_mark m_thing_mark
  walk_at "mm"
  rw [show ∀ x, gIsN false S (.fn x) (.d .none) = some (.val (.d (.bool false))) from fun _ => rfl]
  walk_at "mm"
  rw [callV_fn rfl vt_wk (arg_ev hn hw), spec_L_weak (by omega)]
  walk_at "mm"
end
/-- by a function of the law's own -/
theorem tm_cap {S S' : Sg} {n w : List Nat} {fa : Addr} {es : List (Addr × HO)} {us : List V} {dz : Dz} {xs : List Mv} {z : List Nat} (hn : calB n = true) (hw : Gd 600 w) (hd : dz xs [mS (bkt n w)] S = .ok (mS z) S') (ht : trim S.length S' = S') : fnM N_thing_mark.length (mz_thing_mark fa es us dz) [mS n, mS w, .cap fa es us xs] S = .ok (mS z) S' := by
  unfold mz_thing_mark
  walk_at "mm"
  rw [isN_cap]
  walk_at "mm"
  rw [ev_act (n := 1) rfl (arg_ev hn hw) rfl rfl, hd]
  walk_at "mm"
  rw [ht]
section
variable {S : Sg}
theorem spec_L_blank {n : List Nat} (hn : calB n = true) : f_L_blank [mS n] S = .ok (mS (blk n)) S := by
  have ln : n.length ≤ 100000 := by
    obtain ⟨_, _, _, _, _, _, l, _⟩ := calB_end hn
    omega
  have hc : (Q.cutL n (some 10) (some (-1))).length ≤ n.length := Q.cutL_len
  unfold f_L_blank m_L_blank blk
  walk_at "mm"
  rw [show Str.ofString "00000000" = Q.st (List.replicate 8 48) from by decide +kernel, spec_L_called (by rw [List.length_replicate]; omega) (by omega)]
  walk_at "mm"
theorem spec_L_blank_text {n w : List Nat} (hn : calB n = true) (hw : Gd 600 w) : f_L_blank_text [mS n, mS w] S = .ok (mS (bkt n w)) S := by
  have := hw.len
  unfold f_L_blank_text m_L_blank_text
  walk_at "mm"
  rw [spec_L_blank hn]
  walk_at "mm"
  have e : f_L_turned [mS w, .d (.dict (tabD [(n, blk n)]))] S = .ok (mS (bkt n w)) S := spec_L_turned (rs := [(n, blk n)]) (by omega) hw.ok fun r hr => by
    rw [List.mem_singleton.mp hr]
    obtain ⟨m, v, h1, h2, rfl⟩ := of_calB hn
    rw [blk_name h1]
    have := (nameL_good (m := List.replicate 8 48) (w := v) (by decide) h2).len
    show (nameL _ _).length ≤ 100
    omega
  rw [show PyData.dict [(PyData.str (Q.st n), PyData.str (Q.st (blk n)))] = .dict (tabD [(n, blk n)]) from rfl, e]
  walk_at "mm"
theorem z_noted {c : Nat} {t : List Nat} {zs : List Mv} (h : S[c]? = some (false, .lst zs)) (hl : zs.length ≤ 1000) : z_L_right_L_noted [.ref c] [mS t] S = .ok (mS [120, 121, 122, 48, 49, 50, 51, 52]) (S.set c (false, .lst (zs ++ [mS t]))) := by
  have h16 : sizeLine = 16777216 := PySem.sizeLine_eq
  unfold z_L_right_L_noted fnN mn_L_right_L_noted
  walk_at "mm"
  rw [h]
  walk_at "mm"
  rw [h]
  walk_at "mm"
  rw [show trim S.length (S.set c (false, .lst (zs ++ [mS t]))) = S.set c (false, .lst (zs ++ [mS t])) by
    unfold trim
    rw [List.drop_of_length_le (by rw [List.length_set]; exact Nat.le_refl _)]
    exact (if_pos rfl).trans (List.take_of_length_le (by rw [List.length_set]; exact Nat.le_refl _))]
  rw [show Str.ofString "xyz01234" = Q.st [120, 121, 122, 48, 49, 50, 51, 52] by decide +kernel]
theorem spec_L_right {n w : List Nat} (hn : calB n = true) (hw : Gd 600 w) (h2 : S[2]? = some (false, .tab "_law_right" "_law_noted")) : f_L_right [mS n, mS w] S = .ok (.d (.bool true)) (S ++ [(false, .lst [mS (bkt n w)])]) := by
  have h16 : sizeLine = 16777216 := PySem.sizeLine_eq
  have lS : 2 < S.length := (List.getElem?_eq_some_iff.mp h2).1
  unfold f_L_right m_L_right
  walk_at "mm"
  rw [ev_ndefB (by rw [List.getElem?_append_left lS]; exact h2), allF_eq (r := .rt (.d (.bool true)) (S ++ [(false, .lst [mS (bkt n w)])])) fun f c cl => ?_]
  · show Res.ok _ (trim S.length (S ++ [(false, .lst [mS (bkt n w)])])) = _
    unfold trim
    rw [List.drop_left, if_neg (by simp)]
  · walk_at "mm"
    rw [spec_L_blank_text hn hw]
    walk_at "mm"
    rw [spec_L_mark (bkt_gd hn hw) (by omega)]
    walk_at "mm"
    rw [tm_none hn hw]
    walk_at "mm"
    rw [tm_none hn hw]
    walk_at "mm"
    rw [tm_none hn hw]
    walk_at "mm"
    rw [tm_mark hn hw]
    walk_at "mm"
    rw [spec_mark_of (bkt_gd hn hw) (by omega)]
    walk_at "mm"
    have gm : ∀ l ∈ List.replicate 5 (mrk (bkt n w)), ∀ c ∈ l, c < 0x110000 := fun l hl => by
      rw [(List.mem_replicate.mp hl).2]
      exact (mark_good mrk_B).ok
    have km := (Q.shaped_strs gm).1
    rw [show (List.replicate 5 [PyData.str (Q.st (mrk (bkt n w)))]).flatten = (List.replicate 5 (mrk (bkt n w))).map fun l => PyData.str (Q.st l) from rfl]
    rw [show [PyData.str (Q.st (mrk (bkt n w))), PyData.str (Q.st (mrk (bkt n w))), PyData.str (Q.st (mrk (bkt n w))), PyData.str (Q.st (mrk (bkt n w))), PyData.str (Q.st (mrk (bkt n w)))] = (List.replicate 5 (mrk (bkt n w))).map fun l => PyData.str (Q.st l) from rfl]
    walk_at "mm"
    rw [show PyData.eqv (PyData.list (List.map (fun l => PyData.str (Q.st l)) (List.replicate 5 (mrk (bkt n w))))) (PyData.list (List.map (fun l => PyData.str (Q.st l)) (List.replicate 5 (mrk (bkt n w))))) = true by
      simp [PyData.eqv, PyData.eqvAll, List.replicate]]
    walk_at "mm"
    rw [tm_weak hn hw]
    walk_at "mm"
    have lb := (bkt_gd hn hw).len
    rw [spec_L_weak (by omega)]
    walk_at "mm"
    rw [ev_callHd rfl rfl, allU_eq (r := .ok (mS [120, 121, 122, 48, 49, 50, 51, 52]) (S ++ [(false, .lst [mS (bkt n w)])])) fun us => ?_]
    · walk_at "mm"
      have kb := (bkt_gd hn hw).shaped
      have k2 : SeqAt.shaped (.list [PyData.str (Q.st (bkt n w))]) = true := (Q.shaped_strs (ls := [bkt n w]) fun l hl => by rw [List.mem_singleton.mp hl]; exact (bkt_gd hn hw).ok).1
      rw [show Str.ofString "xyz01234" = Q.st [120, 121, 122, 48, 49, 50, 51, 52] by decide +kernel, decide_eq_true rfl]
      walk_at "mm"
      rw [show ([PyData.str (Q.st (bkt n w))].any fun e => PyData.eqv e (PyData.str (Q.st (bkt n w)))) = true by simp [PyData.eqv]]
    · walk_at "mm"
      have e0 : (S ++ [(false, Mo.lst [])]).set S.length (false, Mo.lst ([] ++ [mS (bkt n w)])) = S ++ [(false, Mo.lst [mS (bkt n w)])] := by
        rw [List.set_append_right _ _ (Nat.le_refl _), Nat.sub_self]; rfl
      have ez := z_noted (S := S ++ [(false, Mo.lst [])]) (c := S.length) (t := bkt n w) (zs := []) (by rw [List.getElem?_append_right (Nat.le_refl _), Nat.sub_self]; rfl) (by simp)
      rw [e0] at ez
      exact tm_cap (S := S ++ [(false, Mo.lst [])]) hn hw ez (by
        unfold trim
        rw [List.drop_of_length_le (by simp)]
        exact (if_pos rfl).trans (List.take_of_length_le (by simp)))
end
theorem join_some {ms : List (List Nat)} {n : Nat} (h : ∀ m ∈ ms, m.length ≤ n) (hn : ms.length * n ≤ 1000000) : Q.joinO (Q.st []) (some (ms.map Q.st)) = some (.val (.d (.str (Q.st ms.flatten)))) ∧ ms.flatten.length ≤ ms.length * n := by
  have hs : (ms.map List.length).sum ≤ ms.length * n := by
    clear hn
    induction ms with
    | nil => simp
    | cons a r ih =>
      have h1 := h a (List.mem_cons_self ..)
      have h2 := ih fun m hm => h m (List.mem_cons_of_mem _ hm)
      rw [List.map_cons, List.sum_cons, List.length_cons, Nat.succ_mul]; omega
  have hl : ((ms.map Q.st).map (·.length)).sum = (ms.map List.length).sum := by rw [List.map_map]; exact congrArg List.sum (List.map_congr_left fun m _ => Q.st_len)
  constructor
  · rw [Q.joinO_some (by rw [hl, Q.st_len]; simp only [List.length_nil, Nat.mul_zero]; omega), Q.join_nil_st]
  · rw [List.length_flatten]; exact hs
theorem map_dpS {A : List (List Nat)} : List.map Mv.d (List.map pS A) = A.map mS := by rw [List.map_map]; rfl
theorem eqv_pS (L : List (List Nat)) : PyData.eqv (.list (L.map pS)) (.list (L.map pS)) = true := by
  have : PyData.eqvAll (L.map pS) (L.map pS) = true := by
    induction L with
    | nil => simp [PyData.eqvAll]
    | cons a r ih => simp [PyData.eqvAll, PyData.eqv, ih]
  simpa [PyData.eqv] using this
theorem draw_pieces {P : List (List Nat)} {n : List Nat} (h1 : P.length ≤ 900) (hL : ∀ l ∈ P ++ [n, n, n], Gd 19 l ∧ 1 ≤ l.length) {o0 o2 o3 o4 o5 o8 o9 o10 o11 o12 o13 o14 : Option Mv} {D : Dk} {T : Sg} {js : List Mv} (hj : js.length ≤ 1000) :
    ∃ (ms : List (List Nat)) (E : Dk), lcLoop (mgName 13) mYes e_law_5 [o0, some (.ref 1), o2, o3, o4, o5, some (.d (.list (P.map pS))), some (mS n), o8, o9, o10, o11, o12, o13, o14] js [] (dS D T) = .ok (ms.map mS) (dS E T) ∧ ms.length = js.length ∧ ∀ m ∈ ms, Gd 20 m ∧ Pc (P ++ [n, n, n]) m := by
  have h16 : sizeLine = 16777216 := PySem.sizeLine_eq
  obtain ⟨ys, E, e, e1, e2⟩ := @lc_dk T [o0, some (.ref 1), o2, o3, o4, o5, some (.d (.list (P.map pS))), some (mS n), o8, o9, o10, o11, o12, o13, o14] (mgName 13) e_law_5 (fun y => ∃ m, (Gd 20 m ∧ Pc (P ++ [n, n, n]) m) ∧ y = mS m) js D (fun x _ D => by
    obtain ⟨m, E, e, hm⟩ := spec_L_piece (L := P ++ [n, n, n]) (by simp) (by simp; omega) hL D T
    refine ⟨[o0, some (.ref 1), o2, o3, o4, o5, some (.d (.list (P.map pS))), some (mS n), o8, o9, o10, o11, o12, some x, o14], mS m, E, rfl, ?_, rfl, m, hm, rfl⟩
    unfold e_law_5
    walk_at "mm"
    rw [Q.catO_some (by simp; omega), show List.map Mv.d (List.map pS P) ++ List.map Mv.d (List.replicate 3 [PyData.str (Q.st n)]).flatten = ((P ++ [n, n, n]).map pS).map Mv.d by simp [List.replicate]]
    walk_at "mm"
    rw [e]) (by omega)
  obtain ⟨ms, rfl, hm⟩ := Q.pick_all (p := fun m => Gd 20 m ∧ Pc (P ++ [n, n, n]) m) (h := mS) e2
  exact ⟨ms, E, e, by simpa using e1, hm⟩
theorem names1 {o0 o1 o2 o4 o5 o6 o7 o8 o9 o10 o11 o12 o13 o14 : Option Mv} {S : Sg} {w : List Nat} {ms : List (List Nat)} (h1 : ∀ m ∈ ms, markB m = true) (hl : ms.length ≤ 100) (hw : wordB w = true) :
    lcLoop (mgName 10) mYes e_law_1 [o0, o1, o2, some (mS w), o4, o5, o6, o7, o8, o9, o10, o11, o12, o13, o14] (ms.map mS) [] S = .ok ((ms.map fun m => nameL m w).map mS) S := by
  have hL := (of_wordB hw).2.1
  have := @Q.lc_mapF [o0, o1, o2, some (mS w), o4, o5, o6, o7, o8, o9, o10, o11, o12, o13, o14] S (List Nat) (mgName 10) e_law_1 mS (fun m => mS (nameL m w)) ms [] (fun m hm => by
    have hm8 := (of_markB (h1 m hm)).1
    refine ⟨[o0, o1, o2, some (mS w), o4, o5, o6, o7, o8, o9, some (mS m), o11, o12, o13, o14], rfl, ?_, rfl⟩
    unfold e_law_1
    walk_at "mm"
    rw [spec_name_with (by omega) (by omega)]) (by rw [PySem.sizeLine_eq]; simp; omega)
  rw [this, List.map_map]
  rfl
theorem names2 {o0 o1 o2 o3 o5 o6 o7 o8 o9 o10 o11 o12 o13 o14 : Option Mv} {S : Sg} {w : List Nat} {ms : List (List Nat)} (h1 : ∀ m ∈ ms, markB m = true) (hl : ms.length ≤ 100) (hw : wordB w = true) :
    lcLoop (mgName 10) mYes e_law_2 [o0, o1, o2, o3, some (mS w), o5, o6, o7, o8, o9, o10, o11, o12, o13, o14] (ms.map mS) [] S = .ok ((ms.map fun m => nameL m w).map mS) S := by
  have hL := (of_wordB hw).2.1
  have := @Q.lc_mapF [o0, o1, o2, o3, some (mS w), o5, o6, o7, o8, o9, o10, o11, o12, o13, o14] S (List Nat) (mgName 10) e_law_2 mS (fun m => mS (nameL m w)) ms [] (fun m hm => by
    have hm8 := (of_markB (h1 m hm)).1
    refine ⟨[o0, o1, o2, o3, some (mS w), o5, o6, o7, o8, o9, some (mS m), o11, o12, o13, o14], rfl, ?_, rfl⟩
    unfold e_law_2
    walk_at "mm"
    rw [spec_name_with (by omega) (by omega)]) (by rw [PySem.sizeLine_eq]; simp; omega)
  rw [this, List.map_map]
  rfl
theorem blanks3 {o0 o1 o2 o3 o4 o5 o6 o7 o8 o9 o10 o11 o12 o13 o14 : Option Mv} {S : Sg} {P : List (List Nat)} (h : ∀ l ∈ P, calB l = true) (hl : P.length ≤ 100) :
    lcLoop (mgName 10) mYes e_law_3 [o0, o1, o2, o3, o4, o5, o6, o7, o8, o9, o10, o11, o12, o13, o14] (P.map mS) [] S = .ok ((P.map blk).map mS) S := by
  have := @Q.lc_mapF [o0, o1, o2, o3, o4, o5, o6, o7, o8, o9, o10, o11, o12, o13, o14] S (List Nat) (mgName 10) e_law_3 mS (fun m => mS (blk m)) P [] (fun m hm => by
    obtain ⟨_, _, _, _, _, _, l19, _⟩ := calB_end (h m hm)
    refine ⟨[o0, o1, o2, o3, o4, o5, o6, o7, o8, o9, some (mS m), o11, o12, o13, o14], rfl, ?_, rfl⟩
    unfold e_law_3
    walk_at "mm"
    rw [spec_blank_of (by omega)]) (by rw [PySem.sizeLine_eq]; simp; omega)
  rw [this, List.map_map]
  rfl
theorem blanks4 {o0 o1 o2 o3 o4 o5 o6 o7 o8 o9 o10 o11 o12 o13 o14 : Option Mv} {S : Sg} {P : List (List Nat)} (h : ∀ l ∈ P, calB l = true) (hl : P.length ≤ 100) :
    lcLoop (mgName 10) mYes e_law_4 [o0, o1, o2, o3, o4, o5, o6, o7, o8, o9, o10, o11, o12, o13, o14] (P.map mS) [] S = .ok ((P.map blk).map mS) S := by
  have := @Q.lc_mapF [o0, o1, o2, o3, o4, o5, o6, o7, o8, o9, o10, o11, o12, o13, o14] S (List Nat) (mgName 10) e_law_4 mS (fun m => mS (blk m)) P [] (fun m hm => by
    refine ⟨[o0, o1, o2, o3, o4, o5, o6, o7, o8, o9, some (mS m), o11, o12, o13, o14], rfl, ?_, rfl⟩
    unfold e_law_4
    walk_at "mm"
    rw [spec_L_blank (h m hm)]) (by rw [PySem.sizeLine_eq]; simp; omega)
  rw [this, List.map_map]
  rfl
theorem tests6 {o0 o1 o2 o4 o5 o6 o7 o8 o10 o11 o12 o13 o14 : Option Mv} {S : Sg} {u w : List Nat} (hu : wordB u = true) (hw : Gd 280 w) :
    lcLoop (mgName 14) t_law_6 e_law_6 [o0, o1, o2, some (mS u), o4, o5, o6, o7, o8, some (mS w), o10, o11, o12, o13, o14] ([[122], [121], [120], [119], [118]].map mS) [] S = .ok ((([122, 121, 120, 119, 118].filter fun c => !inStr (Q.st (nameL (List.replicate 8 c) u)) (Q.st w)).map fun c => nameL (List.replicate 8 c) u).map mS) S := by
  have lu := (of_wordB hu).2.1
  have lw := hw.len
  have := @Q.lc_filterF [o0, o1, o2, some (mS u), o4, o5, o6, o7, o8, some (mS w), o10, o11, o12, o13, o14] S Nat (mgName 14) t_law_6 e_law_6 (fun c => mS [c]) (fun c => mS (nameL (List.replicate 8 c) u)) (fun c => !inStr (Q.st (nameL (List.replicate 8 c) u)) (Q.st w)) [122, 121, 120, 119, 118] [] (fun c hc => by
    refine ⟨[o0, o1, o2, some (mS u), o4, o5, o6, o7, o8, some (mS w), o10, o11, o12, o13, some (mS [c])], rfl, ?_, fun _ => ⟨?_, rfl⟩⟩
    · unfold t_law_6
      walk_at "mm"
      rw [show (List.replicate 8 [c]).flatten = List.replicate 8 c from rfl, spec_name_with (by simp) (by omega)]
      walk_at "mm"
    · unfold e_law_6
      walk_at "mm"
      rw [show (List.replicate 8 [c]).flatten = List.replicate 8 c from rfl, spec_name_with (by simp) (by omega)]) (by rw [PySem.sizeLine_eq]; simp)
  rw [show [[122], [121], [120], [119], [118]].map mS = [122, 121, 120, 119, 118].map fun c => mS [c] from rfl, this, List.map_map]
  rfl
/-- what was put in for a name is put by its blank as the name would be -/
theorem bkt_like {m m' u w : List Nat} (hm : markB m = true) (hm' : markB m' = true) (hu : wordB u = true) (h : inStr (Q.st (nameL m' u)) (Q.st w) = false) : bkt (nameL m' u) (tw (gR [(nameL m u, nameL m' u)]) 0 w) = bkt (nameL m u) w := by
  have g1 : ∀ (x y n : List Nat), gR [(x, y)] n = if x = n then y else n := fun x y n => by
    unfold gR
    show Option.getD (if x = n then some y else none) n = _
    split <;> rfl
  have c := calB_of hm hu
  have c' := calB_of hm' hu
  unfold bkt
  rw [blk_name hm, blk_name hm', tw_comp (fun n hn => ?_) w.length w (Nat.le_refl _)]
  · refine tw_same w.length w (Nat.le_refl _) fun n y t hn e => ?_
    rw [g1, g1, g1]
    by_cases e1 : nameL m u = n
    · rw [if_pos e1, if_pos e1, if_pos rfl]
    · rw [if_neg e1, if_neg e1, if_neg fun z => ?_]
      subst z
      rw [in_iff.mpr ⟨y, t, e⟩] at h
      cases h
  · rw [g1]
    split
    · exact c'
    · exact hn
theorem asks {o0 o1 o2 o3 o4 o5 o6 o7 o8 o11 o12 o13 o14 : Option Mv} {w : List Nat} (hw : Gd 600 w) : ∀ (ls : List (List Nat)) (S : Sg) (o10 : Option Mv), (∀ l ∈ ls, calB l = true) → S[2]? = some (false, .tab "_law_right" "_law_noted") →
    ∃ (J : Sg) (p10 : Option Mv), mLoop (mgName 10) b_law_2 (ls.map mS) [o0, o1, o2, o3, o4, o5, o6, o7, o8, some (mS w), o10, o11, o12, o13, o14] S = .nx [o0, o1, o2, o3, o4, o5, o6, o7, o8, some (mS w), p10, o11, o12, o13, o14] (S ++ J)
  | [], S, o10, _, _ => ⟨[], o10, by rw [List.append_nil]; rfl⟩
  | l :: ls, S, o10, h, h2 => by
    have lS : 2 < S.length := (List.getElem?_eq_some_iff.mp h2).1
    obtain ⟨J, p10, e⟩ := asks hw ls (S ++ [(false, .lst [mS (bkt l w)])]) (some (mS l)) (fun x hx => h x (List.mem_cons_of_mem _ hx)) (by rw [List.getElem?_append_left lS]; exact h2)
    refine ⟨[(false, .lst [mS (bkt l w)])] ++ J, p10, ?_⟩
    rw [List.map_cons, Q.loop_on (ρ1 := [o0, o1, o2, o3, o4, o5, o6, o7, o8, some (mS w), some (mS l), o11, o12, o13, o14]) rfl (ρ2 := [o0, o1, o2, o3, o4, o5, o6, o7, o8, some (mS w), some (mS l), o11, o12, o13, o14]) (S2 := S ++ [(false, .lst [mS (bkt l w)])]) ?_, e, List.append_assoc]
    unfold b_law_2
    walk_at "mm"
    rw [spec_L_right (h l (List.mem_cons_self ..)) hw h2]
    walk_at "mm"
theorem turn_ok {o0 o2 o3 o4 o5 o6 o7 o8 o9 o10 o11 o12 : Option Mv} (D : Dk) {T : Sg} (hT : T[0]? = some (false, .tab "_law_right" "_law_noted")) :
    ∃ (p3 p4 p5 p6 p7 p8 p9 p10 p11 p12 : Option Mv) (E : Dk) (J : Sg), b_law_1 [o0, some (.ref 1), o2, o3, o4, o5, o6, o7, o8, o9, o10, o11, o12, none, none] (dS D T) = .nx [o0, some (.ref 1), o2, p3, p4, p5, p6, p7, p8, p9, p10, p11, p12, none, none] (dS E (T ++ J)) := by
  have h16 : sizeLine = 16777216 := PySem.sizeLine_eq
  obtain ⟨vs, D1, e1, hw, -, hw2⟩ := spec_words 2 (by decide) D T
  obtain ⟨u, v, rfl⟩ : ∃ w z, vs = [w, z] := by
    match vs, hw with
    | [w, z], _ => exact ⟨w, z, rfl⟩
  have gu := hw2 u (by simp)
  have gv := hw2 v (by simp)
  obtain ⟨a, k, x, D2, e2, ha, hb, hk⟩ := spec_L_marks D1 T
  generalize eb : a.take k ++ [x] ++ a.drop (k + 1) = b at *
  have h0 : markB (List.replicate 8 48) = true := by decide
  have hmk : ∀ m ∈ [a, b, List.replicate 8 48], markB m = true := by
    intro m hm
    simp only [List.mem_cons, List.not_mem_nil, or_false] at hm
    rcases hm with rfl | rfl | rfl <;> assumption
  unfold b_law_1
  walk_at "mm"
  rw [show f_L_words [Mv.ref 1, Mv.d (PyData.int 2)] (dS D T) = _ from e1]
  walk_at "mm"
  rw [e2]
  walk_at "mm"
  rw [show [mS a, mS b, mS (List.replicate 8 48)] = [a, b, List.replicate 8 48].map mS from rfl, names1 hmk (by simp) gu]
  walk_at "mm"
  rw [show [Mv.d (pS a), Mv.d (pS b), Mv.d (pS (List.replicate 8 48))] = [a, b, List.replicate 8 48].map mS from rfl, names2 hmk (by simp) gv]
  walk_at "mm"
  obtain ⟨P, hP⟩ : ∃ P, P = [nameL a u, nameL b u, nameL (List.replicate 8 48) u, nameL a v, nameL b v, nameL (List.replicate 8 48) v] := ⟨_, rfl⟩
  have lP : P.length = 6 := by rw [hP]; rfl
  have hPP : ∀ l ∈ P, ∃ m w, (m = a ∨ m = b ∨ m = List.replicate 8 48) ∧ wordB w = true ∧ l = nameL m w := by
    intro l hl
    rw [hP] at hl
    simp only [List.mem_cons, List.not_mem_nil, or_false] at hl
    rcases hl with h | h | h | h | h | h
    · exact ⟨a, u, .inl rfl, gu, h⟩
    · exact ⟨b, u, .inr (.inl rfl), gu, h⟩
    · exact ⟨_, u, .inr (.inr rfl), gu, h⟩
    · exact ⟨a, v, .inl rfl, gv, h⟩
    · exact ⟨b, v, .inr (.inl rfl), gv, h⟩
    · exact ⟨_, v, .inr (.inr rfl), gv, h⟩
  have mk3 : ∀ m, (m = a ∨ m = b ∨ m = List.replicate 8 48) → markB m = true := by
    rintro m (rfl | rfl | rfl) <;> assumption
  have hC : ∀ l ∈ P, calB l = true := fun l hl => by
    obtain ⟨m, w, h1, h2, rfl⟩ := hPP l hl
    exact calB_of (mk3 m h1) h2
  have atP : ∀ r : Nat, r < 3 → ∃ m, (m = a ∨ m = b ∨ m = List.replicate 8 48) ∧ atI (P.map mS) (r : Int) = some (mS (nameL m u)) := by
    intro r hr
    rw [hP]
    have : r = 0 ∨ r = 1 ∨ r = 2 := by omega
    rcases this with rfl | rfl | rfl
    · exact ⟨a, .inl rfl, rfl⟩
    · exact ⟨b, .inr (.inl rfl), rfl⟩
    · exact ⟨_, .inr (.inr rfl), rfl⟩
  have at2 : atI (P.map mS) 2 = some (mS (nameL (List.replicate 8 48) u)) := by rw [hP]; rfl
  have at3 : atI (P.map mS) 3 = some (mS (nameL a v)) := by rw [hP]; rfl
  obtain ⟨m1, hm1, em1⟩ := atP (dr D2 3).val (dr D2 3).isLt
  obtain ⟨m2, hm2, em2⟩ := atP (dr (nx D2 3) 3).val (dr (nx D2 3) 3).isLt
  rw [show [PyData.str (Q.st (nameL a u)), PyData.str (Q.st (nameL b u)), PyData.str (Q.st (nameL (List.replicate 8 48) u)), PyData.str (Q.st (nameL a v)), PyData.str (Q.st (nameL b v)), PyData.str (Q.st (nameL (List.replicate 8 48) v))] = P.map pS by rw [hP]; rfl]
  rw [show [Mv.d (PyData.str (Q.st (nameL a u))), Mv.d (PyData.str (Q.st (nameL b u))), Mv.d (PyData.str (Q.st (nameL (List.replicate 8 48) u))), Mv.d (PyData.str (Q.st (nameL a v))), Mv.d (PyData.str (Q.st (nameL b v))), Mv.d (PyData.str (Q.st (nameL (List.replicate 8 48) v)))] = P.map mS by rw [hP]; rfl]
  clear hP
  have blk19 : ∀ l ∈ P.map blk, ∀ c ∈ l, c < 0x110000 := fun l hl => by
    obtain ⟨y, hy, rfl⟩ := List.mem_map.mp hl
    obtain ⟨m, w, h1, h2, rfl⟩ := hPP y hy
    rw [blk_name (mk3 m h1)]
    exact (nameL_good h0 h2).ok
  have km := (Q.shaped_strs blk19).1
  have cm1 : calB (nameL m1 u) = true := calB_of (mk3 _ hm1) gu
  have cm2 : calB (nameL m2 u) = true := calB_of (mk3 _ hm2) gu
  have gn1 := nameL_good (mk3 _ hm1) gu
  have ln1 := gn1.len
  rw [em1]
  walk_at "mm"
  rw [map_dpS, em2]
  walk_at "mm"
  rw [map_dpS, blanks3 hC (by omega)]
  walk_at "mm"
  rw [map_dpS, blanks4 hC (by omega)]
  walk_at "mm"
  rw [show List.map (fun a => PyData.str (Q.st a)) (List.map blk P) = (P.map blk).map pS from rfl, eqv_pS]
  walk_at "mm"
  rw [spec_blank_of (by omega), blk_name (mk3 _ hm1)]
  walk_at "mm"
  rw [map_dpS, at2]
  walk_at "mm"
  have hr : (dr (nx (nx D2 3) 3) 15).val < 15 := (dr (nx (nx D2 3) 3) 15).isLt
  generalize hn : (dr (nx (nx D2 3) 3) 15).val = n at hr
  generalize nx (nx (nx D2 3) 3) 15 = D3
  have hL1 : ∀ l ∈ P ++ [nameL m1 u, nameL m1 u, nameL m1 u], ∃ m w, (m = a ∨ m = b ∨ m = List.replicate 8 48) ∧ wordB w = true ∧ l = nameL m w := fun l hl => by
    rcases List.mem_append.mp hl with h | h
    · exact hPP l h
    · simp only [List.mem_cons, List.not_mem_nil, or_false] at h
      rcases h with rfl | rfl | rfl <;> exact ⟨m1, u, hm1, gu, rfl⟩
  have hL : ∀ l ∈ P ++ [nameL m1 u, nameL m1 u, nameL m1 u], Gd 19 l ∧ 1 ≤ l.length := fun l hl => by
    obtain ⟨m, w, h1, h2, rfl⟩ := hL1 l hl
    obtain ⟨_, _, _, _, _, l1, _, g⟩ := calB_end (calB_of (mk3 m h1) h2)
    exact ⟨g, by omega⟩
  obtain ⟨ms, E, e5, hq1, hq2⟩ := draw_pieces (P := P) (n := nameL m1 u) (by omega) hL (o0 := o0) (o2 := o2) (o3 := some (mS u)) (o4 := some (mS v)) (o5 := some (.d (.list [pS a, pS b, pS (List.replicate 8 48)]))) (o8 := some (mS (nameL m2 u))) (o9 := o9) (o10 := o10) (o11 := o11) (o12 := o12) (o13 := none) (o14 := none) (D := D3) (T := T) (js := rangeL 0 n) (by simp [rangeL]; omega)
  have hmn : ms.length = n := by rw [hq1]; simp [rangeL]
  obtain ⟨j1, j2⟩ := join_some (ms := ms) (n := 20) (fun m hm => (hq2 m hm).1.len) (by omega)
  have hg : Gd 280 ms.flatten := ⟨by omega, fun c hc => by
    obtain ⟨m, hm, hc⟩ := List.mem_flatten.mp hc
    exact (hq2 m hm).1.all c hc⟩
  obtain ⟨c0, hc0, hfree⟩ := some_free (u := u) ha eb.symm hb hk hL1 (fun m hm => (hq2 m hm).2) (by omega)
  rw [e5]
  walk_at "mm"
  rw [lit_e]
  rw [show List.map (fun a => Q.st a) ms = ms.map Q.st from rfl, j1]
  walk_at "mm"
  rw [map_dpS, at3]
  walk_at "mm"
  have hg6 : Gd 600 ms.flatten := hg.mono (by omega)
  obtain ⟨J, p10, e6⟩ := asks (w := ms.flatten) hg6 [nameL m1 u, nameL m2 u, nameL a v, nameL m1 u] (dS E T) o10 (fun l hl => by
    simp only [List.mem_cons, List.not_mem_nil, or_false] at hl
    rcases hl with rfl | rfl | rfl | rfl
    · exact cm1
    · exact cm2
    · exact calB_of ha gv
    · exact cm1) (show (dS E T)[2]? = _ from hT) (o0 := o0) (o1 := some (.ref 1)) (o2 := o2) (o3 := some (mS u)) (o4 := some (mS v)) (o5 := some (.d (.list [pS a, pS b, pS (List.replicate 8 48)]))) (o6 := some (.d (.list (P.map pS)))) (o7 := some (mS (nameL m1 u))) (o8 := some (mS (nameL m2 u))) (o11 := o11) (o12 := o12) (o13 := none) (o14 := none)
  rw [show ([Mv.d (PyData.str (Q.st (nameL m1 u))), Mv.d (PyData.str (Q.st (nameL m2 u))), Mv.d (PyData.str (Q.st (nameL a v))), Mv.d (PyData.str (Q.st (nameL m1 u)))] : List Mv) = [nameL m1 u, nameL m2 u, nameL a v, nameL m1 u].map mS from rfl, e6]
  rw [show dS E T ++ J = dS E (T ++ J) from rfl]
  walk_at "mm"
  obtain ⟨c1, cs, ec, hc1, hf1⟩ : ∃ c1 cs, ([122, 121, 120, 119, 118].filter fun c => !inStr (Q.st (nameL (List.replicate 8 c) u)) (Q.st ms.flatten)) = c1 :: cs ∧ c1 ∈ [122, 121, 120, 119, 118] ∧ inStr (Q.st (nameL (List.replicate 8 c1) u)) (Q.st ms.flatten) = false := by
    have hm : c0 ∈ [122, 121, 120, 119, 118].filter fun c => !inStr (Q.st (nameL (List.replicate 8 c) u)) (Q.st ms.flatten) := List.mem_filter.mpr ⟨hc0, by rw [hfree]; rfl⟩
    cases e : [122, 121, 120, 119, 118].filter fun c => !inStr (Q.st (nameL (List.replicate 8 c) u)) (Q.st ms.flatten) with
    | nil => rw [e] at hm; cases hm
    | cons c1 cs =>
      have h1 : c1 ∈ [122, 121, 120, 119, 118].filter fun c => !inStr (Q.st (nameL (List.replicate 8 c) u)) (Q.st ms.flatten) := by rw [e]; exact List.mem_cons_self ..
      obtain ⟨h2, h3⟩ := List.mem_filter.mp h1
      exact ⟨c1, cs, rfl, h2, by simpa using h3⟩
  rw [show Str.ofString "zyxwv" = Q.st [122, 121, 120, 119, 118] by decide +kernel]
  walk_at "mm"
  rw [show ([Mv.d (PyData.str (Q.st [122])), Mv.d (PyData.str (Q.st [121])), Mv.d (PyData.str (Q.st [120])), Mv.d (PyData.str (Q.st [119])), Mv.d (PyData.str (Q.st [118]))] : List Mv) = [[122], [121], [120], [119], [118]].map mS from rfl, tests6 gu hg, ec, List.map_cons]
  have mc1 : markB (List.replicate 8 c1) = true := by
    simp only [List.mem_cons, List.not_mem_nil, or_false] at hc1
    rcases hc1 with rfl | rfl | rfl | rfl | rfl <;> decide
  generalize hs0 : nameL (List.replicate 8 c1) u = s0
  generalize cs.map (fun c => nameL (List.replicate 8 c) u) = rest
  have cs0 : calB s0 = true := by rw [← hs0]; exact calB_of mc1 gu
  have gs0 : Gd 19 s0 := by rw [← hs0]; exact nameL_good mc1 gu
  have ls0 := gs0.len
  walk_at "mm"
  have et : f_L_turned [mS ms.flatten, .d (.dict (tabD [(nameL m1 u, s0)]))] (dS E (T ++ J)) = .ok (mS (tw (gR [(nameL m1 u, s0)]) 0 ms.flatten)) (dS E (T ++ J)) := spec_L_turned (rs := [(nameL m1 u, s0)]) (by omega) hg.ok fun r hr => by
    rw [List.mem_singleton.mp hr]
    show s0.length ≤ 100
    omega
  have gl : Gd 600 (tw (gR [(nameL m1 u, s0)]) 0 ms.flatten) := by
    have := tw_good (g := gR [(nameL m1 u, s0)]) (fun n hn => by
      obtain ⟨_, _, _, _, _, _, _, g⟩ := calB_end hn
      unfold gR
      show Gd 19 (Option.getD (if nameL m1 u = n then some s0 else none) n)
      split
      · exact gs0
      · exact g) ms.flatten.length ms.flatten (Nat.le_refl _) hg.all
    exact this.mono (by omega)
  rw [show PyData.dict [(PyData.str (Q.st (nameL m1 u)), PyData.str (Q.st s0))] = .dict (tabD [(nameL m1 u, s0)]) from rfl, et]
  walk_at "mm"
  rw [tm_none cs0 gl]
  walk_at "mm"
  rw [tm_none cm1 hg6, show bkt s0 (tw (gR [(nameL m1 u, s0)]) 0 ms.flatten) = bkt (nameL m1 u) ms.flatten by subst hs0; exact bkt_like (mk3 _ hm1) mc1 gu hf1]
  walk_at "mm"
  exact ⟨_, _, _, _, _, _, _, _, _, _, E, J, rfl⟩
theorem law_good (ns : List Int) (hn : ns.length ≤ 63) : ∃ S', m_law ([some (.d (.list (ns.map PyData.int)))] ++ List.replicate (N_law.length - 1) none) [] = .rt (.d (.bool true)) S' := by
  have h16 : sizeLine = 16777216 := PySem.sizeLine_eq
  obtain ⟨D, e0⟩ := deck_eq hn
  obtain ⟨ρ2, S2, e, p3, p4, p5, p6, p7, p8, p9, p10, p11, p12, p2, E, J, rfl, rfl⟩ := Q.loop_range (g := mgName 2) (b := b_law_1) (n := 6) (ρ := [some (.d (.list (ns.map PyData.int))), some (.ref 1), none, none, none, none, none, none, none, none, none, none, none, none, none]) (S := dS D [(false, .tab "_law_right" "_law_noted")])
    (P := fun i ρ S => ∃ p3 p4 p5 p6 p7 p8 p9 p10 p11 p12 p2 E J, ρ = [some (.d (.list (ns.map PyData.int))), some (.ref 1), p2, p3, p4, p5, p6, p7, p8, p9, p10, p11, p12, none, none] ∧ S = dS E ([(false, .tab "_law_right" "_law_noted")] ++ J)) (by
      rintro i hi ρ S ⟨p3, p4, p5, p6, p7, p8, p9, p10, p11, p12, p2, E, J, rfl, rfl⟩
      obtain ⟨q3, q4, q5, q6, q7, q8, q9, q10, q11, q12, F, J2, e⟩ := turn_ok (o0 := some (.d (.list (ns.map PyData.int)))) (o2 := some (.d (.int (i : Nat)))) (o3 := p3) (o4 := p4) (o5 := p5) (o6 := p6) (o7 := p7) (o8 := p8) (o9 := p9) (o10 := p10) (o11 := p11) (o12 := p12) E (T := [(false, .tab "_law_right" "_law_noted")] ++ J) rfl
      exact ⟨_, _, _, rfl, e, q3, q4, q5, q6, q7, q8, q9, q10, q11, q12, _, F, J ++ J2, rfl, by rw [List.append_assoc]⟩) ⟨_, _, _, _, _, _, _, _, _, _, _, D, [], rfl, rfl⟩
  have e1 : mAsg (mCall 1 f_L_deck [] (mCons (mVar 0) mNil)) (mgName 1) [some (.d (.list (ns.map PyData.int))), none, none, none, none, none, none, none, none, none, none, none, none, none, none] [] = .nx [some (.d (.list (ns.map PyData.int))), some (.ref 1), none, none, none, none, none, none, none, none, none, none, none, none, none] (dS D []) := by
    walk_at "mm"
    rw [e0]
    walk_at "mm"
  suffices h : ∃ S', m_law [some (.d (.list (ns.map PyData.int))), none, none, none, none, none, none, none, none, none, none, none, none, none, none] [] = .rt (.d (.bool true)) S' from h
  unfold m_law mSeqT
  rw [e1]
  dsimp only
  rw [show dS D [] ++ [(false, Mo.tab "_law_right" "_law_noted")] = dS D [(false, .tab "_law_right" "_law_noted")] from rfl]
  walk_at "mm"
  rw [e]
  walk_at "mm"
  exact ⟨_, rfl⟩
end Law
end
open PySem PySem.W PySem.Calls PyProof.Rows
set_option maxHeartbeats 0 in
theorem PySem.Challenge.cw_madestore_k05_blanks_and_marks_of_things_holds : PySem.Challenge.rw_madestore_k05_blanks_and_marks_of_things.Holds := by
  w_on; o_law
  refine HandSHeadRun.head_any (r := OpenLaw.row PySem.Challenge.rw_madestore_k05_blanks_and_marks_of_things) (q := Law.zqQ_) (H := MM.Hd.hookT "_law_right" Law.zqF_ Law.zqV_) (ob := MM.Hd.obTT "_law_right" Law.zqF_) (M := 12000) (loose := Law.zqN_) (d := HandSHeadRun.topDef (OpenLaw.row PySem.Challenge.rw_madestore_k05_blanks_and_marks_of_things).prog 47) (kwd := []) MM.Hd.obTT_eq Law.zq_op Law.zq_fe Law.zq_run (by kernel_rfl) (by kernel_rfl) (by kernel_rfl) (by rfl) (by first | assumption | decide +kernel) (by decide +kernel) ⟨rfl, rfl, rfl, rfl, rfl, by decide +kernel⟩ ?hw ?hc
  case hw => w_witness2
  case hc =>
    refine MM.walk_endT (l := PySem.Challenge.rw_madestore_k05_blanks_and_marks_of_things) (n := 63) (k := 8) (x := "_law_script") (y := "_law_right") (N := Law.N_law.length) rfl (by decide) (by kernel_rfl) ⟨rfl, by decide, by decide⟩ ?F
    intro w mg fa h K zc zP KX c G hmg0 tk
    have hmg : mg ("law" : PySem.Str) = some (.ref fa) := by
      have e : (HandSHeadRun.topDef (OpenLaw.row PySem.Challenge.rw_madestore_k05_blanks_and_marks_of_things).prog 47).name = ("law" : PySem.Str) := by kernel_rfl
      rw [← e]
      exact hmg0
    obtain ⟨fd, h1, h2⟩ := Law.all_of (l := PySem.Challenge.rw_madestore_k05_blanks_and_marks_of_things) (w := w) KX G hmg tk c
    exact ⟨fd, Law.m_law, h1, h2, fun ns hn => Law.law_good ns hn⟩
