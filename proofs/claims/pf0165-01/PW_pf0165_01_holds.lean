import PyProof.Rows.All
import Wide.All
import OpenK.KLine
import KE.KRevSl
import Lean
import PySem.Challenge.RW_pf0165_01
open PySem PySem.W PyProof.Rows
set_option Elab.async false
set_option linter.unusedVariables false
set_option linter.unusedSectionVars false
set_option linter.unusedSimpArgs false
set_option maxRecDepth 100000
set_option maxHeartbeats 8000000
set_option compiler.extract_closed false
namespace Mine
def tabT := "m#!mem &%l#!lk &%n#!nm &%p#!pv &%q#!pvs &%b#!pb &%c#!cb &%t#!turn &%o#!om &%e#!len &%x#!mul &%h#!sm &%B#!sb &%a#,assumption 1+assumption%k#,k_is 1PySem.W.tacticK_is%u#,with_unfolding_all ,rfl 1+tacticRfl / 2+withUnfoldingAll%d#,decide 0null 1+optConfig 2+decide%i#,intros 0null 2+intros%r#,rotate_left 0null 2+rotateLeft%f#,first ,| ,assumption 1+assumption / 2group ,| ,exact 'Fn.nv ,by ,assumption 1+assumption / 2-byTactic 1null 2-app 2+exact / 2group 2null 2+first%z#,exact 'Nat.le_of_ble_eq_true 'rfl 1null 2-app 2+exact%v#,first ,| ,assumption 1+assumption / 2group ,| ,with_unfolding_all ,rfl 1+tacticRfl / 2+withUnfoldingAll / 2group 2null 2+first%w#,first ,| ,omega 0null 1+optConfig 2+omega / 2group ,| ,assumption 1+assumption / 2group 2null 2+first%s#,simp 0null 1+optConfig 0null ,only 1null ,[ 0null 0null 'List.nil_append 3+simpLemma ,, 0null 0null 'List.cons_append 3+simpLemma 3null ,] 3null 0null 6+simp%S#,simp 0null 1+optConfig 0null ,only 1null ,[ 0null 0null 'List.nil_append 3+simpLemma ,, 0null 0null 'List.cons_append 3+simpLemma 3null ,] 3null ,at ,* 1+locationWildcard 2+location 1null 6+simp%g#,( ,constructor 1+constructor ,; ,with_unfolding_all ,rfl 1+tacticRfl ,; ,with_unfolding_all ,rfl 1+tacticRfl / 2+withUnfoldingAll 3null 1+tacticSeq1Indented 1+tacticSeq 2+withUnfoldingAll 3null 1+tacticSeq1Indented 1+tacticSeq ,) 3+paren%y#,simp 0null 1+optConfig 0null 0null 0null 0null 6+simp%j#,exact 'rfl 2+exact%I#,( ,intro 0null 2+intro ,; !lk & 3null 1+tacticSeq1Indented 1+tacticSeq ,) 3+paren%T#,exact 'top_lo 2+exact%om#,first ,| !om0 & / 2group ,| ,lia 0null 1+optConfig 2+lia / 2group ,| ,omega 0null 1+optConfig 2+omega / 2group 3null 2+first%o1#,( ,refine 'og ,? ,_ 2-syntheticHole 1null 2-app 2+refine ,; ,intro ,_ 1-hole 'zq 2null 2+intro 3null 1+tacticSeq1Indented 1+tacticSeq ,) 3+paren%o2#,( ,refine 'zq ,? ,_ 2-syntheticHole 1null 2-app 2+refine ,; ,clear 'zq 1null 2+clear 3null 1+tacticSeq1Indented 1+tacticSeq ,) 3+paren%mem#,first ,| ,assumption 1+assumption / 2group ,| !lk & / 2group 2null 2+first%len#,( ,refine 'len_le_line ,? ,_ 2-syntheticHole 1null 2-app 2+refine ,; ,( ,try ,simp 0null 1+optConfig 0null ,only 1null ,[ 0null 0null 'Str.length_append 3+simpLemma ,, 0null 0null 'l_col 3+simpLemma ,, 0null 0null 'l_told 3+simpLemma ,, 0null 0null 'l_name 3+simpLemma ,, 0null 0null 'l_var 3+simpLemma ,, 0null 0null 'l_noth 3+simpLemma ,, 0null 0null 'l_uses 3+simpLemma ,, 0null 0null 'l_seen 3+simpLemma ?null ,] 3null 0null 6+simp / 2+tacticTry_ / ,) 3+paren ,; !om & 5null 1+tacticSeq1Indented 1+tacticSeq ,) 3+paren%g1#,repeat' ,( !wk & / ,) 3+paren / 2+repeat'%g2#,repeat' ,( ,first ,| !wk & / 2group ,| !ob & / 2group 2null 2+first / ,) 3+paren / 2+repeat'%g3#,repeat' ,( ,first ,| !wk & / 2group ,| !ob & / 2group ,| !mo & / 2group 3null 2+first / ,) 3+paren / 2+repeat'%g4#,repeat' ,( ,first ,| !wk & / 2group ,| !ob & / 2group ,| !mo & / 2group ,| !mk & / 2group 4null 2+first / ,) 3+paren / 2+repeat'%g5#,repeat' ,( ,first ,| !wk & / 2group ,| !mo & / 2group ,| !mk & / 2group 3null 2+first / ,) 3+paren / 2+repeat'%gg#,repeat' ,( !st & / ,) 3+paren / 2+repeat'%nx#,( ,refine 'opaq ,by ,assumption 1+assumption / 2-byTactic 'w_nx ,? ,_ 2-syntheticHole 1null 2-app 2null 2-app 2+refine ,; ,first ,| ,refine 'w_seq1 ,? ,_ 2-syntheticHole 1null 2-app 2+refine / 2group ,| ,( ,refine 'w_seqO ,? ,_ 2-syntheticHole 1null 2-app 2+refine ,; ,intros 0null 2+intros 3null 1+tacticSeq1Indented 1+tacticSeq ,) 3+paren / 2group 2null 2+first 3null 1+tacticSeq1Indented 1+tacticSeq ,) 3+paren%oq#,refine 'opaq ,by ,assumption 1+assumption / 2-byTactic ,? ,_ 2-syntheticHole 2null 2-app 2+refine%st#,( ,( ,fail_if_success ,( ,with_reducible ,guard_target ,= 1Lean.Parser.equalR 1Lean.Parser.equal 'wpAny ,_ 1-hole ,_ 1-hole 'eval 'PySem.Expr.Tuple ,_ 1-hole ,_ 1-hole ,_ 1-hole 3null 2-app ,_ 1-hole 2null 2-app ,_ 1-hole ,_ 1-hole ,_ 1-hole 6null 2-app 3+guardTarget / 2+withReducible / ,) 3+paren / 2+failIfSuccess / ,) 3+paren ,; ,( ,first ,| !cp & / 2group ,| ,with_reducible ,( ,guard_target ,= 1Lean.Parser.equalR 1Lean.Parser.equal 'wpAny ,_ 1-hole ,_ 1-hole 'eval 'PySem.Expr.Call 'PySem.Expr.Attribute ,_ 1-hole ,_ 1-hole ,_ 1-hole 3null 2-app ,_ 1-hole ,_ 1-hole ,_ 1-hole 4null 2-app ,_ 1-hole 2null 2-app ,_ 1-hole ,_ 1-hole ,_ 1-hole 6null 2-app 3+guardTarget ,; ,refine 'PyProof.Rows.MethodCall_ ,( 'pl ,:= ,? ,_ 2-syntheticHole ,) 5-namedArgument ,? ,_ 2-syntheticHole ,? ,_ 2-syntheticHole 3null 2-app 2+refine ,; ,rotate_right 0null 2+rotateRight ,; ,with_unfolding_all ,rfl 1+tacticRfl / 2+withUnfoldingAll 7null 1+tacticSeq1Indented 1+tacticSeq ,) 3+paren / 2+withReducible / 2group ,| !wk & / 2group ,| !ob & / 2group ,| !mo & / 2group 5null 2+first / ,) 3+paren 3null 1+tacticSeq1Indented 1+tacticSeq ,) 3+paren%o_law#,( ,refine 'holds_law 'left0 ,fun 'said 1null 0null ,=> ,? ,_ 2-syntheticHole 4-basicFun 2-fun 2null 2-app 2+refine / ,) 3+paren%o_head#,( ,refine 'headX $0 ,by ,rfl 1+tacticRfl / 2-byTactic ,by ,rfl 1+tacticRfl / 2-byTactic ,by ,rfl 1+tacticRfl / 2-byTactic ,by ,assumption 1+assumption / 2-byTactic ,fun 'w 'os 2null 0null ,=> ,by ,kernel_rfl 1tacticKernel_rfl / 2-byTactic 4-basicFun 2-fun ,? 'hw 2-syntheticHole ,? 'hc 2-syntheticHole 8null 2-app 2+refine / ,) 3+paren"
def tabR := "sm#:me0 me1 me2 me3;m:meT;=a;=y%sb#:sub0 subi;hB:subc;B:subt%nm#:b_len b_max b_int b_str b_range b_tuple b_list b_sorted b_enumerate a_kinds a_publics a_tables a_generics a_items a_types a_values a_uses a_names a_is_pub a_spot m_enter m_declare m_declare_type m_enter_variants m_enter_use m_can_see m_find m_walk m_begin m_step m_look m_follow m_checked_uses m_space m_is_taken s_types s_values s_uses s_names s_is_pub s_spot s_kinds s_publics s_tables s_generics s_items EvP.str EvP.int EvP.none EvP.bool EvPs.nil%lk#:Lk.head Lk.i1 Lk.i2 Lk.i3 Lk.i4 Lk.i5 Lk.i6 Lk.i7 Lk.i8 Lk.i9 Put.head Put.i1 Put.i2 Put.i3 Put.i4 Put.i5 Put.i6 Put.i7 Put.i8 Put.i9 me0 me1 me2 me3;l:Lk.tail Put.tail meT;=a%pv#!nm;aald:EvP.name;aaamd:EvP.cname;aald:EvP.nameV;paaammnmvu:EvP.attr%pvs#!nm;pqu:EvPs.cons%cb#:CmpB.isn CmpB.iss CmpB.isr CmpB.non CmpB.nos CmpB.nor CmpB.lt CmpB.le CmpB.gt CmpB.ge CmpB.eqi CmpB.eqr CmpB.ner;a:CmpB.eqf CmpB.nef;:CmpB.eqs CmpB.nes%pb#ppcu:EvB.cmp;b:EvB.not;pu:EvB.val%cp#b_|i:w_IfB;q_|i:w_args w_tupP w_lstP;pp_|i:w_subP w_binP;p_|i:w_retP w_subL w_binL;paaIu_|i:w_asgP;ppu_|i:w_cmpP;pu_|i:w_argsL w_cmpL;afammkkqduuu_|i:w_callG;paaammnukquuu_|i:w_methG;afammknqdduuu_|i:w_callB w_callT%wk#!cp;_:w_ret w_ret0 w_seq1;_|i:w_seqO;!oq;_:tf_ret tn_ret w_nil w_nx w_nx_ret w_rt w_rt_next wpAny_If wpAny_IfExp wpAny_BinOp w_eq_none_str wpAny_truthy_bool w_ite_t w_ite_f w_ite_nt w_ite_nf PyProof.Rows.args_nil wpAny_assignInOrder_more wpAny_assignInOrder_none PyProof.Rows.isTrue_and_nil PyProof.Rows.isTrue_or_nil PyProof.Rows.isTrue_and PyProof.Rows.isTrue_or PyProof.Rows.isTrue_not PyProof.Rows.BoolOp_one PyProof.Rows.BoolOp_and PyProof.Rows.BoolOp_or w_true w_none w_is_none w_is_str w_is_ref w_not_none w_not_str w_not_ref PyProof.Rows.Subscript_ PyProof.Rows.Tuple_ PyProof.Rows.List_ PySem.GM.join PySem.GM.split w_lt_int w_ge_int w_eq_refl w_ne_refl;_|i:w_str w_int w_add_int;_u:wpAny_isTrue_Compare1 wpAny_Compare1;aal_d:w_name;a_:w_eq_f w_ne_f;_:w_eq_str w_ne_str;e_|i:w_add_str;a_u:w_Expr;_u:PyProof.Rows.Call_;_u:PyProof.Rows.MethodCall_;_u:PyProof.Rows.args_cons w_Attr plainObj_wpAny_Assign_Attribute wpAny_Assign_Name;aal_|i:w_store w_assign w_bind;ammguu_:w_swap2;_uu:PyProof.Rows.Assign_Tuple;aaammk_d:w_glob;aaammkn_dd:w_bi;_uu:PyProof.Rows.callWith_method1 PySem.Pv.callWith_type1;aamk_uu:w_cw;aamk_:w_cw0;aam_|s:w_cal;_u:PyProof.Rows.isTrue_plain%turn#:Turn.head Cput.head;t:Turn.tail Cput.tail%mul#oo:mulOk_r mulOk_l%mo#aaam_d:w_cname;aal_d:w_nameV;aaammk_d:w_globV;aaammkn_dd:w_biV;aaat_|i:w_cstore w_cassign;_u:wpAny_Assign_Subscript;_:w_gt_int w_le_int w_eq_int PyProof.Rows.UnaryOp_ w_int_int;_|i:w_sub_int w_neg_int w_int_bool;w_|i:w_mod_int;wo_|i:w_div_int;x_|i:w_mul_int;aa_|i:w_max2;amz_u:w_LOget0 w_LOget1;amtz_|i:w_LOset0 w_LOset1%ev#:EvDs.nil EvD.str EvD.int EvD.none EvD.tru;u__:EvDs.cons;y_:EvD.tuple;ald:EvD.nameS;aamd:EvD.cnameS;aamamd:EvD.cname;alamd:EvD.name;aammkad:EvD.glob;aldu:EvD.ifs%ob#aaammnmv_|i:w_attrB;aaammnu_:w_methB;aam_:w_dmethB%mk#aamT_|i:w_dict0;aammmtnuz_|iS:w_setattr%om0#=a;j:Nat.le_of_ble_eq_true;u:om_na om_nb;:om_n0 om_n1 om_c0 om_n6 om_11;=d;a:om_lt om_n2 om_n3 om_n4 om_n5 om_n7 om_n8 om_ci om_ic;au:om_le om_eqn om_ad om_da om_dae om_lb;aa:om_ll om_lls om_ge om_lka;aau:om_eq om_eqs om_ab om_adb om_la om_lld om_c6;aaa:om_lq;aaau:om_lqa om_yi om_lqd;aaaau:om_yiq"
def wd (x : Lean.Syntax) (st : List Lean.Syntax) (w : String) : List Lean.Syntax :=
 let r := (w.drop 1).toString
 let c := w.front
 if c = ',' then .atom .none r :: st else if c = '\'' then Lean.mkIdent r.toName :: st else if c = '$' then x :: st else
  let n := c.toNat - 48
  .node .none ((r.replace "+" "Lean.Parser.Tactic.").replace "-" "Lean.Parser.Term.").toName (st.take n).reverse.toArray :: st.drop n
def syn (x : Lean.Syntax) (s : String) : Lean.Syntax := ((((((s.replace "!" ",fin_once '").replace "&" ",fail 0null 2+fail 3PyProof.Rows.tacticFin_once__").replace "/" "1null 1+tacticSeq1Indented 1+tacticSeq").splitOn " ").foldl (wd x) []).headD .missing)
def ofT (k : String) : String := (((tabT.splitOn "%").map (·.splitOn "#")).find? (·.headD "" == k)).elim "" (·.getD 1 "")
def tl (c : Char) : String := ofT (String.singleton c)
def ar (n : Nat) (s : String) : String := " " ++ String.singleton (Char.ofNat (48 + n)) ++ s
def ap (k r : String) (l : List String) : String := "," ++ k ++ " '" ++ r ++ (if l.isEmpty then "" else " " ++ " ".intercalate l ++ ar l.length "null 2-app") ++ " 2+" ++ k
def ruleS (a p : List Char) (r : String) : String :=
 let h := ",? ,_ 2-syntheticHole"
 let g := fun x => ",fail_if_success ,( " ++ x ++ " / ,) 3+paren / 2+failIfSuccess"
 let l := (if a.all (· = '_') then [] else [g (g (ap "refine'" r (a.map fun _ => h)))]) ++ ap "refine" r (a.map fun c => if c = '_' then h else ",by " ++ tl c ++ " / 2-byTactic") :: p.map tl
 " ,; ".intercalate l ++ ar (2 * l.length - 1) "null 1+tacticSeq1Indented 1+tacticSeq"
def rulesS (s : String) : String :=
 let l := (s.splitOn ";").flatMap fun r =>
  let z := r.splitOn ":"
  let h := z.headD ""
  if z.length = 1 then [(if h.front = '!' then h ++ " &" else tl ((h.toList).getD 1 'a')) ++ " /"]
  else
   let q := h.splitOn "|"
   ((z.getD 1 "").splitOn " ").map (ruleS (q.headD "").toList (q.getD 1 "").toList)
 ",with_reducible ,first " ++ " ".intercalate (l.map fun x => ",| " ++ x ++ " 2group") ++ ar l.length "null 2+first / 2+withReducible"
def tabl : List (String × Thunk Lean.Syntax) :=
 (tabR.splitOn "%").map (fun e => let z := e.splitOn "#"; (z.headD "", Thunk.mk fun _ => syn .missing (rulesS (z.getD 1 "")))) ++ (tabT.splitOn "%").map fun e => let z := e.splitOn "#"; (z.headD "", Thunk.mk fun _ => syn .missing (z.getD 1 ""))
def byKey (k : Lean.TSyntax `ident) : Lean.MacroM Lean.Syntax := match tabl.lookup (k.getId.eraseMacroScopes.toString false) with
 | some t => pure t.get
 | none => Lean.Macro.throwUnsupported
abbrev hdP : Program := PySem.Challenge.rw_pf0165_01.row.prog
noncomputable def hdV : Program := PySem.W.view hdP [0, 2, 3, 4, 6, 7, 8, 9, 10, 11, 12, 13, 14, 16, 17, 18, 19, 20, 21, 22, 23, 24, 25, 26, 27, 28, 29, 30, 31, 32, 33]
theorem leftB {p q : Program} {loose : List Str} {Xt : Shared → Bool} {α : Type} {Yf : Shared → α} {Ya : World → α} {N : Nat} {g0 : Bool} (e : opening p = plainProg p.main.scope.names) (hN : Nat.ble 600 N = true) (f : ∀ s, fenceModules? p s = some s)
  (h : ∀ (w : World) (os : OsState), (topFrom treeTable p w N ⟨boot_heap w.params, #[], boot_drawn, boot_toks, os⟩).map (fun s => (openSeen q loose (importedModules p.main.body) Xt g0 s, Yf s)) = some (openGood q loose, Ya w)) : LeftO p q loose Xt Yf Ya N g0 := fun w => by
 obtain ⟨⟨hp, gs, d, k, os⟩, e1, e2⟩ := Option.map_eq_some_iff.mp (boot_open e hN f w)
 simp only [Prod.mk.injEq] at e2
 obtain ⟨rfl, rfl, rfl, rfl⟩ := e2
 unfold openEnds
 rw [e1]
 exact h w os
theorem left1 : opening hdP = plainProg hdP.main.scope.names := by kernel_rfl
theorem left2 : ∀ s, fenceModules? hdP s = some s := fun s => by kernel_rfl
theorem left3 : Nat.ble 600 5336 = true := rfl
theorem left0a : Fast.tw9446332074065402090 PySem.Challenge.rw_pf0165_01 = true := by kernel_rfl
theorem left0 : OpenLaw.wellSaid PySem.Challenge.rw_pf0165_01 = true := (congrFun Fast.te9446332074065402090 _).trans left0a
abbrev hdL : List Str := [Str.ofString "LendError", Str.ofString "_law_places"]
noncomputable abbrev hdX : Shared → Bool := fun s => xlAt hdV [] s && recOk (RowW.records (OpenRow.toRowW PySem.Challenge.rw_pf0165_01.row)) s
section
variable {p : Program} {w : World} {n₀ n : Nat} {ann : Option Value}
noncomputable def runT (p : Program) (w : World) (n₀ : Nat) (ann : Option Value) (n : Nat) : SharedT → Thread → Option SharedT :=
 n.rec (fun _ _ => none) fun _ ih s t => bif through t then some s else bif Fast.tw6613529449190102663 n₀ ann t then (Fast.tw10156331382660048174 (Fast.tw11892475500146522536 Fast.tw14364793385576792824) p w s t).bind fun r => ih r.1 r.2 else none
theorem runT_spec : ∀ {s s' : SharedT} {t : Thread}, runT p w n₀ ann n s t = some s' → topRun treeTable p w n₀ ann n s.abs t = some s'.abs := by
 induction n with
 | zero => exact fun h => nomatch h
 | succ n ih =>
  intro s s' t h
  have h : (bif through t then some s else bif Fast.tw6613529449190102663 n₀ ann t then (Fast.tw10156331382660048174 (Fast.tw11892475500146522536 Fast.tw14364793385576792824) p w s t).bind fun r => runT p w n₀ ann n r.1 r.2 else none) = some s' := h
  rw [← Fast.te6613529449190102663, ← Fast.te10156331382660048174, ← Fast.te11892475500146522536, ← Fast.te14364793385576792824] at h
  cases he : through t with
  | true =>
   rw [he] at h
   rw [topRun, he]
   exact congrArg (Option.map SharedT.abs) h
  | false =>
   rw [he] at h
   cases hk : stepOk n₀ ann t with
   | false => rw [hk] at h; cases h
   | true =>
    rw [hk] at h
    obtain ⟨r, hr, h⟩ := Option.bind_eq_some_iff.mp h
    rw [topRun, he, hk]
    dsimp only
    rw [stepT_spec (s' := r.1) (t' := r.2) hr]
    exact ih h
noncomputable def layT (l : List Obj) : BT → Nat → Option BT := l.rec (fun t _ => some t) fun o _ ih t n => bif ((t.ins n o).get n).isSome then ih (t.ins n o) (n + 1) else none
theorem layT_spec {life : Life} {l : List Obj} : ∀ {t t' : BT} {n : Nat}, layT l t n = some t' → absHeap t' (n + l.length) life = ⟨(absHeap t n life).objs ++ l.toArray, life⟩ := by
 induction l with
 | nil =>
  intro t t' n h
  cases h
  exact congrArg (Heap.mk · life) Array.append_empty.symm
 | cons o r ih =>
  intro t t' n h
  have h : (bif ((t.ins n o).get n).isSome then layT r (t.ins n o) (n + 1) else none) = some t' := h
  cases q : ((t.ins n o).get n).isSome with
  | false => rw [q] at h; cases h
  | true =>
   rw [q] at h
   rw [List.length_cons, Nat.add_comm r.length 1, ← Nat.add_assoc, ih h, absHeap_ins q]
   exact congrArg (Heap.mk · life) (by show Array.push _ _ ++ _ = _; simp; rfl)
noncomputable def goT (p : Program) (w : World) (os : OsState) (N : Nat) : Option SharedT :=
 (layT (boot_heap w.params).objs.toList .nil 0).bind fun T => runT p w (boot_heap w.params).objs.size ((boot_heap w.params).nsMap mainGlobals "__annotations__") N ⟨T, (boot_heap w.params).objs.size, (boot_heap w.params).life, #[], boot_drawn, boot_toks, os⟩ (topStub p)
theorem goT_spec {os : OsState} {N : Nat} {s : SharedT} (h : goT p w os N = some s) : topRun treeTable p w (boot_heap w.params).objs.size ((boot_heap w.params).nsMap mainGlobals "__annotations__") N ⟨boot_heap w.params, #[], boot_drawn, boot_toks, os⟩ (topStub p) = some s.abs := by
 obtain ⟨T, e, r⟩ := Option.bind_eq_some_iff.mp h
 have q : absHeap T (0 + (boot_heap w.params).objs.toList.length) (boot_heap w.params).life = _ := layT_spec e
 rw [Nat.zero_add, Array.length_toList] at q
 have r := runT_spec r
 unfold SharedT.abs at r
 dsimp only at r
 rw [q, show (absHeap .nil 0 (boot_heap w.params).life).objs ++ (boot_heap w.params).objs.toList.toArray = (boot_heap w.params).objs from Array.empty_append] at r
 exact r
end
theorem leftT {α : Type} {Yf : Shared → α} {Ya : World → α}
  (h : ∀ (w : World) (os : OsState), (goT hdP w os 5336).map (fun s => ((boot_heap w.params).isNs mainGlobals && (staticsOk (importedModules hdP.main.body) (boot_heap w.params) s.abs.heap && namesBound hdP s.abs.heap && gensDone s.abs && laidKept (boot_heap w.params) s.abs.heap), Fast.tw4187177175401517315 hdV hdL (importedModules hdP.main.body) hdX true s.abs, Yf s.abs)) = some (true, openGood hdV hdL, Ya w)) :
  ∀ (w : World) (os : OsState), (topFrom treeTable hdP w 5336 ⟨boot_heap w.params, #[], boot_drawn, boot_toks, os⟩).map (fun s => (openSeen hdV hdL (importedModules hdP.main.body) hdX true s, Yf s)) = some (openGood hdV hdL, Ya w) := fun w os => by
 obtain ⟨s, e1, e2⟩ := Option.map_eq_some_iff.mp (h w os)
 obtain ⟨a1, a2, a3⟩ : _ ∧ _ ∧ _ := by simpa only [Prod.mk.injEq] using e2
 obtain ⟨b1, b2⟩ := Bool.and_eq_true_iff.mp a1
 rw [← Fast.te4187177175401517315] at a2
 have r := goT_spec e1
 unfold topFrom
 dsimp only
 rw [b1, r]
 show Option.map _ (match staticsOk (importedModules hdP.main.body) (boot_heap w.params) s.abs.heap && namesBound hdP s.abs.heap && gensDone s.abs && laidKept (boot_heap w.params) s.abs.heap with | true => some s.abs | false => none) = _
 rw [b2]
 exact congrArg some (Prod.ext a2 a3)
theorem headX (H : Hook) {d : DefRec} {kwd : List (Str × Expr)} (hdef : defOf hdV PySem.Challenge.rw_pf0165_01.row.name = some (d, kwd)) (hp : PySem.Challenge.rw_pf0165_01.row.prog.theDef PySem.Challenge.rw_pf0165_01.row.name = some (d.params, d.body, d.scope)) (hk : kwWritten? d.params.kwonlyargs d.params.kw_defaults = some kwd) (said : PySem.Challenge.rw_pf0165_01.row.wellSaid = true)
  (h : ∀ (w : World) (os : OsState), (goT hdP w os 5336).map (fun s => ((boot_heap w.params).isNs mainGlobals && (staticsOk (importedModules hdP.main.body) (boot_heap w.params) s.abs.heap && namesBound hdP s.abs.heap && gensDone s.abs && laidKept (boot_heap w.params) s.abs.heap), Fast.tw4187177175401517315 hdV hdL (importedModules hdP.main.body) hdX true s.abs, H.obs s.abs)) = some (true, openGood hdV hdL, H.val w))
  (hw : (OpenRow.toRowW PySem.Challenge.rw_pf0165_01.row).promised) (hc : WalkO hdV hdL (XL hdV []) H.says (OpenRow.toRowW PySem.Challenge.rw_pf0165_01.row) d kwd fun f vs => PySem.call f vs) : PySem.Challenge.rw_pf0165_01.row.Holds :=
 PySem.W.holds_open (leftB (p := hdP) left1 left3 left2 (leftT h)) H.of H.keeps (fun s e => xl_of s (Bool.and_eq_true_iff.mp e).1) XL.keeps hdef hp hk (fun s e => recFacts_of (Bool.and_eq_true_iff.mp e).2) (by rfl) said (by decide +kernel) ⟨rfl, rfl, rfl, rfl, rfl, by decide +kernel⟩ hw hc
local macro_rules | `(tactic| o_law) => pure (syn .missing (ofT "o_law"))
local macro_rules | `(tactic| o_head $H) => pure (syn H (ofT "o_head"))
open_top hd for PySem.Challenge.rw_pf0165_01
universe u
theorem om_lt {i n : Nat} (h : i < n) : n - (i + 1) < n - i := Nat.sub_lt_sub_left h (Nat.lt_succ_self i)
theorem om_le {a b c : Nat} (h : a ≤ b) (e : Nat.ble b c = true) : a ≤ c := Nat.le_trans h (Nat.le_of_ble_eq_true e)
theorem om_eq {x a b c : Nat} (q : x = a) (h : a ≤ b) (e : Nat.ble b c = true) : x ≤ c := q ▸ om_le h e
theorem om_eqs {x a b c : Nat} (q : a = x) (h : a ≤ b) (e : Nat.ble b c = true) : x ≤ c := q ▸ om_le h e
theorem om_eqn {x a c : Nat} (q : x = a) (e : Nat.ble a c = true) : x ≤ c := q ▸ Nat.le_of_ble_eq_true e
theorem om_ll {x a b : Nat} (h : x < a) (q : a = b) : x < b := q ▸ h
theorem om_lls {x a b : Nat} (h : x < a) (q : b = a) : x < b := q ▸ h
theorem om_lq {i x n m : Nat} (h : i < x) (q : x = n) (p : m = n) : i < m := p ▸ q ▸ h
theorem om_ad {a b c d : Nat} (h : a ≤ b) (e : Nat.ble (b + d) c = true) : a + d ≤ c := Nat.le_trans (Nat.add_le_add_right h d) (Nat.le_of_ble_eq_true e)
theorem om_da {a b c d : Nat} (h : a ≤ b) (e : Nat.ble (d + b) c = true) : d + a ≤ c := Nat.le_trans (Nat.add_le_add_left h d) (Nat.le_of_ble_eq_true e)
theorem om_ab {a b c x y : Nat} (h : a ≤ x) (k : b ≤ y) (e : Nat.ble (x + y) c = true) : a + b ≤ c := Nat.le_trans (Nat.add_le_add h k) (Nat.le_of_ble_eq_true e)
theorem om_adb {a b c d x y : Nat} (h : a ≤ x) (k : b ≤ y) (e : Nat.ble (x + d + y) c = true) : a + d + b ≤ c := om_ab (Nat.add_le_add_right h d) k e
theorem om_dae {a b c d f : Nat} (h : a ≤ b) (e : Nat.ble (d + b + f) c = true) : d + a + f ≤ c := om_ad (Nat.add_le_add_left h d) e
theorem om_lb {a b c : Nat} (h : a ≤ b) (e : Nat.ble (b + 1) c = true) : a < c := om_ad (d := 1) h e
theorem om_la {a b c d : Nat} (h : a < b) (k : b ≤ d) (e : Nat.ble d c = true) : a ≤ c := Nat.le_trans (Nat.le_of_lt h) (om_le k e)
theorem om_lqa {i x n d c : Nat} (h : i < x) (q : x = n) (k : n ≤ d) (e : Nat.ble d c = true) : i ≤ c := om_la (q ▸ h) k e
theorem om_yi {y i x d c : Nat} (h : y ≤ i) (k : i < x) (m : x ≤ d) (e : Nat.ble d c = true) : y ≤ c := Nat.le_trans h (om_la k m e)
theorem om_yiq {y i x n d c : Nat} (h : y ≤ i) (k : i < x) (q : x = n) (m : n ≤ d) (e : Nat.ble d c = true) : y ≤ c := om_yi h (q ▸ k) m e
theorem om_lka {k n' n : Nat} (h : n' ≤ n) (q : k < n') : k < n + 1 := Nat.lt_succ_of_le (Nat.le_trans (Nat.le_of_lt q) h)
theorem om_lqd {i x n d c : Nat} (h : i < x) (q : x = n) (k : n ≤ d) (e : Nat.ble d c = true) : i < c := Nat.lt_of_lt_of_le h (q ▸ om_le k e)
theorem om_lld {i x d c : Nat} (h : i < x) (k : x ≤ d) (e : Nat.ble d c = true) : i < c := Nat.lt_of_lt_of_le h (om_le k e)
theorem om_ci {i n : Nat} (h : i < n) : (i : Int) < n := Int.ofNat_lt.mpr h
theorem om_ic {i n : Nat} (h : (i : Int) < n) : i < n := Int.ofNat_lt.mp h
theorem om_c0 {i : Nat} : (0 : Int) ≤ i := Int.natCast_nonneg i
theorem om_c6 {i n b : Nat} (h : i < n) (k : n ≤ b) (e : Nat.ble b 9223372036854775807 = true) : (i : Int) < 2 ^ 63 := Int.ofNat_lt (m := 9223372036854775808).mpr (Nat.lt_succ_of_le (om_la h k e))
theorem om_n6 {i : Nat} : -(2 ^ 63 : Int) ≤ i := Int.le_trans (by decide) om_c0
theorem om_na {n a b : Nat} (e : Nat.ble a b = true) : n + a ≤ n + b := Nat.add_le_add_left (Nat.le_of_ble_eq_true e) n
theorem om_nb {n a b c : Nat} (e : Nat.ble (a + b) c = true) : n + a + b ≤ n + c := Nat.add_assoc n a b ▸ om_na e
theorem om_n0 {n b : Nat} : n ≤ n + b := Nat.le_add_right n b
theorem om_n1 {n i : Nat} : n + i ≤ n + (i + 1) := Nat.le_succ _
theorem om_n2 {n i : Nat} (h : n ≤ i) : n ≤ i + 1 := Nat.le_succ_of_le h
theorem om_n3 {n i : Nat} (h : n ≤ i) : n + 1 ≤ i + 1 := Nat.succ_le_succ h
theorem om_n4 {n i : Nat} (h : n < i) : n + 1 ≤ i := h
theorem om_n5 {n i : Nat} (h : n < i + 1) : n ≤ i := Nat.le_of_lt_succ h
theorem om_n7 {n i c : Nat} (h : n ≤ c + i) : n + 1 ≤ c + (i + 1) := Nat.succ_le_succ h
theorem om_n8 {n i c : Nat} (h : n ≤ c + i) : n ≤ c + (i + 1) := Nat.le_succ_of_le h
theorem om_11 {n : Nat} : 1 + n = n + 1 := Nat.add_comm 1 n
theorem om_ge {i n : Nat} (h : i ≤ n) (q : ¬ i < n) : i = n := Nat.le_antisymm h (Nat.le_of_not_lt q)
theorem me0 {α : Type u} {a : α} {l : List α} : a ∈ a :: l := .head _
theorem me1 {α : Type u} {a b : α} {l : List α} : a ∈ b :: a :: l := .tail _ (.head _)
theorem me2 {α : Type u} {a b c : α} {l : List α} : a ∈ b :: c :: a :: l := .tail _ (.tail _ (.head _))
theorem me3 {α : Type u} {a b c d : α} {l : List α} : a ∈ b :: c :: d :: a :: l := .tail _ (.tail _ (.tail _ (.head _)))
theorem meT {α : Type u} {a b : α} {l : List α} (h : a ∈ l) : a ∈ b :: l := .tail _ h
theorem nd_rev {α : Type u} {x y : α} {l k : List α} (e : k.reverse = y :: x :: l) (h : k.Nodup) : (x :: y :: l).Nodup := (List.Perm.swap x y l).nodup_iff.mp (e ▸ (List.reverse_perm k).nodup_iff.mpr h)
theorem aln {α : Type u} {P : α → Prop} : ∀ x, x ∈ [] → P x := nofun
theorem alc {α : Type u} {P : α → Prop} {a : α} {l : List α} (h : P a) (t : ∀ x, x ∈ l → P x) : ∀ x, x ∈ a :: l → P x
 | _, .head _ => h
 | _, .tail _ m => t _ m
theorem arr_mem {α : Type u} {xs : Array α} {i : Nat} {v : α} (e : xs[i]? = some v) : v ∈ xs.toList := List.mem_of_getElem? (Array.getElem?_toList.trans e)
theorem ale {α : Type u} {P : α → Prop} {x : α} {l : List α} (m : x ∈ l) (k : ∀ y, y ∈ l → P y) : P x := k x m
theorem are {α : Type u} {P : Nat → α → Prop} {j : Nat} {v : α} {l : List α} (e : l[j]? = some v) (k : ∀ j v, l[j]? = some v → P j v) : P j v := k j v e
theorem alA {α : Type u} {P : α → Prop} {l : List α} (k : ∀ y, y ∈ l → P y) : ∀ (i : Nat) (v : α), l.toArray[i]? = some v → P v := fun _ v e => k v (arr_mem e)
theorem arA {α : Type u} {P : Nat → α → Prop} {l : List α} (k : ∀ j v, l[j]? = some v → P j v) : ∀ (i : Nat) (v : α), l.toArray[i]? = some v → P i v := fun i v e => k i v (Array.getElem?_toList.trans e)
theorem arn {α : Type u} {P : Nat → α → Prop} : ∀ (j : Nat) (v : α), ([] : List α)[j]? = some v → P j v := fun j v e => by simp at e
theorem arc {α : Type u} {P : Nat → α → Prop} {a : α} {l : List α} (h : P 0 a) (t : ∀ j v, l[j]? = some v → P (j + 1) v) : ∀ j v, (a :: l)[j]? = some v → P j v
 | 0, _, rfl => h
 | j + 1, v, e => t j v e
@[elab_as_elim] theorem gen1 {α : Sort u} {P : α → Prop} (a : α) (k : ∀ x, P x) : P a := k a
@[elab_as_elim] theorem gen2 {α : Sort u} {P : α → Prop} (a : α) (k : ∀ x, a = x → P x) : P a := k a rfl
theorem og {G : Prop} (k : ∀ Z : Prop, (G → Z) → Z) : G := k G id
theorem sub0 {α : Type u} {l : List α} : ∀ b, b ∈ [] → b ∈ l := nofun
theorem subi {α : Type u} {l : List α} : ∀ b, b ∈ l → b ∈ l := fun _ m => m
theorem subt {α : Type u} {a : α} {k l : List α} (t : ∀ b, b ∈ k → b ∈ l) : ∀ b, b ∈ k → b ∈ a :: l := fun b m => .tail _ (t b m)
theorem subc {α : Type u} {a : α} {k l : List α} (h : a ∈ l) (t : ∀ b, b ∈ k → b ∈ l) : ∀ b, b ∈ a :: k → b ∈ l
 | _, .head _ => h
 | _, .tail _ m => t _ m
local macro_rules | `(tactic| fin_once $k:ident fail) => byKey k
class Root where
 w : World
 s : Shared
open Root (w s)
noncomputable def prog : Program := PySem.Challenge.rw_pf0165_01.row.prog
noncomputable def isF0 (o : Obj) : Bool := o.cls == .type "frame"
variable [rt0 : Root]
abbrev Root.r : Heap := s.heap
noncomputable def isFr (b : Addr) (o : Obj) : Bool := isF0 o && (Root.r.get? b).isNone
theorem isFr_no {b : Addr} {o : Obj} (h : isF0 o = false) : isFr b o = false := by unfold isFr; rw [h]; rfl
theorem isFr_new {b : Addr} {o : Obj} (n : Root.r.get? b = none) (h : isF0 o = true) : isFr b o = true := by unfold isFr; rw [h, n]; rfl
theorem isFr_cls {b : Addr} {o o' : Obj} (e : o'.cls = o.cls) (h : isFr b o = true) : isFr b o' = true := by unfold isFr isF0 at h ⊢; rw [e]; exact h
theorem isFr_cls0 {b : Addr} {o o' : Obj} (e : o'.cls = o.cls) (h : isFr b o = false) : isFr b o' = false := by unfold isFr isF0 at h ⊢; rw [e]; exact h
theorem isFr_out {b : Addr} {o : Obj} (h : isFr b o = true) : Root.r.get? b = none := by
 unfold isFr at h
 cases q : Root.r.get? b with
 | none => rfl
 | some _ => rw [q, Option.isNone_some, Bool.and_false] at h; cases h
structure Ch (S : List Addr) (h h' : Heap) : Prop where
 same : ∀ b o, h.get? b = some o → b ∉ S → isFr b o = false → h'.get? b = some o
 fr : ∀ b o, h.get? b = some o → isFr b o = true → ∃ sl, h'.get? b = some { o with slots := sl }
theorem Ch.refl (S : List Addr) (h : Heap) : Ch S h h := ⟨fun _ _ e _ _ => e, fun _ o e _ => ⟨o.slots, e⟩⟩
theorem Ch.trans {S : List Addr} {h₁ h₂ h₃ : Heap} (x : Ch S h₁ h₂) (y : Ch S h₂ h₃) : Ch S h₁ h₃ :=
 ⟨fun b o e n f => y.same b o (x.same b o e n f) n f, fun b o e f => by
  obtain ⟨sl, e'⟩ := x.fr b o e f
  obtain ⟨sl', e''⟩ := y.fr b _ e' f
  exact ⟨sl', e''⟩⟩
theorem Ch.mono {S T : List Addr} {h h' : Heap} (x : Ch S h h') (k : ∀ b, b ∈ S → b ∈ T) : Ch T h h' :=
 ⟨fun b o e n f => x.same b o e (fun q => n (k b q)) f, x.fr⟩
theorem Ch.push (S : List Addr) (h : Heap) (o : Obj) : Ch S h (h.push o) :=
 ⟨fun b o' e _ _ => Heap.get?_push_of_some o e, fun b o' e _ => ⟨o'.slots, Heap.get?_push_of_some o e⟩⟩
theorem Ch.of_keeps {S : List Addr} {h h' : Heap} (k : ∀ b o, h.get? b = some o → h'.get? b = some o) : Ch S h h' :=
 ⟨fun b o e _ _ => k b o e, fun b o e _ => ⟨o.slots, k b o e⟩⟩
theorem Ch.some {S : List Addr} {h h' : Heap} (x : Ch S h h') {b : Addr} {o : Obj} (e : h.get? b = some o) (n : b ∉ S) : ∃ sl, h'.get? b = some { o with slots := sl } := by
 cases f : isFr b o with
 | false => exact ⟨o.slots, x.same b o e n f⟩
 | true => exact x.fr b o e f
theorem Ch.nn {h h' : Heap} (x : Ch [] h h') {b : Addr} (n : h'.get? b = none) : h.get? b = none := by
 cases q : h.get? b with
 | none => rfl
 | some o =>
  obtain ⟨sl, z⟩ := x.some q nofun
  rw [n] at z
  cases z
theorem Ch.ns {S : List Addr} {h h' : Heap} (x : Ch S h h') {a : Addr} {m} (n : a ∉ S) (hn : h.Ns a m) : h'.Ns a m := by
 obtain ⟨o, es, ep, ho, hd, r⟩ := hn
 obtain ⟨sl, e⟩ := x.some ho n
 exact ⟨_, es, ep, e, hd, r⟩
theorem Ch.upd {h : Heap} {d : Addr} {o : Obj} {f : Obj → Obj} (e : h.get? d = Option.some o) (n : isFr d o = false) : Ch [d] h (h.update d f) :=
 ⟨fun b o e m _ => (Heap.get?_update_other _ _ (fun q => m (by rw [q]; exact .head _))).trans e,
  fun b o' e' f' => ⟨o'.slots, (Heap.get?_update_other _ _ (fun q => by
  subst q
  rw [e] at e'
  cases e'
  rw [n] at f'
  cases f')).trans e'⟩⟩
noncomputable def FF (h : Heap) (l : List Env) : Prop := ∀ env ∈ l, env.scope.kind ≠ .module ∧ ∃ L o, env.frame = some L ∧ h.get? L = some o ∧ isFr L o = true ∧ ∀ vs, o.data ≠ .fields vs
theorem Ch.ff {S : List Addr} {h h' : Heap} {l : List Env} (x : Ch S h h') (hl : FF h l) : FF h' l := fun env m => by
 obtain ⟨hk, L, o, hf, ho, hr, hd⟩ := hl env m
 obtain ⟨sl, e⟩ := x.fr _ _ ho hr
 exact ⟨hk, L, _, hf, e, hr, hd⟩
theorem FF.fun {h base : Heap} : ∀ {l : List Env}, FF h l → (∀ b o, h.get? b = some o → isFr b o = true → base.get? b = none) → h.FunFrames base l
 | [], _, _ => trivial
 | env :: l, x, n => by
  obtain ⟨hk, L, o, hf, ho, hr, hd⟩ := x env (.head _)
  exact ⟨hk, ⟨L, o, hf, n _ _ ho hr, ho, hd⟩, FF.fun (fun e m => x e (.tail _ m)) n⟩
noncomputable def fm : List Str → List (Option Value) → Str → Option Value
 | k :: ks, o :: vs, x => if x = k then o else fm ks vs x
 | _, _, _ => none
inductive Lk : List Str → List (Option Value) → Str → Value → Prop
 | head {x ks v vs} : Lk (x :: ks) (some v :: vs) x v
 | tail {x ks v vs k o} : Lk ks vs x v → Lk (k :: ks) (o :: vs) x v
inductive Put : List Str → List (Option Value) → Str → Value → List (Option Value) → Prop
 | head {x ks v o vs} : Put (x :: ks) (o :: vs) x v (some v :: vs)
 | tail {x ks v vs vs' k o} : Put ks vs x v vs' → Put (k :: ks) (o :: vs) x v (o :: vs')
omit rt0 in
theorem Lk.mem {ks vs x v} (h : Lk ks vs x v) : x ∈ ks := by
 induction h with
 | head => exact .head _
 | tail _ ih => exact .tail _ ih
omit rt0 in
theorem Put.mem {ks vs x v vs'} (h : Put ks vs x v vs') : x ∈ ks := by
 induction h with
 | head => exact .head _
 | tail _ ih => exact .tail _ ih
omit rt0 in
theorem Lk.fm {ks vs x v} (h : Lk ks vs x v) (nd : ks.Nodup) : Mine.fm ks vs x = some v := by
 induction h with
 | head => exact if_pos rfl
 | @tail x ks v vs k o h ih =>
  obtain ⟨n, nd⟩ := List.nodup_cons.mp nd
  exact (if_neg (fun e => n (e ▸ h.mem) : ¬ x = k)).trans (ih nd)
omit rt0 in
theorem Put.fm {ks vs x v vs'} (h : Put ks vs x v vs') (nd : ks.Nodup) : (fun y => if y = x then some v else Mine.fm ks vs y) = Mine.fm ks vs' := by
 induction h with
 | @head x ks v o vs =>
  funext y
  show (if y = x then some v else if y = x then o else Mine.fm ks vs y) = (if y = x then some v else Mine.fm ks vs y)
  split <;> rfl
 | @tail x ks v vs vs' k o h ih =>
  obtain ⟨n, nd⟩ := List.nodup_cons.mp nd
  have ne : ¬ (k = x) := fun e => n (e ▸ h.mem)
  have ih' := ih nd
  funext y
  have q := congrFun ih' y
  show (if y = x then some v else if y = k then o else Mine.fm ks vs y) = (if y = k then o else Mine.fm ks vs' y)
  by_cases e : y = k
  ·subst e; rw [if_neg ne, if_pos rfl, if_pos rfl]
  ·rw [if_neg e, if_neg e]; exact q
omit rt0 in
theorem fm_nones (ks : List Str) (x : Str) : fm ks (ks.map fun _ => none) x = none := by
 induction ks with
 | nil => rfl
 | cons k ks ih =>
  show (if x = k then none else fm ks (ks.map fun _ => none) x) = none
  rw [ih]
  split <;> rfl
omit rt0 in
theorem lookup_zip_fm : ∀ (ks₁ ks₂ : List Str) (vs : List Value) (x : Str), ks₁.length = vs.length → (ks₁.zip vs).lookup x = fm (ks₁ ++ ks₂) (vs.map Option.some ++ ks₂.map fun _ => none) x
 | [], ks₂, vs, x, e => by
  rw [List.eq_nil_of_length_eq_zero e.symm]
  exact (fm_nones ks₂ x).symm
 | k :: ks₁, ks₂, vs, x, e => by
  obtain ⟨v, vs, rfl⟩ := List.exists_cons_of_length_eq_add_one e.symm
  rw [List.zip_cons_cons, List.lookup_cons]
  show _ = (if x = k then Option.some v else fm (ks₁ ++ ks₂) (vs.map Option.some ++ ks₂.map fun _ => none) x)
  by_cases h : x = k
  ·subst h; simp
  ·have hb : (x == k) = false := beq_eq_false_iff_ne.mpr h
   rw [if_neg h]
   simp only [hb]
   exact lookup_zip_fm ks₁ ks₂ vs x (Nat.succ.inj e)
omit rt0 in
theorem lookup_reverse_of_nodup : ∀ (l : List (Str × Value)) (x : Str), (l.map (·.1)).Nodup → l.reverse.lookup x = l.lookup x
 | [], _, _ => rfl
 | (k, v) :: l, x, nd => by
  obtain ⟨n, nd⟩ := List.nodup_cons.mp nd
  rw [List.reverse_cons, List.lookup_append, lookup_reverse_of_nodup l x nd, List.lookup_cons]
  by_cases h : x = k
  ·subst h
   have : l.lookup x = none := by
    rw [List.lookup_eq_none_iff]
    intro p hp
    exact bne_iff_ne.mpr fun e => n (e ▸ List.mem_map_of_mem (f := (·.1)) hp)
   rw [this]
   simp
  ·have hb : (x == k) = false := beq_eq_false_iff_ne.mpr h
   simp only [hb]
   simp [List.lookup_cons, hb]
noncomputable def mutO (o : Obj) : Bool := !(o.cls == .type "frame") && !(o.cls == .type "tuple")
theorem mutO_fr {b : Addr} {o : Obj} (h : mutO o = true) : isFr b o = false := by
 unfold mutO at h
 refine isFr_no ?_
 unfold isF0
 cases q : (o.cls == Value.type "frame")
 ·rfl
 ·rw [q] at h; cases h
omit rt0 in
theorem mutO_tup {o : Obj} (h : mutO o = true) : o.cls ≠ .type "tuple" := fun q => by
 unfold mutO at h
 rw [q] at h
 revert h
 decide
abbrev Cell := Addr × (Obj → Prop)
structure Cells (h : Heap) (cs : List Cell) : Prop where
 all : ∀ c ∈ cs, ∃ o, h.get? c.1 = some o ∧ c.2 o ∧ mutO o = true
 nd : (cs.map (·.1)).Nodup
omit rt0 in
theorem Cells.nil {h : Heap} : Cells h [] := ⟨fun _ x => (nomatch x), List.nodup_nil⟩
omit rt0 in
theorem Cells.get {h : Heap} {cs : List Cell} (C : Cells h cs) {a : Addr} {φ : Obj → Prop} (m : (a, φ) ∈ cs) : ∃ o, h.get? a = some o ∧ φ o ∧ mutO o = true := C.all _ m
theorem Cells.getK {h : Heap} {cs : List Cell} {G : Prop} (C : Cells h cs) {a : Addr} {φ : Obj → Prop} (m : (a, φ) ∈ cs) (k : ∀ o, h.get? a = some o → φ o → mutO o = true → G) : G := by
 obtain ⟨o, e, p, q⟩ := C.all _ m
 exact k o e p q
theorem Cells.ch {S : List Addr} {h h' : Heap} {cs : List Cell} (C : Cells h cs) (x : Ch S h h') (n : ∀ c ∈ cs, c.1 ∉ S) : Cells h' cs :=
 ⟨fun c hc => by
  obtain ⟨o, a1, a2, a3⟩ := C.all c hc
  exact ⟨o, x.same _ _ a1 (n c hc) (mutO_fr a3), a2, a3⟩, C.nd⟩
omit rt0 in
theorem Cells.sub {h : Heap} {cs cs' : List Cell} (C : Cells h cs) (s : cs'.Sublist cs) : Cells h cs' :=
 ⟨fun c hc => C.all c (s.subset hc), C.nd.sublist (s.map _)⟩
theorem none_new {base h : Heap} (x : Ch [] base h) {b : Addr} (hb : h.objs.size ≤ b) : base.get? b = none := by
 cases q : base.get? b with
 | none => rfl
 | some o =>
  obtain ⟨sl, e⟩ := x.some q (by fin_once sm fail)
  exact absurd (Heap.lt_size e) (Nat.not_lt.mpr hb)
noncomputable def HdOk (A : Around) (h : Heap) : Prop := A.handled = none ∨ ∃ e0 oe vs, A.handled = some (.ref e0) ∧ h.get? e0 = some oe ∧ isFr e0 oe = false ∧ oe.data = .fields vs ∧ vs[2]? = some .none
theorem HdOk.ch {A : Around} {h h' : Heap} (x : HdOk A h) (c : Ch [] h h') : HdOk A h' := by
 rcases x with x | ⟨e0, oe, vs, a, b, f, r⟩
 ·exact .inl x
 ·exact .inr ⟨e0, oe, vs, a, c.same _ _ b nofun f, f, r⟩
theorem HdOk.deeper {A : Around} {h : Heap} {env : Env} (x : HdOk A h) : HdOk (A.deeper env) h := x
structure Fn (A : Around) (env : Env) (L : Addr) (ks gs : List Str) : Prop where
 kind : env.scope.kind = .function
 loc : env.locals = L
 glob : env.globals = mainGlobals
 bi : env.builtins = builtinsNs
 frame : env.frame = some L
 fs : ∃ l, A.frames = some (env :: l)
 nd : ks.Nodup
 lo : ∀ x ∈ ks, env.kindOf x = some .local
 gl : ∀ x ∈ gs, env.kindOf x = some .globalImplicit
structure At (A : Around) (bs : List Heap) (L : Addr) (ks : List Str) (cs : List Cell) (vs : List (Option Value)) (h : Heap) : Prop where
 ch : ∀ g ∈ bs, Ch [] g h
 newL : ∀ g ∈ bs, g.get? L = none
 newC : ∀ g ∈ bs, ∀ c ∈ cs, g.get? c.1 = none
 ns : h.Ns L (fm ks vs)
 neL : ∀ c ∈ cs, c.1 ≠ L
 cells : Cells h cs
 ff : ∃ l, A.frames = some l ∧ FF h l
 hd : ∃ g ∈ bs, HdOk A g
@[reducible] def St (s : Shared) (h : Heap) (tk : Nat) : Shared := { s with heap := h, toks := tk }
section
variable {A : Around} {bs : List Heap} {h h' : Heap} {L : Addr} {ks : List Str} {cs : List Cell} {vs vs' : List (Option Value)}
theorem At.hdOk (H : At A bs L ks cs vs h) : HdOk A h := by
 obtain ⟨g, m, x⟩ := H.hd
 exact x.ch (H.ch g m)
theorem At.keep (H : At A bs L ks cs vs h) (x : Ch [] h h') : At A bs L ks cs vs h' := by
 obtain ⟨l, l1, l2⟩ := H.ff
 exact ⟨fun g m => (H.ch g m).trans x, H.newL, H.newC, x.ns (by fin_once sm fail) H.ns, H.neL, H.cells.ch x (fun _ _ => by simp), ⟨l, l1, x.ff l2⟩, H.hd⟩
theorem At.drop {bs' : List Heap} (H : At A bs L ks cs vs h) (k : ∀ g ∈ bs', g ∈ bs) (hd : ∃ g ∈ bs', HdOk A g) : At A bs' L ks cs vs h :=
 ⟨fun g m => H.ch g (k g m), fun g m => H.newL g (k g m), fun g m => H.newC g (k g m), H.ns, H.neL, H.cells, H.ff, hd⟩
theorem At.sub {cs' : List Cell} (H : At A bs L ks cs vs h) (s : cs'.Sublist cs) : At A bs L ks cs' vs h :=
 ⟨H.ch, H.newL, fun g m c hc => H.newC g m c (s.subset hc), H.ns, fun c hc => H.neL c (s.subset hc), H.cells.sub s, H.ff, H.hd⟩
theorem At.new (H : At A bs L ks cs vs h) {a : Addr} (ha : h.objs.size ≤ a) : ∀ g ∈ bs, g.get? a = none := fun g m => none_new (H.ch g m) ha
theorem At.cell (H : At A bs L ks cs vs h) {a : Addr} {o : Obj} {φ : Obj → Prop} (ha : h.get? a = some o) (p : φ o) (f : mutO o = true) (n : ∀ g ∈ bs, g.get? a = none) (nc : ∀ c ∈ cs, c.1 ≠ a) (nL : a ≠ L) : At A bs L ks ((a, φ) :: cs) vs h :=
 ⟨H.ch, H.newL, fun g m c hc => by
  rcases List.mem_cons.mp hc with rfl | hc
  ·exact n g m
  ·exact H.newC g m c hc, H.ns, fun c hc => by
  rcases List.mem_cons.mp hc with rfl | hc
  ·exact nL
  ·exact H.neL c hc, ⟨fun c hc => by
  rcases List.mem_cons.mp hc with rfl | hc
  ·exact ⟨o, ha, p, f⟩
  ·exact H.cells.all c hc, by
  rw [List.map_cons, List.nodup_cons]
  refine ⟨fun q => ?_, H.cells.nd⟩
  obtain ⟨c, hc, e⟩ := List.mem_map.mp q
  exact nc c hc e⟩, H.ff, H.hd⟩
theorem At.frL (H : At A bs L ks cs vs h) : ∃ o, h.get? L = some o := let ⟨o, _, _, e, _⟩ := H.ns; ⟨o, e⟩
theorem At.push (H : At A bs L ks cs vs h) {o : Obj} {φ : Obj → Prop} (p : φ o) (f : mutO o = true) (nf : o.isFreed = false) : At A bs L ks ((h.objs.size, φ) :: cs) vs (h.push o) := by
 obtain ⟨oL, hL⟩ := H.frL
 refine (H.keep (Ch.push [] h o)).cell (Heap.get?_push_size _ nf) p f (H.new (Nat.le_refl _)) (fun c hc => ?_) (Nat.ne_of_gt (Heap.lt_size hL))
 obtain ⟨o', e, _⟩ := H.cells.all c hc
 exact Nat.ne_of_lt (Heap.lt_size e)
theorem At.base (H : At A bs L ks cs vs h) : ∃ g, (∀ b ∈ bs, Ch [] b g) ∧ At A (g :: bs) L ks cs vs h ∧ (∀ b o, h.get? b = some o → b ≠ L → (∀ c ∈ cs, c.1 ≠ b) → g.get? b = some o) := by
 have key : ∀ b o, h.get? b = some o → b ≠ L → (∀ c ∈ cs, c.1 ≠ b) → (hideAll h (L :: cs.map (·.1))).get? b = some o := fun b o e n nc => hideAll_get _ e fun q => by
  rcases List.mem_cons.mp q with q | q
  ·exact n q
  ·obtain ⟨c, hc, e⟩ := List.mem_map.mp q
   exact nc c hc e
 refine ⟨hideAll h (L :: cs.map (·.1)), fun b m => ?_, ⟨fun g m => ?_, fun g m => ?_, fun g m c hc => ?_, H.ns, H.neL, H.cells, H.ff, ?_⟩, key⟩
 ·have nL := H.newL b m
  have nC := H.newC b m
  have e1 : ∀ x o, b.get? x = some o → x ≠ L := fun x o e q => by rw [q, nL] at e; cases e
  have e2 : ∀ x o, b.get? x = some o → ∀ c ∈ cs, c.1 ≠ x := fun x o e c hc q => by
   have := nC c hc
   rw [q, e] at this
   cases this
  refine ⟨fun x o e _ f => key x o ((H.ch b m).same x o e (by fin_once sm fail) f) (e1 x o e) (e2 x o e), fun x o e f => ?_⟩
  obtain ⟨sl, e'⟩ := (H.ch b m).fr x o e f
  exact ⟨sl, key x _ e' (e1 x o e) (e2 x o e)⟩
 ·rcases List.mem_cons.mp m with rfl | m
  ·exact Ch.of_keeps fun b o e => of_hideAll _ e
  ·exact H.ch g m
 ·rcases List.mem_cons.mp m with rfl | m
  ·exact hideAll_none _ (.head _)
  ·exact H.newL g m
 ·rcases List.mem_cons.mp m with rfl | m
  ·exact hideAll_none _ (.tail _ (List.mem_map_of_mem (f := (·.1)) hc))
  ·exact H.newC g m c hc
 ·obtain ⟨g, m, x⟩ := H.hd
  exact ⟨g, .tail _ m, x⟩
theorem At.turn {a : Addr} {φ ψ : Obj → Prop} {cs₁ cs₂ : List Cell} {o' : Obj} (H : At A bs L ks (cs₁ ++ (a, φ) :: cs₂) vs h) (hs : Heap.SameBut a h h') (ha : h'.get? a = some o') (p : ψ o') (f : mutO o' = true) : At A bs L ks (cs₁ ++ (a, ψ) :: cs₂) vs h' := by
 have hm : (a, φ) ∈ cs₁ ++ (a, φ) :: cs₂ := by simp
 obtain ⟨o, e, _, f₁⟩ := H.cells.get hm
 have f₀ : ∀ {b}, isFr b o = false := mutO_fr f₁
 have nd := H.cells.nd
 have en : (cs₁ ++ (a, ψ) :: cs₂).map (·.1) = (cs₁ ++ (a, φ) :: cs₂).map (·.1) := by simp
 obtain ⟨l, l1, l2⟩ := H.ff
 have nb : ∀ g ∈ bs, ∀ b o, g.get? b = some o → b ≠ a := fun g m b o q z => by
  have := H.newC g m _ hm
  rw [← z, q] at this
  cases this
 have sub : ∀ c ∈ cs₁ ++ (a, ψ) :: cs₂, c = (a, ψ) ∨ (c ∈ cs₁ ++ (a, φ) :: cs₂ ∧ c.1 ≠ a) := fun c hc => by
  rw [List.map_append, List.map_cons, List.nodup_append, List.nodup_cons] at nd
  rcases List.mem_append.mp hc with hc | hc
  ·refine .inr ⟨List.mem_append_left _ hc, fun z => ?_⟩
   exact nd.2.2 c.1 (List.mem_map_of_mem (f := (·.1)) hc) a (.head _) z
  ·rcases List.mem_cons.mp hc with rfl | hc
   ·exact .inl rfl
   ·refine .inr ⟨List.mem_append_right _ (.tail _ hc), fun z => ?_⟩
    exact nd.2.1.1 (z ▸ List.mem_map_of_mem (f := (·.1)) hc)
 refine ⟨fun g m => ⟨fun b o q n fr => ?_, fun b o q fr => ?_⟩, H.newL, fun g m c hc => ?_, ?_, fun c hc => ?_, ⟨fun c hc => ?_, by rw [en]; exact nd⟩, ⟨l, l1, fun env m => ?_⟩, H.hd⟩
 ·exact (hs.2 b (nb g m b o q)).trans ((H.ch g m).same b o q n fr)
 ·obtain ⟨sl, z⟩ := (H.ch g m).fr b o q fr
  exact ⟨sl, (hs.2 b (nb g m b o q)).trans z⟩
 ·rcases sub c hc with rfl | ⟨hc, _⟩
  ·exact (H.newC g m (a, φ) hm :)
  ·exact H.newC g m c hc
 ·exact H.ns.sameBut hs (Ne.symm (H.neL _ hm))
 ·rcases sub c hc with rfl | ⟨hc, _⟩
  ·exact (H.neL (a, φ) hm :)
  ·exact H.neL c hc
 ·rcases sub c hc with rfl | ⟨hc, n⟩
  ·exact ⟨o', ha, p, f⟩
  ·obtain ⟨oc, q1, q2, q3⟩ := H.cells.all c hc
   exact ⟨oc, (hs.2 _ n).trans q1, q2, q3⟩
 ·obtain ⟨hk, b, ob, hf, hb, hr, hd⟩ := l2 env m
  have nb : b ≠ a := fun z => by
   rw [z, e] at hb
   cases hb
   rw [f₀] at hr
   cases hr
  exact ⟨hk, b, ob, hf, (hs.2 b nb).trans hb, hr, hd⟩
noncomputable def SetNs (L : Addr) (h h' : Heap) : Prop := Heap.SameBut L h h' ∧ ∀ o, h.get? L = some o → ∃ o', h'.get? L = some o' ∧ o'.cls = o.cls ∧ ∀ vs, o'.data ≠ .fields vs
omit rt0 in
theorem wpAny_nsSetC {M : Model} {A : Around} {E : Value → Shared → Prop} {s : Shared} {a : Addr} {m} {name : Str} {v : Value} {Q : Unit → Shared → Prop} (hn : s.heap.Ns a m)
  (hQ : ∀ h', h'.Ns a (fun x => if x = name then some v else m x) → SetNs a s.heap h' → Q () { s with heap := h', toks := s.toks + 1 }) : wpAny M A (nsSet a name v) Q E s := by
 obtain ⟨o, es, ep, ho, hd, hk, hm⟩ := hn
 unfold nsSet strHash
 refine wpAny_bind (wpAny_bind (wpAny_askSetting (wpAny_pure ?_)))
 refine wpAny_bind (wpAny_mkText ?_)
 refine wpAny_bind (wpAny_loadPart (s := { s with toks := s.toks + 1 }) ho ?_)
 have hany : es.any (·.refKey) = false := by
  rw [Array.any_eq_false']; intro e he; obtain ⟨n, t, h⟩ := hk e he; simp [DictEntry.refKey, h]
 simp only [hd, aRefKeyMayBeTheName_eq, aRefKeyMayBeTheNameByArray, hany, Bool.and_false, Bool.false_eq_true, if_false]
 refine wpAny_updatePart (s := { s with toks := s.toks + 1 }) ho (hQ _ ?_ ⟨Heap.SameBut.update .., fun o' ho' => ?_⟩)
 ·obtain ⟨c, d, dt, sl⟩ := o
  subst hd
  cases hi : es.findIdx? (·.key.isStr name) with
  | some i =>
   refine ⟨_, _, ep, Heap.get?_update_self _ ho (by simp only [Obj.putName_eq, Obj.putNameByArray, hi]; rfl), by simp only [Obj.putName_eq, Obj.putNameByArray, hi]; rfl, hk.modify _ _, fun x => ?_⟩
   show _ = if x = name then some v else m x
   rw [← hm]; exact findBy_modify (fun n v => v.isStr n) Value.isStr_inj es name x v i hi
  | none =>
   refine ⟨_, _, ep + 1, Heap.get?_update_self _ ho (by simp only [Obj.putName_eq, Obj.putNameByArray, hi]; rfl), by simp only [Obj.putName_eq, Obj.putNameByArray, hi]; rfl, hk.push _ _ _ _, fun x => ?_⟩
   show _ = if x = name then some v else m x
   rw [← hm]
   exact findBy_push (fun n v => v.isStr n) es name x _ _ v (fun y => by
    show (name == y) = decide (y = name)
    by_cases h : y = name
    ·subst h; simp
    ·have : ¬ name = y := fun e => h e.symm
     simp [h, this]) hi
 ·rw [ho] at ho'
  cases ho'
  obtain ⟨c, d, dt, sl⟩ := o
  subst hd
  cases hi : es.findIdx? (·.key.isStr name) with
  | some i => exact ⟨_, Heap.get?_update_self _ ho (by simp only [Obj.putName_eq, Obj.putNameByArray, hi]; rfl), by simp only [Obj.putName_eq, Obj.putNameByArray, hi], fun vs q => by simp only [Obj.putName_eq, Obj.putNameByArray, hi] at q; cases q⟩
  | none => exact ⟨_, Heap.get?_update_self _ ho (by simp only [Obj.putName_eq, Obj.putNameByArray, hi]; rfl), by simp only [Obj.putName_eq, Obj.putNameByArray, hi], fun vs q => by simp only [Obj.putName_eq, Obj.putNameByArray, hi] at q; cases q⟩
omit rt0 in
theorem SetNs.trans {L : Addr} {h₁ h₂ h₃ : Heap} (x : SetNs L h₁ h₂) (y : SetNs L h₂ h₃) : SetNs L h₁ h₃ := ⟨x.1.trans y.1, fun o e => by
 obtain ⟨o', e', c', _⟩ := x.2 o e
 obtain ⟨o'', e'', c'', d''⟩ := y.2 o' e'
 exact ⟨o'', e'', c''.trans c', d''⟩⟩
omit rt0 in
theorem wpAny_storeNameC {M : Model} {A : Around} {E : Value → Shared → Prop} {s : Shared} {env : Env} {name : Str} {m} {v : Value} {Q : Unit → Shared → Prop} (hl : env.kindOf name = some .local) (hn : s.heap.Ns env.locals m)
  (h : ∀ h', h'.Ns env.locals (fun x => if x = name then some v else m x) → SetNs env.locals s.heap h' → Q () { s with heap := h', toks := s.toks + 1 })
  (hp : (env.scope.kind == .class || (env.scope.kind == .module && env.locals != env.globals)) = false) : wpAny M A (storeName env name v) Q E s := by
 rw [storeName_local hl hp]; exact wpAny_nsSetC hn h
omit rt0 in
theorem wpAny_newFunctionEnvC {M : Model} {A : Around} {E : Value → Shared → Prop} {s : Shared} {scope : Scope} {globals : Addr} {closure : List (Str × Addr)} {binds : List (Str × Value)} {qual : Str}
  {func : Option Addr} {code : Value} {builtins : Addr} {Q : Env → Shared → Prop}
  (hc : ∀ x ∈ scope.names, x.2 ≠ .cell) (hl : ∀ x ∈ binds, scope.names.lookup x.1 = some .local)
  (hQ : ∀ h', h'.Ns s.heap.objs.size (fun x => binds.reverse.lookup x) → Heap.SameBut s.heap.objs.size (s.heap.push { cls := .type "frame", data := .dict #[] }) h' →
   (∃ o, h'.get? s.heap.objs.size = some o ∧ isF0 o = true ∧ ∀ vs, o.data ≠ .fields vs) →
   Q (newEnv scope s.heap.objs.size globals closure qual func code none builtins) { s with heap := h', toks := s.toks + binds.length })
  (hk : scope.kind = .function) :
  wpAny M A (newFunctionEnv scope globals closure binds qual func code none builtins) Q E s := by
 simp only [newFunctionEnv, Option.isSome_none, Bool.false_eq_true, if_false]
 simp only [newEnv] at hQ
 refine wpAny_bind (wpAny_alloc ?_)
 rw [forIn_yield_id closure (fun x hx c => by
  obtain ⟨name, kind⟩ := x
  have : (kind == NameKind.cell) = false := by simpa using hc _ hx
  simp only [this, Bool.false_eq_true, if_false])]
 refine wpAny_bind (wpAny_pure (wpAny_bind ?_))
 refine wpAny_forIn_list _
  (fun rest _ s' => ∃ done h', binds = done ++ rest ∧ s' = { s with heap := h', toks := s.toks + done.length } ∧
   h'.Ns s.heap.objs.size (fun x => done.reverse.lookup x) ∧
   Heap.SameBut s.heap.objs.size (s.heap.push { cls := .type "frame", data := .dict #[] }) h' ∧
   ∃ o, h'.get? s.heap.objs.size = some o ∧ isF0 o = true ∧ ∀ vs, o.data ≠ .fields vs) _ ?_ ?_ binds _
  ⟨[], _, rfl, rfl, Heap.Ns.new .., Heap.SameBut.refl .., _, Heap.get?_push_size _ rfl, rfl, fun vs q => by cases q⟩
 ·rintro ⟨name, v⟩ rest _ s' ⟨done, h', hb, rfl, hns, hsb, o, ho, hr, hd⟩
  have hk' : Env.kindOf { scope, locals := s.heap.objs.size, globals, cells := closure, qual, func, code, frame := some s.heap.objs.size, builtins } name = some .local :=
   hl (name, v) (by rw [hb]; simp)
  have hp : (({ scope, locals := s.heap.objs.size, globals, cells := closure, qual, func, code, frame := some s.heap.objs.size, builtins } : Env).scope.kind == .class || (({ scope, locals := s.heap.objs.size, globals, cells := closure, qual, func, code, frame := some s.heap.objs.size, builtins } : Env).scope.kind == .module &&
    ({ scope, locals := s.heap.objs.size, globals, cells := closure, qual, func, code, frame := some s.heap.objs.size, builtins } : Env).locals != ({ scope, locals := s.heap.objs.size, globals, cells := closure, qual, func, code, frame := some s.heap.objs.size, builtins } : Env).globals)) = false := by
   show (scope.kind == .class || (scope.kind == .module && _)) = false
   rw [hk]; rfl
  simp only [storeName_local hk' hp]
  refine wpAny_bind (wpAny_nsSetC hns fun h'' hns' hsb' => wpAny_pure ⟨done ++ [(name, v)], h'', by simp [hb], ?_, ?_, hsb.trans hsb'.1, ?_⟩)
  ·simp [Nat.add_assoc]
  ·rw [lookup_reverse_snoc]; exact hns'
  ·obtain ⟨o', e1, e2, e3⟩ := hsb'.2 o ho
   exact ⟨o', e1, by unfold isF0 at hr ⊢; rw [e2]; exact hr, e3⟩
 ·rintro _ s' ⟨done, h', hb, rfl, hns, hsb, ho⟩
  rw [List.append_nil] at hb; subst hb
  exact wpAny_pure (hQ h' hns hsb ho)
theorem At.store (H : At A bs L ks cs vs h) {x : Str} {v : Value} (nd : ks.Nodup) (p : Put ks vs x v vs') (hn : h'.Ns L (fun y => if y = x then some v else fm ks vs y)) (hs : SetNs L h h') : At A bs L ks cs vs' h' := by
 have ne : ∀ g ∈ bs, ∀ b o, g.get? b = some o → b ≠ L := fun g m b o e q => by rw [q, H.newL g m] at e; cases e
 obtain ⟨l, l1, l2⟩ := H.ff
 refine ⟨fun g m => ⟨fun b o e n f => (hs.1.2 b (ne g m b o e)).trans ((H.ch g m).same b o e n f), fun b o e f => ?_⟩, H.newL, H.newC, ?_, H.neL, ⟨fun c hc => ?_, H.cells.nd⟩, ⟨l, l1, fun env m => ?_⟩, H.hd⟩
 ·obtain ⟨sl, e'⟩ := (H.ch g m).fr b o e f
  exact ⟨sl, (hs.1.2 b (ne g m b o e)).trans e'⟩
 ·rw [← p.fm nd]; exact hn
 ·obtain ⟨o, a1, a2, a3⟩ := H.cells.all c hc
  exact ⟨o, (hs.1.2 _ (H.neL c hc)).trans a1, a2, a3⟩
 ·obtain ⟨hk, b, o, hf, ho, hr, hd⟩ := l2 env m
  by_cases z : b = L
  ·subst z
   obtain ⟨o', e1, e2, e3⟩ := hs.2 o ho
   exact ⟨hk, b, o', hf, e1, isFr_cls e2 hr, e3⟩
  ·exact ⟨hk, b, o, hf, (hs.1.2 b z).trans ho, hr, hd⟩
end
structure Tp (K : Frag) (h : Heap) : Prop where
 k : K.In h
 nf : ∀ a o, K.lookup a = some o → isFr a o = false
 g : ∃ mg, h.Ns mainGlobals mg
 b : ∃ mb, h.Ns builtinsNs mb ∧ ∀ x : Str, x ≠ "__name__" → mb x = bootBuiltins x
 lim : h.NoLimit
 rt : ∀ b o, Root.r.get? b = some o → ∃ o', h.get? b = some o'
theorem Tp.ch {K : Frag} {h h' : Heap} (T : Tp K h) (x : Ch [] h h') : Tp K h' := by
 obtain ⟨k, nf, ⟨mg, g⟩, ⟨mb, b, hb⟩, ⟨mc, hc, hn⟩, rt⟩ := T
 exact ⟨fun a o e => x.same a o (k a o e) (by fin_once sm fail) (nf a o e), nf, ⟨mg, x.ns (by fin_once sm fail) g⟩, ⟨mb, x.ns (by fin_once sm fail) b, hb⟩, ⟨mc, x.ns (by fin_once sm fail) hc, hn⟩, fun b o e => by
  obtain ⟨o', e'⟩ := rt b o e
  obtain ⟨sl, q⟩ := x.some e' (by fin_once sm fail)
  exact ⟨_, q⟩⟩
theorem Tp.out {K : Frag} {h : Heap} (T : Tp K h) {b : Addr} (l : h.objs.size ≤ b) : Root.r.get? b = none := by
 cases q : Root.r.get? b with
 | none => rfl
 | some o =>
  obtain ⟨o', e⟩ := T.rt b o q
  exact absurd (Heap.lt_size e) (Nat.not_lt.mpr l)
abbrev retOf : Flow → Value
 | .ret v => v
 | _ => .none
theorem enter {A : Around} {R : Result → Shared → Prop} {h : Heap} {tk : Nat} {K : Frag} {base : Heap} {bs : List Heap} {f : Addr} {oc : Value} {od : Option Addr} {osl : Array (Option Value)}
  {name qual : Str} {params : Arguments} {body : List Stmt} {scope : Scope} {dV kV doc pm cdv ct : Value} {an : Option Addr} {args : Args} {vals : List Value} {cs : List Cell} (ks₁ ks₂ gs : List Str)
  (T : Tp K base) (mb : base ∈ bs) (x : ∀ g ∈ bs, Ch [] g h) (C : Cells h cs) (nC : ∀ g ∈ bs, ∀ c ∈ cs, g.get? c.1 = none) (ff : ∃ l, A.frames = some l ∧ FF h l) (hd : ∃ g ∈ bs, HdOk A g)
  (ho : K.lookup f = some ⟨oc, od, .func (fnOf name qual params body scope dV kV doc pm an cdv ct), osl⟩) (hcd : codeIn K cdv qual = true) (hroom : A.depth < recursionLimit)
  (hbind : BindsTo (St s h tk) (fnOf name qual params body scope dV kV doc pm an cdv ct) args (ks₁.zip vals)) (hlen : ks₁.length = vals.length)
  (nd : (ks₁ ++ ks₂).Nodup) (hlo : ((ks₁ ++ ks₂).all fun y => scope.names.lookup y == some .local) = true) (hgl : (gs.all fun y => scope.names.lookup y == some .globalImplicit) = true)
  (hco : scope.isCoroutine = false) (hgen : scope.isGenerator = false) (hk : scope.kind = .function) (hcell : ∀ x ∈ scope.names, x.2 ≠ .cell)
  (k : ∀ env L h₁ tk₁, Fn (A.deeper env) env L (ks₁ ++ ks₂) gs → At (A.deeper env) bs L (ks₁ ++ ks₂) cs (vals.map Option.some ++ ks₂.map fun _ => none) h₁ → Ch [] h h₁ → h.objs.size = L →
   wpAny (model prog w) (A.deeper env) (execs body env) (fun fl s' => R (.ok (.ret (retOf fl))) s')
    (fun e s' => wpAny (model prog w) (A.deeper env) (leaving env e) (fun _ s'' => R (.error e) s'') (fun e' s'' => R (.error e') s'') s') (St s h₁ tk₁)) :
  codeAny (model prog w) A (.call (.ref f) args) R (St s h tk) := by
 have T' := T.ch (x base mb)
 refine codeAny_call_function (s := St s h tk) hroom (T'.k _ _ ho) rfl hco hgen rfl (codeRec_of T'.k hcd) (hbind _ _ _ _ ?_)
 have hloc : ∀ y ∈ ks₁ ++ ks₂, scope.names.lookup y = some .local := fun y hy => beq_iff_eq.mp (List.all_eq_true.mp hlo y hy)
 refine wpAny_newFunctionEnvC hcell (fun y hy => hloc y.1 (List.mem_append_left _ (List.of_mem_zip hy).1)) (fun h₁ hns hsb hobj => ?_) hk
 have hc : Ch [] h h₁ := by
  refine ⟨fun b o e n fr => ?_, fun b o e fr => ⟨o.slots, ?_⟩⟩ <;>
  exact (hsb.2 b (Nat.ne_of_lt (Heap.lt_size e))).trans (Heap.get?_push_of_some _ e)
 refine ⟨(T'.ch hc).lim, codeAny_func ?_⟩
 obtain ⟨l, hl, hff⟩ := ff
 obtain ⟨o, o1, o2, o3⟩ := hobj
 refine k _ h.objs.size h₁ _ ⟨hk, rfl, rfl, rfl, rfl, ⟨l, ?_⟩, nd, hloc, fun y hy => beq_iff_eq.mp (List.all_eq_true.mp hgl y hy)⟩ ⟨fun g m => (x g m).trans hc, fun g m => none_new (x g m) (Nat.le_refl _), nC, ?_, ?_, C.ch hc (fun _ _ => by simp), ⟨_ :: l, (by show A.frames.map _ = _; rw [hl]; rfl), fun env' m => ?_⟩, hd⟩ hc rfl
 ·show A.frames.map _ = _
  rw [hl]; rfl
 ·have e : (fun y => (ks₁.zip vals).reverse.lookup y) = fm (ks₁ ++ ks₂) (vals.map Option.some ++ ks₂.map fun _ => none) := by
   funext y
   rw [lookup_reverse_of_nodup _ _ (by rw [List.map_fst_zip (Nat.le_of_eq hlen)]; exact (List.nodup_append.mp nd).1)]
   exact lookup_zip_fm ks₁ ks₂ vals y hlen
  rw [← e]; exact hns
 ·intro c hc
  obtain ⟨o', p1, _⟩ := C.all c hc
  exact Nat.ne_of_lt (Heap.lt_size p1)
 ·rcases List.mem_cons.mp m with rfl | m
  ·exact ⟨(by show scope.kind ≠ _; rw [hk]; intro q; cases q), _, o, rfl, o1, isFr_new (T'.out (Nat.le_refl _)) o2, o3⟩
  ·exact hc.ff hff env' m
noncomputable def Lv (M : Model) (A : Around) (env : Env) (E : Value → Shared → Prop) : Value → Shared → Prop := fun e s' => wpAny M (A.deeper env) (leaving env e) (fun _ s'' => E e s'') E s'
noncomputable def Rt (Q : Value → Shared → Prop) : Flow → Shared → Prop := fun fl s' => Q (retOf fl) s'
noncomputable def Nx (M : Model) (A : Around) (rest : List Stmt) (env : Env) (Q : Flow → Shared → Prop) (E : Value → Shared → Prop) : Flow → Shared → Prop := fun f s' => match f with
 | .next => wpAny M A (execs rest env) Q E s'
 | f => Q f s'
section
variable {M : Model} {A : Around} {env : Env} {E : Value → Shared → Prop}
omit rt0 in
theorem w_seq {s : Shared} {st : Stmt} {rest : List Stmt} {Q : Flow → Shared → Prop} (k : wpAny M A (exec st env) (Nx M A rest env Q E) E s) : wpAny M A (execs (st :: rest) env) Q E s := wpAny_execs_cons k
omit rt0 in
theorem w_nil {s : Shared} {Q : Flow → Shared → Prop} (k : Q .next s) : wpAny M A (execs [] env) Q E s := wpAny_execs_nil k
omit rt0 in
theorem w_nx {s : Shared} {rest : List Stmt} {Q : Flow → Shared → Prop} (k : wpAny M A (execs rest env) Q E s) : Nx M A rest env Q E .next s := k
omit rt0 in
theorem w_nx_ret {s : Shared} {rest : List Stmt} {Q : Flow → Shared → Prop} {v : Value} (k : Q (.ret v) s) : Nx M A rest env Q E (.ret v) s := k
omit rt0 in
theorem w_rt {s : Shared} {Q : Value → Shared → Prop} {v : Value} (k : Q v s) : Rt Q (.ret v) s := k
omit rt0 in
theorem w_rt_next {s : Shared} {Q : Value → Shared → Prop} (k : Q .none s) : Rt Q .next s := k
omit rt0 in
theorem w_ret {s : Shared} {e : Expr} {p : Pos} {rest : List Stmt} {Q : Flow → Shared → Prop} (k : wpAny M A (eval e env) (fun v s' => Q (.ret v) s') E s) : wpAny M A (execs (.Return (some e) p :: rest) env) Q E s :=
 wpAny_execs_cons (wpAny_Return_some k)
omit rt0 in
theorem w_ret0 {s : Shared} {p : Pos} {rest : List Stmt} {Q : Flow → Shared → Prop} (k : Q (.ret .none) s) : wpAny M A (execs (.Return none p :: rest) env) Q E s :=
 wpAny_execs_cons (wpAny_Return_none k)
end
theorem call_fn {A : Around} {Q E : Value → Shared → Prop} {h : Heap} {tk : Nat} {K : Frag} {base : Heap} {bs : List Heap} {f : Addr} {oc : Value} {od : Option Addr} {osl : Array (Option Value)}
  {name qual : Str} {params : Arguments} {body : List Stmt} {scope : Scope} {dV kV doc pm cdv ct : Value} {an : Option Addr} {args vals : List Value} {cs : List Cell} (ks₁ ks₂ gs : List Str)
  (T : Tp K base) (mb : base ∈ bs) (x : ∀ g ∈ bs, Ch [] g h) (C : Cells h cs) (nC : ∀ g ∈ bs, ∀ c ∈ cs, g.get? c.1 = none) (ff : ∃ l, A.frames = some l ∧ FF h l) (hd : ∃ g ∈ bs, HdOk A g)
  (ho : K.lookup f = some ⟨oc, od, .func (fnOf name qual params body scope dV kV doc pm an cdv ct), osl⟩) (hcd : codeIn K cdv qual = true) (hroom : A.depth < recursionLimit)
  (hbind : BindsTo (St s h tk) (fnOf name qual params body scope dV kV doc pm an cdv ct) ⟨args, []⟩ (ks₁.zip vals)) (hlen : ks₁.length = vals.length)
  (nd : (ks₁ ++ ks₂).Nodup) (hlo : ((ks₁ ++ ks₂).all fun y => scope.names.lookup y == some .local) = true) (hgl : (gs.all fun y => scope.names.lookup y == some .globalImplicit) = true)
  (hco : scope.isCoroutine = false) (hgen : scope.isGenerator = false) (hk : scope.kind = .function) (hcell : ∀ x ∈ scope.names, x.2 ≠ .cell)
  (k : ∀ env L h₁ tk₁, Fn (A.deeper env) env L (ks₁ ++ ks₂) gs → At (A.deeper env) bs L (ks₁ ++ ks₂) cs (vals.map Option.some ++ ks₂.map fun _ => none) h₁ → Ch [] h h₁ → h.objs.size = L →
   wpAny (model prog w) (A.deeper env) (execs body env) (Rt Q) (Lv (model prog w) A env E) (St s h₁ tk₁)) :
  wpAny (model prog w) A (call (.ref f) args) Q E (St s h tk) :=
 wpAny_call (enter ks₁ ks₂ gs T mb x C nC ff hd ho hcd hroom hbind hlen nd hlo hgl hco hgen hk hcell fun env L h₁ tk₁ F H c e => wpAny_mono (k env L h₁ tk₁ F H c e) (fun _ _ q => q) fun _ _ q => q)
section
variable {A : Around} {E : Value → Shared → Prop} {g h : Heap} {bs : List Heap} {tk : Nat} {env : Env} {L : Addr} {ks gs : List Str} {cs : List Cell} {vs vs' : List (Option Value)} {K : Frag}
theorem w_name {x : Str} {v : Value} {p : Pos} {Q : Value → Shared → Prop} (H : At A bs L ks cs vs h) (F : Fn A env L ks gs) (l : Lk ks vs x v) (k : Q v (St s h tk)) (hd : (x == ("__debug__" : Str)) = false := by decide) :
  wpAny (model prog w) A (eval (.Name x p) env) Q E (St s h tk) :=
 wpAny_Name (wpAny_loadName_local F.kind (F.lo x l.mem) (by rw [F.loc]; exact H.ns) (l.fm F.nd) k) hd
theorem w_glob {x : Str} {v : Value} {p : Pos} {Q : Value → Shared → Prop} (H : At A bs L ks cs vs h) (F : Fn A env L ks gs) (T : Tp K g) (mb : g ∈ bs) (hm : x ∈ gs) (e : nsIn K mainGlobals x = some (some v)) (k : Q v (St s h tk)) (hd : (x == ("__debug__" : Str)) = false := by decide) :
  wpAny (model prog w) A (eval (.Name x p) env) Q E (St s h tk) := by
 have T' := T.ch (H.ch g mb)
 obtain ⟨mg, gg⟩ := T'.g
 exact Calls.Name_function_global F.kind (F.gl x hm) (Calls.loadGlobal_global (by rw [F.glob]; exact gg) (mg_of T'.k gg e) k) hd
theorem w_bi {x : Str} {v : Value} {p : Pos} {Q : Value → Shared → Prop} (H : At A bs L ks cs vs h) (F : Fn A env L ks gs) (T : Tp K g) (mb : g ∈ bs) (hm : x ∈ gs) (e : nsIn K mainGlobals x = some none) (hv : bootBuiltins x = some v) (k : Q v (St s h tk))
  (hn : x ≠ "__name__" := by decide) (hd : (x == ("__debug__" : Str)) = false := by decide) :
  wpAny (model prog w) A (eval (.Name x p) env) Q E (St s h tk) := by
 have T' := T.ch (H.ch g mb)
 obtain ⟨mg, gg⟩ := T'.g
 obtain ⟨mb, b, hb⟩ := T'.b
 exact Calls.Name_function_global F.kind (F.gl x hm) (Calls.loadGlobal_builtin (by rw [F.glob]; exact gg) (mg_none_of T'.k gg e) (by rw [F.bi]; exact b) ((hb x hn).trans hv) k) hd
theorem w_store {x : Str} {v : Value} {Q : Unit → Shared → Prop} (H : At A bs L ks cs vs h) (F : Fn A env L ks gs) (p : Put ks vs x v vs')
  (k : ∀ h' tk', At A bs L ks cs vs' h' → Q () (St s h' tk')) : wpAny (model prog w) A (storeName env x v) Q E (St s h tk) :=
 wpAny_storeNameC (F.lo x p.mem) (by rw [F.loc]; exact H.ns) (fun h' hn hs => k h' _ (H.store F.nd p (F.loc ▸ hn) (F.loc ▸ hs)))
  (by rw [F.kind]; rfl)
theorem w_bind {x : Str} {v : Value} {Q : Unit → Shared → Prop} (H : At A bs L ks cs vs h) (F : Fn A env L ks gs) (p : Put ks vs x v vs')
  (k : ∀ h' tk', At A bs L ks cs vs' h' → Q () (St s h' tk')) : wpAny (model prog w) A (bindName env x v) Q E (St s h tk) := wpAny_bindName (w_store H F p k)
theorem w_assign {x : Str} {v : Value} {ps : Pos} {Q : Unit → Shared → Prop} (H : At A bs L ks cs vs h) (F : Fn A env L ks gs) (p : Put ks vs x v vs')
  (k : ∀ h' tk', At A bs L ks cs vs' h' → Q () (St s h' tk')) : wpAny (model prog w) A (assign (.Name x ps) env v) Q E (St s h tk) := wpAny_assign_Name (w_store H F p k)
theorem w_str {x : Str} {p : Pos} {Q : Value → Shared → Prop} {j : Nat} (k : ∀ t tk', Q (.str x t) (St s h tk')) : wpAny (model prog w) A (eval (.Constant (.str x) j p) env) Q E (St s h tk) := fun _ _ _ => k _ _
theorem w_int {i : Int} {p : Pos} {Q : Value → Shared → Prop} {j : Nat} (k : ∀ t tk', Q (.int i t) (St s h tk')) : wpAny (model prog w) A (eval (.Constant (.int i) j p) env) Q E (St s h tk) := fun _ _ _ => k _ _
theorem w_true {b : Bool} {p : Pos} {Q : Value → Shared → Prop} {j : Nat} (k : Q (.bool b) (St s h tk)) : wpAny (model prog w) A (eval (.Constant (.bool b) j p) env) Q E (St s h tk) := fun _ _ _ => k
theorem w_none {p : Pos} {Q : Value → Shared → Prop} {j : Nat} (k : Q .none (St s h tk)) : wpAny (model prog w) A (eval (.Constant .none j p) env) Q E (St s h tk) := fun _ _ _ => k
end
omit rt0 in
theorem entry_unchain : entryFor table "proto.unchain" = some Builtin.«proto.unchain» := entryFor_of_tree (by kernel_rfl)
section
variable {A : Around} {E : Value → Shared → Prop}
noncomputable def SameExc (c : Prop) (oa oa' : Obj) (vs : Array Value) : Prop := oa'.cls = oa.cls ∧ ∃ vs', oa'.data = .fields vs' ∧ vs'.size = vs.size ∧ (∀ i, c ∨ i ≠ 2 → vs'[i]? = vs[i]?)
theorem raiseNewH {s : Shared} {α : Type} {a : Addr} {oa : Obj} {vs : Array Value} {Q : α → Shared → Prop} (hd : HdOk A s.heap) (ha : s.heap.get? a = some oa) (hda : oa.data = .fields vs) (hz : 2 < vs.size)
  (hne : ∀ e0, A.handled = some (.ref e0) → a ≠ e0) (h : ∀ h' oa', Heap.SameBut a s.heap h' → h'.get? a = some oa' → SameExc (A.handled = none) oa oa' vs → E (.ref a) { s with heap := h' }) : wpAny (model prog w) A (raiseNew (.ref a) : Sem α) Q E s := by
 unfold raiseNew
 refine wpAny_bind (wpAny_handled ?_)
 fin_once o1 fail
 rcases hd with hn | ⟨e0, oe, ve, hs, he, _, hed, h2⟩
 all_goals fin_once o2 fail
 ·rw [hn]
  exact wpAny_bind (wpAny_pure (wpAny_throw (h s.heap oa (Heap.SameBut.refl ..) ha ⟨rfl, vs, hda, rfl, fun _ _ => rfl⟩)))
 ·rw [hs]
  dsimp only
  rw [if_pos (by have := hne e0 hs; simp; exact fun q => this q.symm)]
  refine wpAny_bind (wpAny_holding (wpAny_runValue (codeAny_builtin entry_unchain ?_)))
  show wpAny _ _ (field (.ref e0) 2 >>= _) _ _ _
  refine wpAny_bind (wpAny_field he hed h2 ?_)
  rw [if_pos (show (Value.none == Value.none) = true from by decide)]
  refine wpAny_pure ?_
  show wpAny _ _ (setField (.ref a) 2 (.ref e0) >>= fun _ => throw (.ref a)) _ _ _
  refine wpAny_bind (wpAny_setField ha hda hz (wpAny_throw (h _ _ (Heap.SameBut.update ..) (Heap.get?_update_self _ ha (Obj.isFreed_of_fields (Obj.data_mapFields hda _))) ⟨Obj.cls_mapFields .., _, Obj.data_mapFields hda _, by fin_once sm fail, fun i hi => ?_⟩)))
  rw [Array.getElem?_setIfInBounds_ne (Ne.symm (hi.resolve_left fun q => by rw [hs] at q; cases q))]
theorem HdOk.but {h h' : Heap} {it : Addr} {o : Obj} (x : HdOk A h) (ho : h.get? it = some o) (n : ∀ vs, o.data = .fields vs → vs[2]? ≠ some .none) (hs : Heap.SameBut it h h') : HdOk A h' := by
 rcases x with x | ⟨e0, oe, vs, a, b, f, d, r⟩
 ·exact .inl x
 ·refine .inr ⟨e0, oe, vs, a, (hs.2 e0 fun q => ?_).trans b, f, d, r⟩
  rw [q, ho] at b
  cases b
  exact n vs d r
theorem HdOk.push {h : Heap} (o : Obj) (x : HdOk A h) : HdOk A (h.push o) := x.ch (Ch.push [] h o)
theorem HdOk.ne {h : Heap} {a : Addr} (x : HdOk A h) (n : h.get? a = none) : ∀ e0, A.handled = some (.ref e0) → a ≠ e0 := fun e0 q z => by
 fin_once o1 fail
 rcases x with hn | ⟨e, oe, vs, hs, he, _⟩
 all_goals fin_once o2 fail
 ·rw [hn] at q; cases q
 ·rw [hs] at q
  cases q
  rw [z] at n
  rw [n] at he
  cases he
theorem next_tuple_endH {s : Shared} {it t : Addr} {i : Nat} {items} {Q : Option Value → Shared → Prop} (hh : HdOk A s.heap)
  (hit : IsTupIter s.heap it t i) (ht : IsTup s.heap t items) (hx : items[i]? = none)
  (hQ : ∀ h', Heap.ExtBut it s.heap h' → Q none { s with heap := h' }) : wpAny (model prog w) A (pyNext (.ref it)) Q E s := by
 fin_once o1 fail
 obtain ⟨o, ho, hc, hd⟩ := id hit
 obtain ⟨ol, hol, _, nl, hdl⟩ := ht
 fin_once o2 fail
 unfold pyNext
 refine wpAny_bind (wpAny_attempt (wpAny_callSpecial?_slot (name := Str.ofString "__next__") hit.typeIs slot_tupleiter_next
  (wpAny_call_entry slot_tupleiter_next hit.typeIs entry_tupleiter_next ?_ (args_tupleiter_next _))))
 show wpAny _ _ (field (.ref it) 0 >>= _) _ _ s
 refine wpAny_bind (wpAny_field ho hd (x := .ref t) rfl ?_)
 show wpAny _ _ (if (Value.ref t == Value.none) = true then _ else _) _ _ s
 rw [if_neg (show ¬ ((Value.ref t == Value.none) = true) from Bool.false_ne_true)]
 show wpAny _ _ (field (.ref it) 1 >>= _) _ _ s
 refine wpAny_bind (wpAny_field ho hd (x := .int i 0) rfl ?_)
 show wpAny _ _ (seqItems? (.ref t) >>= _) _ _ s
 refine wpAny_bind (wpAny_seqItems hol hdl ?_)
 simp only [Int.toNat_natCast, hx]
 refine wpAny_bind (wpAny_rule (wpAny_bind (wpAny_setField ho hd (by fin_once sm fail) ?_)))
 have hk := hh.but ho (fun vs q => by rw [hd] at q; cases q; simp) (Heap.SameBut.update s.heap it (Obj.mapFields (·.setIfInBounds 0 Value.none)))
 show wpAny _ _ (newExc (.type "StopIteration") [] >>= _) _ _ _
 refine wpAny_bind ?_
 simp only [newExc, newTuple]
 refine wpAny_bind (wpAny_newObj_type ?_ (by size_fits))
 refine wpAny_bind (m := firstArgMember _ _) (wpAny_of_eq (a := Value.none) (by first | rfl | (simp only [firstArgMember]; rfl)) ?_)
 refine wpAny_newObj_type ?_ (by size_fits)
 refine raiseNewH (A := A.in1) (s := { s with heap := _ }) ((hk.push _).push _) (Heap.get?_push_size _ rfl) rfl (by simp; fin_once om fail) ((hk.push _).ne (Heap.get?_none_of_le (Nat.le_refl _)) |> fun z => z) (fun h' oa' hs' ho' hx' => ?_)
 refine wpAny_bind (wpAny_isInstance (T := "StopIteration") (b := true) ⟨_, ho', hx'.1⟩ isSubtype_stop ?_)
 refine wpAny_pure (hQ _ fun b o' hb e => ?_)
 have e1 := (Heap.SameBut.update s.heap it (Obj.mapFields (·.setIfInBounds 0 Value.none))).extBut b o' hb e
 have e2 := Heap.get?_push_of_some { cls := .type "tuple", data := .seq #[] } e1
 refine (hs'.2 b ?_).trans (Heap.get?_push_of_some _ e2)
 exact Nat.ne_of_lt (Heap.lt_size e2)
theorem unpackItems_tupleH {s : Shared} {t : Addr} {items : Array Value} {n : Nat} {Q : List Value → Shared → Prop} (hh : HdOk A s.heap) (ht : IsTup s.heap t items) (hn : items.size = n)
  (hQ : ∀ h', (∀ b o, s.heap.get? b = some o → h'.get? b = some o) → Q items.toList { s with heap := h' }) : wpAny (model prog w) A (unpackItems (.ref t) n none) Q E s := by
 subst hn
 have hlt : t ≠ s.heap.objs.size := by obtain ⟨o, ho, _⟩ := ht; exact Nat.ne_of_lt (Heap.lt_size ho)
 unfold unpackItems
 refine wpAny_bind ?_
 ·unfold notIterableAtAll
  refine wpAny_bind (wpAny_specialOf ht.typeIs slot_tuple_iter.lookup ?_)
  refine wpAny_pure ?_
  simp only [Bool.false_eq_true, if_false]
  refine wpAny_bind (wpAny_holding (iter_tuple ht ?_))
  refine wpAny_bind (wpAny_holding (draw_tuple hlt items.size 0 _ _ ⟨_, Heap.get?_push_size _ rfl, rfl, rfl⟩ (ht.push _) (by fin_once om fail) fun h₁ hit₁ hs₁ => ?_))
  have hall : List.take items.size (List.drop 0 items.toList) = items.toList := by
   rw [List.drop_zero]; exact List.take_of_length_le (by fin_once sm fail)
  rw [hall]
  rw [if_neg (by fin_once sm fail)]
  have ht₁ : IsTup h₁ t items := (ht.push _).extBut hs₁.extBut hlt
  have hh₁ : HdOk A h₁ := (hh.push _).but (Heap.get?_push_size _ rfl) (fun vs q => by cases q; simp) hs₁
  refine wpAny_bind (wpAny_holding (next_tuple_endH (s := { s with heap := h₁ }) hh₁ hit₁ ht₁ (by fin_once sm fail) fun h₂ he₂ => ?_))
  simp only [Option.isSome_none, Bool.false_eq_true, if_false]
  exact wpAny_pure (hQ h₂ fun b o e => he₂ b o (Nat.ne_of_lt (Heap.lt_size e)) ((hs₁.2 b (Nat.ne_of_lt (Heap.lt_size e))).trans (Heap.get?_push_of_some _ e)))
end
noncomputable def EntOk (e : DictEntry) (f : Str × Value) : Prop := (∃ t, e.key = .str f.1 t) ∧ e.val = f.2
inductive Ents : List DictEntry → List (Str × Value) → Prop
 | nil : Ents [] []
 | cons {e f es fs} : EntOk e f → Ents es fs → Ents (e :: es) (f :: fs)
structure FldObj (fs : List (Str × Value)) (o : Obj) : Prop where
 is : ∃ es n, o = dictOf es n ∧ Ents es fs
 nd : (fs.map (·.1)).Nodup
omit rt0 in
theorem isStr_iff {x y : Str} {t : Tok} : (Value.str x t).isStr y = decide (y = x) := by
 show (x == y) = _
 by_cases h : y = x
 ·subst h; simp
 ·rw [decide_eq_false h]; exact beq_eq_false_iff_ne.mpr fun q => h q.symm
theorem Ents.find {es : List DictEntry} {fs : List (Str × Value)} (E : Ents es fs) (nd : (fs.map (·.1)).Nodup) {x : Str} {v : Value} (m : (x, v) ∈ fs) : ∃ e, es.find? (·.key.isStr x) = some e ∧ e.val = v := by
 induction E with
 | nil => cases m
 | @cons e f es fs a E ih =>
  fin_once o1 fail
  obtain ⟨⟨t, hk⟩, hv⟩ := a
  obtain ⟨n, nd⟩ := List.nodup_cons.mp nd
  fin_once o2 fail
  rw [List.find?_cons]
  rcases List.mem_cons.mp m with q | m
  ·have : e.key.isStr x = true := by rw [hk, isStr_iff, ← q]; simp
   exact ⟨e, by rw [this], by rw [hv, ← q]⟩
  ·have : e.key.isStr x = false := by
    rw [hk, isStr_iff]
    refine decide_eq_false fun z => n ?_
    show f.1 ∈ _
    rw [← z]
    exact List.mem_map_of_mem (f := (·.1)) m
   rw [this]
   exact ih nd m
theorem Ents.none {es : List DictEntry} {fs : List (Str × Value)} (E : Ents es fs) {x : Str} (m : x ∉ fs.map (·.1)) : es.find? (·.key.isStr x) = none ∧ es.any (·.refKey) = false := by
 induction E with
 | nil => exact ⟨rfl, rfl⟩
 | @cons e f es fs a E ih =>
  obtain ⟨⟨t, hk⟩, hv⟩ := a
  rw [List.find?_cons]
  have : e.key.isStr x = false := by
   rw [hk, isStr_iff]
   exact decide_eq_false fun z => m (by rw [z]; exact .head _)
  rw [this]
  refine ⟨(ih fun q => m (.tail _ q)).1, ?_⟩
  rw [List.any_cons, (ih fun q => m (.tail _ q)).2]
  simp [DictEntry.refKey, hk]
theorem getL_of {es : List DictEntry} {fs : List (Str × Value)} (E : Ents es fs) (nd : (fs.map (·.1)).Nodup) {x : Str} {v : Value} (m : (x, v) ∈ fs) : getL x es = some (some v) := by
 obtain ⟨e, h1, h2⟩ := E.find nd m
 unfold getL
 rw [h1]
 exact congrArg (fun v => some (some v)) h2
theorem getL_none {es : List DictEntry} {fs : List (Str × Value)} (E : Ents es fs) {x : Str} (m : x ∉ fs.map (·.1)) : getL x es = some none := by
 obtain ⟨h1, h2⟩ := E.none m
 unfold getL
 rw [h1]
 simp [h2]
theorem Ents.put {es : List DictEntry} {fs : List (Str × Value)} (E : Ents es fs) {x : Str} {v : Value} {hs : Int} {t : Tok} (m : x ∉ fs.map (·.1)) : Ents (putL x hs (.str x t) v es) (fs ++ [(x, v)]) := by
 induction E with
 | nil => exact .cons ⟨⟨t, rfl⟩, rfl⟩ .nil
 | @cons e f es fs a E ih =>
  have : e.key.isStr x = false := by
   obtain ⟨⟨t, hk⟩, hv⟩ := a
   rw [hk, isStr_iff]
   exact decide_eq_false fun z => m (by rw [z]; exact .head _)
  unfold putL
  rw [if_neg (by rw [this]; exact Bool.false_ne_true)]
  exact .cons a (ih fun q => m (.tail _ q))
omit rt0 in
theorem Ents.length {es : List DictEntry} {fs : List (Str × Value)} (E : Ents es fs) : es.length = fs.length := by
 induction E with
 | nil => rfl
 | cons _ _ ih => simp [ih]
structure Ins (h : Heap) (x C : Addr) (fs : List (Str × Value)) : Prop where
 is : ∃ dx o, h.get? x = some (instObj C dx) ∧ h.get? dx = some o ∧ FldObj fs o
theorem FldObj.fr {fs : List (Str × Value)} {b : Addr} {o : Obj} (F : FldObj fs o) : isFr b o = false := by
 obtain ⟨es, n, rfl, _⟩ := F.is
 rfl
theorem Ins.ch {h h' : Heap} {x C : Addr} {fs : List (Str × Value)} (I : Ins h x C fs) (c : Ch [] h h') : Ins h' x C fs := by
 fin_once o1 fail
 obtain ⟨dx, o, a, b, F⟩ := I.is
 fin_once o2 fail
 exact ⟨dx, o, c.same _ _ a (by fin_once sm fail) rfl, c.same _ _ b (by fin_once sm fail) F.fr, F⟩
structure AttrOk (K : Frag) (C : Addr) (name : Str) : Prop where
 g : plainGet K C name = true
 d : hasDictIn K C = true
 a : ∃ attr, findIn K (.ref C) name = some attr ∧ noGet K attr = true
structure MethOk (K : Frag) (C : Addr) (name : Str) (f : Addr) : Prop where
 g : plainGet K C name = true
 i : findIn K (.ref C) name = some (some (.ref f))
 t : isFn K (.ref f) = true
structure SetOk (K : Frag) (C : Addr) (name : Str) : Prop where
 s : findIn K (.ref C) "__setattr__" = some (some (.builtin "object.__setattr__"))
 p : plainOver K C = true
 t : takerIn K C name = some none
 d : hasDictIn K C = true
section
variable {A : Around} {E : Value → Shared → Prop} {h : Heap} {tk : Nat} {K : Frag} {x C : Addr} {fs : List (Str × Value)} {name : Str}
theorem get_attr {v : Value} {expr : Bool} {Q : Value → Shared → Prop} (X : K.In h) (I : Ins h x C fs) (O : AttrOk K C name) (m : (name, v) ∈ fs) (hv : handedIn v = true) (k : ∀ tk', Q v (St s h tk')) :
  wpAny (model prog w) A (getAttr (.ref x) name expr) Q E (St s h tk) := by
 fin_once o1 fail
 obtain ⟨dx, o, a, b, F⟩ := I.is
 fin_once o2 fail
 obtain ⟨es, n, rfl, Es⟩ := F.is
 obtain ⟨attr, h1, h2⟩ := O.a
 have I' : InstAt h x (instObj C dx) C (some (dictOf es n)) := ⟨a, rfl, rfl, b⟩
 exact get_value (s := St s h tk) X I' (plainGet_of O.g).1 (findObj_own O.d h1 h2 (getL_of Es F.nd m)) hv (k _)
theorem get_meth {f : Addr} {pl : Sem Bool} {Q : Value × List Value → Shared → Prop} (X : K.In h) (I : Ins h x C fs) (O : MethOk K C name f) (m : name ∉ fs.map (·.1)) (k : Q (.ref f, [.ref x]) (St s h tk)) :
  wpAny (model prog w) A (getMethod (.ref x) name pl) Q E (St s h tk) := by
 fin_once o1 fail
 obtain ⟨dx, o, a, b, F⟩ := I.is
 fin_once o2 fail
 obtain ⟨es, n, rfl, Es⟩ := F.is
 have I' : InstAt h x (instObj C dx) C (some (dictOf es n)) := ⟨a, rfl, rfl, b⟩
 refine method_fn (s := St s h tk) X I' (plainGet_of O.g).1 (plainGet_of O.g).2 O.i (beq_iff_eq.mp O.t) ?_ k
 show (lookIn name (dictOf es n)).map _ = _
 rw [lookIn_dict, getL_none Es m]
 rfl
theorem set_attr {dx : Addr} {o : Obj} {v : Value} {Q : Unit → Shared → Prop} (X : K.In h) (hx : h.get? x = some (instObj C dx)) (hd : h.get? dx = some o) (F : FldObj fs o) (O : SetOk K C name) (m : name ∉ fs.map (·.1)) (hz : fs.length ≤ 100)
  (k : ∀ h' o' tk', Heap.SameBut dx h h' → h'.get? dx = some o' → FldObj (fs ++ [(name, v)]) o' → Q () (St s h' tk')) :
  wpAny (model prog w) A (setAttr (.ref x) name v) Q E (St s h tk) := by
 obtain ⟨es, n, rfl, Es⟩ := F.is
 have I : InstAt h x (instObj C dx) C (some (dictOf es n)) := ⟨hx, rfl, rfl, hd⟩
 refine set_plain (s := St s h tk) X I O.s (osa_open (s := { St s h tk with toks := _ }) X I O.p O.t fun b => ?_)
 obtain ⟨cd, hc, hd'⟩ := any_some O.d
 have hgo := getL_none Es m
 have hfind := (Es.none m).1
 have hany : es.any (·.refKey) = false := (Es.none m).2
 have E' : ∀ t, Obj.putName name (PyData.keyHash w.params name) (.str name t) v (dictOf es n) = dictOf (putL name (PyData.keyHash w.params name) (.str name t) v es) (putN name es n) := fun t => putName_dict ..
 refine wpAny_bind (wpAny_pure (wpAny_bind (wpAny_bind (wpAny_loadPart hx (wpAny_bind ((looks_clsIn X hc).here ?_))))))
 rw [hd']
 refine wpAny_pure (a := some dx) (wpAny_bind (wpAny_pure (wpAny_bind ?_)))
 unfold nsSet
 refine wpAny_bind (wpAny_bind (wpAny_askSetting (wpAny_pure (wpAny_bind (wpAny_mkText (wpAny_bind (wpAny_loadPart hd ?_)))))))
 dsimp only
 have c : (!es.toArray.any (·.key.isStr name) && es.toArray.any (·.refKey)) = false := by
  rw [List.any_toArray, List.any_toArray, hany, Bool.and_false]
 rw [aRefKeyMayBeTheName_at, c]
 refine wpAny_updatePart hd ?_
 have D' : (h.update dx (Obj.putName name (PyData.keyHash w.params name) (.str name (tk + 1)) v)).get? dx = some (dictOf (putL name (PyData.keyHash w.params name) (.str name (tk + 1)) v es) (putN name es n)) := by
  rw [← E']
  exact Heap.get?_update_self _ hd (by rw [E']; rfl)
 refine wpAny_bind (wpAny_lookBehind D' (pastItsLine_dict (by
  have := (Es.put (v := v) (hs := PyData.keyHash w.params name) (t := tk + 1) m).length
  rw [List.size_toArray, this, sizeLine_eq, List.length_append]
  simp only [List.length_cons, List.length_nil]
  fin_once om fail)) ?_)
 refine wpAny_pure (k _ _ _ (Heap.SameBut.update ..) D' ⟨⟨_, _, rfl, Es.put m⟩, ?_⟩)
 rw [List.map_append, List.nodup_append]
 refine ⟨F.nd, by fin_once sm fail, fun a ha b hb q => m ?_⟩
 simp at hb
 rw [← hb, ← q]
 exact ha
end
section
variable {A : Around} {R : Result → Shared → Prop} {E : Value → Shared → Prop} {h : Heap} {g : Array GenState} {d : Drawn} {t : Nat} {os : OsState}
variable {nm q : Str} {C N : Addr} {bs bm bmB : List Value} {hdct : Bool} {sn : List Str} {sub : List Value} {ab : Bool} {col : Option Bool} {dd : Option Addr} {k0 k1 k2 k3 k5 : Option Value} {B newId initId : String}
structure TailOk (B : String) (bm : List Value) : Prop where
 b : bm.contains (.type B) = true
 a : bm.contains (.type "AttributeError") = false
 n : bm.contains (.type "NameError") = false
 x : bm.contains (.type "BaseException") = true
theorem own_new (F : ExcBaseFacts B newId initId bmB) (T : TailOk B bm) {rest : List Value} (hC : h.get? C = some (excClassObj nm q C N bs bm hdct sn sub ab col dd k0 k1 k2 k3 k5 newId)) (hrest : rest.length ≤ sizeLine)
  (hq : R (.ok (.ret (.ref (h.objs.size + 1)))) ⟨(h.push { cls := .type "tuple", data := .seq rest.toArray }).push
   { cls := .ref C, data := .fields #[.ref h.objs.size, .none, .none, .none, .bool false, .none] }, g, d, t, os⟩) :
  codeAny (model prog w) A (.builtin newId ⟨.ref C :: rest, []⟩) R ⟨h, g, d, t, os⟩ := by
 have hends := F.ends
 have hcB : (Value.ref C :: bm).contains (.type B) = true := by rw [List.contains_cons, T.b, Bool.or_true]
 have hcA : (Value.ref C :: bm).contains (.type "AttributeError") = false := by rw [List.contains_cons, T.a]; rfl
 have hcN : (Value.ref C :: bm).contains (.type "NameError") = false := by rw [List.contains_cons, T.n]; rfl
 refine codeAny_builtinAt F.entry ?_
 unfold Builtin.«BaseException.__new__»
 refine PySem.wpAt_bind ?_
 show PySem.wpAt _ _ _ (stack >>= _) _ _ _
 refine PySem.wpAt_bind (PySem.wpAt_stack fun p below => PySem.wpAt_of_wpAny ?_)
 wp_walk
 refine PySem.wpAt_of_wpAny ?_
 rw [F.owner]
 repeat (first | with_reducible refine wpAny_madeHere_exc F.canon hC ?_ | with_reducible refine wpAny_loadPart_at hC ?_ | (with_reducible refine wpAny_isSubtype_exc hC ?_; first | rw [hcB] | rw [hcA] | rw [hcN]) | wp_step)
 show R _ _
 rw [Heap.size_push]
 exact hq
theorem own_call (F : ExcBaseFacts B newId initId bmB) (T : TailOk B bm) {rest : List Value} {fI : Addr} {oI : Obj} {Q : Value → Shared → Prop}
  (hC : h.get? C = some (excClassObj nm q C N bs bm hdct sn sub ab col dd k0 k1 k2 k3 k5 newId)) (hl : ∀ M : Model, Looks M h (typeLookup (.ref C) "__init__") (some (.ref fI)))
  (hfI : h.get? fI = some oI) (hfc : oI.cls = .type "function") (hrest : rest.length ≤ sizeLine)
  (hq : ∀ h' e, Heap.MadeExcOf h h' e (.ref C) rest →
   wpAny (model prog w) (A.under (.builtin "type.__call__" ⟨.ref C :: rest, []⟩)) (call (.ref fI) (.ref e :: rest)) (fun r s' => r = .none ∧ Q (.ref e) s') E ⟨h', g, d, t, os⟩) :
  wpAny (model prog w) A (call (.ref C) rest) Q E ⟨h, g, d, t, os⟩ := by
 have f1 := tc_lookup
 have f2 := tc_bind (.ref C)
 have hT : (⟨h, g, d, t, os⟩ : Shared).TypeIs (.ref C) "type" := ⟨_, hC, rfl⟩
 refine wpAny_call (codeAny_of_tree ?_)
 show wpAny _ _ (callAny (.ref C) _) _ _ _
 repeat (any_goals (first | assumption | with_reducible refine wpAny_loadPart_at hC ?_ | wp_step))
 refine ⟨rfl, ?_⟩
 refine codeAny_call_builtin_at (Code.quiet_builtin _ (by decide +kernel)) entry_typeCall (wpAny_check_type_call_sub hC ?_)
 repeat (first | with_reducible refine wpAny_loadPart_at hC ?_ | with_reducible refine wpAny_madeBy_exc hC ?_ | wp_step)
 refine codeAny_call_builtin_code (Code.quiet_builtin _ F.quiet) (wpAny_check_new_subU F T.b .base hC ?_)
 refine own_new F T hC hrest ?_
 show wpAny _ _ _ _ _ _
 have hkp : ∀ b o, h.get? b = some o → ((h.push { cls := .type "tuple", data := .seq rest.toArray }).push { cls := .ref C, data := .fields #[.ref h.objs.size, .none, .none, .none, .bool false, .none] }).get? b = some o :=
  fun b o e => Heap.get?_push_of_some _ (Heap.get?_push_of_some _ e)
 have hC₁ := hkp _ _ hC
 have hfI₁ := hkp _ _ hfI
 have hget : ((h.push { cls := .type "tuple", data := .seq rest.toArray }).push
   { cls := .ref C, data := .fields #[.ref h.objs.size, .none, .none, .none, .bool false, .none] }).get? (h.objs.size + 1) = some
   { cls := .ref C, data := .fields #[.ref h.objs.size, .none, .none, .none, .bool false, .none] } := by heap_get
 have hcC : (Value.ref C :: bm).contains (.ref C) = true := by simp
 unfold isInstance
 repeat (first | with_reducible refine wpAny_loadPart_at hget ?_ | wp_step)
 refine wpAny_isSubtype_exc hC₁ ?_
 rw [hcC]
 repeat (first | with_reducible refine wpAny_loadPart_at hget ?_ | wp_step)
 show wpAny _ _ (typeLookup (.ref C) _) _ _ _
 refine hl _ _ _ _ _ hkp ?_
 refine wpAny_holding (wpAny_bind ?_)
 unfold bindSpecial
 refine wpAny_bind (wpAny_typeOf (T := "function") ⟨_, hfI₁, hfc⟩ ?_)
 rw [if_pos (by decide)]
 refine wpAny_pure (wpAny_bind (wpAny_mono (hq _ (h.objs.size + 1) ⟨hkp, Heap.get?_none_of_le (Nat.le_succ _), h.objs.size, hget, Heap.get?_none_of_le (Nat.le_refl _), ?_⟩) (fun r s' hr => ?_) fun _ _ x => x))
 ·exact Heap.get?_push_of_some _ (Heap.get?_push_at rfl rfl)
 ·obtain ⟨rfl, hQ⟩ := hr
  wp_walk
  exact hQ
omit rt0 in
theorem own_check_init (F : ExcBaseFacts B newId initId bmB) (T : TailOk B bm) {M : Model} {e : Addr} {oe : Obj} {rest : List Value} {Q : Unit → Shared → Prop}
  (hC : h.get? C = some (excClassObj nm q C N bs bm hdct sn sub ab col dd k0 k1 k2 k3 k5 newId)) (he : h.get? e = some oe) (hcls : oe.cls = .ref C) (hq : Q () ⟨h, g, d, t, os⟩) :
  wpAny M A (checkBuiltinCall initId ⟨.ref e :: rest, []⟩) Q E ⟨h, g, d, t, os⟩ := by
 have hcB : (Value.ref C :: bm).contains (.type B) = true := by rw [List.contains_cons, T.b, Bool.or_true]
 have hshort := F.noStar
 unfold checkBuiltinCall
 rw [F.initKind, F.initSplit]
 dsimp only
 repeat (first | (with_reducible refine wpAny_loadPart_at he ?_; rw [hcls]) | with_reducible refine wpAny_loadPart_at hC ?_ | (with_reducible refine wpAny_isSubtype_exc hC ?_; rw [hcB]) | wp_step)
 rw [F.initRow]
 dsimp only
 repeat (first | (with_reducible refine wpAny_loadPart_at he ?_; rw [hcls]) | with_reducible refine wpAny_loadPart_at hC ?_ | (with_reducible refine wpAny_isSubtype_exc hC ?_; rw [hcB]) | wp_step)
 refine wpAny_onRaise ?_
 rw [show ∀ (a b : String) (n : Nat), Bind.check ⟨.positional, "*", B, .self, [⟨"args", .varPos, false⟩]⟩ a b n (List.map (fun x => x.fst) ({ pos := Value.ref e :: rest } : Args).kw) = pure () from
  fun a b n => check_star_args _ _ _ _ _ _]
 exact wpAny_pure hq
theorem own_init (F : ExcBaseFacts B newId initId bmB) (T : TailOk B bm) {e : Addr} {oe : Obj} {vs : Array Value} {rest : List Value} {Q : Value → Shared → Prop}
  (hC : h.get? C = some (excClassObj nm q C N bs bm hdct sn sub ab col dd k0 k1 k2 k3 k5 newId)) (he : h.get? e = some oe) (hcls : oe.cls = .ref C) (hd : oe.data = .fields vs) (hz : 0 < vs.size) (hrest : rest.length ≤ sizeLine)
  (k : ∀ h' T', (∀ b o, b ≠ e → h.get? b = some o → h'.get? b = some o) → h'.get? e = some (oe.mapFields (·.setIfInBounds 0 T')) → Q .none ⟨h', g, d, t, os⟩) :
  wpAny (model prog w) A (call (.builtin initId) (.ref e :: rest)) Q E ⟨h, g, d, t, os⟩ := by
 refine wpAny_call (codeAny_call_builtin F.init.plain F.initEntry (own_check_init F T hC he hcls ?_))
 unfold Builtin.«BaseException.__init__»
 dsimp only
 rw [if_neg (show ¬ ((!([] : List (Str × Value)).isEmpty) = true) from by decide)]
 unfold newTuple
 refine wpAny_bind (wpAny_newObj_type ?_ (by show rest.toArray.size ≤ sizeLine; rw [List.size_toArray]; exact hrest))
 have he₁ := Heap.get?_push_of_some { cls := .type "tuple", data := .seq rest.toArray } he
 obtain ⟨v0, hv0⟩ : ∃ v, vs[0]? = some v := ⟨_, Array.getElem?_eq_getElem hz⟩
 have hk : ∀ b o, b ≠ e → h.get? b = some o → ((h.push { cls := .type "tuple", data := .seq rest.toArray }).update e (Obj.mapFields (·.setIfInBounds 0 (.ref h.objs.size)))).get? b = some o :=
  fun b o n q => (Heap.get?_update_other _ _ (Ne.symm n)).trans (Heap.get?_push_of_some _ q)
 have fin := k _ (.ref h.objs.size) hk (Heap.get?_update_self _ he₁ (Obj.isFreed_of_fields (Obj.data_mapFields hd _)))
 unfold Builtin.BaseException.bexcPut
 refine wpAny_bind (wpAny_bind (wpAny_field he₁ hd hv0 ?_))
 refine wpAny_bind (wpAny_setField he₁ hd hz ?_)
 split
 ·exact wpAny_letGo (wpAny_pure fin)
 ·exact wpAny_pure (wpAny_pure fin)
end
section
variable {A : Around} {E : Value → Shared → Prop} {h : Heap} {tk : Nat} {K : Frag} {e C : Addr} {name : Str}
open PySem.Builtin PySem.Builtin.ObjectAttr in
omit rt0 in
theorem refuse_exc (self : Value) : refuseLoop self "__setattr__" [.type "Exception", .type "BaseException", .type "object"] = pure () := by kernel_rfl
structure ExcOk (K : Frag) (C D : Addr) (name : Str) : Prop where
 s : findIn K (.ref C) "__setattr__" = some (some (.builtin "object.__setattr__"))
 f : findIn K (.ref C) name = some none
 d : hasDictIn K C = true
 m : ∃ cd, clsIn K C = some cd ∧ cd.mro = [.ref C, .ref D, .type "Exception", .type "BaseException", .type "object"]
 o : mroIn K C (.type "object") = some true
open PySem.Builtin PySem.Builtin.ObjectAttr in
theorem exc_open {D x : Addr} {ox : Obj} {od : Option Obj} {R : Result → Shared → Prop} {tk : Tok} {v : Value} {s : Shared} (X : K.In s.heap) (I : InstAt s.heap x ox C od) (O : ExcOk K C D name)
  (h : ∀ b, wpAny (model prog w) A.in1 (storeInOwnDict (.ref x) (.ref C) (.str name tk) name v b)
   (fun fin s' => match fin with | .done f => R (.ok f) s' | .again c' => c'.quiet = true ∧ codeAny (model prog w) A c' R s') (fun e s' => R (.error e) s') s) :
  codeAny (model prog w) A (.call (.builtin "object.__setattr__") ⟨[.ref x, .str name tk, v], []⟩) R s := by
 have SF := PySem.F.store_object
 obtain ⟨cd, hc, ho⟩ := O.m
 have sub : Looks (model prog w) s.heap (isInstance (.ref x) (.type "object")) true := I.type.andThen (looks_mroIn X O.o)
 refine codeAny_call_builtin SF.slot.plain SF.entry (@check_slot (model prog w) _ _ s "object.__setattr__" "object" "__setattr__" (.ref x) [.str name tk, v] [] _ SF.kind SF.split sub (SF.args (.ref x) (.str name tk) v) ?_)
 have hm : Looks (model prog w) s.heap (mroOf (.ref C)) cd.mro := (looks_clsIn X hc).andThen .now
 rw [osa_eq, refuse_eq]
 refine wpAny_bind (wpAny_bind (I.type.here (wpAny_bind (hm.here ?_))))
 rw [ho, refuseLoop_ref, refuseLoop_ref, refuse_exc]
 refine wpAny_pure (wpAny_bind (I.type.here (wpAny_bind ((looks_findIn X O.f).here (wpAny_bind ?_)))))
 exact wpAny_pure (h _)
structure ExcAt (h : Heap) (e C : Addr) (vs : Array Value) (fs : List (Str × Value)) : Prop where
 is : ∃ dd sl, h.get? e = some ⟨.ref C, dd, .fields vs, sl⟩ ∧ ((dd = none ∧ fs = []) ∨ ∃ dx o, dd = some dx ∧ dx ≠ e ∧ h.get? dx = some o ∧ FldObj fs o)
noncomputable def ButExc (e : Addr) (h h' : Heap) : Prop := ∀ b o, h.get? b = some o → b ≠ e → (∀ oe, h.get? e = some oe → oe.dict ≠ some b) → h'.get? b = some o
open PySem.Builtin PySem.Builtin.ObjectAttr in
theorem store_fld {dx : Addr} {o : Obj} {fs : List (Str × Value)} {v : Value} {ut : Tok} {Q : PySem.Fin → Shared → Prop} (hd : h.get? dx = some o) (F : FldObj fs o) (m : name ∉ fs.map (·.1)) (hz : fs.length ≤ 100)
  (k : ∀ h' o' tk', Heap.SameBut dx h h' → h'.get? dx = some o' → FldObj (fs ++ [(name, v)]) o' → Q (.done (.ret .none)) (St s h' tk')) : wpAny (model prog w) A (storeInDict dx (.str name ut) name v) Q E (St s h tk) := by
 obtain ⟨es, n, rfl, Es⟩ := F.is
 have hany : es.any (·.refKey) = false := (Es.none m).2
 have E' : ∀ t, Obj.putName name (PyData.keyHash w.params name) (.str name t) v (dictOf es n) = dictOf (putL name (PyData.keyHash w.params name) (.str name t) v es) (putN name es n) := fun t => putName_dict ..
 refine wpAny_bind (wpAny_pure (wpAny_bind ?_))
 unfold nsSet
 refine wpAny_bind (wpAny_bind (wpAny_askSetting (wpAny_pure (wpAny_bind (wpAny_mkText (wpAny_bind (wpAny_loadPart hd ?_)))))))
 dsimp only
 have c : (!es.toArray.any (·.key.isStr name) && es.toArray.any (·.refKey)) = false := by
  rw [List.any_toArray, List.any_toArray, hany, Bool.and_false]
 rw [aRefKeyMayBeTheName_at, c]
 refine wpAny_updatePart hd ?_
 have D' : (h.update dx (Obj.putName name (PyData.keyHash w.params name) (.str name tk) v)).get? dx = some (dictOf (putL name (PyData.keyHash w.params name) (.str name tk) v es) (putN name es n)) := by
  rw [← E']
  exact Heap.get?_update_self _ hd (by rw [E']; rfl)
 refine wpAny_bind (wpAny_lookBehind D' (pastItsLine_dict (by
  have := (Es.put (v := v) (hs := PyData.keyHash w.params name) (t := tk) m).length
  rw [List.size_toArray, this, sizeLine_eq, List.length_append]
  simp only [List.length_cons, List.length_nil]
  fin_once om fail)) ?_)
 refine wpAny_pure (k _ _ _ (Heap.SameBut.update ..) D' ⟨⟨_, _, rfl, Es.put m⟩, ?_⟩)
 rw [List.map_append, List.nodup_append]
 refine ⟨F.nd, by fin_once sm fail, fun a ha b hb q => m ?_⟩
 simp at hb
 rw [← hb, ← q]
 exact ha
open PySem.Builtin PySem.Builtin.ObjectAttr in
theorem set_exc {D : Addr} {vs : Array Value} {fs : List (Str × Value)} {v : Value} {Q : Unit → Shared → Prop} (X : K.In h) (I : ExcAt h e C vs fs) (O : ExcOk K C D name) (m : name ∉ fs.map (·.1)) (hz : fs.length ≤ 100)
  (k : ∀ h' tk', ButExc e h h' → (∀ oe d, h'.get? e = some oe → oe.dict = some d → h.get? d = none ∨ ∃ oe', h.get? e = some oe' ∧ oe'.dict = some d) → ExcAt h' e C vs (fs ++ [(name, v)]) → Q () (St s h' tk')) :
  wpAny (model prog w) A (setAttr (.ref e) name v) Q E (St s h tk) := by
 fin_once o1 fail
 obtain ⟨dd, sl, he, hdd⟩ := I.is
 obtain ⟨cd, hc, hd'⟩ := any_some O.d
 fin_once o2 fail
 rcases hdd with ⟨rfl, rfl⟩ | ⟨dx, o, rfl, hne, hd, F⟩
 ·have I' : InstAt h e ⟨.ref C, none, .fields vs, sl⟩ C none := ⟨he, rfl, rfl, trivial⟩
  refine set_plain (s := St s h tk) X I' O.s (exc_open (s := { St s h tk with toks := _ }) X I' O fun b => ?_)
  refine wpAny_bind (wpAny_pure (wpAny_bind (wpAny_bind (wpAny_loadPart he (wpAny_bind ((looks_clsIn X hc).here ?_))))))
  rw [hd']
  rw [if_neg (by decide)]
  dsimp only
  rw [if_neg (show ¬ ((!true || !typeHasDict (.ref C)) = true) from by simp [typeHasDict])]
  refine wpAny_bind (wpAny_alloc (wpAny_bind ?_))
  have he₁ := Heap.get?_push_of_some { cls := .type "dict", data := .dict #[] } he
  have hne : h.objs.size ≠ e := Nat.ne_of_gt (Heap.lt_size he)
  refine wpAny_update he₁ (wpAny_bind (wpAny_pure (wpAny_pure ?_)))
  have he₂ := Heap.get?_update_self (fun o => { cls := o.cls, dict := some h.objs.size, data := o.data, slots := o.slots }) he₁ rfl
  have hd₂ : ((h.push { cls := .type "dict", data := .dict #[] }).update e (fun o => { cls := o.cls, dict := some h.objs.size, data := o.data, slots := o.slots })).get? h.objs.size = some (dictOf [] 0) :=
   (Heap.get?_update_other _ _ (Ne.symm hne)).trans (Heap.get?_push_size _ rfl)
  refine store_fld (tk := tk + 1) (o := dictOf [] 0) (fs := []) hd₂ ⟨⟨[], 0, rfl, .nil⟩, by fin_once sm fail⟩ (by fin_once sm fail) (by fin_once sm fail) fun h' o' tk' hs ho' F' => ?_
  have he' := (hs.2 e (Ne.symm hne)).trans he₂
  refine k h' tk' (fun b o hb n _ => ?_) (fun oe d q1 q2 => ?_) ⟨_, _, he', .inr ⟨h.objs.size, o', rfl, hne, ho', F'⟩⟩
  ·have nb : b ≠ h.objs.size := Nat.ne_of_lt (Heap.lt_size hb)
   exact (hs.2 b nb).trans ((Heap.get?_update_other _ _ (Ne.symm n)).trans (Heap.get?_push_of_some _ hb))
  ·rw [he'] at q1
   cases q1
   cases q2
   exact .inl (Heap.get?_none_of_le (Nat.le_refl _))
 ·have I' : InstAt h e ⟨.ref C, some dx, .fields vs, sl⟩ C (some o) := ⟨he, rfl, rfl, hd⟩
  refine set_plain (s := St s h tk) X I' O.s (exc_open (s := { St s h tk with toks := _ }) X I' O fun b => ?_)
  refine wpAny_bind (wpAny_pure (wpAny_bind (wpAny_bind (wpAny_loadPart he (wpAny_bind ((looks_clsIn X hc).here ?_))))))
  rw [hd']
  refine wpAny_pure (a := some dx) ?_
  refine store_fld (tk := tk + 1) hd F m hz fun h' o' tk' hs ho' F' => ?_
  have he' := (hs.2 e (Ne.symm hne)).trans he
  refine k h' tk' (fun b o hb n nd => ?_) (fun oe d q1 q2 => ?_) ⟨_, _, he', .inr ⟨dx, o', rfl, hne, ho', F'⟩⟩
  ·have nb : b ≠ dx := fun z => nd _ he (by rw [z])
   exact (hs.2 b nb).trans hb
  ·rw [he'] at q1
   cases q1
   exact .inr ⟨_, he, q2⟩
end
inductive FlyT (bs : List Heap) (h : Heap) (a : Addr) (fl : Value → Prop) (vs : Array Value) : Prop
 | n (h1 : vs[1]? = some .none) (hfl : fl .ellipsis)
 | t {T : Addr} {oT : Obj} {ts : Array Value} {v : Value} (h1 : vs[1]? = some (.ref T)) (hTn : ∀ g ∈ bs, g.get? T = none) (hTa : T ≠ a) (hT : h.get? T = some oT) (hfT : isFr T oT = false) (hdT : oT.data = .fields ts) (hzT : 3 < ts.size) (h3 : ts[3]? = some v) (hfl : fl v)
inductive Fly (C : Addr) (bs : List Heap) (h : Heap) (a : Addr) (fl : Value → Prop) (c : Prop) : Prop
 | mk {oe : Obj} {vs : Array Value} (new : ∀ g ∈ bs, g.get? a = none) (he : h.get? a = some oe) (hcls : oe.cls = .ref C) (hd : oe.data = .fields vs) (hz : 2 < vs.size) (hc : c → vs[2]? = some .none) (hh : FlyT bs h a fl vs)
theorem Fly.new {C : Addr} {bs : List Heap} {h : Heap} {a : Addr} {fl : Value → Prop} {c : Prop} (f : Fly C bs h a fl c) : ∀ g ∈ bs, g.get? a = none := by
 cases f; assumption
theorem Fly.is {C : Addr} {bs : List Heap} {h : Heap} {a : Addr} {fl : Value → Prop} {c : Prop} (f : Fly C bs h a fl c) : ∃ oe vs, h.get? a = some oe ∧ oe.cls = .ref C ∧ oe.data = .fields vs ∧ 2 < vs.size ∧ (c → vs[2]? = some .none) ∧ FlyT bs h a fl vs := by
 cases f
 exact ⟨_, _, by assumption, by assumption, by assumption, by assumption, by assumption, by assumption⟩
abbrev anyFl (L : Addr) : Value → Prop := fun v => v = .ellipsis ∨ v = .none ∨ v = rawInt L
abbrev restFl : Value → Prop := fun v => v = .none
abbrev noted (L : Addr) : Value → Prop := fun v => v = rawInt L
noncomputable def frs (l : List Env) : List Addr := l.filterMap (·.frame)
theorem FF.at {h : Heap} {l : List Env} (x : FF h l) {b : Addr} (m : b ∈ frs l) : ∃ o, h.get? b = some o ∧ isFr b o = true ∧ ∀ vs, o.data ≠ .fields vs := by
 fin_once o1 fail
 obtain ⟨env, he, hf⟩ := List.mem_filterMap.mp m
 obtain ⟨_, L, o, hf', ho, hr, hd⟩ := x env he
 fin_once o2 fail
 rw [hf] at hf'
 cases hf'
 exact ⟨o, ho, hr, hd⟩
theorem FF.funF {h base : Heap} : ∀ {l : List Env}, FF h l → (∀ b ∈ frs l, base.get? b = none) → h.FunFrames base l
 | [], _, _ => trivial
 | env :: l, x, n => by
  fin_once o1 fail
  obtain ⟨hk, L, o, hf, ho, hr, hd⟩ := x env (.head _)
  fin_once o2 fail
  refine ⟨hk, ⟨L, o, hf, n L ?_, ho, hd⟩, FF.funF (fun e m => x e (.tail _ m)) fun b m => n b ?_⟩
  ·unfold frs; rw [List.filterMap_cons, hf]; exact .head _
  ·unfold frs; rw [List.filterMap_cons, hf]; exact .tail _ m
theorem FF.env {h : Heap} {env : Env} {l : List Env} {L : Addr} (x : FF h (env :: l)) (hf : env.frame = some L) : L ∈ frs (env :: l) := by
 unfold frs; rw [List.filterMap_cons, hf]; exact .head _
theorem FF.not {h : Heap} {l : List Env} {e : Addr} {oe : Obj} (x : FF h l) (he : h.get? e = some oe) (hfe : isFr e oe = false) : e ∉ frs l := fun m => by
 fin_once o1 fail
 obtain ⟨o, ho, hr, _⟩ := x.at m
 fin_once o2 fail
 rw [he] at ho
 cases ho
 rw [hfe] at hr
 cases hr
section
variable {M : Model} {A : Around} {E : Value → Shared → Prop} {env : Env} {l : List Env} {L e : Addr} {oe : Obj} {vs : Array Value}
theorem note_entry {s : Shared} {head : Value} {hn : Bool} {Q : Unit → Shared → Prop} (hfr : A.frames = some (env :: l)) (hff : FF s.heap (env :: l)) (hf : env.frame = some L) (he : s.heap.get? e = some oe) (hfe : isFr e oe = false) (hd : oe.data = .fields vs) (hz : 1 < vs.size)
  (k : ∀ h' T oT ts, (∀ b o, s.heap.get? b = some o → b ≠ e → b ∉ frs (env :: l) → h'.get? b = some o) → (∀ b o, s.heap.get? b = some o → b ∈ frs (env :: l) → ∃ sl, h'.get? b = some { o with slots := sl }) →
   h'.get? e = some (oe.mapFields (·.setIfInBounds 1 (.ref T))) → s.heap.get? T = none → h'.get? T = some oT → isFr T oT = false → oT.data = .fields ts → 3 < ts.size → ts[3]? = some (rawInt L) → Q () { s with heap := h' }) :
  wpAny M A (do let a ← frameOf env; let pl ← entryPlaceOf L hn; let b ← EntryCells.newEntry head a .none (rawInt L) .none pl; setField (.ref e) 1 b) Q E s := by
 have hl : s.heap.FunFrames {} (env :: l) := hff.funF fun b _ => by
  cases q : ({} : Heap).get? b with
  | none => rfl
  | some o => exact absurd (Heap.lt_size q) (Nat.not_lt_zero _)
 have hene : e ∉ frs (env :: l) := fun m => by
  fin_once o1 fail
  obtain ⟨o, ho, hr, _⟩ := hff.at m
  fin_once o2 fail
  rw [he] at ho
  cases ho
  rw [hfe] at hr
  cases hr
 refine wpAny_bind (wpAny_frameOf_fun hfr hl hf fun h₁ hs₁ => ?_)
 refine wpAny_bind (wpAny_entryPlaceOf fun pl hpl => ?_)
 unfold EntryCells.newEntry newFields
 refine wpAny_bind (wpAny_newObj_type ?_ (hpl.sizeOk5 _ _ _ _ _))
 have he₁ : h₁.get? e = some oe := (hs₁.2.1 e hene).trans he
 have he₂ := Heap.get?_push_of_some (h := h₁) { cls := .type "traceback", dict := none, data := .fields ([head, .ref L, .none, rawInt L, .none] ++ (if pl.isEmpty then List.replicate 6 Value.none else pl)).toArray } he₁
 refine wpAny_setField he₂ hd hz ?_
 have hTe : h₁.objs.size ≠ e := Nat.ne_of_gt (Heap.lt_size he₁)
 have hd₃ := Obj.data_mapFields hd (·.setIfInBounds 1 (Value.ref h₁.objs.size))
 have keep : ∀ b o, b ≠ e → h₁.get? b = some o →
   ((h₁.push { cls := .type "traceback", dict := none, data := .fields ([head, .ref L, .none, rawInt L, .none] ++ (if pl.isEmpty then List.replicate 6 Value.none else pl)).toArray }).update e (Obj.mapFields (·.setIfInBounds 1 (Value.ref h₁.objs.size)))).get? b = some o := fun b o hbe hb => by
  rw [Heap.get?_update_other _ _ (Ne.symm hbe)]
  exact Heap.get?_push_of_some _ hb
 refine k _ h₁.objs.size _ _ (fun b o hb n nf => keep b o n ((hs₁.2.1 b nf).trans hb)) (fun b o hb m => ?_) (Heap.get?_update_self _ he₂ (Obj.isFreed_of_fields hd₃)) ?_
  ((Heap.get?_update_other _ _ (Ne.symm hTe)).trans (Heap.get?_push_size h₁ rfl)) rfl rfl (by fin_once sm fail) (by first | (simp; done) | (rcases hpl with rfl | ⟨_, _, _, _, _, _, _, rfl⟩ <;> simp))
 ·obtain ⟨sl, q⟩ := hs₁.2.2 b o hb
  exact ⟨sl, keep b _ (fun z => hene (z ▸ m)) q⟩
 ·cases q : s.heap.get? h₁.objs.size with
  | none => rfl
  | some o =>
   obtain ⟨sl, z⟩ := hs₁.2.2 _ o q
   exact absurd (Heap.lt_size z) (Nat.lt_irrefl _)
theorem isFr_ref {b : Addr} {o : Obj} {C : Addr} (h : o.cls = .ref C) : isFr b o = false := isFr_no (by unfold isF0; rw [h]; rfl)
theorem note_fly {s : Shared} {C a : Addr} {bs : List Heap} {c : Prop} {Q : Unit → Shared → Prop} (hfr : A.frames = some (env :: l)) (hff : FF s.heap (env :: l)) (hf : env.frame = some L) (x : ∀ g ∈ bs, Ch [] g s.heap) (f : Fly C bs s.heap a (anyFl L) c)
  (k : ∀ h', (∀ g ∈ bs, Ch [] g h') → FF h' (env :: l) → Fly C bs h' a (noted L) c → Q () { s with heap := h' }) : wpAny M A (noteFrame (.ref a) env) Q E s := by
 fin_once o1 fail
 obtain ⟨oe, vs, he, hcls, hd, hz, hc, hh⟩ := f.is
 fin_once o2 fail
 have hfe : ∀ {b}, isFr b oe = false := isFr_ref hcls
 have ne : ∀ g ∈ bs, ∀ b o, g.get? b = some o → b ≠ a := fun g m b o q z => by rw [z, f.new g m] at q; cases q
 have fin : ∀ (h₁ h' : Heap) T oT ts, h₁.get? a = some oe → (∀ g ∈ bs, Ch [] g h₁) → FF h₁ (env :: l) → (∀ b o, h₁.get? b = some o → b ≠ a → b ∉ frs (env :: l) → h'.get? b = some o) → (∀ b o, h₁.get? b = some o → b ∈ frs (env :: l) → ∃ sl, h'.get? b = some { o with slots := sl }) →
   h'.get? a = some (oe.mapFields (·.setIfInBounds 1 (.ref T))) → h₁.get? T = none → h'.get? T = some oT → isFr T oT = false → oT.data = .fields ts → 3 < ts.size → ts[3]? = some (rawInt L) → Q () { s with heap := h' } := by
  intro h₁ h' T oT ts he₁ x₁ hff₁ p1 p2 p3 p4 p5 p6 p7 p8 p9
  have hTn : ∀ g ∈ bs, g.get? T = none := fun g m => by
   cases q : g.get? T with
   | none => rfl
   | some o =>
    obtain ⟨sl, z⟩ := (x₁ g m).some q (by fin_once sm fail)
    rw [p4] at z
    cases z
  refine k h' (fun g m => ⟨fun b o q _ fr => ?_, fun b o q fr => ?_⟩) (fun env' m => ?_) (.mk (vs := vs.setIfInBounds 1 (.ref T)) f.new p3 (by rw [Obj.cls_mapFields]; exact hcls) (Obj.data_mapFields hd _) (by simpa using hz) (fun z => by rw [Array.getElem?_setIfInBounds_ne (by decide)]; exact hc z)
   (.t (T := T) (v := rawInt L) (by rw [Array.getElem?_setIfInBounds_self]; exact if_pos (by fin_once om fail)) hTn (fun z => by rw [z, he₁] at p4; cases p4) p5 p6 p7 p8 p9 rfl))
  ·have q₁ := (x₁ g m).same b o q (by fin_once sm fail) fr
   exact p1 b o q₁ (ne g m b o q) (hff₁.not q₁ fr)
  ·obtain ⟨sl, q₁⟩ := (x₁ g m).fr b o q fr
   by_cases mm : b ∈ frs (env :: l)
   ·obtain ⟨sl', q₂⟩ := p2 b _ q₁ mm
    exact ⟨sl', q₂⟩
   ·exact ⟨sl, p1 b _ q₁ (ne g m b o q) mm⟩
  ·fin_once o1 fail
   obtain ⟨hk, b, o, hf', ho, hr, hdd⟩ := hff₁ env' m
   fin_once o2 fail
   have mm : b ∈ frs (env :: l) := List.mem_filterMap.mpr ⟨env', m, hf'⟩
   obtain ⟨sl, q⟩ := p2 b o ho mm
   exact ⟨hk, b, _, hf', q, hr, hdd⟩
 unfold noteFrame
 simp only [hf]
 rcases hh with ⟨h1, _⟩ | ⟨h1, hTn, hTa, hT, hfT, hdT, hzT, h3, hfl⟩
 ·refine wpAny_bind (wpAny_field he hd h1 ?_)
  rw [if_neg (by decide)]
  exact note_entry hfr hff hf he hfe hd (by fin_once om fail) fun h' T oT ts p1 p2 p3 p4 p5 p6 p7 p8 p9 => fin s.heap h' T oT ts he x hff p1 p2 p3 p4 p5 p6 p7 p8 p9
 ·rename_i T oT ts v
  refine wpAny_bind (wpAny_field he hd h1 ?_)
  rw [if_pos (show (Value.ref T != Value.none) = true from by simp)]
  refine wpAny_bind (wpAny_field hT hdT h3 ?_)
  by_cases hv : v = rawInt L
  ·subst hv
   rw [if_pos (by fin_once sm fail)]
   refine wpAny_pure (k s.heap x hff (.mk f.new he hcls hd hz hc (.t h1 hTn hTa hT hfT hdT hzT h3 rfl)))
  ·have hv' : (v == rawInt L) = false := by
    rcases hfl with rfl | rfl | rfl
    ·rfl
    ·rfl
    ·exact absurd rfl hv
   rw [if_neg (by rw [hv']; decide)]
   refine wpAny_bind (wpAny_setField hT hdT hzT ?_)
   have hu := fun b (n : T ≠ b) => Heap.get?_update_other s.heap (Obj.mapFields (·.setIfInBounds 3 Value.none)) n
   have nT : ∀ g ∈ bs, ∀ b o, g.get? b = some o → T ≠ b := fun g m b o q z => by rw [← z, hTn g m] at q; cases q
   have hffu : FF (s.heap.update T (Obj.mapFields (·.setIfInBounds 3 Value.none))) (env :: l) := fun env' m => by
    fin_once o1 fail
    obtain ⟨hk, b, o, hf', ho, hr, hdd⟩ := hff env' m
    fin_once o2 fail
    refine ⟨hk, b, o, hf', (hu b fun z => ?_).trans ho, hr, hdd⟩
    subst z
    rw [hT] at ho
    cases ho
    rw [hfT] at hr
    cases hr
   have xu : ∀ g ∈ bs, Ch [] g (s.heap.update T (Obj.mapFields (·.setIfInBounds 3 Value.none))) := fun g m => ⟨fun b o q n fr => (hu b (nT g m b o q)).trans ((x g m).same b o q n fr), fun b o q fr => by
    obtain ⟨sl, z⟩ := (x g m).fr b o q fr
    exact ⟨sl, (hu b (nT g m b o q)).trans z⟩⟩
   refine note_entry (s := { s with heap := _ }) hfr hffu hf ((hu a hTa).trans he) hfe hd (by fin_once om fail) fun h' T' oT' ts' p1 p2 p3 p4 p5 p6 p7 p8 p9 => fin _ h' T' oT' ts' ((hu a hTa).trans he) xu hffu p1 p2 p3 p4 p5 p6 p7 p8 p9
theorem flight_fly {s : Shared} {C a : Addr} {bs : List Heap} {c : Prop} {fl : Value → Prop} {f : Option Addr} {Q : Unit → Shared → Prop} (hff : FF s.heap l) (x : ∀ g ∈ bs, Ch [] g s.heap) (y : Fly C bs s.heap a fl c) (nf : ¬ fl .ellipsis)
  (k : ∀ h', (∀ g ∈ bs, Ch [] g h') → FF h' l → Fly C bs h' a (fun v => v = f.elim .none fun f => rawInt f) c → Q () { s with heap := h' }) : wpAny M A (setFlight (.ref a) f) Q E s := by
 fin_once o1 fail
 obtain ⟨oe, vs, he, hcls, hd, hz, hc, hh⟩ := y.is
 fin_once o2 fail
 rcases hh with ⟨_, h⟩ | ⟨h1, hTn, hTa, hT, hfT, hdT, hzT, h3, hfl⟩
 ·exact absurd h nf
 rename_i T oT ts v
 unfold setFlight
 refine wpAny_bind (wpAny_field he hd h1 ?_)
 rw [if_pos (show (Value.ref T != Value.none) = true from by simp)]
 refine wpAny_setField hT hdT hzT ?_
 have hu := fun b (n : T ≠ b) => Heap.get?_update_other s.heap (Obj.mapFields (·.setIfInBounds 3 (f.elim Value.none fun f => rawInt f))) n
 have nT : ∀ g ∈ bs, ∀ b o, g.get? b = some o → T ≠ b := fun g m b o q z => by rw [← z, hTn g m] at q; cases q
 refine k _ (fun g m => ⟨fun b o q n fr => (hu b (nT g m b o q)).trans ((x g m).same b o q n fr), fun b o q fr => ?_⟩) (fun env' m => ?_) (.mk y.new ((hu a hTa).trans he) hcls hd hz hc (.t h1 hTn hTa (Heap.get?_update_self _ hT (Obj.isFreed_of_fields (Obj.data_mapFields hdT _))) ?_ (Obj.data_mapFields hdT _) (by simpa using hzT) (by rw [Array.getElem?_setIfInBounds_self]; exact if_pos hzT) rfl))
 ·obtain ⟨sl, z⟩ := (x g m).fr b o q fr
  exact ⟨sl, (hu b (nT g m b o q)).trans z⟩
 ·fin_once o1 fail
  obtain ⟨hk, b, o, hf', ho, hr, hdd⟩ := hff env' m
  fin_once o2 fail
  refine ⟨hk, b, o, hf', (hu b fun z => ?_).trans ho, hr, hdd⟩
  subst z
  rw [hT] at ho
  cases ho
  rw [hfT] at hr
  cases hr
 ·exact isFr_cls0 (Obj.cls_mapFields ..) hfT
theorem leave_fly {s : Shared} {C a : Addr} {bs : List Heap} {c : Prop} {Q : Unit → Shared → Prop} (hfr : A.frames = some (env :: l)) (hff : FF s.heap (env :: l)) (hf : env.frame = some L) (x : ∀ g ∈ bs, Ch [] g s.heap) (f : Fly C bs s.heap a (anyFl L) c)
  (k : ∀ h', (∀ g ∈ bs, Ch [] g h') → FF h' (env :: l) → Fly C bs h' a restFl c → Q () { s with heap := h' }) : wpAny M A (do noteFrame (.ref a) env; setFlight (.ref a) none) Q E s :=
 wpAny_bind (note_fly hfr hff hf x f fun h' x' ff' f' => flight_fly (s := { s with heap := h' }) ff' x' f' (fun q => by cases q) fun h'' x'' ff'' f'' => k h'' x'' ff'' f'')
theorem Fly.weak {C a : Addr} {bs : List Heap} {h : Heap} {fl fl' : Value → Prop} {c c' : Prop} (f : Fly C bs h a fl c) (k : ∀ v, fl v → fl' v) (kc : c' → c) : Fly C bs h a fl' c' := by
 induction f
 rename_i n he hcls hd hz hc hh
 refine .mk n he hcls hd hz (fun z => hc (kc z)) ?_
 induction hh with
 | n h1 q => exact .n h1 (k _ q)
 | t h1 hTn hTa hT hfT hdT hzT h3 q => exact .t h1 hTn hTa hT hfT hdT hzT h3 (k _ q)
theorem Fly.old {C a : Addr} {bs bs' : List Heap} {h : Heap} {fl : Value → Prop} {c : Prop} (f : Fly C bs h a fl c) (k : ∀ g ∈ bs', ∃ g' ∈ bs, Ch [] g g') : Fly C bs' h a fl c := by
 have key : ∀ b, (∀ g ∈ bs, g.get? b = none) → ∀ g ∈ bs', g.get? b = none := fun b n g m => by
  obtain ⟨g', m', x⟩ := k g m
  cases q : g.get? b with
  | none => rfl
  | some o =>
   obtain ⟨sl, z⟩ := x.some q (by fin_once sm fail)
   rw [n g' m'] at z
   cases z
 induction f
 rename_i n he hcls hd hz hc hh
 refine .mk (key a n) he hcls hd hz hc ?_
 induction hh with
 | n h1 q => exact .n h1 q
 | t h1 hTn hTa hT hfT hdT hzT h3 q => exact .t h1 (key _ hTn) hTa hT hfT hdT hzT h3 q
end
inductive Esc (nf : Addr) (A : Around) (bs : List Heap) (L : Addr) : Value → Shared → Prop
 | mk {a : Addr} {h' : Heap} {tk' : Nat} {l : List Env} (x : ∀ g ∈ bs, Ch [] g h') (l1 : A.frames = some l) (l2 : FF h' l) (f : Fly nf bs h' a (anyFl L) (A.handled = none)) : Esc nf A bs L (.ref a) (St s h' tk')
inductive Rse (nf : Addr) (A : Around) (bs : List Heap) : Value → Shared → Prop
 | mk {a : Addr} {h' : Heap} {tk' : Nat} (x : ∀ g ∈ bs, Ch [] g h') (f : Fly nf bs h' a restFl (A.handled = none)) : Rse nf A bs (.ref a) (St s h' tk')
section
variable {M : Model} {A : Around} {env : Env} {L nf : Addr} {bs bs' : List Heap} {ks gs : List Str} {cs : List Cell} {vs : List (Option Value)} {h : Heap}
theorem Rse.esc {e : Value} {s' : Shared} (H : At A bs L ks cs vs h) (r : Rse nf A [h] e s') : Esc nf A bs L e s' := by
 induction r
 rename_i a h' tk' x f
 obtain ⟨l, l1, l2⟩ := H.ff
 have x := x h (.head _)
 exact (.mk (fun g m => (H.ch g m).trans x) l1 (x.ff l2) ((f.old fun g m => ⟨h, .head _, H.ch g m⟩).weak (fun _ q => .inr (.inl q)) id))
theorem Esc.lv {e : Value} {s' : Shared} {E : Value → Shared → Prop} (F : Fn (A.deeper env) env L ks gs) (r : Esc nf (A.deeper env) bs L e s') (k : ∀ e s', Rse nf A bs e s' → E e s') : Lv M A env E e s' := by
 induction r
 rename_i a h' tk' l x l1 l2 f
 obtain ⟨l', e'⟩ := F.fs
 rw [e'] at l1
 cases l1
 exact leave_fly (s := St s h' tk') e' l2 F.frame x f fun h'' x'' _ f'' => k _ _ (.mk x'' f'')
theorem Esc.through {A' : Around} {e : Value} {s' : Shared} {E : Value → Shared → Prop} (F : Fn A env L ks gs) (ha : A'.frames = A.frames) (hc : A.handled = none → A'.handled = none) (r : Esc nf A' bs L e s') (k : ∀ e s', Esc nf A bs L e s' → E e s') : notedBy M A' env (fun e s' => cameBackBy M A env E e s') e s' := by
 induction r
 rename_i a h' tk' l x l1 l2 f
 obtain ⟨l', e'⟩ := F.fs
 rw [ha, e'] at l1
 cases l1
 refine note_fly (s := St s h' tk') (ha.trans e') l2 F.frame x f fun h'' x'' ff'' f'' => ?_
 show wpAny M A _ _ _ _
 fin_once o1 fail
 obtain ⟨oe, ws, he, hcls, hd, hz, hc', hh⟩ := id f''.is
 fin_once o2 fail
 rcases hh with ⟨_, h⟩ | ⟨h1, hTn, hTa, hT, hfT, hdT, hzT, h3, hfl⟩
 ·cases h
 rename_i T oT ts v
 refine wpAny_bind (wpAny_field he hd h1 ?_)
 rw [if_neg (by fin_once sm fail)]
 rw [F.frame]
 refine flight_fly (s := { s with heap := h'', toks := tk' }) ff'' x'' f'' (fun q => by cases q) fun h₃ x₃ ff₃ f₃ => k _ _ (.mk x₃ e' ff₃ (f₃.weak (fun _ q => .inr (.inr q)) hc))
end
structure Rm (A : Around) (n : Nat) : Prop where
 dp : A.depth + 2 * n < recursionLimit
 un : A.units + 8 * n + 100 < cLine
omit rt0 in
theorem Rm.le {A : Around} {n m : Nat} (r : Rm A n) (h : m ≤ n) : Rm A m :=
 ⟨Nat.lt_of_le_of_lt (Nat.add_le_add_left (Nat.mul_le_mul_left 2 h) _) r.dp, Nat.lt_of_le_of_lt (Nat.add_le_add_right (Nat.add_le_add_left (Nat.mul_le_mul_left 8 h) _) 100) r.un⟩
omit rt0 in
theorem Rm.up {A B : Around} {n : Nat} (r : Rm A (n + 1)) (d : B.depth ≤ A.depth + 1) (u : B.units ≤ A.units + 8) : Rm B n :=
 ⟨Nat.lt_of_le_of_lt (Nat.add_le_add_right d _) ((Nat.add_right_comm A.depth 1 (2 * n) : _ = _) ▸ Nat.lt_of_succ_lt r.dp), Nat.lt_of_le_of_lt (Nat.add_le_add_right (Nat.add_le_add_right u _) 100) ((Nat.add_right_comm A.units 8 (8 * n) : _ = _) ▸ r.un)⟩
omit rt0 in
theorem Rm.deeper {A : Around} {n m : Nat} {env : Env} (r : Rm A n) (h : m + 1 ≤ n) : Rm (A.deeper env) m :=
 (r.le h).up (Nat.le_refl _) (Nat.add_le_add_left (Nat.le_of_ble_eq_true (n := 3) (m := 8) rfl) A.units)
omit rt0 in
theorem Rm.un0 {A : Around} {n k : Nat} (r : Rm A n) (h : Nat.ble k 100 = true) : A.units + k < cLine :=
 Nat.lt_of_le_of_lt (Nat.add_le_add_left (Nat.le_trans (Nat.le_of_ble_eq_true h) (Nat.le_add_left 100 (8 * n))) _) (by have := r.un; rwa [Nat.add_assoc] at this)
omit rt0 in
theorem Rm.un1 {A : Around} {n m d : Nat} (r : Rm A n) (h : Nat.ble d 90 = true) : A.units + 1 + min m d < cLine :=
 Nat.lt_of_le_of_lt (Nat.add_le_add_left (Nat.le_trans (Nat.min_le_right m d) (Nat.le_of_ble_eq_true h)) (A.units + 1)) (r.un0 (k := 91) rfl)
omit rt0 in
theorem Rm.un2 {A : Around} {n m d : Nat} (r : Rm A n) (h : Nat.ble d 90 = true) : A.units + min m d < cLine :=
 Nat.lt_of_le_of_lt (Nat.add_le_add_left (Nat.le_trans (Nat.min_le_right m d) (Nat.le_of_ble_eq_true h)) A.units) (r.un0 (k := 90) rfl)
omit rt0 in
theorem Rm.room {A : Around} {n : Nat} (r : Rm A n) : A.depth < recursionLimit := Nat.lt_of_le_of_lt (Nat.le_add_right _ _) r.dp
omit rt0 in
theorem seq_at {i n : Nat} (h : i < n) : seqIndex? i n = some i := by
 unfold seqIndex?
 rw [if_neg (Int.not_lt.mpr (Int.natCast_nonneg i)), if_pos (by rw [decide_eq_true (Int.natCast_nonneg i), decide_eq_true (Int.ofNat_lt.mpr h)]; rfl)]
 rfl
structure Cx (K : Frag) (A : Around) (h : Heap) (n : Nat) : Prop where
 t : Tp K h
 ff : ∃ l, A.frames = some l ∧ FF h l
 hd : HdOk A h
 r : Rm A n
theorem At.cx {K : Frag} {A : Around} {g h : Heap} {bs : List Heap} {L : Addr} {ks : List Str} {cs : List Cell} {vs : List (Option Value)} {n m : Nat} (H : At A bs L ks cs vs h) (T : Tp K g) (mb : g ∈ bs) (r : Rm A n) (le : m ≤ n) : Cx K A h m :=
 ⟨T.ch (H.ch g mb), H.ff, H.hdOk, r.le le⟩
section
variable {A : Around} {E : Value → Shared → Prop} {h : Heap} {tk : Nat} {Q : Value → Shared → Prop}
theorem w_eq_str {x y : Str} {t u : Tok} (k : Q (.bool (x == y)) (St s h tk)) : wpAny (model prog w) A (compareOp .Eq (.str x t) (.str y u)) Q E (St s h tk) := eq_str k
theorem w_eq_refl {x : Str} {t u : Tok} (k : Q (.bool true) (St s h tk)) : wpAny (model prog w) A (compareOp .Eq (.str x t) (.str x u)) Q E (St s h tk) := eq_str (by rw [beq_self_eq_true]; exact k)
theorem w_eq_f {x y : Str} {t u : Tok} (n : x ≠ y) (k : Q (.bool false) (St s h tk)) : wpAny (model prog w) A (compareOp .Eq (.str x t) (.str y u)) Q E (St s h tk) := eq_str (by rw [beq_eq_false_iff_ne.mpr n]; exact k)
theorem w_ne_str {x y : Str} {t u : Tok} (k : Q (.bool (x != y)) (St s h tk)) : wpAny (model prog w) A (compareOp .NotEq (.str x t) (.str y u)) Q E (St s h tk) := ne_str k
theorem w_ne_refl {x : Str} {t u : Tok} (k : Q (.bool false) (St s h tk)) : wpAny (model prog w) A (compareOp .NotEq (.str x t) (.str x u)) Q E (St s h tk) := ne_str (by rw [bne_self_eq_false]; exact k)
theorem w_ne_f {x y : Str} {t u : Tok} (n : x ≠ y) (k : Q (.bool true) (St s h tk)) : wpAny (model prog w) A (compareOp .NotEq (.str x t) (.str y u)) Q E (St s h tk) := ne_str (by rw [show (x != y) = true from by simpa using n]; exact k)
theorem w_add_str {x y : Str} {t u : Tok} (hz : x.length + y.length ≤ sizeLine) (k : ∀ t' tk', Q (.str (x ++ y) t') (St s h tk')) : wpAny (model prog w) A (binaryOp .Add (.str x t) (.str y u)) Q E (St s h tk) := add_str k hz
end
theorem w_Expr {A : Around} {E : Value → Shared → Prop} {s : Shared} {env : Env} {L : Addr} {ks gs : List Str} {e : Expr} {pos : Pos} {Q : Flow → Shared → Prop} (F : Fn A env L ks gs) (h : wpAny (model prog w) A (eval e env) (fun _ => Q .next) E s)
  (hs : swapsWith e none pos.line env = pure false := by rfl) : wpAny (model prog w) A (exec (.Expr e pos) env) Q E s :=
 wpAny_Expr_any h (by unfold interactive; rw [F.kind]; rfl) hs
omit rt0 in
theorem w_ite_t {P Q : Prop} (h : P) : if true = true then P else Q := by rw [if_pos rfl]; exact h
omit rt0 in
theorem w_ite_f {P Q : Prop} (h : Q) : if false = true then P else Q := by rw [if_neg (by decide)]; exact h
omit rt0 in
theorem w_ite_nt {P Q : Prop} (h : Q) : if (!true) = true then P else Q := h
omit rt0 in
theorem w_ite_nf {P Q : Prop} (h : P) : if (!false) = true then P else Q := h
omit rt0 in
theorem w_ite {b : Bool} {P Q : Prop} (h1 : b = true → P) (h2 : b = false → Q) : if b = true then P else Q := by
 cases b
 ·rw [if_neg (by decide)]; exact h2 rfl
 ·rw [if_pos rfl]; exact h1 rfl
omit rt0 in
theorem len_le_line {n : Nat} (h : n ≤ 100000) : n ≤ sizeLine := Nat.le_trans h (by decide)
noncomputable def Cal (K : Frag) (M : Model) (A : Around) (f : Value) (first : List Value) (Q E : Value → Shared → Prop) : List Value → Shared → Prop := fun vs s₁ => K.In s₁.heap ∧ wpAny M A (call f (first ++ vs)) Q E s₁
section
variable {A : Around} {E : Value → Shared → Prop} {g h : Heap} {bs : List Heap} {tk : Nat} {env : Env} {L : Addr} {ks gs : List Str} {cs : List Cell} {vs vs' : List (Option Value)} {K : Frag} {pos : Pos}
theorem w_cal {f : Value} {first args : List Value} {Q : Value → Shared → Prop} (H : At A bs L ks cs vs h) (T : Tp K g) (mb : g ∈ bs) (k : wpAny (model prog w) A (call f (first ++ args)) Q E (St s h tk)) : Cal K (model prog w) A f first Q E args (St s h tk) :=
 ⟨(T.ch (H.ch g mb)).k, k⟩
theorem w_cw {f : Value} {first : List Value} {e : Expr} {rest : List Expr} {Q : Value → Shared → Prop} (H : At A bs L ks cs vs h) (T : Tp K g) (mb : g ∈ bs) (hk : keepIn K f = true)
  (k : wpAny (model prog w) A (spliced (backTo pos (starEach (e :: rest) env))) (Cal K (model prog w) A f first Q E) E (St s h tk))
  (he : starEach (e :: rest) env = (false, eval e env) :: starEach rest env := by rfl) (hplain : (backTo pos (starEach rest env)).any (·.1) = false := by rfl) :
  wpAny (model prog w) A (callWith pos f first (backTo pos (starEach (e :: rest) env)) []) Q E (St s h tk) :=
 callWith_K (s := St s h tk) (T.ch (H.ch g mb)).k hk k he hplain
theorem w_cw0 {f : Value} {first : List Value} {Q : Value → Shared → Prop} (H : At A bs L ks cs vs h) (T : Tp K g) (mb : g ∈ bs) (hk : keepIn K f = true)
  (k : wpAny (model prog w) A (call f (first ++ [])) Q E (St s h tk)) :
  wpAny (model prog w) A (callWith pos f first (backTo pos (starEach [] env)) []) Q E (St s h tk) :=
 callWith_K0 (s := St s h tk) (T.ch (H.ch g mb)).k hk k
theorem w_get_meth {x C f : Addr} {fs : List (Str × Value)} {name : Str} {pl : Sem Bool} {Q : Value × List Value → Shared → Prop} (I : Ins h x C fs) (H : At A bs L ks cs vs h) (T : Tp K g) (mb : g ∈ bs) (O : MethOk K C name f) (m : name ∉ fs.map (·.1)) (k : Q (.ref f, [.ref x]) (St s h tk)) :
  wpAny (model prog w) A (getMethod (.ref x) name pl) Q E (St s h tk) := get_meth (T.ch (H.ch g mb)).k I O m k
theorem w_get_attr {x C : Addr} {v : Value} {fs : List (Str × Value)} {name : Str} {expr : Bool} {Q : Value → Shared → Prop} (I : Ins h x C fs) (H : At A bs L ks cs vs h) (T : Tp K g) (mb : g ∈ bs) (O : AttrOk K C name) (m : (name, v) ∈ fs) (hv : handedIn v = true) (k : ∀ tk', Q v (St s h tk')) :
  wpAny (model prog w) A (getAttr (.ref x) name expr) Q E (St s h tk) := get_attr (T.ch (H.ch g mb)).k I O m hv k
theorem w_Attr {value : Expr} {attr : Str} {p : Pos} {Q : Value → Shared → Prop}
  (k : wpAny (model prog w) A (eval value env) (fun o s₁ => wpAny (model prog w) A (getAttr o attr true) Q E s₁) E (St s h tk))
  (he : eval (.Attribute value attr p) env = (do
   let o ← eval value env
   standAt p.atName
   let r ← holding [o] (getAttr o attr true)
   letTemporaryGo value o r
   pure r) := by with_unfolding_all rfl) : wpAny (model prog w) A (eval (.Attribute value attr p) env) Q E (St s h tk) := Attribute_any_ k he
theorem w_bmeth {T id : String} {ov : Value} {name : Str} {pl : Sem Bool} {Q : Value × List Value → Shared → Prop} (hT : (St s h tk).TypeIs ov T) (pa : PlainAttrs T) (slot : Slot T name id) (hty : typeOf (.builtin id) = pure (.type "method_descriptor"))
  (hd : ∀ a, ov = .ref a → ∃ o, h.get? a = some o ∧ o.dict = none) (k : Q (.builtin id, [ov]) (St s h tk)) : wpAny (model prog w) A (getMethod ov name pl) Q E (St s h tk) := getMethod_builtin hT pa slot hty hd k
end
noncomputable def isT (o : Obj) : Prop := o.cls = .type "tuple" ∧ ∃ vs n, o.data = .seq vs n
omit rt0 in
theorem reads_mv {h h' : Heap} {v : Value} {d : PyData} {as : List Addr} (r : Reads h v d as) : (∀ b o, h.get? b = some o → (isT o ∨ b ∈ as) → h'.get? b = some o) → Reads h' v d as := by
 refine Reads.rec (motive_1 := fun v d as _ => (∀ b o, h.get? b = some o → (isT o ∨ b ∈ as) → h'.get? b = some o) → Reads h' v d as) (motive_2 := fun v d as _ => (∀ b o, h.get? b = some o → (isT o ∨ b ∈ as) → h'.get? b = some o) → ReadsAll h' v d as) (fun _ => .none) (fun b _ => .bool b) (fun i t _ => .int i t) (fun x t _ => .str x t) ?_ ?_ ?_ (fun _ => .nil) ?_ r
 ·exact fun e c d _ ih k => .list (k _ _ e (.inr (.head _))) c d (ih fun b o q m => k b o q (m.imp id fun m => .tail _ m))
 ·exact fun e c d _ ih k => .tuple (k _ _ e (.inl ⟨c, _, _, d⟩)) c d (ih k)
 ·exact fun e c d _ _ i1 i2 k => .dict (k _ _ e (.inr (.head _))) c d (i1 fun b o q m => k b o q (m.imp id fun m => .tail _ (List.mem_append_left _ m))) (i2 fun b o q m => k b o q (m.imp id fun m => by rw [List.cons_append]; exact .tail _ (List.mem_append_right _ m)))
 ·exact fun _ _ i1 i2 k => .cons (i1 fun b o q m => k b o q (m.imp id fun m => List.mem_append_left _ m)) (i2 fun b o q m => k b o q (m.imp id fun m => List.mem_append_right _ m))
omit rt0 in
theorem readsAll_mv {h h' : Heap} : ∀ {vs : List Value} {ds : List PyData} {as : List Addr}, ReadsAll h vs ds as → (∀ b o, h.get? b = some o → (isT o ∨ b ∈ as) → h'.get? b = some o) → ReadsAll h' vs ds as := by
 intro vs ds as r
 induction r using ReadsAll.rec (motive_1 := fun _ _ _ _ => True) with
 | nil => exact fun _ => .nil
 | cons r _ _ ih => exact fun k => .cons (reads_mv r fun b o q m => k b o q (m.imp id fun m => List.mem_append_left _ m)) (ih fun b o q m => k b o q (m.imp id fun m => List.mem_append_right _ m))
 | _ => trivial
abbrev Rd (h : Heap) (v : Value) (d : PyData) : Prop := Reads h v d []
theorem isFr_tuple {b : Addr} {o : Obj} (c : o.cls = .type "tuple") : isFr b o = false := isFr_no (by unfold isF0; rw [c]; decide)
omit rt0 in
theorem Rd.mv {h h' : Heap} {v : Value} {d : PyData} (r : Rd h v d) (k : ∀ b o, h.get? b = some o → isT o → h'.get? b = some o) : Rd h' v d :=
 reads_mv r fun b o q m => k b o q (m.resolve_right (by fin_once sm fail))
theorem Rd.ch {h h' : Heap} {v : Value} {d : PyData} (r : Rd h v d) (c : Ch [] h h') : Rd h' v d := r.mv fun b o q m => c.same b o q (by fin_once sm fail) (isFr_tuple m.1)
omit rt0 in
theorem readsAll_len {h : Heap} : ∀ {vs : List Value} {ds : List PyData} {as : List Addr}, ReadsAll h vs ds as → vs.length = ds.length := by
 intro vs ds as r
 induction r using ReadsAll.rec (motive_1 := fun _ _ _ _ => True) with
 | nil => rfl
 | cons _ _ _ ih => exact congrArg (· + 1) ih
 | _ => trivial
omit rt0 in
theorem Rd.tuple {h : Heap} {v : Value} {ds : List PyData} (r : Rd h v (.tuple ds)) : ∃ t items, v = .ref t ∧ IsTup h t items ∧ ReadsAll h items.toList ds [] := by
 cases r with
 | tuple e c d r => exact ⟨_, _, rfl, ⟨_, e, c, _, d⟩, r⟩
omit rt0 in
theorem readsAll_cons {h : Heap} {vs : List Value} {d : PyData} {ds : List PyData} (r : ReadsAll h vs (d :: ds) []) : ∃ v vs', vs = v :: vs' ∧ Rd h v d ∧ ReadsAll h vs' ds [] := by
 generalize e : ([] : List Addr) = as at r
 cases r with
 | cons r rs =>
  obtain ⟨e1, e2⟩ := List.append_eq_nil_iff.mp e.symm
  subst e1 e2
  exact ⟨_, _, rfl, r, rs⟩
theorem readsAll_get {h : Heap} : ∀ {ds : List PyData} {vs : List Value}, ReadsAll h vs ds [] → ∀ (i : Nat) (d : PyData), ds[i]? = some d → ∃ v, vs[i]? = some v ∧ Rd h v d
 | [], _, _, i, d, e => by simp at e
 | d :: ds, _, r, i, d', e => by
  obtain ⟨v, vs', rfl, r1, r2⟩ := readsAll_cons r
  cases i with
  | zero => simp at e; subst e; exact ⟨v, rfl, r1⟩
  | succ i => simp at e; simpa using readsAll_get r2 i d' e
omit rt0 in
theorem Rd.str {h : Heap} {v : Value} {x : Str} (r : Rd h v (.str x)) : ∃ t, v = .str x t := by cases r; exact ⟨_, rfl⟩
omit rt0 in
theorem Rd.bool {h : Heap} {v : Value} {b : Bool} (r : Rd h v (.bool b)) : v = .bool b := by cases r; rfl
omit rt0 in
theorem Rd.none {h : Heap} {v : Value} (r : Rd h v .none) : v = .none := by cases r; rfl
omit rt0 in
@[elab_as_elim] theorem Rd.strE {h : Heap} {v : Value} {x : Str} {P : Value → Prop} (r : Rd h v (.str x)) (k : ∀ t, Rd h (.str x t) (.str x) → P (.str x t)) : P v := by
 obtain ⟨t, e⟩ := r.str
 exact e ▸ k t (e ▸ r)
omit rt0 in
theorem Rd.int {h : Heap} {v : Value} {i : Int} (r : Rd h v (.int i)) : ∃ t, v = .int i t := by cases r; exact ⟨_, rfl⟩
omit rt0 in
@[elab_as_elim] theorem Rd.intE {h : Heap} {v : Value} {x : Int} {P : Value → Prop} (r : Rd h v (.int x)) (k : ∀ t, Rd h (.int x t) (.int x) → P (.int x t)) : P v := by
 obtain ⟨t, e⟩ := r.int
 exact e ▸ k t (e ▸ r)
omit rt0 in
theorem readsAll_nil {h : Heap} {vs : List Value} (r : ReadsAll h vs [] []) : vs = [] := by cases r; rfl
abbrev strsD (xs : List Str) : PyData := .tuple (xs.map .str)
theorem strsAre_of {h : Heap} : ∀ {xs : List Str} {vs : List Value}, ReadsAll h vs (xs.map .str) [] → StrsAre vs xs
 | [], _, r => by cases readsAll_nil r; exact .nil
 | x :: xs, _, r => by
  obtain ⟨v, vs', rfl, r1, r2⟩ := readsAll_cons r
  obtain ⟨t, rfl⟩ := r1.str
  exact .cons x t (strsAre_of r2)
theorem At.base' {A : Around} {bs : List Heap} {L : Addr} {ks : List Str} {cs : List Cell} {vs : List (Option Value)} {h : Heap} (H : At A bs L ks cs vs h) :
  ∃ g, (∀ b ∈ bs, Ch [] b g) ∧ At A (g :: bs) L ks cs vs h ∧ (∀ b o, h.get? b = some o → b ≠ L → (∀ c ∈ cs, c.1 ≠ b) → g.get? b = some o) ∧ (∀ b o, h.get? b = some o → isT o → g.get? b = some o) := by
 fin_once o1 fail
 obtain ⟨g, x, H', k⟩ := H.base
 fin_once o2 fail
 refine ⟨g, x, H', k, fun b o e t => k b o e (fun q => ?_) fun c hc q => ?_⟩
 ·fin_once o1 fail
  obtain ⟨_, _, _, eL, dL, _⟩ := H.ns
  fin_once o2 fail
  rw [q, eL] at e
  cases e
  fin_once o1 fail
  obtain ⟨_, _, _, d⟩ := t
  fin_once o2 fail
  rw [dL] at d
  cases d
 ·fin_once o1 fail
  obtain ⟨o', e', _, m⟩ := H.cells.all c hc
  fin_once o2 fail
  rw [q, e] at e'
  cases e'
  exact mutO_tup m t.1
theorem At.base'K {A : Around} {bs : List Heap} {L : Addr} {ks : List Str} {cs : List Cell} {vs : List (Option Value)} {h : Heap} {G : Prop} (H : At A bs L ks cs vs h) (k : ∀ g, (∀ b ∈ bs, Ch [] b g) → At A (g :: bs) L ks cs vs h → (∀ b o, h.get? b = some o → b ≠ L → (∀ c ∈ cs, c.1 ≠ b) → g.get? b = some o) → (∀ b o, h.get? b = some o → isT o → g.get? b = some o) → G) : G := by
 obtain ⟨g, x1, x2, x3, x4⟩ := H.base'
 exact k g x1 x2 x3 x4
noncomputable def NewE (C : Addr) (h : Heap) (e : Addr) : Prop := ∃ dx t sl, h.get? e = some ⟨.ref C, dx, .fields #[t, .none, .none, .none, .bool false, .none], sl⟩
noncomputable def ExcCls (h : Heap) (C : Addr) (bm : List Value) : Prop := ∃ nm q N bs hdct sn sub ab col dd k0 k1 k2 k3 k5, h.get? C = some (excClassObj nm q C N bs bm hdct sn sub ab col dd k0 k1 k2 k3 k5 "Exception.__new__")
section
variable {A : Around} {E : Value → Shared → Prop} {env : Env}
variable {C : Addr} {bm : List Value}
theorem raise_own {s : Shared} {x : Sem Value} {Q : Flow → Shared → Prop} (hbase : bm.contains (.type "BaseException") = true)
  (h : wpAny (model prog w) A x (fun v s₁ => ∃ e, v = .ref e ∧ ExcCls s₁.heap C bm ∧ NewE C s₁.heap e ∧ HdOk A s₁.heap ∧ (∀ e0, A.handled = some (.ref e0) → e ≠ e0) ∧
   ∀ h' oe oa' vs, s₁.heap.get? e = some oe → oe.cls = .ref C → oe.data = .fields vs → vs[1]? = some .none → vs[2]? = some .none → 2 < vs.size → Heap.SameBut e s₁.heap h' → h'.get? e = some oa' → SameExc (A.handled = none) oe oa' vs → E (.ref e) { s₁ with heap := h' }) E s) :
  wpAny (model prog w) A (raiseStmt env (some x) none) Q E s := by
 have hcB : (Value.ref C :: bm).contains (.type "BaseException") = true := by rw [List.contains_cons, hbase, Bool.or_true]
 unfold raiseStmt
 refine wpAny_bind (wpAny_mono h (fun v s₁ h₁ => ?_) fun _ _ x => x)
 fin_once o1 fail
 obtain ⟨e, rfl, ⟨nm, q, N, bs, hdct, sn, sub, ab, col, dd, k0, k1, k2, k3, k5, hC⟩, ⟨dx, t, sl, he⟩, hd, hne, hE⟩ := h₁
 fin_once o2 fail
 fin_once o1 fail
 obtain ⟨hp, g, d, tk, os⟩ := s₁
 fin_once o2 fail
 repeat (first | with_reducible refine wpAny_loadPart_at he ?_ | with_reducible refine wpAny_loadPart_at hC ?_ | (with_reducible refine wpAny_isSubtype_exc hC ?_; rw [hcB]) | wp_step)
 exact raiseNewH hd he rfl (show 2 < 6 by decide) hne fun h' oa' hs ha hx => hE h' _ oa' _ he rfl rfl rfl rfl (show 2 < 6 by decide) hs ha hx
inductive RzV (C : Addr) (bm : List Value) (A : Around) (bsh : List Heap) : Value → Shared → Prop
 | mk {e : Addr} {h₁ : Heap} {tk₁ : Nat} {l : List Env} {g : Heap} (hC : ExcCls h₁ C bm) (N : NewE C h₁ e) (x : ∀ g ∈ bsh, Ch [] g h₁) (n : ∀ g ∈ bsh, g.get? e = none) (l1 : A.frames = some l) (l2 : FF h₁ l) (mg : g ∈ bsh) (hd : HdOk A g) : RzV C bm A bsh (.ref e) (St s h₁ tk₁)
theorem w_Raise {L : Addr} {gs ks : List Str} {bsh : List Heap} {x : Expr} {p : Pos} {h : Heap} {tk : Nat} {Q : Flow → Shared → Prop} (hbase : bm.contains (.type "BaseException") = true)
  (hx : wpAny (model prog w) A (eval x env) (RzV C bm A bsh) E (St s h tk))
  (hE : ∀ e s', Esc C A bsh L e s' → E e s') :
  wpAny (model prog w) A (exec (.Raise (some x) none p) env) Q E (St s h tk) := by
 rw [arm_exec_Raise]
 refine wpAny_bind (wpAny_standAt ?_)
 show wpAny (model prog w) A (raiseStmt env (some (do let v ← eval x env; standAt p; pure v)) none) Q E (St s h tk)
 refine raise_own (C := C) hbase (wpAny_bind (wpAny_mono hx (fun v s₁ h₁ => wpAny_bind (wpAny_standAt (wpAny_pure ?_))) fun _ _ x => x))
 induction h₁
 rename_i e h₁ tk₁ l g hC N x n l1 l2 mg hd
 refine ⟨e, rfl, hC, N, hd.ch (x g mg), hd.ne (n g mg), fun h' oe oa' vs he hc hdt v1 v2 hz hs ha hx => hE _ _ ?_⟩
 have ne : ∀ g ∈ bsh, ∀ b o, g.get? b = some o → b ≠ e := fun g m b o q z => by rw [z, n g m] at q; cases q
 fin_once o1 fail
 obtain ⟨hcl, vs', hd', hz', hsame⟩ := hx
 fin_once o2 fail
 refine .mk (fun g m => ⟨fun b o q n' f => (hs.2 b (ne g m b o q)).trans ((x g m).same b o q n' f), fun b o q f => ?_⟩) l1 (fun env' m => ?_) (.mk n ha (hcl.trans hc) hd' (by fin_once om fail) (fun c => (hsame 2 (.inl c)).trans v2) (.n ((hsame 1 (.inr (by decide))).trans v1) (.inl rfl)))
 ·obtain ⟨sl, z⟩ := (x g m).fr b o q f
  exact ⟨sl, (hs.2 b (ne g m b o q)).trans z⟩
 ·fin_once o1 fail
  obtain ⟨hk, b, o, hf, ho, hr, hdd⟩ := l2 env' m
  fin_once o2 fail
  refine ⟨hk, b, o, hf, (hs.2 b fun z => ?_).trans ho, hr, hdd⟩
  change h₁.get? e = some oe at he
  rw [z, he] at ho
  cases ho
  rw [isFr_ref hc] at hr
  cases hr
end
section
omit rt0 in
theorem tc_weight (C : Addr) (rest : List Value) : (Code.builtin "type.__call__" ⟨.ref C :: rest, []⟩).weight = 1 := by kernel_rfl
omit rt0 in
theorem tc_units (C : Addr) (rest : List Value) : (Code.builtin "type.__call__" ⟨.ref C :: rest, []⟩).cUnits = 1 := by kernel_rfl
omit rt0 in
theorem tc_envs (C : Addr) (rest : List Value) : (Code.builtin "type.__call__" ⟨.ref C :: rest, []⟩).envs = [] := by kernel_rfl
theorem under_rm {A : Around} {C : Addr} {rest : List Value} {n : Nat} (r : Rm A (n + 1)) : Rm (A.under (.builtin "type.__call__" ⟨.ref C :: rest, []⟩)) n :=
 r.up (Nat.le_of_eq (congrArg (A.depth + ·) (tc_weight C rest))) (Nat.add_le_add_left (Nat.le_trans (Nat.le_of_eq (tc_units C rest)) (Nat.le_of_ble_eq_true (n := 1) (m := 8) rfl)) A.units)
theorem under_frames {A : Around} {C : Addr} {rest : List Value} : (A.under (.builtin "type.__call__" ⟨.ref C :: rest, []⟩)).frames = A.frames := by
 unfold Around.under
 rw [tc_envs]; rfl
end
theorem At.mod {A : Around} {bs : List Heap} {L : Addr} {ks : List Str} {cs cs' : List Cell} {vs : List (Option Value)} {h h' : Heap} (H : At A bs L ks cs vs h) (k : ∀ b o, h.get? b = some o → (∀ c ∈ cs, c.1 ≠ b) → h'.get? b = some o) (C' : Cells h' cs')
  (n : ∀ c ∈ cs', (∃ c0 ∈ cs, c0.1 = c.1) ∨ h.get? c.1 = none) : At A bs L ks cs' vs h' := by
 have nb : ∀ g ∈ bs, ∀ b o, g.get? b = some o → ∀ c ∈ cs, c.1 ≠ b := fun g m b o q c hc z => by
  have := H.newC g m c hc
  rw [z, q] at this
  cases this
 obtain ⟨l, l1, l2⟩ := H.ff
 refine ⟨fun g m => ⟨fun b o q _ f => k b o ((H.ch g m).same b o q (by fin_once sm fail) f) (nb g m b o q), fun b o q f => ?_⟩, H.newL, fun g m c hc => ?_, ?_, fun c hc => ?_, C', ⟨l, l1, fun env me => ?_⟩, H.hd⟩
 ·obtain ⟨sl, z⟩ := (H.ch g m).fr b o q f
  exact ⟨sl, k b _ z (nb g m b o q)⟩
 ·rcases n c hc with ⟨c0, h0, e0⟩ | e
  ·rw [← e0]; exact H.newC g m c0 h0
  ·cases q : g.get? c.1 with
   | none => rfl
   | some o =>
    obtain ⟨sl, z⟩ := (H.ch g m).some q (by fin_once sm fail)
    rw [e] at z
    cases z
 ·fin_once o1 fail
  obtain ⟨o, es, ep, ho, r⟩ := H.ns
  fin_once o2 fail
  exact ⟨o, es, ep, k L o ho H.neL, r⟩
 ·rcases n c hc with ⟨c0, h0, e0⟩ | e
  ·rw [← e0]; exact H.neL c0 h0
  ·intro z
   obtain ⟨o, ho⟩ := H.frL
   rw [z, ho] at e
   cases e
 ·fin_once o1 fail
  obtain ⟨hk, b, o, hf, ho, hr, hd⟩ := l2 env me
  fin_once o2 fail
  refine ⟨hk, b, o, hf, k b o ho fun c hc z => ?_, hr, hd⟩
  fin_once o1 fail
  obtain ⟨o', p1, _, p3⟩ := H.cells.all c hc
  fin_once o2 fail
  rw [z, ho] at p1
  cases p1
  rw [mutO_fr p3] at hr
  cases hr
theorem At.fr {A : Around} {bs : List Heap} {L : Addr} {ks : List Str} {cs : List Cell} {vs : List (Option Value)} {h : Heap} (H : At A bs L ks cs vs h) : Fr {} L h (fm ks vs) := by
 refine ⟨H.ns, fun b o e => ?_, Nat.zero_le _⟩
 exact absurd (Heap.lt_size e) (Nat.not_lt_zero _)
omit rt0 in
theorem mutO_ref {o : Obj} {C : Addr} (h : o.cls = .ref C) : mutO o = true := by unfold mutO; rw [h]; rfl
omit rt0 in
theorem mutO_dict {o : Obj} (h : o.cls = .type "dict") : mutO o = true := by unfold mutO; rw [h]; rfl
omit rt0 in
theorem mutO_list {o : Obj} (h : o.cls = .type "list") : mutO o = true := by unfold mutO; rw [h]; rfl
theorem FldObj.mut {fs : List (Str × Value)} {o : Obj} (F : FldObj fs o) : mutO o = true := by
 obtain ⟨es, n, rfl, _⟩ := F.is
 exact mutO_dict rfl
abbrev Dct (kvs : List (Str × Value)) (o : Obj) : Prop := o.IsDictOf (PySem.strKind prog w) kvs
theorem Dct.mut {kvs : List (Str × Value)} {o : Obj} (d : Dct kvs o) : mutO o = true := by
 fin_once o1 fail
 obtain ⟨_, _, x, _⟩ := d
 fin_once o2 fail
 exact mutO_dict x.1
theorem Dct.nodup {kvs : List (Str × Value)} {o : Obj} (d : Dct kvs o) : (kvs.map (·.1)).Nodup := by
 fin_once o1 fail
 obtain ⟨_, _, _, _, _, _, n⟩ := d
 fin_once o2 fail
 exact n
theorem strIs {k : Str} {t : Tok} : (PySem.strKind prog w).is k (.str k t) = true := by
 show Value.isStrOf k (.str k t) = true
 simp [Value.isStrOf]
omit rt0 in
theorem noSys {K : Frag} {h : Heap} {a b : Addr} {o : Obj} (X : K.In h) (e : K.lookup b = some o) (hb : sysModules ≤ b) (ha : h.objs.size ≤ a) : (a == sysModules) = false := by
 have := Heap.lt_size (X b o e)
 exact beq_eq_false_iff_ne.mpr fun q => absurd (Nat.lt_of_le_of_lt hb this) (Nat.not_lt.mpr (q ▸ ha))
section
variable {A : Around} {E : Value → Shared → Prop} {h : Heap} {tk : Nat} {d : Addr} {o : Obj} {kvs : List (Str × Value)} {k : Str} {t : Tok}
theorem dctOf (hd : h.get? d = some o) (D : Dct kvs o) : h.DictOf (PySem.strKind prog w) d kvs := Heap.dictOf_iff.mpr ⟨o, hd, D⟩
theorem w_dget1 {Q : Value → Shared → Prop} (hd : h.get? d = some o) (D : Dct kvs o) (lo : (d == sysModules) = false) (q : Q ((valueAt kvs k).getD .none) (St s h (tk + 1))) :
  wpAny (model prog w) A (call (.builtin "dict.get") [.ref d, .str k t]) Q E (St s h tk) :=
 have hD := dctOf hd D
 call_meetsIn PySem.F.slot_dict_get hD.typeIs PySem.F.entry_dict_get (PySem.F.args_dict_get_2 _ _) (meets_dict_get (PySem.strKind prog w) d strIs lo) ⟨_, hD.mapOf, q⟩
theorem w_dget2 {Q : Value → Shared → Prop} {dflt : Value} (hd : h.get? d = some o) (D : Dct kvs o) (lo : (d == sysModules) = false) (q : Q ((valueAt kvs k).getD dflt) (St s h (tk + 1))) :
  wpAny (model prog w) A (call (.builtin "dict.get") [.ref d, .str k t, dflt]) Q E (St s h tk) :=
 have hD := dctOf hd D
 call_meetsIn PySem.F.slot_dict_get hD.typeIs PySem.F.entry_dict_get (PySem.F.args_dict_get_3 _ _ _) (meets_dict_get_default (PySem.strKind prog w) d strIs lo dflt) ⟨_, hD.mapOf, q⟩
theorem w_dmeth {pl : Sem Bool} {Q : Value × List Value → Shared → Prop} (hd : h.get? d = some o) (D : Dct kvs o) (q : Q (.builtin "dict.get", [.ref d]) (St s h tk)) : wpAny (model prog w) A (getMethod (.ref d) "get" pl) Q E (St s h tk) :=
 have hD := dctOf hd D
 getMethod_builtin hD.typeIs PySem.F.plainAttrs_dict PySem.F.slot_dict_get PySem.F.type_dict_get hD.mapOf.noDict q
theorem w_ditem {value slice : PySem.Expr} {ops : List Value} {v : Value} {Q : Value → Shared → Prop} (hd : h.get? d = some o) (D : Dct kvs o) (hl : valueAt kvs k = some v) (q : Q v (St s h (tk + 1)))
  (hs : subscripted slice false (.ref d) (.str k t) = operate ops (getItem (.ref d) (.str k t))) : wpAny (model prog w) A (subscriptTail value slice (.ref d) (.str k t)) Q E (St s h tk) :=
 have hD := dctOf hd D
 tail_any hD.typeIs slot_dict_getitem.lookup (wpAny_getItem_of strIs hD.mapOf hl q) hs
theorem w_din {Q : Value → Shared → Prop} (hd : h.get? d = some o) (D : Dct kvs o) (lo : (d == sysModules) = false) (q : Q (.bool (valueAt kvs k).isSome) (St s h (tk + 1))) :
  wpAny (model prog w) A (compareOp .In (.str k t) (.ref d)) Q E (St s h tk) := wpAny_in_of strIs lo (dctOf hd D).mapOf q
theorem w_dset {v : Value} {Q : Unit → Shared → Prop} (hd : h.get? d = some o) (D : Dct kvs o) (hz : kvs.length ≤ 10000) (q : ∀ h' o', Heap.SameBut d h h' → h'.get? d = some o' → Dct (stored kvs k v) o' → Q () (St s h' (tk + 1))) :
  wpAny (model prog w) A (setItem (.ref d) (.str k t) v) Q E (St s h tk) :=
 wpAny_setItem_pairs (hsz := Nat.le_trans hz (by decide)) strIs (dctOf hd D) fun h' m hs => by
  obtain ⟨o', ho, hD⟩ := Heap.dictOf_iff.mp m
  exact q h' o' hs ho hD
end
inductive Tab {α : Type} (R : Value → α → Prop) : List (Str × Value) → List (Str × α) → Prop
 | nil : Tab R [] []
 | cons {k v a kvs l} : R v a → Tab R kvs l → Tab R ((k, v) :: kvs) ((k, a) :: l)
noncomputable def at? {α : Type} : List (Str × α) → Str → Option α
 | [], _ => none
 | (k, a) :: l, x => if k = x then some a else at? l x
section
variable {α : Type} {R R' : Value → α → Prop} {kvs : List (Str × Value)} {l : List (Str × α)}
omit rt0 in
theorem Tab.mono (T : Tab R kvs l) (k : ∀ v a, R v a → R' v a) : Tab R' kvs l := by
 induction T with
 | nil => exact .nil
 | cons r _ ih => exact .cons (k _ _ r) ih
omit rt0 in
theorem Tab.len (T : Tab R kvs l) : kvs.length = l.length := by
 induction T with
 | nil => rfl
 | cons _ _ ih => simp [ih]
omit rt0 in
theorem Tab.keys (T : Tab R kvs l) : kvs.map (·.1) = l.map (·.1) := by
 induction T with
 | nil => rfl
 | cons _ _ ih => simp [ih]
omit rt0 in
theorem Tab.some (T : Tab R kvs l) {x : Str} {a : α} (e : at? l x = some a) : ∃ v, valueAt kvs x = some v ∧ R v a := by
 induction T with
 | nil => cases e
 | @cons k v b kvs l r _ ih =>
  unfold at? at e
  unfold valueAt
  rw [List.find?_cons]
  by_cases q : k = x
  ·subst q
   rw [if_pos rfl] at e
   cases e
   exact ⟨v, by fin_once sm fail, r⟩
  ·rw [if_neg q] at e
   simp only [q, decide_false]
   exact ih e
omit rt0 in
theorem Tab.none (T : Tab R kvs l) {x : Str} (e : at? l x = none) : valueAt kvs x = none := by
 induction T with
 | nil => rfl
 | @cons k v b kvs l r _ ih =>
  unfold at? at e
  unfold valueAt
  rw [List.find?_cons]
  by_cases q : k = x
  ·rw [if_pos q] at e; cases e
  ·rw [if_neg q] at e
   simp only [q, decide_false]
   exact ih e
theorem Tab.isSome (T : Tab R kvs l) (x : Str) : (valueAt kvs x).isSome = (at? l x).isSome := by
 cases e : at? l x with
 | none => rw [T.none e]; rfl
 | some a =>
  obtain ⟨v, q, _⟩ := T.some e
  rw [q]; rfl
omit rt0 in
theorem Tab.snoc (T : Tab R kvs l) {x : Str} {v : Value} {a : α} (r : R v a) : Tab R (kvs ++ [(x, v)]) (l ++ [(x, a)]) := by
 induction T with
 | nil => exact .cons r .nil
 | cons r' _ ih => exact .cons r' ih
theorem Tab.new (T : Tab R kvs l) {x : Str} {v : Value} {a : α} (n : at? l x = Option.none) (r : R v a) : Tab R (stored kvs x v) (l ++ [(x, a)]) := by
 rw [stored_absent (T.none n)]
 exact T.snoc r
noncomputable def upd {α : Type} (l : List (Str × α)) (x : Str) (b : α) : List (Str × α) := if (at? l x).isSome then l.map (fun p => if p.1 = x then (p.1, b) else p) else l ++ [(x, b)]
theorem Tab.upd (T : Tab R kvs l) {x : Str} {v : Value} {a : α} (r : R v a) : Tab R (stored kvs x v) (Mine.upd l x a) := by
 unfold stored Mine.upd
 have e : kvs.any (fun kv => decide (kv.1 = x)) = (at? l x).isSome := by rw [← T.isSome, valueAt_isSome_eq_any]
 rw [e]
 split
 ·rename_i q
  clear e q
  induction T with
  | nil => exact .nil
  | @cons k v' b kvs l r' _ ih =>
   simp only [List.map_cons]
   by_cases q : k = x
   ·rw [if_pos q, if_pos q]; exact .cons r ih
   ·rw [if_neg q, if_neg q]; exact .cons r' ih
 ·exact T.snoc r
end
noncomputable def J (x y : Str) : Str := if x = Str.ofString "" then y else x ++ Str.ofString "::" ++ y
structure Tb where
 types : List (Str × Str)
 values : List (Str × Str)
 uses : List (Str × List Str)
structure Md where
 kinds : List (Str × Str)
 pubs : List (Str × Bool)
 tabs : List (Str × Tb)
noncomputable def Tb.space (t : Tb) (sp : Str) : List (Str × Str) := if sp = Str.ofString "type" then t.types else t.values
noncomputable def Tr (P : Addr → Prop) (h g : Heap) : Prop := ∀ b o, h.get? b = some o → (P b ∨ isT o) → isFr b o = false → g.get? b = some o
theorem Ch.tr {P : Addr → Prop} {h g : Heap} (c : Ch [] h g) : Tr P h g := fun b o e _ f => c.same b o e (by fin_once sm fail) f
structure InsP (P : Addr → Prop) (h : Heap) (x C : Addr) (fs : List (Str × Value)) : Prop where
 is : ∃ dx o, P x ∧ P dx ∧ h.get? x = some (instObj C dx) ∧ h.get? dx = some o ∧ FldObj fs o
omit rt0 in
theorem InsP.ins {P : Addr → Prop} {h : Heap} {x C : Addr} {fs : List (Str × Value)} (I : InsP P h x C fs) : Ins h x C fs := by
 fin_once o1 fail
 obtain ⟨dx, o, _, _, a, b, F⟩ := I.is
 fin_once o2 fail
 exact ⟨dx, o, a, b, F⟩
theorem InsP.tr {P : Addr → Prop} {h g : Heap} {x C : Addr} {fs : List (Str × Value)} (I : InsP P h x C fs) (t : Tr P h g) : InsP P g x C fs := by
 fin_once o1 fail
 obtain ⟨dx, o, p, q, a, b, F⟩ := I.is
 fin_once o2 fail
 exact ⟨dx, o, p, q, t _ _ a (.inl p) rfl, t _ _ b (.inl q) F.fr, F⟩
omit rt0 in
theorem InsP.weak {P P' : Addr → Prop} {h : Heap} {x C : Addr} {fs : List (Str × Value)} (I : InsP P h x C fs) (k : ∀ b, P b → P' b) : InsP P' h x C fs := by
 fin_once o1 fail
 obtain ⟨dx, o, p, q, r⟩ := I.is
 fin_once o2 fail
 exact ⟨dx, o, k _ p, k _ q, r⟩
theorem Rd.tr {P : Addr → Prop} {h g : Heap} {v : Value} {d : PyData} (r : Rd h v d) (t : Tr P h g) : Rd g v d := r.mv fun b o e m => t b o e (.inr m) (isFr_tuple m.1)
section
noncomputable def DctP {α : Type} (P : Addr → Prop) (h : Heap) (d : Addr) (R : Value → α → Prop) (l : List (Str × α)) : Prop := ∃ o kvs, P d ∧ (d == sysModules) = false ∧ h.get? d = some o ∧ Dct kvs o ∧ Tab R kvs l
noncomputable def IsS : Value → Str → Prop := fun v x => ∃ t, v = .str x t
noncomputable def IsB : Value → Bool → Prop := fun v b => v = .bool b
noncomputable def UseV (P : Addr → Prop) (h : Heap) : Value → List Str → Prop := fun v ns => ∃ u tn sp, v = .ref u ∧ InsP P h u 106 [(Str.ofString "names", .ref tn), (Str.ofString "is_pub", .bool true), (Str.ofString "spot", sp)] ∧ handedIn sp = true ∧ Rd h (.ref tn) (strsD ns)
noncomputable def TabAt (P : Addr → Prop) (h : Heap) : Value → Tb → Prop := fun v tb => ∃ t a b c, v = .ref t ∧ InsP P h t 139 [(Str.ofString "types", .ref a), (Str.ofString "values", .ref b), (Str.ofString "uses", .ref c)] ∧
 DctP P h a IsS tb.types ∧ DctP P h b IsS tb.values ∧ DctP P h c (UseV P h) tb.uses
noncomputable def MdAt (P : Addr → Prop) (h : Heap) (x : Addr) (m : Md) : Prop := ∃ dk dp dt dg di, InsP P h x 258 [(Str.ofString "kinds", .ref dk), (Str.ofString "publics", .ref dp), (Str.ofString "tables", .ref dt), (Str.ofString "generics", .ref dg), (Str.ofString "items", .ref di)] ∧
 DctP P h dk IsS m.kinds ∧ DctP P h dp IsB m.pubs ∧ DctP P h dt (TabAt P h) m.tabs
end
section
variable {P P' : Addr → Prop} {h g : Heap}
theorem DctP.tr {α : Type} {d : Addr} {R R' : Value → α → Prop} {l : List (Str × α)} (D : DctP P h d R l) (t : Tr P h g) (k : ∀ v a, R v a → R' v a) : DctP P g d R' l := by
 fin_once o1 fail
 obtain ⟨o, kvs, p, n, e, D, T⟩ := D
 fin_once o2 fail
 exact ⟨o, kvs, p, n, t _ _ e (.inl p) (mutO_fr D.mut), D, T.mono k⟩
theorem DctP.weak {α : Type} {d : Addr} {R R' : Value → α → Prop} {l : List (Str × α)} (D : DctP P h d R l) (t : ∀ b, P b → P' b) (k : ∀ v a, R v a → R' v a) : DctP P' h d R' l := by
 fin_once o1 fail
 obtain ⟨o, kvs, p, n, e, D, T⟩ := D
 fin_once o2 fail
 exact ⟨o, kvs, t _ p, n, e, D, T.mono k⟩
theorem UseV.tr {v : Value} {ns : List Str} (U : UseV P h v ns) (t : Tr P h g) : UseV P g v ns := by
 fin_once o1 fail
 obtain ⟨u, tn, sp, e, I, hs, r⟩ := U
 fin_once o2 fail
 exact ⟨u, tn, sp, e, I.tr t, hs, r.tr t⟩
theorem TabAt.tr {v : Value} {tb : Tb} (T : TabAt P h v tb) (t : Tr P h g) : TabAt P g v tb := by
 fin_once o1 fail
 obtain ⟨a, b, c, d, e, I, x, y, z⟩ := T
 fin_once o2 fail
 exact ⟨a, b, c, d, e, I.tr t, x.tr t fun _ _ q => q, y.tr t fun _ _ q => q, z.tr t fun _ _ q => q.tr t⟩
theorem MdAt.tr {x : Addr} {m : Md} (M : MdAt P h x m) (t : Tr P h g) : MdAt P g x m := by
 fin_once o1 fail
 obtain ⟨a, b, c, d, e, I, x, y, z⟩ := M
 fin_once o2 fail
 exact ⟨a, b, c, d, e, I.tr t, x.tr t fun _ _ q => q, y.tr t fun _ _ q => q, z.tr t fun _ _ q => q.tr t⟩
end
noncomputable def isMod (m : Md) (here : Str) : Bool := at? m.kinds here == some (Str.ofString "mod")
noncomputable def startF (module : Str) : List Str → Str × List Str
 | [] => (module, [])
 | x :: r => if x = Str.ofString "crate" then (Str.ofString "", r) else if x = Str.ofString "self" then (module, r) else (module, x :: r)
noncomputable def lookF (m : Md) (fol : Str → Str → List Str → Str → Option Str) (owner name space : Str) : Option (Option Str) :=
 match at? m.kinds owner with
 | none => none
 | some k =>
  if k = Str.ofString "enum" then (if at? m.kinds (J owner name) = some (Str.ofString "variant") then some (some (J owner name)) else some none)
  else if k ≠ Str.ofString "mod" then some none
  else match at? m.tabs owner with
   | none => none
   | some tb => match at? (tb.space space) name with
    | some p => some (some p)
    | none => match at? tb.uses name with
     | none => some none
     | some ns => (fol owner name ns space).map some
noncomputable def loopF (m : Md) (fol : Str → Str → List Str → Str → Option Str) (space : Str) : Str → List Str → Option Str
 | here, [] => if space = Str.ofString "value" ∧ isMod m here = true then none else some here
 | here, x :: r => match lookF m fol here x (if r = [] then space else Str.ofString "type") with
  | some (some p) => loopF m fol space p r
  | _ => none
noncomputable def walkF (m : Md) : Nat → Str → List Str → Str → List (Str × Str) → Option Str
 | n, module, names, space, seen =>
  loopF m (fun owner name ns sp => match n with
   | 0 => none
   | n + 1 => if (owner, name) ∈ seen then none else walkF m n owner ns sp (seen ++ [(owner, name)])) space (startF module names).1 (startF module names).2
noncomputable def followF (m : Md) (seen : List (Str × Str)) : Nat → Str → Str → List Str → Str → Option Str
 | 0, _, _, _, _ => none
 | n + 1, owner, name, ns, sp => if (owner, name) ∈ seen then none else walkF m n owner ns sp (seen ++ [(owner, name)])
omit rt0 in
theorem walkF_eq (m : Md) (n : Nat) (module : Str) (names : List Str) (space : Str) (seen : List (Str × Str)) :
  walkF m n module names space seen = loopF m (followF m seen n) space (startF module names).1 (startF module names).2 := by
 cases n <;> rfl
noncomputable def findF (m : Md) (module : Str) (names : List Str) (space : Str) : Option Str := walkF m 30 module names space []
section
variable {A : Around} {E : Value → Shared → Prop} {h : Heap} {bs : List Heap} {tk : Nat} {L : Addr} {ks : List Str} {cs : List Cell} {vs : List (Option Value)}
theorem w_newTuple {args : List Value} {Q : Value → Shared → Prop} (H : At A bs L ks cs vs h) (hz : args.length ≤ 10000)
  (k : ∀ h', At A bs L ks cs vs h' → Ch [] h h' → IsTup h' h.objs.size args.toArray → Q (.ref h.objs.size) (St s h' tk)) : wpAny (model prog w) A (newTuple args) Q E (St s h tk) :=
 wpAny_newObj_type (k _ (H.keep (Ch.push ..)) (Ch.push ..) ⟨_, Heap.get?_push_size _ rfl, rfl, _, rfl⟩) (by show args.toArray.size ≤ sizeLine; rw [List.size_toArray]; exact Nat.le_trans hz (by decide))
theorem w_newList {args : List Value} {Q : Value → Shared → Prop} (H : At A bs L ks cs vs h) (hz : args.length ≤ 10000)
  (k : ∀ h', At A bs L ks cs vs h' → Ch [] h h' → h'.IsList h.objs.size args.toArray → h.get? h.objs.size = none → Q (.ref h.objs.size) (St s h' tk)) : wpAny (model prog w) A (newList args) Q E (St s h tk) :=
 wpAny_newObj_type (k _ (H.keep (Ch.push ..)) (Ch.push ..) ⟨_, Heap.get?_push_size _ rfl, rfl, _, rfl⟩ (Heap.get?_none_of_le (Nat.le_refl _))) (by show args.toArray.size ≤ sizeLine; rw [List.size_toArray]; exact Nat.le_trans hz (by decide))
theorem w_addL {l b : Addr} {xs ys : Array Value} {Q : Value → Shared → Prop} (H : At A bs L ks cs vs h) (hl : h.IsList l xs) (hb : h.IsList b ys) (hz : xs.size + ys.size ≤ 10000)
  (k : ∀ h', At A bs L ks cs vs h' → Ch [] h h' → h'.IsList h.objs.size (xs ++ ys) → h.get? h.objs.size = none → Q (.ref h.objs.size) (St s h' tk)) : wpAny (model prog w) A (binaryOp .Add (.ref l) (.ref b)) Q E (St s h tk) := by
 fin_once o1 fail
 obtain ⟨⟨_, _, _, _⟩, ho, rfl, n, rfl⟩ := id hl
 fin_once o2 fail
 fin_once o1 fail
 obtain ⟨⟨_, _, _, _⟩, ho2, rfl, n2, rfl⟩ := id hb
 fin_once o2 fail
 exact concat_meets ⟨_, ho, rfl⟩ ⟨_, ho2, rfl⟩ noFill_list_add seq_list_add PySem.F.slot_list_add PySem.F.entry_list_add (PySem.F.args_list_add_2 _ _) (list_addW l b xs ys n n2 _ _ _ _ (Nat.le_trans hz (by decide)))
  ⟨ho, ho2, k _ (H.keep (Ch.push ..)) (Ch.push ..) ⟨_, Heap.get?_push_size _ rfl, rfl, _, rfl⟩ (Heap.get?_none_of_le (Nat.le_refl _))⟩
theorem w_len_tup {t : Addr} {items : Array Value} {Q : Value → Shared → Prop} (ht : IsTup h t items) (hz : items.size ≤ 10000) (k : ∀ u tk', Q (.int items.size u) (St s h tk')) : wpAny (model prog w) A (call (.builtin "len") [.ref t]) Q E (St s h tk) :=
 len_tuple ht (by fin_once om fail) (k _ _)
theorem w_len_list {t : Addr} {items : Array Value} {Q : Value → Shared → Prop} (ht : h.IsList t items) (hz : items.size ≤ 10000) (k : ∀ u tk', Q (.int items.size u) (St s h tk')) : wpAny (model prog w) A (call (.builtin "len") [.ref t]) Q E (St s h tk) :=
 Calls.call_len_list ht (by fin_once om fail) (k _ _)
theorem w_add_int {a b : Int} {t u : Tok} {Q : Value → Shared → Prop} (k : ∀ t' tk', Q (.int (a + b) t') (St s h tk')) : wpAny (model prog w) A (binaryOp .Add (.int a t) (.int b u)) Q E (St s h tk) := PySem.P.add_int (k _ _)
theorem w_lt_int {a b : Int} {t u : Tok} {Q : Value → Shared → Prop} (k : Q (.bool (decide (a < b))) (St s h tk)) : wpAny (model prog w) A (compareOp .Lt (.int a t) (.int b u)) Q E (St s h tk) := PySem.P.lt_int k
theorem w_ge_int {a b : Int} {t u : Tok} {Q : Value → Shared → Prop} (k : Q (.bool (decide (a ≥ b))) (St s h tk)) : wpAny (model prog w) A (compareOp .GtE (.int a t) (.int b u)) Q E (St s h tk) := PySem.P.ge_int k
theorem w_le_int {a b : Int} {t u : Tok} {Q : Value → Shared → Prop} (k : Q (.bool (decide (a ≤ b))) (St s h tk)) : wpAny (model prog w) A (compareOp .LtE (.int a t) (.int b u)) Q E (St s h tk) := PySem.P.le_int k
theorem w_gt_int {a b : Int} {t u : Tok} {Q : Value → Shared → Prop} (k : Q (.bool (decide (a > b))) (St s h tk)) : wpAny (model prog w) A (compareOp .Gt (.int a t) (.int b u)) Q E (St s h tk) := PySem.P.gt_int k
theorem w_eq_int {a b : Int} {t u : Tok} {Q : Value → Shared → Prop} (k : Q (.bool (a == b)) (St s h tk)) : wpAny (model prog w) A (compareOp .Eq (.int a t) (.int b u)) Q E (St s h tk) := PySem.P.eq_int k
theorem w_is_none {Q : Value → Shared → Prop} (k : Q (.bool true) (St s h tk)) : wpAny (model prog w) A (compareOp .Is .none .none) Q E (St s h tk) := is_none k
theorem w_is_str {x : Str} {t : Tok} {Q : Value → Shared → Prop} (k : Q (.bool false) (St s h tk)) : wpAny (model prog w) A (compareOp .Is (.str x t) .none) Q E (St s h tk) := is_none k
theorem w_is_ref {a : Addr} {Q : Value → Shared → Prop} (k : Q (.bool false) (St s h tk)) : wpAny (model prog w) A (compareOp .Is (.ref a) .none) Q E (St s h tk) := is_none k
theorem w_not_none {Q : Value → Shared → Prop} (k : Q (.bool false) (St s h tk)) : wpAny (model prog w) A (compareOp .IsNot .none .none) Q E (St s h tk) := isNot_none k
theorem w_not_str {x : Str} {t : Tok} {Q : Value → Shared → Prop} (k : Q (.bool true) (St s h tk)) : wpAny (model prog w) A (compareOp .IsNot (.str x t) .none) Q E (St s h tk) := isNot_none k
theorem w_not_ref {a : Addr} {Q : Value → Shared → Prop} (k : Q (.bool true) (St s h tk)) : wpAny (model prog w) A (compareOp .IsNot (.ref a) .none) Q E (St s h tk) := isNot_none k
theorem w_item {value slice : PySem.Expr} {t : Addr} {items : Array Value} {i : Int} {j : Nat} {u : Tok} {x : Value} {ops : List Value} {Q : Value → Shared → Prop} (ht : IsTup h t items) (hlo : -(2 ^ 63) ≤ i) (hhi : i < 2 ^ 63) (hj : seqIndex? i items.size = some j) (hx : items[j]? = some x)
  (k : Q x (St s h tk)) (hs : subscripted slice false (.ref t) (.int i u) = operate ops (getItem (.ref t) (.int i u))) : wpAny (model prog w) A (subscriptTail value slice (.ref t) (.int i u)) Q E (St s h tk) :=
 tail_any ht.typeIs slot_tuple_getitem.lookup (getItem_tuple ht hlo hhi hj hx k) hs
theorem w_inL {c x : Value} {xs : List PyData} {d : PyData} {as as' : List Addr} {Q : Value → Shared → Prop} (rc : Reads h c (.list xs) as) (rx : Reads h x d as') (hx : PyData.canLayAll0 xs = true) (hd : d.canLay0 = true) (hu : A.units + 1 + min (PyData.depthAll xs) d.depth < cLine)
  (k : Q (.bool (xs.any fun y => PyData.eqv y d)) (St s h tk)) : wpAny (model prog w) A (compareOp .In x c) Q E (St s h tk) := PySem.SeqAt.in_list_reads rc rx hx hd hu k
theorem w_inT {c x : Value} {xs : List PyData} {d : PyData} {as as' : List Addr} {Q : Value → Shared → Prop} (rc : Reads h c (.tuple xs) as) (rx : Reads h x d as') (hx : PyData.canLayAll0 xs = true) (hd : d.canLay0 = true) (hu : A.units + 1 + min (PyData.depthAll xs) d.depth < cLine)
  (k : Q (.bool (xs.any fun y => PyData.eqv y d)) (St s h tk)) : wpAny (model prog w) A (compareOp .In x c) Q E (St s h tk) := PySem.SeqAt.in_tuple_reads rc rx hx hd hu k
theorem w_ninT {c x : Value} {xs : List PyData} {d : PyData} {as as' : List Addr} {Q : Value → Shared → Prop} (rc : Reads h c (.tuple xs) as) (rx : Reads h x d as') (hx : PyData.canLayAll0 xs = true) (hd : d.canLay0 = true) (hu : A.units + 1 + min (PyData.depthAll xs) d.depth < cLine)
  (k : Q (.bool (!xs.any fun y => PyData.eqv y d)) (St s h tk)) : wpAny (model prog w) A (compareOp .NotIn x c) Q E (St s h tk) := PySem.SeqAt.notIn_tuple_reads rc rx hx hd hu k
theorem w_eq {a b : Value} {da db : PyData} {as as' : List Addr} {Q : Value → Shared → Prop} (ra : Reads h a da as) (rb : Reads h b db as') (ha : da.canLay0 = true) (hb : db.canLay0 = true) (hu : A.units + min da.depth db.depth < cLine)
  (k : Q (.bool (PyData.eqv da db)) (St s h tk)) : wpAny (model prog w) A (compareOp .Eq a b) Q E (St s h tk) := PySem.SeqAt.compareEq_reads ra rb ha hb hu k
theorem w_ne {a b : Value} {da db : PyData} {as as' : List Addr} {Q : Value → Shared → Prop} (ra : Reads h a da as) (rb : Reads h b db as') (ha : da.canLay0 = true) (hb : db.canLay0 = true) (hu : A.units + min da.depth db.depth < cLine)
  (k : Q (.bool (!PyData.eqv da db)) (St s h tk)) : wpAny (model prog w) A (compareOp .NotEq a b) Q E (St s h tk) := PySem.SeqAt.compareNe_reads ra rb ha hb hu k
end
omit rt0 in
theorem any_strs (x : Str) : ∀ xs : List Str, (xs.map PyData.str).any (fun y => PyData.eqv y (.str x)) = decide (x ∈ xs)
 | [] => rfl
 | y :: ys => by
  rw [List.map_cons, List.any_cons, any_strs x ys]
  have : PyData.eqv (.str y) (.str x) = (y == x) := rfl
  rw [this]
  by_cases e : y = x
  ·subst e; simp
  ·have e' : (y == x) = false := beq_eq_false_iff_ne.mpr e
   have e2 : ¬ x = y := fun q => e q.symm
   rw [e', Bool.false_or]
   congr 1
   rw [List.mem_cons]
   exact propext ⟨.inr, fun q => q.resolve_left e2⟩
omit rt0 in
theorem canLay_strs : ∀ {xs : List Str}, (∀ x ∈ xs, PyData.strOk x = true) → PyData.canLayAll0 (xs.map .str) = true
 | [], _ => rfl
 | x :: xs, h => by
  rw [List.map_cons]
  rw [PyData.canLayAll0, PyData.canLay0, h x (.head _), canLay_strs fun y m => h y (.tail _ m)]; rfl
omit rt0 in
theorem depth_strs : ∀ xs : List Str, PyData.depthAll (xs.map .str) = 0
 | [] => rfl
 | x :: xs => by
  rw [List.map_cons]
  rw [PyData.depthAll, PyData.depth, depth_strs xs]; rfl
section
variable {A : Around} {E : Value → Shared → Prop} {h : Heap} {tk : Nat}
theorem w_nth {value slice : PySem.Expr} {t : Addr} {ds : List PyData} (i : Nat) {u : Tok} {d : PyData} {ops : List Value} {Q : Value → Shared → Prop} (r : Rd h (.ref t) (.tuple ds)) (e : ds[i]? = some d) (hz : ds.length ≤ 10000) (k : ∀ x, Rd h x d → Q x (St s h tk))
  (hs : subscripted slice false (.ref t) (.int i u) = operate ops (getItem (.ref t) (.int i u))) : wpAny (model prog w) A (subscriptTail value slice (.ref t) (.int i u)) Q E (St s h tk) := by
 fin_once o1 fail
 obtain ⟨t', items, q, ht, ra⟩ := r.tuple
 fin_once o2 fail
 cases q
 obtain ⟨x, e1, r1⟩ := readsAll_get ra i d e
 have hl : items.size = ds.length := by rw [← readsAll_len ra]; simp
 have hi : i < items.size := by
  rw [hl]
  exact (List.getElem?_eq_some_iff.mp e).1
 exact w_item ht (by fin_once om fail) (by fin_once om fail) (j := i) (seq_at hi) (by simpa using e1) (k x r1) hs
theorem w_lenT {v : Value} {ds : List PyData} {Q : Value → Shared → Prop} (r : Rd h v (.tuple ds)) (hz : ds.length ≤ 10000) (k : ∀ u tk', Q (.int ds.length u) (St s h tk')) : wpAny (model prog w) A (call (.builtin "len") [v]) Q E (St s h tk) := by
 obtain ⟨t', items, rfl, ht, ra⟩ := r.tuple
 have hl : items.size = ds.length := by rw [← readsAll_len ra]; simp
 exact w_len_tup ht (by fin_once om fail) (by rw [hl]; exact k)
end
section
variable {A : Around} {E : Value → Shared → Prop} {h : Heap} {tk : Nat} {Q : Value → Shared → Prop}
theorem w_eq_none_str {x : Str} {t : Tok} (k : Q (.bool false) (St s h tk)) : wpAny (model prog w) A (compareOp .Eq .none (.str x t)) Q E (St s h tk) := PySem.EqNone.eq_none_str k
end
theorem isTup_ch {h h' : Heap} {t : Addr} {items : Array Value} (x : IsTup h t items) (c : Ch [] h h') : IsTup h' t items := by
 fin_once o1 fail
 obtain ⟨o, e, f, r⟩ := x
 fin_once o2 fail
 exact ⟨o, c.same _ _ e (by fin_once sm fail) (isFr_tuple f), f, r⟩
section
variable {A : Around} {E : Value → Shared → Prop} {h : Heap} {bs : List Heap} {tk : Nat} {env : Env} {L : Addr} {ks gs : List Str} {cs : List Cell} {vs : List (Option Value)}
theorem w_swap {names : List Str} {t : Addr} {items : Array Value} {Q : Unit → Shared → Prop} (H : At A bs L ks cs vs h) (ht : IsTup h t items) (hn : items.size = names.length)
  (k : ∀ h', At A bs L ks cs vs h' → Ch [] h h' → wpAny (model prog w) A (assignInOrder (names.reverse.map fun n => bindName env n) items.toList.reverse) Q E (St s h' tk)) :
  wpAny (model prog w) A (unpackItems (.ref t) names.length none) (fun items s₂ => wpAny (model prog w) A (assignInOrder (names.reverse.map fun n => bindName env n) items.reverse) Q E s₂) E (St s h tk) :=
 unpackItems_tupleH (s := St s h tk) H.hdOk ht hn fun h' kp => k h' (H.keep (Ch.of_keeps kp)) (Ch.of_keeps kp)
theorem w_assignT {elts : List PySem.Expr} {k p} {t : Addr} {items : Array Value} {Q : Unit → Shared → Prop} (H : At A bs L ks cs vs h) (ht : IsTup h t items) (hn : items.size = (assignEach elts env).length) (hs : (assignEach elts env).findIdx? (·.1) = none)
  (q : ∀ h', At A bs L ks cs vs h' → Ch [] h h' → wpAny (model prog w) A (assignInOrder ((assignEach elts env).map (·.2)) items.toList) Q E (St s h' tk)) : wpAny (model prog w) A (assign (.Tuple elts k p) env (.ref t)) Q E (St s h tk) := by
 rw [arm_assign_Tuple]
 refine wpAny_bind (wpAny_standAt ?_)
 unfold unpack
 rw [hs]
 refine wpAny_bind (wpAny_holding (unpackItems_tupleH (s := St s h tk) H.hdOk ht hn fun h' kp => ?_))
 exact q h' (H.keep (Ch.of_keeps kp)) (Ch.of_keeps kp)
end
section
variable {A : Around} {env : Env} {L : Addr} {ks gs : List Str}
omit rt0 in
theorem fmap_congr {α β : Type} {f g : α → Option β} {l : List α} (h : ∀ q ∈ l, f q = g q) : l.filterMap f = l.filterMap g := by
 induction l with
 | nil => rfl
 | cons a l ih => rw [List.filterMap_cons, List.filterMap_cons, h a (.head _), ih fun q m => h q (.tail _ m)]
omit rt0 in
theorem all2 {α : Type} {P : α → Prop} {x y : α} (a : P x) (b : P y) : ∀ q, q ∈ [x, y] → P q := alc a (alc b aln)
noncomputable def swK (env : Env) (n : Nat) (q : Str × Pos) : Option Str := if (env.kindOf q.1 == some .local && q.2.line == n) = true then some q.1 else none
noncomputable def swM (env : Env) (n : Nat) (x : PySem.Expr) : Option Str := swappedStores.match_8 (fun _ => Option Str) x (fun id pos => if (env.kindOf id == some .local && pos.line == n) = true then some id else none) fun _ => none
noncomputable def swG (bk : ScopeKind) (n : Nat) (names : List Str) (vs : List PySem.Expr) : Sem (Option (List Str)) :=
 if (!(n == 2 || n == 3) || vs.length != n || bk != .function) = true then pure none
 else if (vs.any fun x => swappedStores.match_5 (fun _ => Bool) x (fun _ _ => true) fun _ => false) = true then pure none
 else if (names.length != n || names.eraseDups.length != names.length) = true then pure none
 else if vs.all (foldedForSure 8) = true then pure none
 else if vs.all (constantsAlone 8) = true then unsupported "assign.tuple-of-constant-expressions:order-of-the-stores"
 else pure (some names)
omit rt0 in
theorem sw_eq {l : List (Str × Pos)} {vs : List PySem.Expr} {k k'} {tp p' : Pos} :
  swappedStores [.Tuple (l.map fun q => .Name q.1 q.2) k tp] (.Tuple vs k' p') env = swG env.blockKind (l.map fun q => PySem.Expr.Name q.1 q.2).length (l.filterMap (swK env (((l.map fun q => PySem.Expr.Name q.1 q.2).head?.map (·.pos.line)).getD 0))) vs := by
 have e : ∀ n, l.filterMap (swK env n) = (l.map fun q => PySem.Expr.Name q.1 q.2).filterMap (swM env n) := fun n => (List.filterMap_map (f := fun q : Str × Pos => PySem.Expr.Name q.1 q.2) (g := swM env n)).symm
 rw [e]
 rfl
omit rt0 in
theorem swap_env {env' : Env} {l : List (Str × Pos)} {vs : List PySem.Expr} {k k'} {tp p' : Pos} (hb : env.blockKind = env'.blockKind) (hk : ∀ q ∈ l, env.kindOf q.1 = env'.kindOf q.1) :
  swappedStores [.Tuple (l.map fun q => .Name q.1 q.2) k tp] (.Tuple vs k' p') env = swappedStores [.Tuple (l.map fun q => .Name q.1 q.2) k tp] (.Tuple vs k' p') env' := by
 rw [sw_eq, sw_eq, hb, fmap_congr (g := swK env' _) fun q m => by unfold swK; rw [hk q m]]
theorem swp {l : List (Str × Pos)} (n : List (Str × NameKind)) {vs : List PySem.Expr} {k k'} {tp p' : Pos} {r : Option (List Str)} (kd : env.scope.kind = .function) (hk : ∀ q ∈ l, env.kindOf q.1 = n.lookup q.1)
  (h : swappedStores [.Tuple (l.map fun q => .Name q.1 q.2) k tp] (.Tuple vs k' p') { scope := { kind := .function, names := n, isGenerator := false, isCoroutine := false }, locals := 0, globals := 0, cells := [], code := .none } = pure r) :
  swappedStores [.Tuple (l.map fun q => .Name q.1 q.2) k tp] (.Tuple vs k' p') env = pure r := by
 rw [← h]
 exact swap_env (by unfold Env.blockKind; rw [kd]) hk
noncomputable def env2 (a b : Str) : Env := { scope := { kind := .function, names := [(a, .local), (b, .local)], isGenerator := false, isCoroutine := false }, locals := 0, globals := 0, cells := [], code := .none }
theorem swap2 {a b : Str} {pa pb : Pos} {k k'} {tp p' : Pos} {vs : List PySem.Expr} {r : Option (List Str)} (F : Fn A env L ks gs) (ma : a ∈ ks) (mb : b ∈ ks) (hk : (env2 a b).kindOf a = some .local ∧ (env2 a b).kindOf b = some .local)
  (h : swappedStores [.Tuple [.Name a pa, .Name b pb] k tp] (.Tuple vs k' p') (env2 a b) = pure r) : swappedStores [.Tuple [.Name a pa, .Name b pb] k tp] (.Tuple vs k' p') env = pure r :=
 swp (l := [(a, pa), (b, pb)]) [(a, .local), (b, .local)] F.kind (all2 ((F.lo a ma).trans hk.1.symm) ((F.lo b mb).trans hk.2.symm)) h
end
section
variable {A : Around} {E : Value → Shared → Prop} {h : Heap} {bs : List Heap} {tk : Nat} {env : Env} {L : Addr} {ks gs : List Str} {cs : List Cell} {vs vs1 vs2 : List (Option Value)}
theorem w_swap2 {s : Shared} {a b : Str} {pa pb : Pos} {k k'} {tp p p' : Pos} {vs : List PySem.Expr} {Q : Flow → Shared → Prop} (F : Fn A env L ks gs) (ma : a ∈ ks) (mb : b ∈ ks) (hk : (env2 a b).kindOf a = some .local ∧ (env2 a b).kindOf b = some .local)
  (hw : swappedStores [.Tuple [.Name a pa, .Name b pb] k tp] (.Tuple vs k' p') (env2 a b) = pure (some [a, b])) (hs : swapsWithSole [.Tuple [.Name a pa, .Name b pb] k tp] (.Tuple vs k' p') p.line env = pure false)
  (q : wpAny (model prog w) A (eval (.Tuple vs k' p') env) (fun v s₁ => wpAny (model prog w) A (unpackItems v 2 none) (fun items s₂ => wpAny (model prog w) A (assignInOrder [bindName env b, bindName env a] items.reverse) (fun _ => Q .next) E s₂) E s₁) E s) :
  wpAny (model prog w) A (exec (.Assign [.Tuple [.Name a pa, .Name b pb] k tp] (.Tuple vs k' p') p) env) Q E s :=
 PyProof.Rows.Assign_Tuple_swapped (names := [a, b]) q hs (swap2 F ma mb hk hw)
theorem w_unpack2 {a b : Str} {x y : Value} {t : Addr} {Q : Unit → Shared → Prop} (H : At A bs L ks cs vs h) (F : Fn A env L ks gs) (ht : IsTup h t #[x, y]) (p1 : Put ks vs b y vs1) (p2 : Put ks vs1 a x vs2) (k : ∀ h' tk', At A bs L ks cs vs2 h' → Q () (St s h' tk')) :
  wpAny (model prog w) A (unpackItems (.ref t) 2 none) (fun items s₂ => wpAny (model prog w) A (assignInOrder [bindName env b, bindName env a] items.reverse) Q E s₂) E (St s h tk) := by
 refine unpackItems_tupleH (s := St s h tk) H.hdOk ht rfl fun h' kp => ?_
 have H' := H.keep (Ch.of_keeps kp)
 refine wpAny_assignInOrder_more (w_bind H' F p1 fun h₂ tk₂ H₂ => wpAny_assignInOrder_more (w_bind H₂ F p2 fun h₃ tk₃ H₃ => wpAny_assignInOrder_none (k h₃ tk₃ H₃)))
end
section
variable {A : Around} {E : Value → Shared → Prop} {h : Heap} {bs : List Heap} {tk : Nat} {env : Env} {L : Addr} {ks gs : List Str} {cs : List Cell} {vs vs1 vs2 vs3 vs4 : List (Option Value)}
theorem w_assignT2 {a b : Str} {pa pb : Pos} {k} {p : Pos} {x y : Value} {t : Addr} {Q : Unit → Shared → Prop} (H : At A bs L ks cs vs h) (F : Fn A env L ks gs) (ht : IsTup h t #[x, y]) (p1 : Put ks vs a x vs1) (p2 : Put ks vs1 b y vs2) (q : ∀ h' tk', At A bs L ks cs vs2 h' → Q () (St s h' tk')) :
  wpAny (model prog w) A (assign (.Tuple [.Name a pa, .Name b pb] k p) env (.ref t)) Q E (St s h tk) :=
 w_assignT H ht rfl rfl fun h₁ H₁ _ => wpAny_assignInOrder_more (w_assign H₁ F p1 fun h₂ tk₂ H₂ => wpAny_assignInOrder_more (w_assign H₂ F p2 fun h₃ tk₃ H₃ => wpAny_assignInOrder_none (q h₃ tk₃ H₃)))
theorem w_assignT3 {a b c : Str} {pa pb pc : Pos} {k} {p : Pos} {x y z : Value} {t : Addr} {Q : Unit → Shared → Prop} (H : At A bs L ks cs vs h) (F : Fn A env L ks gs) (ht : IsTup h t #[x, y, z]) (p1 : Put ks vs a x vs1) (p2 : Put ks vs1 b y vs2) (p3 : Put ks vs2 c z vs3) (q : ∀ h' tk', At A bs L ks cs vs3 h' → Q () (St s h' tk')) :
  wpAny (model prog w) A (assign (.Tuple [.Name a pa, .Name b pb, .Name c pc] k p) env (.ref t)) Q E (St s h tk) :=
 w_assignT H ht rfl rfl fun h₁ H₁ _ => wpAny_assignInOrder_more (w_assign H₁ F p1 fun h₂ tk₂ H₂ => wpAny_assignInOrder_more (w_assign H₂ F p2 fun h₃ tk₃ H₃ => wpAny_assignInOrder_more (w_assign H₃ F p3 fun h₄ tk₄ H₄ => wpAny_assignInOrder_none (q h₄ tk₄ H₄))))
theorem w_assignT4 {a b c d : Str} {pa pb pc pd : Pos} {k} {p : Pos} {x y z u : Value} {t : Addr} {Q : Unit → Shared → Prop} (H : At A bs L ks cs vs h) (F : Fn A env L ks gs) (ht : IsTup h t #[x, y, z, u]) (p1 : Put ks vs a x vs1) (p2 : Put ks vs1 b y vs2) (p3 : Put ks vs2 c z vs3) (p4 : Put ks vs3 d u vs4) (q : ∀ h' tk', At A bs L ks cs vs4 h' → Q () (St s h' tk')) :
  wpAny (model prog w) A (assign (.Tuple [.Name a pa, .Name b pb, .Name c pc, .Name d pd] k p) env (.ref t)) Q E (St s h tk) :=
 w_assignT H ht rfl rfl fun h₁ H₁ _ => wpAny_assignInOrder_more (w_assign H₁ F p1 fun h₂ tk₂ H₂ => wpAny_assignInOrder_more (w_assign H₂ F p2 fun h₃ tk₃ H₃ => wpAny_assignInOrder_more (w_assign H₃ F p3 fun h₄ tk₄ H₄ => wpAny_assignInOrder_more (w_assign H₄ F p4 fun h₅ tk₅ H₅ => wpAny_assignInOrder_none (q h₅ tk₅ H₅)))))
end
noncomputable def No : Value → Shared → Prop := fun _ _ => False
noncomputable def EscN (N : Prop) (nf : Addr) (A : Around) (bs : List Heap) (L : Addr) : Value → Shared → Prop := fun e s' => N ∧ Esc nf A bs L e s'
noncomputable def Tn (I : Nat → Shared → Prop) (n : Nat) (Q : Flow → Shared → Prop) : Flow → Shared → Prop := fun f s => match f with
 | .next | .cont => ∃ m, m < n ∧ I m s
 | .brk => Q .next s
 | .ret v => Q (.ret v) s
omit rt0 in
theorem tn_ret {I : Nat → Shared → Prop} {n : Nat} {Q : Flow → Shared → Prop} {v : Value} {s : Shared} (i : Q (.ret v) s) : Tn I n Q (.ret v) s := i
omit rt0 in
theorem tn_next {I : Nat → Shared → Prop} {n m : Nat} {Q : Flow → Shared → Prop} {s : Shared} (h : m < n) (i : I m s) : Tn I n Q .next s := ⟨m, h, i⟩
section
variable {A : Around} {E : Value → Shared → Prop} {bs : List Heap} {env : Env} {L nf : Addr} {ks gs : List Str}
theorem w_No {s : Shared} {α : Type} {m : Sem α} {Q : α → Shared → Prop} (h : wpAny (model prog w) A m Q No s) : wpAny (model prog w) A m Q E s := wpAny_mono h (fun _ _ q => q) fun _ _ q => q.elim
theorem w_While0 {s : Shared} {test : PySem.Expr} {body orelse : List Stmt} {p : Pos} {Q : Flow → Shared → Prop} (I : Nat → Shared → Prop) (n : Nat) (h : I n s)
  (turn : ∀ n s', I n s' → ∀ T' : Flow → Shared → Prop, (∀ f s', Tn I n Q f s' → T' f s') → wpAny (model prog w) A (isTrue test env (eval test env)) (fun b s₂ => if b = true then wpAny (model prog w) A (execs body env) T' No s₂ else wpAny (model prog w) A (execs orelse env) Q No s₂) No s') :
  wpAny (model prog w) A (exec (.While test body orelse p) env) Q E s := by
 refine wpAny_While (codeAny_whileLoop I (fun n s' hI => ?_) n h)
 refine wpAny_mono (turn n s' hI _ fun _ _ q => q) (fun b s₂ h₂ => ?_) fun _ _ q => q.elim
 cases b
 ·exact wpAny_mono h₂ (fun _ _ q => q) fun _ _ q => q.elim
 ·refine wpAny_mono h₂ (fun f s₃ q => ?_) fun _ _ q => q.elim
  cases f <;> exact q
theorem w_WhileE {s : Shared} {N : Prop} {test : PySem.Expr} {body orelse : List Stmt} {p : Pos} {Q : Flow → Shared → Prop} (F : Fn A env L ks gs) (hE : ∀ e s', EscN N nf A bs L e s' → E e s') (I : Nat → Shared → Prop) (n : Nat) (h : I n s)
  (turn : ∀ n s', I n s' → ∀ T' : Flow → Shared → Prop, (∀ f s', Tn I n Q f s' → T' f s') → ∀ E' : Value → Shared → Prop, (∀ e s', EscN N nf A bs L e s' → E' e s') → wpAny (model prog w) A (isTrue test env (eval test env)) (fun b s₂ => if b = true then wpAny (model prog w) A (execs body env) T' E' s₂ else wpAny (model prog w) A (execs orelse env) Q E' s₂) E' s') :
  wpAny (model prog w) A (exec (.While test body orelse p) env) Q E s := by
 have thr : ∀ e s', EscN N nf A bs L e s' → notedBy (model prog w) A env (fun e s' => cameBackBy (model prog w) A env E e s') e s' := fun e s' q => q.2.through F rfl id fun _ _ q' => hE _ _ ⟨q.1, q'⟩
 refine wpAny_While (codeAny_whileLoop I (fun n s' hI => ?_) n h)
 refine wpAny_mono (turn n s' hI _ (fun _ _ q => q) _ fun _ _ q => q) (fun b s₂ h₂ => ?_) thr
 cases b
 ·exact wpAny_mono h₂ (fun _ _ q => q) thr
 ·refine wpAny_mono h₂ (fun f s₃ q => ?_) thr
  cases f <;> exact q
end
section
variable {A : Around} {Q E : Value → Shared → Prop} {h : Heap} {tk : Nat} {K : Frag} {base : Heap} {bs : List Heap} {f nf : Addr} {oc : Value} {od : Option Addr} {osl : Array (Option Value)}
  {name qual : Str} {params : Arguments} {body : List Stmt} {scope : Scope} {dV kV doc pm cdv ct : Value} {an : Option Addr} {args vals : List Value} {cs : List Cell}
theorem fn0 (ks₁ ks₂ gs : List Str)
  (T : Tp K base) (mb : base ∈ bs) (x : ∀ g ∈ bs, Ch [] g h) (C : Cells h cs) (nC : ∀ g ∈ bs, ∀ c ∈ cs, g.get? c.1 = none) (ff : ∃ l, A.frames = some l ∧ FF h l) (hd : ∃ g ∈ bs, HdOk A g)
  (ho : K.lookup f = some ⟨oc, od, .func (fnOf name qual params body scope dV kV doc pm an cdv ct), osl⟩) (hcd : codeIn K cdv qual = true) (hroom : A.depth < recursionLimit)
  (hbind : BindsTo (St s h tk) (fnOf name qual params body scope dV kV doc pm an cdv ct) ⟨args, []⟩ (ks₁.zip vals)) (hlen : ks₁.length = vals.length)
  (nd : (ks₁ ++ ks₂).Nodup) (hlo : ((ks₁ ++ ks₂).all fun y => scope.names.lookup y == some .local) = true) (hgl : (gs.all fun y => scope.names.lookup y == some .globalImplicit) = true)
  (hco : scope.isCoroutine = false) (hgen : scope.isGenerator = false) (hk : scope.kind = .function) (hcell : ∀ x ∈ scope.names, x.2 ≠ .cell)
  (k : ∀ env L h₁ tk₁, Fn (A.deeper env) env L (ks₁ ++ ks₂) gs → At (A.deeper env) bs L (ks₁ ++ ks₂) cs (vals.map Option.some ++ ks₂.map fun _ => none) h₁ → Ch [] h h₁ → h.objs.size = L →
   wpAny (model prog w) (A.deeper env) (execs body env) (Rt Q) No (St s h₁ tk₁)) :
  wpAny (model prog w) A (call (.ref f) args) Q E (St s h tk) :=
 call_fn ks₁ ks₂ gs T mb x C nC ff hd ho hcd hroom hbind hlen nd hlo hgl hco hgen hk hcell fun env L h₁ tk₁ F H c e => w_No (k env L h₁ tk₁ F H c e)
theorem fnE {N : Prop} (ks₁ ks₂ gs : List Str)
  (T : Tp K base) (mb : base ∈ bs) (x : ∀ g ∈ bs, Ch [] g h) (C : Cells h cs) (nC : ∀ g ∈ bs, ∀ c ∈ cs, g.get? c.1 = none) (ff : ∃ l, A.frames = some l ∧ FF h l) (hd : ∃ g ∈ bs, HdOk A g)
  (ho : K.lookup f = some ⟨oc, od, .func (fnOf name qual params body scope dV kV doc pm an cdv ct), osl⟩) (hcd : codeIn K cdv qual = true) (hroom : A.depth < recursionLimit)
  (hbind : BindsTo (St s h tk) (fnOf name qual params body scope dV kV doc pm an cdv ct) ⟨args, []⟩ (ks₁.zip vals)) (hlen : ks₁.length = vals.length)
  (nd : (ks₁ ++ ks₂).Nodup) (hlo : ((ks₁ ++ ks₂).all fun y => scope.names.lookup y == some .local) = true) (hgl : (gs.all fun y => scope.names.lookup y == some .globalImplicit) = true)
  (hco : scope.isCoroutine = false) (hgen : scope.isGenerator = false) (hk : scope.kind = .function) (hcell : ∀ x ∈ scope.names, x.2 ≠ .cell)
  (hE : ∀ e s', N → Rse nf A bs e s' → E e s')
  (k : ∀ env L h₁ tk₁, Fn (A.deeper env) env L (ks₁ ++ ks₂) gs → At (A.deeper env) bs L (ks₁ ++ ks₂) cs (vals.map Option.some ++ ks₂.map fun _ => none) h₁ → Ch [] h h₁ → h.objs.size = L →
   ∀ E' : Value → Shared → Prop, (∀ e s', EscN N nf (A.deeper env) bs L e s' → E' e s') → wpAny (model prog w) (A.deeper env) (execs body env) (Rt Q) E' (St s h₁ tk₁)) :
  wpAny (model prog w) A (call (.ref f) args) Q E (St s h tk) :=
 call_fn ks₁ ks₂ gs T mb x C nC ff hd ho hcd hroom hbind hlen nd hlo hgl hco hgen hk hcell fun env L h₁ tk₁ F H c e => wpAny_mono (k env L h₁ tk₁ F H c e _ fun _ _ q => q) (fun _ _ q => q) fun _ _ q => q.2.lv F fun e s' => hE e s' q.1
theorem fn0c {n : Nat} (ks₁ ks₂ gs : List Str) (C : Cx K A h (n + 1))
  (ho : K.lookup f = some ⟨oc, od, .func (fnOf name qual params body scope dV kV doc pm an cdv ct), osl⟩) (hcd : codeIn K cdv qual = true)
  (hbind : BindsTo (St s h tk) (fnOf name qual params body scope dV kV doc pm an cdv ct) ⟨args, []⟩ (ks₁.zip vals)) (hlen : ks₁.length = vals.length)
  (nd : (ks₁ ++ ks₂).Nodup) (hlo : ((ks₁ ++ ks₂).all fun y => scope.names.lookup y == some .local) = true) (hgl : (gs.all fun y => scope.names.lookup y == some .globalImplicit) = true)
  (hco : scope.isCoroutine = false) (hgen : scope.isGenerator = false) (hk : scope.kind = .function) (hcell : ∀ x ∈ scope.names, x.2 ≠ .cell)
  (k : ∀ env L h₁ tk₁, Fn (A.deeper env) env L (ks₁ ++ ks₂) gs → At (A.deeper env) [h] L (ks₁ ++ ks₂) [] (vals.map Option.some ++ ks₂.map fun _ => none) h₁ → Ch [] h h₁ → Tp K h → Rm (A.deeper env) n →
   wpAny (model prog w) (A.deeper env) (execs body env) (Rt Q) No (St s h₁ tk₁)) :
  wpAny (model prog w) A (call (.ref f) args) Q E (St s h tk) :=
 fn0 (bs := [h]) (cs := []) ks₁ ks₂ gs C.t (.head _) (by simp [Ch.refl]) Cells.nil (by fin_once sm fail) C.ff ⟨_, .head _, C.hd⟩ ho hcd C.r.room hbind hlen nd hlo hgl hco hgen hk hcell fun env L h₁ tk₁ F H c e => k env L h₁ tk₁ F H c C.t (C.r.deeper (Nat.le_refl _))
theorem fnEc {N : Prop} {n : Nat} (ks₁ ks₂ gs : List Str) (C : Cx K A h (n + 1))
  (ho : K.lookup f = some ⟨oc, od, .func (fnOf name qual params body scope dV kV doc pm an cdv ct), osl⟩) (hcd : codeIn K cdv qual = true)
  (hbind : BindsTo (St s h tk) (fnOf name qual params body scope dV kV doc pm an cdv ct) ⟨args, []⟩ (ks₁.zip vals)) (hlen : ks₁.length = vals.length)
  (nd : (ks₁ ++ ks₂).Nodup) (hlo : ((ks₁ ++ ks₂).all fun y => scope.names.lookup y == some .local) = true) (hgl : (gs.all fun y => scope.names.lookup y == some .globalImplicit) = true)
  (hco : scope.isCoroutine = false) (hgen : scope.isGenerator = false) (hk : scope.kind = .function) (hcell : ∀ x ∈ scope.names, x.2 ≠ .cell)
  (hE : ∀ e s', N → Rse nf A [h] e s' → E e s')
  (k : ∀ env L h₁ tk₁, Fn (A.deeper env) env L (ks₁ ++ ks₂) gs → At (A.deeper env) [h] L (ks₁ ++ ks₂) [] (vals.map Option.some ++ ks₂.map fun _ => none) h₁ → Ch [] h h₁ → Tp K h → Rm (A.deeper env) n →
   ∀ E' : Value → Shared → Prop, (∀ e s', EscN N nf (A.deeper env) [h] L e s' → E' e s') → wpAny (model prog w) (A.deeper env) (execs body env) (Rt Q) E' (St s h₁ tk₁)) :
  wpAny (model prog w) A (call (.ref f) args) Q E (St s h tk) :=
 fnE (N := N) (nf := nf) (bs := [h]) (cs := []) ks₁ ks₂ gs C.t (.head _) (by simp [Ch.refl]) Cells.nil (by fin_once sm fail) C.ff ⟨_, .head _, C.hd⟩ ho hcd C.r.room hbind hlen nd hlo hgl hco hgen hk hcell hE fun env L h₁ tk₁ F H c e => k env L h₁ tk₁ F H c C.t (C.r.deeper (Nat.le_refl _))
theorem w_raiseC {A : Around} {bs : List Heap} {nf : Addr} {h : Heap} {L : Addr} {ks : List Str} {cs : List Cell} {vs : List (Option Value)} {bm : List Value} {e : Addr} {h' : Heap} {tk' : Nat} (H : At A bs L ks cs vs h) (c : Ch [] h h') (ne : h.get? e = none) (ff : ∃ l, A.frames = some l ∧ FF h' l) (N : NewE nf h' e) (X : ExcCls h' nf bm) :
  RzV nf bm A bs (.ref e) (St s h' tk') := by
 obtain ⟨l, l1, l2⟩ := ff
 obtain ⟨g, mg, hd⟩ := H.hd
 exact .mk X N (fun g m => (H.ch g m).trans c) (fun g m => (H.ch g m).nn ne) l1 l2 mg hd
end
section
variable {A : Around} {E : Value → Shared → Prop} {g g' h : Heap} {bs : List Heap} {tk : Nat} {env : Env} {L : Addr} {ks gs : List Str} {cs : List Cell} {vs vs' : List (Option Value)} {K : Frag}
theorem w_attrB {x C : Addr} {v : Value} {fs : List (Str × Value)} {name : Str} {expr : Bool} {Q : Value → Shared → Prop} (I : Ins g' x C fs) (H : At A bs L ks cs vs h) (T : Tp K g) (mb' : g' ∈ bs) (mb : g ∈ bs) (O : AttrOk K C name) (m : (name, v) ∈ fs) (hv : handedIn v = true) (k : ∀ tk', Q v (St s h tk')) :
  wpAny (model prog w) A (getAttr (.ref x) name expr) Q E (St s h tk) := w_get_attr (I.ch (H.ch g' mb')) H T mb O m hv k
theorem w_methB {x C f : Addr} {fs : List (Str × Value)} {name : Str} {pl : Sem Bool} {Q : Value × List Value → Shared → Prop} (I : Ins g' x C fs) (H : At A bs L ks cs vs h) (T : Tp K g) (mb' : g' ∈ bs) (mb : g ∈ bs) (O : MethOk K C name f) (m : (fs.map (·.1)).contains name = false) (k : Q (.ref f, [.ref x]) (St s h tk)) :
  wpAny (model prog w) A (getMethod (.ref x) name pl) Q E (St s h tk) := w_get_meth (I.ch (H.ch g' mb')) H T mb O (fun q => by rw [List.contains_iff_mem.mpr q] at m; cases m) k
variable {α : Type} {P : Addr → Prop} {d : Addr} {R : Value → α → Prop} {l : List (Str × α)} {x : Str} {t : Tok}
theorem w_dgetB {Q : Value → Shared → Prop} (D : DctP P g d R l) (H : At A bs L ks cs vs h) (mb : g ∈ bs) (k1 : ∀ a v tk', at? l x = some a → R v a → Q v (St s h tk')) (k2 : ∀ tk', at? l x = none → Q .none (St s h tk')) :
  wpAny (model prog w) A (call (.builtin "dict.get") [.ref d, .str x t]) Q E (St s h tk) := by
 fin_once o1 fail
 obtain ⟨o, kvs, _, lo, e, D, T⟩ := D
 fin_once o2 fail
 have e' := (H.ch g mb).same _ _ e (by fin_once sm fail) (mutO_fr D.mut)
 refine w_dget1 e' D lo ?_
 cases q : at? l x with
 | none => rw [T.none q]; exact k2 _ q
 | some a =>
  obtain ⟨v, q', r⟩ := T.some q
  rw [q']
  exact k1 a v _ q r
theorem w_dmethB {pl : Sem Bool} {Q : Value × List Value → Shared → Prop} (D : DctP P g d R l) (H : At A bs L ks cs vs h) (mb : g ∈ bs) (k : Q (.builtin "dict.get", [.ref d]) (St s h tk)) : wpAny (model prog w) A (getMethod (.ref d) (Str.ofString "get") pl) Q E (St s h tk) := by
 fin_once o1 fail
 obtain ⟨o, kvs, _, lo, e, D, T⟩ := D
 fin_once o2 fail
 exact w_dmeth ((H.ch g mb).same _ _ e (by fin_once sm fail) (mutO_fr D.mut)) D k
theorem w_ditemB {value slice : PySem.Expr} {ops : List Value} {a : α} {Q : Value → Shared → Prop} (D : DctP P g d R l) (H : At A bs L ks cs vs h) (mb : g ∈ bs) (q : at? l x = some a) (k : ∀ v tk', R v a → Q v (St s h tk'))
  (hs : subscripted slice false (.ref d) (.str x t) = operate ops (getItem (.ref d) (.str x t))) : wpAny (model prog w) A (subscriptTail value slice (.ref d) (.str x t)) Q E (St s h tk) := by
 fin_once o1 fail
 obtain ⟨o, kvs, _, lo, e, D, T⟩ := D
 obtain ⟨v, q', r⟩ := T.some q
 fin_once o2 fail
 exact w_ditem ((H.ch g mb).same _ _ e (by fin_once sm fail) (mutO_fr D.mut)) D q' (k v _ r) hs
theorem w_dinB {Q : Value → Shared → Prop} (D : DctP P g d R l) (H : At A bs L ks cs vs h) (mb : g ∈ bs) (k : ∀ tk', Q (.bool (at? l x).isSome) (St s h tk')) :
  wpAny (model prog w) A (compareOp .In (.str x t) (.ref d)) Q E (St s h tk) := by
 fin_once o1 fail
 obtain ⟨o, kvs, _, lo, e, D, T⟩ := D
 fin_once o2 fail
 refine w_din ((H.ch g mb).same _ _ e (by fin_once sm fail) (mutO_fr D.mut)) D lo ?_
 rw [T.isSome]
 exact k _
end
omit rt0 in
theorem join_len (sep : Str) : ∀ ts : List Str, (∀ x ∈ ts, x.length ≤ 40) → sep.length ≤ 2 → (Str.join sep ts).length ≤ 42 * ts.length
 | [], _, _ => by show Str.length (Str.join sep []) ≤ 0; exact Nat.le_refl _
 | [x], h, _ => by
  show x.length ≤ 42
  have := h x (.head _)
  fin_once om fail
 | x :: y :: r, h, hs => by
  have ih := join_len sep (y :: r) (fun z m => h z (.tail _ m)) hs
  show (x ++ sep ++ Str.join sep (y :: r)).length ≤ _
  rw [Str.length_append, Str.length_append]
  have := h x (.head _)
  simp only [List.length_cons] at ih ⊢
  fin_once om fail
section
variable {A : Around} {E : Value → Shared → Prop} {h : Heap} {tk : Nat}
theorem w_joinT {x : Str} {t : Tok} {v : Value} {ns : List Str} {Q : Value → Shared → Prop} (r : Rd h v (strsD ns)) (hn : ∀ y ∈ ns, y.length ≤ 40) (hx : x.length ≤ 2) (hl : ns.length ≤ 20) (k : ∀ y t' tk', y.length ≤ 1000 → Q (.str y t') (St s h tk')) :
  wpAny (model prog w) A (call (.builtin "str.join") [.str x t, v]) Q E (St s h tk) := by
 obtain ⟨a, items, rfl, ht, ra⟩ := r.tuple
 have e : Txt.join x ns = Str.join x ns := PySem.StrLaws.glued_eq_join x ns
 have l := join_len x ns hn hx
 have sum : ∀ l : List Str, (∀ y ∈ l, y.length ≤ 40) → (l.map (·.length)).sum ≤ 40 * l.length := by
  intro l
  induction l with
  | nil => intro _; simp
  | cons y l ih =>
   intro h
   have h1 := h y (.head _)
   have h2 := ih fun z m => h z (.tail _ m)
   simp only [List.map_cons, List.sum_cons, List.length_cons]
   fin_once om fail
 have s1 := sum ns hn
 have s2 : ns.length * x.length ≤ 20 * 2 := Nat.mul_le_mul hl hx
 exact PyProof.Rows.join_tuple ht (strsAre_of ra) (by fin_once om fail) fun t' k' => k _ _ _ (by rw [e]; fin_once om fail)
end
section
variable {A : Around} {E E' : Value → Shared → Prop} {g h : Heap} {bs : List Heap} {tk : Nat} {env : Env} {L nf : Addr} {ks gs : List Str} {cs : List Cell} {vs : List (Option Value)} {K : Frag}
theorem Rse.esc0 {e : Value} {s' : Shared} (ff : ∃ l, A.frames = some l ∧ FF h l) (r : Rse nf A [h] e s') : Esc nf A [h] L e s' := by
 induction r
 rename_i a h' tk' x f
 obtain ⟨l, l1, l2⟩ := ff
 exact (.mk x l1 ((x h (.head _)).ff l2) (f.weak (fun _ q => .inr (.inl q)) id))
theorem At.mark {a : Addr} {h' : Heap} (H : At A bs L ks cs vs h') (new : h.get? a = none) (fl : Fly nf [h] h' a restFl (A.handled = none)) (hh : A.handled = none) (hs : ∀ b o, h'.get? b = some o → h.get? b = none → b ≠ L ∧ ∀ c ∈ cs, c.1 ≠ b) :
  ∃ g, (∀ b ∈ bs, Ch [] b g) ∧ At (A.mark (some (.ref a))) (g :: bs) L ks cs vs h' ∧ (∀ b o, h'.get? b = some o → b ≠ L → (∀ c ∈ cs, c.1 ≠ b) → g.get? b = some o) ∧ (∀ b o, h'.get? b = some o → isT o → g.get? b = some o) := by
 fin_once o1 fail
 refine H.base'K fun g x H' k1 k2 => ?_
 obtain ⟨oe, ws, he, hcls, hd, hz, hc, _⟩ := fl.is
 obtain ⟨n1, n2⟩ := hs a oe he new
 fin_once o2 fail
 refine ⟨g, x, ⟨H'.ch, H'.newL, H'.newC, H'.ns, H'.neL, H'.cells, H'.ff, g, .head _, .inr ⟨a, oe, ws, rfl, k1 a oe he n1 n2, isFr_ref hcls, hd, hc hh⟩⟩, k1, k2⟩
theorem At.unmark {x : Option Value} {g : Heap} (H : At (A.mark x) (g :: bs) L ks cs vs h) (hd : ∃ g ∈ bs, HdOk A g) : At A bs L ks cs vs h :=
 ⟨fun g m => H.ch g (.tail _ m), fun g m => H.newL g (.tail _ m), fun g m => H.newC g (.tail _ m), H.ns, H.neL, H.cells, H.ff, hd⟩
omit rt0 in
theorem Rm.mark {n : Nat} {x : Option Value} (r : Rm A n) : Rm (A.mark x) n := ⟨r.dp, r.un⟩
omit rt0 in
theorem Fn.mark {x : Option Value} (F : Fn A env L ks gs) : Fn (A.mark x) env L ks gs := ⟨F.kind, F.loc, F.glob, F.bi, F.frame, F.fs, F.nd, F.lo, F.gl⟩
theorem w_Try {N : Prop} {bm : List Value} {body orelse : List Stmt} {b₀ : Stmt} {suite : List Stmt} {nm : Str} {np hp p : Pos} {rest : List ExceptHandler} {Q : Flow → Shared → Prop} (H : At A bs L ks cs vs h) (F : Fn A env L ks gs) (T : Tp K g) (mb : g ∈ bs) (hh : A.handled = none) (hm : nm ∈ gs) (e1 : nsIn K mainGlobals nm = some (some (.ref nf))) (hcl : ∀ h', K.In h' → ExcCls h' nf bm) (hbase : bm.contains (.type "BaseException") = true)
  (hdb : (nm == ("__debug__" : Str)) = false)
  (hbody : wpAny (model prog w) A (execs body env) (fun f s₁ => match f with | .next => wpAny (model prog w) A (execs orelse env) Q E s₁ | f => Q f s₁) (fun e s' => N ∧ Esc nf A [h] L e s') (St s h tk))
  (hE : ∀ a e s', E' e s' → notedBy (model prog w) (A.mark (some (.ref a))) env (fun e s' => cameBackBy (model prog w) A env E e s') e s')
  (hand : N → ∀ a g' h' tk', (∀ b ∈ bs, Ch [] b g') → At (A.mark (some (.ref a))) (g' :: bs) L ks cs vs h' → Ch [] h h' → (∀ b o, h'.get? b = some o → isT o → g'.get? b = some o) → wpAny (model prog w) (A.mark (some (.ref a))) (execs (b₀ :: suite) env) Q E' (St s h' tk')) :
  wpAny (model prog w) A (exec (.Try body (.ExceptHandler (some (.Name nm np)) none (b₀ :: suite) hp :: rest) orelse [] p) env) Q E (St s h tk) := by
 refine wpAny_Try_except (wpAny_mono hbody (fun _ _ q => q) fun e s' q => ?_)
 obtain ⟨n, r⟩ := q
 induction r
 rename_i a h₁ tk₁ l x l1 l2 f
 obtain ⟨l', e'⟩ := F.fs
 rw [e'] at l1
 cases l1
 refine note_fly (s := St s h₁ tk₁) e' l2 F.frame x f fun h₂ x₂ ff₂ f₂ => ?_
 refine flight_fly (s := { St s h₁ tk₁ with heap := h₂ }) (l := env :: l') ff₂ x₂ f₂ (fun q => by cases q) fun h₃ x₃ ff₃ f₃ => ?_
 have c₃ : Ch [] h h₃ := x₃ h (.head _)
 have H₃ := H.keep c₃
 have hcl' := hcl h₃ (T.ch (H₃.ch g mb)).k
 fin_once o1 fail
 obtain ⟨oe, ws, he, hcls, hdd, hz, hc, _⟩ := f₃.is
 fin_once o2 fail
 refine wpAny_handleBy_cons (codeAny_handlers_test ?_) (by intro q; cases q)
 have T' := T.ch (H₃.ch g mb)
 obtain ⟨mg, gg⟩ := T'.g
 refine Calls.Name_function_global F.kind (F.gl nm hm) (Calls.loadGlobal_global (by rw [F.glob]; exact gg) (mg_of T'.k gg e1) ?_) hdb
 fin_once o1 fail
 obtain ⟨nm', q, N', bs', hdct, sn, sub, ab, col, dd, k0, k1, k2, k3, k5, hC⟩ := hcl'
 fin_once o2 fail
 refine wpAny_excMatches_sub_self hC he hcls hbase ?_
 refine codeAny_handlers_suite ?_
 refine flight_fly (s := { s with heap := h₃, toks := tk₁ }) (l := env :: l') ff₃ x₃ f₃ (fun q => by cases q) fun h₄ x₄ ff₄ f₄ => ?_
 have c₄ : Ch [] h h₄ := x₄ h (.head _)
 have H₄ := H.keep c₄
 obtain ⟨g', y1, y2, y3, y4⟩ := H₄.mark (f₄.new h (.head _)) f₄ hh fun b o _ n' => ⟨(fun z => by
  obtain ⟨oL, q⟩ := H.frL
  rw [z, q] at n'
  exact nomatch n'), (fun c hc' z => by
  obtain ⟨oc, q, _⟩ := H.cells.all c hc'
  rw [z, n'] at q
  exact nomatch q)⟩
 exact wpAny_mono (hand n a g' h₄ tk₁ y1 y2 c₄ y4) (fun _ _ q => q) fun e s' q => hE a e s' q
theorem no_through {x : Option Value} : ∀ e s', No e s' → notedBy (model prog w) (A.mark x) env (fun e s' => cameBackBy (model prog w) A env E e s') e s' := fun _ _ q => q.elim
end
structure Cm (K : Frag) (A : Around) (h : Heap) (S : List Addr) (n : Nat) : Prop where
 base : ∃ g, Tp K g ∧ Ch [] g h ∧ (∀ a ∈ S, g.get? a = none) ∧ HdOk A g ∧ (∀ b o, h.get? b = some o → b ∉ S → g.get? b = some o)
 ff : ∃ l, A.frames = some l ∧ FF h l
 r : Rm A n
section
variable {A : Around} {K : Frag} {bs : List Heap} {g h h' : Heap} {L : Addr} {ks : List Str} {cs cs' : List Cell} {vs : List (Option Value)} {S : List Addr} {n m : Nat}
theorem hide_ch {S : List Addr} (x : Ch [] g h) (n : ∀ a ∈ S, g.get? a = none) : Ch [] g (hideAll h S) := by
 have nb : ∀ b o, g.get? b = some o → b ∉ S := fun b o q m => by rw [n b m] at q; cases q
 refine ⟨fun b o q _ f => hideAll_get _ (x.same b o q (by fin_once sm fail) f) (nb b o q), fun b o q f => ?_⟩
 obtain ⟨sl, z⟩ := x.fr b o q f
 exact ⟨sl, hideAll_get _ z (nb b o q)⟩
theorem At.cm (H : At A bs L ks cs vs h) (T : Tp K g) (mb : g ∈ bs) (hS : ∀ a ∈ S, ∃ c ∈ cs, c.1 = a) (r : Rm A n) (le : m ≤ n) : Cm K A h S m := by
 have nn : ∀ g ∈ bs, ∀ a ∈ S, g.get? a = none := fun g m a ha => by
  obtain ⟨c, hc, rfl⟩ := hS a ha
  exact H.newC g m c hc
 obtain ⟨g1, m1, d1⟩ := H.hd
 exact ⟨⟨hideAll h S, T.ch (hide_ch (H.ch g mb) (nn g mb)), Ch.of_keeps fun b o e => of_hideAll _ e, fun a ha => hideAll_none _ ha, d1.ch (hide_ch (H.ch g1 m1) (nn g1 m1)), fun b o e nS => hideAll_get _ e nS⟩, H.ff, r.le le⟩
theorem At.turned (H : At A bs L ks cs vs h) (x : Ch S h h') (hS : ∀ a ∈ S, ∃ c ∈ cs, c.1 = a) (C' : Cells h' cs') (n : ∀ c ∈ cs', (∃ c0 ∈ cs, c0.1 = c.1) ∨ h.get? c.1 = none) : At A bs L ks cs' vs h' := by
 have nS : ∀ g ∈ bs, ∀ b o, g.get? b = some o → b ∉ S := fun g m b o q hb => by
  obtain ⟨c, hc, e⟩ := hS b hb
  have := H.newC g m c hc
  rw [e, q] at this
  cases this
 have LS : L ∉ S := fun hb => by
  obtain ⟨c, hc, e⟩ := hS L hb
  exact H.neL c hc e
 obtain ⟨l, l1, l2⟩ := H.ff
 refine ⟨fun g m => ⟨fun b o q _ f => x.same b o ((H.ch g m).same b o q (by fin_once sm fail) f) (nS g m b o q) f, fun b o q f => ?_⟩, H.newL, fun g m c hc => ?_, x.ns LS H.ns, fun c hc => ?_, C', ⟨l, l1, x.ff l2⟩, H.hd⟩
 ·obtain ⟨sl, z⟩ := (H.ch g m).fr b o q f
  obtain ⟨sl', z'⟩ := x.fr b _ z f
  exact ⟨sl', z'⟩
 ·rcases n c hc with ⟨c0, h0, e0⟩ | e
  ·rw [← e0]; exact H.newC g m c0 h0
  ·cases q : g.get? c.1 with
   | none => rfl
   | some o =>
    obtain ⟨sl, z⟩ := (H.ch g m).some q (by fin_once sm fail)
    rw [e] at z
    cases z
 ·rcases n c hc with ⟨c0, h0, e0⟩ | e
  ·rw [← e0]; exact H.neL c0 h0
  ·intro z
   obtain ⟨o, ho⟩ := H.frL
   rw [z, ho] at e
   cases e
theorem unhide {S : List Addr} {g h h' : Heap} (x : Ch [] g h') (k : ∀ b o, h.get? b = some o → b ∉ S → g.get? b = some o) (nf : ∀ b o, h.get? b = some o → isFr b o = true → b ∉ S) : Ch S h h' :=
 ⟨fun b o e n f => x.same b o (k b o e n) (by fin_once sm fail) f, fun b o e f => x.fr b o (k b o e (nf b o e f)) f⟩
end
section
variable {A : Around} {K : Frag} {bs bs0 : List Heap} {g h h' : Heap} {L : Addr} {ks gs : List Str} {cs : List Cell} {vs : List (Option Value)} {S : List Addr} {n m : Nat} {env : Env}
theorem At.frOf (H : At A bs L ks cs vs h) (F : Fn A env L ks gs) {o : Obj} (e : h.get? L = some o) : isFr L o = true := by
 fin_once o1 fail
 obtain ⟨l, l1, l2⟩ := H.ff
 obtain ⟨l', e'⟩ := F.fs
 fin_once o2 fail
 rw [e'] at l1
 cases l1
 fin_once o1 fail
 obtain ⟨_, b, ob, hf, hb, hr, _⟩ := l2 env (.head _)
 fin_once o2 fail
 rw [F.frame] at hf
 cases hf
 rw [e] at hb
 cases hb
 exact hr
theorem At.now (H : At A bs L ks cs vs h) (F : Fn A env L ks gs) : ∃ g, (∀ b ∈ bs, Ch [] b g) ∧ At A (g :: bs) L ks cs vs h ∧ (∀ b o, h.get? b = some o → isFr b o = false → (∀ c ∈ cs, c.1 ≠ b) → g.get? b = some o) := by
 fin_once o1 fail
 obtain ⟨g, x, H', k⟩ := H.base
 fin_once o2 fail
 exact ⟨g, x, H', fun b o e f nc => k b o e (fun q => by rw [q] at e f; rw [H.frOf F e] at f; cases f) nc⟩
theorem At.nowK {G : Prop} (H : At A bs L ks cs vs h) (F : Fn A env L ks gs) (k : ∀ g, (∀ b ∈ bs, Ch [] b g) → (At A (g :: bs) L ks cs vs h) → (∀ b o, h.get? b = some o → isFr b o = false → (∀ c ∈ cs, c.1 ≠ b) → g.get? b = some o) → G) : G := by
 obtain ⟨g, x1, x2, x3⟩ := H.now F
 exact k g x1 x2 x3
theorem At.opE {G : Prop} (H : At A bs L ks cs vs h) (k : ∀ V, V = vs → (∀ {x v}, Lk ks vs x v → Lk ks V x v) → At A bs L ks cs V h → G) : G := k vs rfl id H
theorem At.opC {G : Prop} (H : At A bs L ks cs vs h) (k : ∀ C, C = cs → (∀ {c}, c ∈ cs → c ∈ C) → At A bs L ks C vs h → G) : G := k cs rfl id H
theorem At.opC1 {G : Prop} {c1 : Cell} (H : At A bs L ks (c1 :: cs) vs h) (k : ∀ C, C = cs → (∀ {c}, c ∈ cs → c ∈ C) → At A bs L ks (c1 :: C) vs h → G) : G := k cs rfl id H
theorem At.opC2 {G : Prop} {c1 c2 : Cell} (H : At A bs L ks (c1 :: c2 :: cs) vs h) (k : ∀ C, C = cs → (∀ {c}, c ∈ cs → c ∈ C) → At A bs L ks (c1 :: c2 :: C) vs h → G) : G := k cs rfl id H
theorem At.touch {d : Addr} {o o' : Obj} (H : At A bs L ks cs vs h) (F : Fn A env L ks gs) (sub : ∀ g ∈ bs0, g ∈ bs) (hd : ∃ g ∈ bs0, HdOk A g) (n : ∀ g ∈ bs0, g.get? d = none) (nc : ∀ c ∈ cs, c.1 ≠ d) (ho : h.get? d = some o) (m : mutO o = true)
  (hs : Heap.SameBut d h h') (ho' : h'.get? d = some o') (m' : mutO o' = true) :
  ∃ g, (∀ b ∈ bs0, Ch [] b g) ∧ At A (g :: bs0) L ks cs vs h' ∧ (∀ b o, h'.get? b = some o → isFr b o = false → (∀ c ∈ cs, c.1 ≠ b) → g.get? b = some o) := by
 have nL : d ≠ L := fun q => by
  rw [q] at ho
  have := H.frOf F ho
  rw [mutO_fr m] at this
  cases this
 have H1 := (H.drop sub hd).cell (φ := fun _ => True) ho trivial m n nc nL
 have H2 := At.turn (cs₁ := []) (ψ := fun _ => True) H1 hs ho' trivial m'
 exact (H2.sub (List.sublist_cons_self _ _)).now F
theorem At.back (H : At A bs L ks cs vs h) (F : Fn A env L ks gs) (sub : ∀ g ∈ bs0, g ∈ bs) (hd : ∃ g ∈ bs0, HdOk A g) (x : Ch S h h') (n : ∀ g ∈ bs0, ∀ a ∈ S, g.get? a = none) (nc : ∀ c ∈ cs, c.1 ∉ S) (mS : ∀ a ∈ S, ∃ o, h.get? a = some o ∧ mutO o = true) :
  ∃ g, (∀ b ∈ bs0, Ch [] b g) ∧ At A (g :: bs0) L ks cs vs h' ∧ (∀ b o, h'.get? b = some o → isFr b o = false → (∀ c ∈ cs, c.1 ≠ b) → g.get? b = some o) := by
 have nL : L ∉ S := fun q => by
  obtain ⟨o, ho, m⟩ := mS L q
  have := H.frOf F ho
  rw [mutO_fr m] at this
  cases this
 have nb : ∀ g ∈ bs0, ∀ b o, g.get? b = some o → b ∉ S := fun g mg b o e q => by rw [n g mg b q] at e; cases e
 obtain ⟨l, l1, l2⟩ := H.ff
 have H1 : At A bs0 L ks cs vs h' := ⟨fun g mg => ⟨fun b o e _ f => x.same b o ((H.ch g (sub g mg)).same b o e (by fin_once sm fail) f) (nb g mg b o e) f, fun b o e f => by
  obtain ⟨sl, z⟩ := (H.ch g (sub g mg)).fr b o e f
  obtain ⟨sl', z'⟩ := x.fr b _ z f
  exact ⟨sl', z'⟩⟩, fun g mg => H.newL g (sub g mg), fun g mg => H.newC g (sub g mg), x.ns nL H.ns, H.neL, H.cells.ch x nc, ⟨l, l1, x.ff l2⟩, hd⟩
 exact H1.now F
structure Cg (K : Frag) (A : Around) (g h : Heap) (S : List Addr) (n : Nat) : Prop where
 t : Tp K g
 x : Ch [] g h
 hs : ∀ a ∈ S, g.get? a = none
 hd : HdOk A g
 kp : ∀ b o, h.get? b = some o → b ∉ S → g.get? b = some o
 ms : ∀ a ∈ S, ∃ o, h.get? a = some o ∧ mutO o = true
 ff : ∃ l, A.frames = some l ∧ FF h l
 r : Rm A n
theorem At.cg (H : At A bs L ks cs vs h) (T : Tp K g) (mb : g ∈ bs0) (sub : ∀ g ∈ bs0, g ∈ bs) (hd : ∃ g ∈ bs0, HdOk A g) (nn : ∀ g ∈ bs0, ∀ a ∈ S, g.get? a = none) (mS : ∀ a ∈ S, ∃ o, h.get? a = some o ∧ mutO o = true) (r : Rm A n) (le : m ≤ n) :
  Cg K A (hideAll h S) h S m ∧ ∀ b ∈ bs0, Ch [] b (hideAll h S) := by
 obtain ⟨g1, m1, d1⟩ := hd
 have hc : ∀ b ∈ bs0, Ch [] b (hideAll h S) := fun b hb => hide_ch (H.ch b (sub b hb)) (nn b hb)
 exact ⟨⟨T.ch (hc g mb), Ch.of_keeps fun b o e => of_hideAll _ e, fun a ha => hideAll_none _ ha, d1.ch (hc g1 m1), fun b o e nS => hideAll_get _ e nS, mS, H.ff, r.le le⟩, hc⟩
theorem Cg.out (C : Cg K A g h S n) (x : Ch [] g h') : Ch S h h' := unhide x C.kp fun b o e f q => by
 obtain ⟨o', e', m⟩ := C.ms b q
 rw [e] at e'
 cases e'
 rw [mutO_fr m] at f
 cases f
theorem Cg.ffg (C : Cg K A g h S n) : ∃ l, A.frames = some l ∧ FF g l := by
 obtain ⟨l, l1, l2⟩ := C.ff
 refine ⟨l, l1, fun env me => ?_⟩
 fin_once o1 fail
 obtain ⟨hk, b, o, hf, hb, hr, hd⟩ := l2 env me
 fin_once o2 fail
 refine ⟨hk, b, o, hf, C.kp b o hb fun q => ?_, hr, hd⟩
 obtain ⟨o', e', m⟩ := C.ms b q
 rw [hb] at e'
 cases e'
 rw [mutO_fr m] at hr
 cases hr
theorem Rse.escG {nf : Addr} {e : Value} {s' : Shared} (C : Cg K A g h S n) (x : ∀ b ∈ bs0, Ch [] b g) (r : Rse nf A [g] e s') : Esc nf A bs0 L e s' := by
 induction r
 rename_i a h' tk' y f
 obtain ⟨l, l1, l2⟩ := C.ffg
 have y := y g (.head _)
 exact (.mk (fun b mb => (x b mb).trans y) l1 (y.ff l2) ((f.old fun b mb => ⟨g, .head _, x b mb⟩).weak (fun _ q => .inr (.inl q)) id))
end
section
variable {A : Around} {Q E : Value → Shared → Prop} {g h : Heap} {tk : Nat} {K : Frag} {S : List Addr} {f nf : Addr} {oc : Value} {od : Option Addr} {osl : Array (Option Value)}
  {name qual : Str} {params : Arguments} {body : List Stmt} {scope : Scope} {dV kV doc pm cdv ct : Value} {an : Option Addr} {args vals : List Value}
theorem fnM {N : Prop} {n : Nat} (ks₁ ks₂ gs : List Str) (C : Cg K A g h S (n + 1))
  (ho : K.lookup f = some ⟨oc, od, .func (fnOf name qual params body scope dV kV doc pm an cdv ct), osl⟩) (hcd : codeIn K cdv qual = true)
  (hbind : BindsTo (St s h tk) (fnOf name qual params body scope dV kV doc pm an cdv ct) ⟨args, []⟩ (ks₁.zip vals)) (hlen : ks₁.length = vals.length)
  (nd : (ks₁ ++ ks₂).Nodup) (hlo : ((ks₁ ++ ks₂).all fun y => scope.names.lookup y == some .local) = true) (hgl : (gs.all fun y => scope.names.lookup y == some .globalImplicit) = true)
  (hco : scope.isCoroutine = false) (hgen : scope.isGenerator = false) (hk : scope.kind = .function) (hcell : ∀ x ∈ scope.names, x.2 ≠ .cell)
  (hE : ∀ e s', N → Rse nf A [g] e s' → E e s')
  (k : ∀ env L h₁ tk₁, Fn (A.deeper env) env L (ks₁ ++ ks₂) gs → At (A.deeper env) [h, g] L (ks₁ ++ ks₂) [] (vals.map Option.some ++ ks₂.map fun _ => none) h₁ → Ch [] h h₁ → Tp K h → Tp K g → HdOk (A.deeper env) g → Rm (A.deeper env) n →
   ∀ E' : Value → Shared → Prop, (∀ e s', EscN N nf (A.deeper env) [g] L e s' → E' e s') → wpAny (model prog w) (A.deeper env) (execs body env) (Rt Q) E' (St s h₁ tk₁)) :
  wpAny (model prog w) A (call (.ref f) args) Q E (St s h tk) :=
 call_fn (bs := [h, g]) (cs := []) ks₁ ks₂ gs (C.t.ch C.x) (.head _) (fun b mb => by
  rcases List.mem_cons.mp mb with rfl | mb
  ·exact Ch.refl ..
  ·rw [List.mem_singleton.mp mb]; exact C.x) Cells.nil (by fin_once sm fail) C.ff ⟨g, by fin_once sm fail, C.hd⟩ ho hcd C.r.room hbind hlen nd hlo hgl hco hgen hk hcell
  fun env L h₁ tk₁ F H c e => wpAny_mono (k env L h₁ tk₁ F H c (C.t.ch C.x) C.t C.hd (C.r.deeper (Nat.le_refl _)) _ fun _ _ q => q) (fun _ _ q => q) fun _ _ q => q.2.lv F fun e s' => hE e s' q.1
end
inductive Ro where
 | kinds | pubs | tabs | gens | items | fz
 | ty (m : Str) | va (m : Str) | us (m : Str) | tb (m : Str)
abbrev Fp := List (Addr × Ro)
noncomputable def fz (F : Fp) : Addr → Prop := fun a => (a, Ro.fz) ∈ F ∨ ∃ m, (a, Ro.tb m) ∈ F
noncomputable def inF (F : Fp) : Addr → Prop := fun a => ∃ r, (a, r) ∈ F
structure FpOk (h : Heap) (F : Fp) : Prop where
 nd : (F.map (·.1)).Nodup
 ob : ∀ a ∈ F.map (·.1), ∃ o, h.get? a = some o ∧ mutO o = true
 inj : ∀ a b r, (a, r) ∈ F → (b, r) ∈ F → r ≠ .fz → a = b
omit rt0 in
theorem fp_uniq : ∀ {F : Fp} {a : Addr} {r r' : Ro}, (F.map (·.1)).Nodup → (a, r) ∈ F → (a, r') ∈ F → r = r'
 | [], _, _, _, _, h, _ => nomatch h
 | p :: F, a, r, r', nd, h, h' => by
  rw [List.map_cons, List.nodup_cons] at nd
  rcases List.mem_cons.mp h with e | h <;> rcases List.mem_cons.mp h' with e' | h'
  ·rw [← e] at e'; cases e'; rfl
  ·exact absurd (List.mem_map.mpr ⟨_, h', by rw [← e]⟩) nd.1
  ·exact absurd (List.mem_map.mpr ⟨_, h, by rw [← e']⟩) nd.1
  ·exact fp_uniq nd.2 h h'
noncomputable def But (d : Addr) (g g' : Heap) : Prop := ∀ b o, g.get? b = some o → isFr b o = false → b ≠ d → g'.get? b = some o
noncomputable def Alls (g g' : Heap) : Prop := ∀ b o, g.get? b = some o → isFr b o = false → g'.get? b = some o
structure Tq (P : Ro → Prop) (F : Fp) (g g' : Heap) : Prop where
 q : ∀ b r o, (b, r) ∈ F → P r → g.get? b = some o → isFr b o = false → g'.get? b = some o
 t : ∀ b o, g.get? b = some o → isT o → g'.get? b = some o
theorem But.tq {d : Addr} {r : Ro} {F : Fp} {g g' : Heap} (x : But d g g') (nd : (F.map (·.1)).Nodup) (m : (d, r) ∈ F) (ht : ∃ o, g.get? d = some o ∧ mutO o = true) : Tq (· ≠ r) F g g' :=
 ⟨fun b r' o mb nr e f => x b o e f fun q => nr (fp_uniq nd (q ▸ mb) m), fun b o e t => x b o e (isFr_tuple t.1) fun q => by
  obtain ⟨o', e', m'⟩ := ht
  rw [q, e'] at e
  cases e
  exact mutO_tup m' t.1⟩
theorem Alls.tq {P : Ro → Prop} {F : Fp} {g g' : Heap} (x : Alls g g') : Tq P F g g' := ⟨fun b _ o _ _ e f => x b o e f, fun b o e t => x b o e (isFr_tuple t.1)⟩
theorem Ch.alls {g g' : Heap} (c : Ch [] g g') : Alls g g' := fun b o e f => c.same b o e (by fin_once sm fail) f
section
noncomputable def DF {α : Type} (F : Fp) (h : Heap) (r : Ro) (d : Addr) (R : Value → α → Prop) (l : List (Str × α)) (n : Nat) : Prop := ∃ o kvs, (d, r) ∈ F ∧ (d == sysModules) = false ∧ h.get? d = some o ∧ Dct kvs o ∧ Tab R kvs l ∧ kvs.length ≤ n
noncomputable def TabF (F : Fp) (h : Heap) (n : Nat) (v : Value) (p : Str × Tb) : Prop := ∃ t a b c, v = .ref t ∧ (t, Ro.tb p.1) ∈ F ∧ InsP (fz F) h t 139 [(Str.ofString "types", .ref a), (Str.ofString "values", .ref b), (Str.ofString "uses", .ref c)] ∧
 DF F h (.ty p.1) a IsS p.2.types n ∧ DF F h (.va p.1) b IsS p.2.values n ∧ DF F h (.us p.1) c (UseV (fz F) h) p.2.uses n
structure MdX (F : Fp) (h : Heap) (n : Nat) (x dk dp dt dg di : Addr) (m : Md) : Prop where
 i : InsP (fz F) h x 258 [(Str.ofString "kinds", .ref dk), (Str.ofString "publics", .ref dp), (Str.ofString "tables", .ref dt), (Str.ofString "generics", .ref dg), (Str.ofString "items", .ref di)]
 k : DF F h .kinds dk IsS m.kinds n
 p : DF F h .pubs dp IsB m.pubs n
 t : DF F h .tabs dt (TabF F h n) (m.tabs.map fun p => (p.1, p)) n
 g : ∃ l : List (Str × Unit), DF F h .gens dg (fun _ _ => True) l n
 j : ∃ l : List (Str × Unit), DF F h .items di (fun _ _ => True) l n
end
omit rt0 in
theorem at?_keyed {α : Type} (l : List (Str × α)) (x : Str) : at? (l.map fun p => (p.1, p)) x = (at? l x).map fun a => (x, a) := by
 induction l with
 | nil => rfl
 | cons p l ih =>
  obtain ⟨k, a⟩ := p
  show (if k = x then some (k, a) else _) = Option.map _ (if k = x then some a else at? l x)
  by_cases e : k = x
  ·rw [if_pos e, if_pos e, e]; rfl
  ·rw [if_neg e, if_neg e]; exact ih
omit rt0 in
theorem Tab.unkey {α : Type} {R : Value → (Str × α) → Prop} {R' : Value → α → Prop} : ∀ {kvs : List (Str × Value)} {l : List (Str × α)}, Tab R kvs (l.map fun p => (p.1, p)) → (∀ v p, R v p → R' v p.2) → Tab R' kvs l
 | _, [], T, _ => by cases T; exact .nil
 | _, (k, a) :: l, T, h => by
  cases T with
  | cons r T => exact .cons (h _ _ r) (Tab.unkey T h)
omit rt0 in
theorem Tab.rekey {α : Type} {R R' : Value → (Str × α) → Prop} (f : (Str × α) → α) : ∀ {kvs : List (Str × Value)} {l : List (Str × α)}, Tab R kvs (l.map fun p => (p.1, p)) → (∀ v p, p ∈ l → R v p → R' v (p.1, f p)) → Tab R' kvs ((l.map fun p => (p.1, f p)).map fun p => (p.1, p))
 | _, [], T, _ => by cases T; exact .nil
 | _, (k, a) :: l, T, h => by
  cases T with
  | cons r T => exact .cons (h _ _ (.head _) r) (Tab.rekey f T fun v p m => h v p (.tail _ m))
section
variable {F F' : Fp} {h g g' : Heap} {n n' : Nat} {P : Ro → Prop}
theorem DF.dct {α : Type} {r : Ro} {d : Addr} {R : Value → α → Prop} {l : List (Str × α)} (D : DF F h r d R l n) : DctP (inF F) h d R l := by
 fin_once o1 fail
 obtain ⟨o, kvs, m, lo, e, D, T, _⟩ := D
 fin_once o2 fail
 exact ⟨o, kvs, ⟨r, m⟩, lo, e, D, T⟩
theorem DF.tr {α : Type} {r : Ro} {d : Addr} {R R' : Value → α → Prop} {l : List (Str × α)} (D : DF F g r d R l n) (T : Tq P F g g') (pr : P r) (sF : ∀ p ∈ F, p ∈ F') (k : ∀ v x, R v x → R' v x) (le : n ≤ n') : DF F' g' r d R' l n' := by
 fin_once o1 fail
 obtain ⟨o, kvs, m, lo, e, D, Tb, z⟩ := D
 fin_once o2 fail
 exact ⟨o, kvs, sF _ m, lo, T.q d r o m pr e (mutO_fr D.mut), D, Tb.mono k, Nat.le_trans z le⟩
noncomputable def PFz (P : Ro → Prop) : Prop := P .fz ∧ ∀ m, P (.tb m)
theorem InsP.tq {x C : Addr} {fs : List (Str × Value)} (I : InsP (fz F) g x C fs) (T : Tq P F g g') (pr : PFz P) (sF : ∀ p ∈ F, p ∈ F') : InsP (fz F') g' x C fs := by
 fin_once o1 fail
 obtain ⟨dx, o, p, q, a, b, FO⟩ := I.is
 fin_once o2 fail
 have up : ∀ b, fz F b → fz F' b := fun b q => q.imp (sF _) fun ⟨m, q⟩ => ⟨m, sF _ q⟩
 have mv : ∀ b o, fz F b → g.get? b = some o → isFr b o = false → g'.get? b = some o := fun b o q e f => by
  rcases q with q | ⟨m, q⟩
  ·exact T.q _ _ _ q pr.1 e f
  ·exact T.q _ _ _ q (pr.2 m) e f
 exact ⟨dx, o, up _ p, up _ q, mv _ _ p a rfl, mv _ _ q b FO.fr, FO⟩
theorem Rd.tt {v : Value} {d : PyData} (r : Rd g v d) (T : Tq P F g g') : Rd g' v d := r.mv T.t
theorem UseV.tq {v : Value} {ns : List Str} (U : UseV (fz F) g v ns) (T : Tq P F g g') (pr : PFz P) (sF : ∀ p ∈ F, p ∈ F') : UseV (fz F') g' v ns := by
 fin_once o1 fail
 obtain ⟨u, tn, sp, e, I, hs, r⟩ := U
 fin_once o2 fail
 exact ⟨u, tn, sp, e, I.tq T pr sF, hs, r.tt T⟩
theorem TabF.tr {v : Value} {p : Str × Tb} (D : TabF F g n v p) (T : Tq P F g g') (pf : PFz P) (p1 : P (.ty p.1)) (p2 : P (.va p.1)) (p3 : P (.us p.1)) (sF : ∀ p ∈ F, p ∈ F') (le : n ≤ n') : TabF F' g' n' v p := by
 fin_once o1 fail
 obtain ⟨t, a, b, c, e, tm, I, x, y, z⟩ := D
 fin_once o2 fail
 exact ⟨t, a, b, c, e, sF _ tm, I.tq T pf sF, x.tr T p1 sF (fun _ _ q => q) le, y.tr T p2 sF (fun _ _ q => q) le, z.tr T p3 sF (fun _ _ q => q.tq T pf sF) le⟩
variable {x dk dp dt dg di : Addr} {m : Md}
theorem MdX.tr (M : MdX F g n x dk dp dt dg di m) (T : Tq (fun _ => True) F g g') (sF : ∀ p ∈ F, p ∈ F') (le : n ≤ n') : MdX F' g' n' x dk dp dt dg di m := by
 fin_once o1 fail
 obtain ⟨i, k, p, t, ⟨lg, gg⟩, ⟨lj, j⟩⟩ := M
 fin_once o2 fail
 exact ⟨i.tq T ⟨trivial, fun _ => trivial⟩ sF, k.tr T trivial sF (fun _ _ q => q) le, p.tr T trivial sF (fun _ _ q => q) le, t.tr T trivial sF (fun _ _ q => q.tr T ⟨trivial, fun _ => trivial⟩ trivial trivial trivial sF le) le, ⟨lg, gg.tr T trivial sF (fun _ _ q => q) le⟩, ⟨lj, j.tr T trivial sF (fun _ _ q => q) le⟩⟩
theorem MdX.alls (M : MdX F g n x dk dp dt dg di m) (T : Alls g g') : MdX F g' n x dk dp dt dg di m := M.tr T.tq (fun _ q => q) (Nat.le_refl _)
theorem DF.weak {α : Type} {r : Ro} {d : Addr} {R : Value → α → Prop} {l : List (Str × α)} (D : DF F g r d R l n) (le : n ≤ n') : DF F g r d R l n' := D.tr (Alls.tq (P := fun _ => True) fun _ _ e _ => e) trivial (fun _ q => q) (fun _ _ q => q) le
theorem MdX.setK {ks : List (Str × Str)} (M : MdX F g n x dk dp dt dg di m) (T : Tq (· ≠ .kinds) F g g') (D : DF F g' .kinds dk IsS ks n') (le : n ≤ n') : MdX F g' n' x dk dp dt dg di { m with kinds := ks } := by
 fin_once o1 fail
 obtain ⟨i, k, p, t, ⟨lg, gg⟩, ⟨lj, j⟩⟩ := M
 fin_once o2 fail
 have sF : ∀ p ∈ F, p ∈ F := fun _ q => q
 exact ⟨i.tq T ⟨nofun, nofun⟩ sF, D, p.tr T nofun sF (fun _ _ q => q) le, t.tr T nofun sF (fun _ _ q => q.tr T ⟨nofun, nofun⟩ nofun nofun nofun sF le) le, ⟨lg, gg.tr T nofun sF (fun _ _ q => q) le⟩, ⟨lj, j.tr T nofun sF (fun _ _ q => q) le⟩⟩
theorem MdX.setP {ps : List (Str × Bool)} (M : MdX F g n x dk dp dt dg di m) (T : Tq (· ≠ .pubs) F g g') (D : DF F g' .pubs dp IsB ps n') (le : n ≤ n') : MdX F g' n' x dk dp dt dg di { m with pubs := ps } := by
 fin_once o1 fail
 obtain ⟨i, k, p, t, ⟨lg, gg⟩, ⟨lj, j⟩⟩ := M
 fin_once o2 fail
 have sF : ∀ p ∈ F, p ∈ F := fun _ q => q
 exact ⟨i.tq T ⟨nofun, nofun⟩ sF, k.tr T nofun sF (fun _ _ q => q) le, D, t.tr T nofun sF (fun _ _ q => q.tr T ⟨nofun, nofun⟩ nofun nofun nofun sF le) le, ⟨lg, gg.tr T nofun sF (fun _ _ q => q) le⟩, ⟨lj, j.tr T nofun sF (fun _ _ q => q) le⟩⟩
theorem MdX.setG {l : List (Str × Unit)} (M : MdX F g n x dk dp dt dg di m) (T : Tq (· ≠ .gens) F g g') (D : DF F g' .gens dg (fun _ _ => True) l n') (le : n ≤ n') : MdX F g' n' x dk dp dt dg di m := by
 fin_once o1 fail
 obtain ⟨i, k, p, t, ⟨lg, gg⟩, ⟨lj, j⟩⟩ := M
 fin_once o2 fail
 have sF : ∀ p ∈ F, p ∈ F := fun _ q => q
 exact ⟨i.tq T ⟨nofun, nofun⟩ sF, k.tr T nofun sF (fun _ _ q => q) le, p.tr T nofun sF (fun _ _ q => q) le, t.tr T nofun sF (fun _ _ q => q.tr T ⟨nofun, nofun⟩ nofun nofun nofun sF le) le, ⟨l, D⟩, ⟨lj, j.tr T nofun sF (fun _ _ q => q) le⟩⟩
theorem MdX.setJ {l : List (Str × Unit)} (M : MdX F g n x dk dp dt dg di m) (T : Tq (· ≠ .items) F g g') (D : DF F g' .items di (fun _ _ => True) l n') (le : n ≤ n') : MdX F g' n' x dk dp dt dg di m := by
 fin_once o1 fail
 obtain ⟨i, k, p, t, ⟨lg, gg⟩, ⟨lj, j⟩⟩ := M
 fin_once o2 fail
 have sF : ∀ p ∈ F, p ∈ F := fun _ q => q
 exact ⟨i.tq T ⟨nofun, nofun⟩ sF, k.tr T nofun sF (fun _ _ q => q) le, p.tr T nofun sF (fun _ _ q => q) le, t.tr T nofun sF (fun _ _ q => q.tr T ⟨nofun, nofun⟩ nofun nofun nofun sF le) le, ⟨lg, gg.tr T nofun sF (fun _ _ q => q) le⟩, ⟨l, D⟩⟩
noncomputable def setTab (l : List (Str × Tb)) (mo : Str) (f : Tb → Tb) : List (Str × Tb) := l.map fun p => (p.1, if p.1 = mo then f p.2 else p.2)
omit rt0 in
theorem at?_mem {α : Type} : ∀ {l : List (Str × α)} {p : Str × α}, (l.map (·.1)).Nodup → p ∈ l → at? l p.1 = some p.2
 | [], _, _, h => nomatch h
 | q :: l, p, nd, h => by
  obtain ⟨k, a⟩ := q
  rw [List.map_cons, List.nodup_cons] at nd
  rcases List.mem_cons.mp h with rfl | h2
  ·show (if k = k then some a else _) = _
   rw [if_pos rfl]
  ·show (if k = p.1 then some a else at? l p.1) = _
   rw [if_neg fun e => nd.1 (List.mem_map.mpr ⟨p, h2, e.symm⟩)]
   exact at?_mem nd.2 h2
theorem MdX.setT {mo : Str} {r : Ro} {f : Tb → Tb} {t : Addr} {tb : Tb} (M : MdX F g n x dk dp dt dg di m) (O : FpOk h F) (hr : r = .ty mo ∨ r = .va mo ∨ r = .us mo) (T : Tq (· ≠ r) F g g') (e : at? m.tabs mo = some tb) (V : TabF F g' n' (.ref t) (mo, f tb)) (le : n ≤ n') : MdX F g' n' x dk dp dt dg di { m with tabs := setTab m.tabs mo f } := by
 fin_once o1 fail
 obtain ⟨i, k, p, t, ⟨lg, gg⟩, ⟨lj, j⟩⟩ := M
 have sF : ∀ p ∈ F, p ∈ F := fun _ q => q
 have a : r ≠ .kinds ∧ r ≠ .pubs ∧ r ≠ .tabs ∧ r ≠ .gens ∧ r ≠ .items ∧ r ≠ .fz ∧ ∀ m, r ≠ .tb m := by rcases hr with rfl | rfl | rfl <;> exact ⟨nofun, nofun, nofun, nofun, nofun, nofun, nofun⟩
 obtain ⟨a1, a2, a3, a4, a5, a6, a7⟩ := a
 fin_once o2 fail
 have pz : PFz (· ≠ r) := ⟨a6.symm, fun m => (a7 m).symm⟩
 refine ⟨i.tq T pz sF, k.tr T a1.symm sF (fun _ _ q => q) le, p.tr T a2.symm sF (fun _ _ q => q) le, ?_, ⟨lg, gg.tr T a4.symm sF (fun _ _ q => q) le⟩, ⟨lj, j.tr T a5.symm sF (fun _ _ q => q) le⟩⟩
 fin_once o1 fail
 obtain ⟨o, kvs, mm, lo, e0, D, Tb, z⟩ := t
 fin_once o2 fail
 have nd : (m.tabs.map (·.1)).Nodup := by
  have := D.nodup
  rw [Tb.keys, List.map_map] at this
  exact this
 refine ⟨o, kvs, mm, lo, T.q _ _ _ mm a3.symm e0 (mutO_fr D.mut), D, Tab.rekey _ Tb fun v p hp q => ?_, Nat.le_trans z le⟩
 by_cases e1 : p.1 = mo
 ·rw [if_pos e1]
  have ep := at?_mem nd hp
  rw [e1, e] at ep
  obtain ⟨k, tb'⟩ := p
  cases ep
  subst e1
  fin_once o1 fail
  obtain ⟨t', _, _, _, ev, tm, _⟩ := q
  obtain ⟨t2, _, _, _, ev2, tm2, _⟩ := id V
  fin_once o2 fail
  cases ev2
  rw [ev, O.inj _ _ _ tm tm2 nofun]
  exact V
 ·rw [if_neg e1]
  refine q.tr T pz ?_ ?_ ?_ sF le <;> (rcases hr with rfl | rfl | rfl <;> (intro q; first | exact e1 (Ro.ty.inj q) | exact e1 (Ro.va.inj q) | exact e1 (Ro.us.inj q) | cases q))
theorem MdX.md (M : MdX F g n x dk dp dt dg di m) : MdAt (inF F) g x m := by
 fin_once o1 fail
 obtain ⟨i, k, p, t, _, _⟩ := M
 fin_once o2 fail
 have wk : ∀ b, fz F b → inF F b := fun b q => q.elim (fun q => ⟨_, q⟩) fun ⟨m, q⟩ => ⟨_, q⟩
 refine ⟨dk, dp, dt, dg, di, i.weak wk, k.dct, p.dct, ?_⟩
 fin_once o1 fail
 obtain ⟨o, kvs, mm, lo, e, D, Tb, z⟩ := t
 fin_once o2 fail
 refine ⟨o, kvs, ⟨_, mm⟩, lo, e, D, Tb.unkey fun v p q => ?_⟩
 fin_once o1 fail
 obtain ⟨t, a, b, c, e, _, I, x, y, z⟩ := q
 fin_once o2 fail
 refine ⟨t, a, b, c, e, I.weak wk, x.dct, y.dct, ?_⟩
 fin_once o1 fail
 obtain ⟨o, kvs, mm, lo, e, D, Tb, z⟩ := z
 fin_once o2 fail
 refine ⟨o, kvs, ⟨_, mm⟩, lo, e, D, Tb.mono fun v ns q => ?_⟩
 fin_once o1 fail
 obtain ⟨u, tn, sp, e, I, hs, r⟩ := q
 fin_once o2 fail
 exact ⟨u, tn, sp, e, I.weak wk, hs, r⟩
end
section
variable {A : Around} {E : Value → Shared → Prop} {h g : Heap} {bs bs0 : List Heap} {tk : Nat} {env : Env} {L : Addr} {ks gs : List Str} {cs : List Cell} {vs : List (Option Value)}
theorem w_put {α : Type} {Fo : Fp} {r : Ro} {d : Addr} {R : Value → α → Prop} {l : List (Str × α)} {n : Nat} {y : Str} {t : Tok} {v : Value} {xv : α} {Q : Unit → Shared → Prop} (D : DF Fo g r d R l n) (hv : R v xv) (H : At A bs L ks cs vs h) (F : Fn A env L ks gs) (mb : g ∈ bs) (sub : ∀ g ∈ bs0, g ∈ bs) (hd : ∃ g ∈ bs0, HdOk A g) (nn : ∀ g ∈ bs0, ∀ a ∈ Fo.map (·.1), g.get? a = none) (hn : n ≤ 9000)
  (k : ∀ g' h' tk', (∀ b ∈ bs0, Ch [] b g') → At A (g' :: bs0) L ks cs vs h' → But d g g' → DF Fo g' r d R (upd l y xv) (n + 1) → (at? l y = none → DF Fo g' r d R (l ++ [(y, xv)]) (n + 1)) → Q () (St s h' tk')) :
  wpAny (model prog w) A (setItem (.ref d) (.str y t) v) Q E (St s h tk) := by
 fin_once o1 fail
 obtain ⟨o, kvs, m, lo, e, D, Tb, z⟩ := D
 fin_once o2 fail
 have e' := (H.ch g mb).same _ _ e (by fin_once sm fail) (mutO_fr D.mut)
 have nc : ∀ b o, g.get? b = some o → ∀ c ∈ cs, c.1 ≠ b := fun b o q c hc z => by
  have := H.newC g mb c hc
  rw [z, q] at this
  cases this
 refine w_dset e' D (by fin_once om fail) fun h' o' hs ho' D' => ?_
 fin_once o1 fail
 obtain ⟨g', x, H', kp⟩ := H.touch F sub hd (fun g mg => nn g mg d (List.mem_map.mpr ⟨_, m, rfl⟩)) (nc d o e) e' D.mut hs ho' D'.mut
 fin_once o2 fail
 have ed := kp d o' ho' (mutO_fr D'.mut) (nc d o e)
 have lz : (stored kvs y v).length ≤ n + 1 := by
  unfold stored
  split
  ·rw [List.length_map]; fin_once om fail
  ·rw [List.length_append]; simp; fin_once om fail
 refine k g' h' _ x H' (fun b o q f nb => kp b o ((hs.2 b nb).trans ((H.ch g mb).same b o q (by fin_once sm fail) f)) f (nc b o q)) ⟨o', _, m, lo, ed, D', Tb.upd hv, lz⟩ fun na => ⟨o', _, m, lo, ed, D', Tb.new na hv, lz⟩
end
noncomputable def LI (l : Addr) (i : Nat) (o : Obj) : Prop := o.cls = .type "list_iterator" ∧ o.data = .fields #[.ref l, .int i 0]
noncomputable def TI (l : Addr) (i : Nat) (o : Obj) : Prop := o.cls = .type "tuple_iterator" ∧ o.data = .fields #[.ref l, .int i 0]
noncomputable def RI (n : Nat) (i : Nat) (o : Obj) : Prop := o = { cls := .type "range_iterator", dict := none, data := .fields #[rawInt ((0 : Int) + (i : Nat) * 1), rawInt ((n : Int) - (i : Nat)), rawInt 1], slots := #[] }
structure Itr (A : Around) (target : PySem.Expr) (g : Heap) (it : Addr) (n : Nat) (P : Nat → Value → Prop) (φ : Nat → Obj → Prop) : Prop where
 mu : ∀ i o, φ i o → mutO o = true
 item : ∀ (i : Nat) (s : Shared) (Q : Option Value → Shared → Prop) (E : Value → Shared → Prop), i < n → Alls g s.heap → (∃ o, s.heap.get? it = some o ∧ φ i o) →
  (∀ v h' tk, P i v → (∃ o, h'.get? it = some o ∧ φ (i + 1) o) → (∀ b o, b ≠ it → s.heap.get? b = some o → h'.get? b = some o) → Q (some v) { s with heap := h', toks := tk }) → wpAny (model prog w) A (pyNext (.ref it)) Q E s
 done : ∀ (s : Shared) (Q : Option Value → Shared → Prop) (E : Value → Shared → Prop), Alls g s.heap → (∃ o, s.heap.get? it = some o ∧ φ n o) →
  (∀ h' tk, (∀ b o, b ≠ it → s.heap.get? b = some o → h'.get? b = some o) → Q none { s with heap := h', toks := tk }) → wpAny (model prog w) A (pyNext (.ref it)) Q E s
 own : ∀ (i : Nat) (v : Value) (s : Shared) (Q : Unit → Shared → Prop) (E : Value → Shared → Prop), (∃ o, s.heap.get? it = some o ∧ φ i o) → Q () s → wpAny (model prog w) A (letOwnedTupleGo target (.ref it) v) Q E s
 self : ∀ (i : Nat) (s : Shared) (Q : Value → Shared → Prop) (E : Value → Shared → Prop), (∃ o, s.heap.get? it = some o ∧ φ i o) → Q (.ref it) s → wpAny (model prog w) A (pyIter (.ref it)) Q E s
section
variable {A : Around} {E : Value → Shared → Prop}
theorem isList_alls {g h : Heap} {l : Addr} {items : Array Value} (x : g.IsList l items) (a : Alls g h) : h.IsList l items := by
 fin_once o1 fail
 obtain ⟨o, e, c, r⟩ := x
 fin_once o2 fail
 exact ⟨o, a _ _ e (mutO_fr (mutO_list c)), c, r⟩
theorem isTup_alls {g h : Heap} {l : Addr} {items : Array Value} (x : IsTup g l items) (a : Alls g h) : IsTup h l items := by
 fin_once o1 fail
 obtain ⟨o, e, c, r⟩ := x
 fin_once o2 fail
 exact ⟨o, a _ _ e (isFr_tuple c), c, r⟩
theorem own_name {s : Shared} {x : Str} {px : Pos} {it : Addr} {v : Value} {Q : Unit → Shared → Prop} (q : Q () s) : wpAny (model prog w) A (letOwnedTupleGo (.Name x px) (.ref it) v) Q E s := wpAny_pure q
theorem own_list {s : Shared} {elts : List PySem.Expr} {k : Nat} {pos : Pos} {l it : Addr} {i : Nat} {v : Value} {Q : Unit → Shared → Prop} (hit : ∃ o, s.heap.get? it = some o ∧ LI l i o) (q : Q () s) : wpAny (model prog w) A (letOwnedTupleGo (.Tuple elts k pos) (.ref it) v) Q E s := by
 fin_once o1 fail
 obtain ⟨o, e, c, d⟩ := hit
 fin_once o2 fail
 cases v <;> first | exact wpAny_letOwnedTupleGo_listiter ⟨o, e, c, d⟩ q | exact wpAny_pure q
theorem Itr.list {target : PySem.Expr} {g : Heap} {l it : Addr} {items : Array Value} (hh : A.handled = none) (ne : l ≠ it) (hl : g.IsList l items)
  (own : ∀ (i : Nat) (v : Value) (s : Shared) (Q : Unit → Shared → Prop) (E : Value → Shared → Prop), (∃ o, s.heap.get? it = some o ∧ LI l i o) → Q () s → wpAny (model prog w) A (letOwnedTupleGo target (.ref it) v) Q E s) :
  Itr A target g it items.size (fun i v => items[i]? = some v) (LI l) where
 mu := fun i o h => by unfold mutO; rw [h.1]; rfl
 item := fun i s Q E hi a st k => by
  have W := Walks.list (prog := prog) (w := w) hh it l ne items
  fin_once o1 fail
  obtain ⟨o, e, c, d⟩ := st
  fin_once o2 fail
  refine W.item i s Q E hi ⟨⟨o, e, c, d⟩, isList_alls hl a⟩ fun v h' tk p st' kp => k v h' tk p st'.1 fun b o n => kp b o (by simpa using n)
 done := fun s Q E a st k => by
  have W := Walks.list (prog := prog) (w := w) hh it l ne items
  fin_once o1 fail
  obtain ⟨o, e, c, d⟩ := st
  fin_once o2 fail
  refine W.done s Q E ⟨⟨o, e, c, d⟩, isList_alls hl a⟩ fun h' tk kp => k h' tk fun b o n => kp b o (by simpa using n)
 own := own
 self := fun i s Q E st q => by
  fin_once o1 fail
  obtain ⟨o, e, c, d⟩ := st
  fin_once o2 fail
  exact wpAny_pyIter_listiter ⟨o, e, c, d⟩ q
theorem Itr.tuple {x : Str} {px : Pos} {g : Heap} {l it : Addr} {items : Array Value} (hh : A.handled = none) (ne : l ≠ it) (hl : IsTup g l items) :
  Itr A (.Name x px) g it items.size (fun i v => items[i]? = some v) (TI l) where
 mu := fun i o h => by unfold mutO; rw [h.1]; rfl
 item := fun i s Q E hi a st k => by
  have W := Walks.tuple (prog := prog) (w := w) hh it l ne items
  fin_once o1 fail
  obtain ⟨o, e, c, d⟩ := st
  fin_once o2 fail
  refine W.item i s Q E hi ⟨⟨o, e, c, d⟩, isTup_alls hl a⟩ fun v h' tk p st' kp => k v h' tk p st'.1 fun b o n => kp b o (by simpa using n)
 done := fun s Q E a st k => by
  have W := Walks.tuple (prog := prog) (w := w) hh it l ne items
  fin_once o1 fail
  obtain ⟨o, e, c, d⟩ := st
  fin_once o2 fail
  refine W.done s Q E ⟨⟨o, e, c, d⟩, isTup_alls hl a⟩ fun h' tk kp => k h' tk fun b o n => kp b o (by simpa using n)
 own := fun i v s Q E _ q => own_name q
 self := fun i s Q E st q => by
  fin_once o1 fail
  obtain ⟨o, e, c, d⟩ := st
  fin_once o2 fail
  exact wpAny_pyIter_tupleiter ⟨o, e, c, d⟩ q
theorem Itr.range {x : Str} {px : Pos} {g : Heap} {it : Addr} {n : Nat} (hh : A.handled = none) :
  Itr A (.Name x px) g it n (fun i v => ∃ t, v = .int i t) (RI n) where
 mu := fun i o h => by unfold mutO; rw [h]; rfl
 item := fun i s Q E hi a st k => by
  have W := Walks.range (prog := prog) (w := w) hh it 0 1 n
  obtain ⟨o, e, rfl⟩ := st
  refine W.item i s Q E hi e fun v h' tk p st' kp => k v h' tk (by obtain ⟨t, e⟩ := p; exact ⟨t, by rw [e]; simp⟩) ⟨_, st', rfl⟩ fun b o n => kp b o (by simpa using n)
 done := fun s Q E a st k => by
  have W := Walks.range (prog := prog) (w := w) hh it 0 1 n
  obtain ⟨o, e, rfl⟩ := st
  refine W.done s Q E e fun h' tk kp => k h' tk fun b o n => kp b o (by simpa using n)
 own := fun i v s Q E _ q => own_name q
 self := fun i s Q E st q => by
  obtain ⟨o, e, rfl⟩ := st
  exact (Walks.range (prog := prog) (w := w) hh it 0 1 n).self i s Q E e q
end
section
variable {A : Around} {E E' : Value → Shared → Prop} {h g : Heap} {bs : List Heap} {tk : Nat} {env : Env} {L it : Addr} {ks gs : List Str} {cs : List Cell} {vs : List (Option Value)} {target : PySem.Expr} {n : Nat} {P : Nat → Value → Prop} {φ : Nat → Obj → Prop}
theorem At.kept {h' : Heap} {ψ χ : Obj → Prop} (H : At A bs L ks ((it, ψ) :: cs) vs h) (mu : ∀ o, χ o → mutO o = true) (x : ∃ o, h'.get? it = some o ∧ χ o) (kp : ∀ b o, b ≠ it → h.get? b = some o → h'.get? b = some o) : At A bs L ks ((it, χ) :: cs) vs h' := by
 have nd := H.cells.nd
 refine H.mod (fun b o e n => kp b o (fun q => n _ (.head _) q.symm) e) ⟨fun c hc => ?_, nd⟩ fun c hc => .inl ?_
 ·rcases List.mem_cons.mp hc with rfl | hc
  ·obtain ⟨o, e, p⟩ := x
   exact ⟨o, e, p, mu o p⟩
  ·fin_once o1 fail
   obtain ⟨o, e, p, m⟩ := H.cells.all c (.tail _ hc)
   fin_once o2 fail
   refine ⟨o, kp _ _ (fun q => ?_) e, p, m⟩
   rw [List.map_cons, List.nodup_cons] at nd
   exact nd.1 (List.mem_map.mpr ⟨c, hc, q⟩)
 ·rcases List.mem_cons.mp hc with rfl | hc
  ·exact ⟨_, .head _, rfl⟩
  ·exact ⟨c, .tail _ hc, rfl⟩
theorem At.lost {h' : Heap} {ψ : Obj → Prop} (H : At A bs L ks ((it, ψ) :: cs) vs h) (kp : ∀ b o, b ≠ it → h.get? b = some o → h'.get? b = some o) : At A bs L ks cs vs h' := by
 have nd := H.cells.nd
 rw [List.map_cons, List.nodup_cons] at nd
 refine H.mod (fun b o e n => kp b o (fun q => n _ (.head _) q.symm) e) ⟨fun c hc => ?_, nd.2⟩ fun c hc => .inl ⟨c, .tail _ hc, rfl⟩
 fin_once o1 fail
 obtain ⟨o, e, p, m⟩ := H.cells.all c (.tail _ hc)
 fin_once o2 fail
 exact ⟨o, kp _ _ (fun q => nd.1 (List.mem_map.mpr ⟨c, hc, q⟩)) e, p, m⟩
theorem At.next {i : Nat} {Q : Option Value → Shared → Prop} (W : Itr A target g it n P φ) (H : At A bs L ks ((it, φ i) :: cs) vs h) (mb : g ∈ bs) (hi : i < n)
  (k : ∀ v h' tk', P i v → At A bs L ks ((it, φ (i + 1)) :: cs) vs h' → Q (some v) (St s h' tk')) : wpAny (model prog w) A (pyNext (.ref it)) Q E (St s h tk) := by
 refine H.cells.getK (.head _) fun o e p _ => ?_
 exact W.item i (St s h tk) Q E hi (H.ch g mb).alls ⟨o, e, p⟩ fun v h' tk' pv x kp => k v h' tk' pv (H.kept (W.mu _) x kp)
theorem At.nexts {Q : Option Value → Shared → Prop} (W : Itr A target g it n P φ) (H : At A bs L ks ((it, φ n) :: cs) vs h) (mb : g ∈ bs)
  (k : ∀ h' tk', At A bs L ks cs vs h' → Q none (St s h' tk')) : wpAny (model prog w) A (pyNext (.ref it)) Q E (St s h tk) := by
 refine H.cells.getK (.head _) fun o e p _ => ?_
 exact W.done (St s h tk) Q E (H.ch g mb).alls ⟨o, e, p⟩ fun h' tk' kp => k h' tk' (H.lost kp)
noncomputable def Tf (I : Shared → Prop) (Q : Flow → Shared → Prop) : Flow → Shared → Prop := fun f s => match f with
 | .next | .cont => I s
 | .brk => Q .next s
 | .ret v => Q (.ret v) s
omit rt0 in
theorem tf_next {I : Shared → Prop} {Q : Flow → Shared → Prop} {s : Shared} (i : I s) : Tf I Q .next s := i
omit rt0 in
theorem tf_ret {I : Shared → Prop} {Q : Flow → Shared → Prop} {s : Shared} {v : Value} (i : Q (.ret v) s) : Tf I Q (.ret v) s := i
inductive ForI (A : Around) (L : Addr) (ks : List Str) (it : Addr) (φ : Nat → Obj → Prop) (R : Nat → List Heap → List Cell → List (Option Value) → Prop) (i : Nat) : Shared → Prop
 | mk {bs : List Heap} {cs : List Cell} {vs : List (Option Value)} {h : Heap} {tk : Nat} (r : R i bs cs vs) (H : At A bs L ks ((it, φ i) :: cs) vs h) : ForI A L ks it φ R i (St s h tk)
section
variable (A : Around) (E' : Value → Shared → Prop) (L : Addr) (ks : List Str) (env : Env) (target : PySem.Expr) (body orelse : List Stmt) (Q : Flow → Shared → Prop)
inductive LpI : Value → Shared → Prop
 | mk {R : Nat → List Heap → List Cell → List (Option Value) → Prop} {it : Addr} {g : Heap} {n : Nat} {P : Nat → Value → Prop} {φ : Nat → Obj → Prop} {bs : List Heap} {cs : List Cell} {vs : List (Option Value)} {h : Heap} {tk : Nat} (W : Itr A target g it n P φ) (rg : ∀ i bs cs vs, R i bs cs vs → g ∈ bs) (r : R 0 bs cs vs) (H : At A bs L ks ((it, φ 0) :: cs) vs h)
  (turn : ∀ i v bs cs vs h tk, i < n → P i v → R i bs cs vs → At A bs L ks ((it, φ (i + 1)) :: cs) vs h → ∀ T' : Flow → Shared → Prop, (∀ f s', Tf (ForI A L ks it φ R (i + 1)) Q f s' → T' f s') → wpAny (model prog w) A (assign target env v) (fun _ s₃ => wpAny (model prog w) A (execs body env) T' E' s₃) E' (St s h tk))
  (done : ∀ bs cs vs h tk, R n bs cs vs → At A bs L ks cs vs h → wpAny (model prog w) A (execs orelse env) Q E' (St s h tk)) : LpI (.ref it) (St s h tk)
inductive LpM : Value → Shared → Prop
 | mk {l : Addr} {g : Heap} {bs : List Heap} {cs : List Cell} {vs : List (Option Value)} {h : Heap} {tk : Nat} {items : Array Value} (R : Nat → List Heap → List Cell → List (Option Value) → Prop) (gl : Heap.IsList g l items) (H : At A bs L ks cs vs h) (r : R 0 bs cs vs) (rg : ∀ i bs cs vs, R i bs cs vs → g ∈ bs)
  (turn : ∀ it i v bs cs vs h tk, items[i]? = some v → R i bs cs vs → At A bs L ks ((it, LI l (i + 1)) :: cs) vs h → ∀ T' : Flow → Shared → Prop, (∀ f s', Tf (ForI A L ks it (LI l) R (i + 1)) Q f s' → T' f s') → wpAny (model prog w) A (assign target env v) (fun _ s₃ => wpAny (model prog w) A (execs body env) T' E' s₃) E' (St s h tk))
  (done : ∀ bs cs vs h tk, R items.size bs cs vs → At A bs L ks cs vs h → wpAny (model prog w) A (execs orelse env) Q E' (St s h tk)) : LpM (.ref l) (St s h tk)
inductive LpT : Value → Shared → Prop
 | mk {l : Addr} {g : Heap} {bs : List Heap} {cs : List Cell} {vs : List (Option Value)} {h : Heap} {tk : Nat} {items : Array Value} (R : Nat → List Heap → List Cell → List (Option Value) → Prop) (gl : IsTup g l items) (H : At A bs L ks cs vs h) (r : R 0 bs cs vs) (rg : ∀ i bs cs vs, R i bs cs vs → g ∈ bs)
  (turn : ∀ it i v bs cs vs h tk, items[i]? = some v → R i bs cs vs → At A bs L ks ((it, TI l (i + 1)) :: cs) vs h → ∀ T' : Flow → Shared → Prop, (∀ f s', Tf (ForI A L ks it (TI l) R (i + 1)) Q f s' → T' f s') → wpAny (model prog w) A (assign target env v) (fun _ s₃ => wpAny (model prog w) A (execs body env) T' E' s₃) E' (St s h tk))
  (done : ∀ bs cs vs h tk, R items.size bs cs vs → At A bs L ks cs vs h → wpAny (model prog w) A (execs orelse env) Q E' (St s h tk)) : LpT (.ref l) (St s h tk)
end
theorem w_ForI {iter : PySem.Expr} {body orelse : List Stmt} {p : Pos} {Q : Flow → Shared → Prop}
  (thr : ∀ e s', E' e s' → notedBy (model prog w) A env (fun e s' => cameBackBy (model prog w) A env E e s') e s')
  (hs : ∀ x, foldedSetIterable iter env x = pure x)
  (hx : wpAny (model prog w) A (eval iter env) (fun v s₁ => wpAny (model prog w) A (pyIter v) (LpI A E' L ks env target body orelse Q) E s₁) E (St s h tk)) :
  wpAny (model prog w) A (exec (.For target iter body orelse p) env) Q E (St s h tk) := by
 refine wpAny_For (wpAny_mono hx (fun v s₁ h₁ => wpAny_mono h₁ (fun iv s₂ h₂ => ?_) fun _ _ q => q) fun _ _ q => q) hs
 induction h₂
 rename_i R it g n P φ bs cs vs h tk W hg r H turn done
 refine codeAny_forLoop_any (fun m s' => ∃ i, m = n - i ∧ i ≤ n ∧ ForI A L ks it φ R i s') (fun m s' hI => ?_) (n - 0) ⟨0, rfl, Nat.zero_le _, .mk r H⟩
 obtain ⟨i, rfl, hi, hF⟩ := hI
 induction hF
 rename_i bs cs vs h tk r H
 by_cases hlt : i < n
 ·refine H.next W (hg _ _ _ _ r) hlt fun v h' tk' pv H' => ?_
  refine H'.cells.getK (.head _) fun o e p _ => ?_
  refine W.own (i + 1) v _ _ _ ⟨o, e, p⟩ ?_
  refine wpAny_mono (turn i v _ _ _ h' tk' hlt pv r H' _ fun _ _ q => q) (fun _ s₃ h₃ => wpAny_mono h₃ (fun f s₄ h₄ => ?_) thr) thr
  cases f with
  | next => exact ⟨n - (i + 1), by fin_once om fail, i + 1, rfl, hlt, h₄⟩
  | cont => exact ⟨n - (i + 1), by fin_once om fail, i + 1, rfl, hlt, h₄⟩
  | brk => exact h₄
  | ret v => exact h₄
 ·obtain rfl : i = n := by fin_once om fail
  refine H.nexts W (hg _ _ _ _ r) fun h' tk' H' => ?_
  exact wpAny_mono (done _ _ _ h' tk' r H') (fun _ _ q => q) thr
theorem w_ForM {iter : PySem.Expr} {body orelse : List Stmt} {p : Pos} {Q : Flow → Shared → Prop} (ks : List Str) (hh : A.handled = none)
  (thr : ∀ e s', E' e s' → notedBy (model prog w) A env (fun e s' => cameBackBy (model prog w) A env E e s') e s')
  (hs : ∀ x, foldedSetIterable iter env x = pure x) (htg : (∃ x px, target = .Name x px) ∨ ∃ e k q, target = .Tuple e k q)
  (hx : wpAny (model prog w) A (eval iter env) (LpM A E' L ks env target body orelse Q) E (St s h tk)) :
  wpAny (model prog w) A (exec (.For target iter body orelse p) env) Q E (St s h tk) := by
 refine w_ForI (E' := E') (L := L) (ks := ks) thr hs (wpAny_mono hx (fun v s₁ h₁ => ?_) fun _ _ q => q)
 induction h₁
 rename_i l g bs cs vs h₁ tk₁ items R gl H r0 rg turn done
 have hl : h₁.IsList l items := isList_alls gl (H.ch g (rg _ _ _ _ r0)).alls
 refine wpAny_pyIter_list (s := St s h₁ tk₁) hl ?_
 have ne : l ≠ h₁.objs.size := by obtain ⟨o, e, _⟩ := hl; exact Nat.ne_of_lt (Heap.lt_size e)
 refine .mk (Itr.list hh ne gl ?_) rg r0 (H.push ⟨rfl, rfl⟩ rfl rfl) (fun i v bs cs vs h tk _ => turn _ i v bs cs vs h tk) done
 intro i v s Q E st q
 rcases htg with ⟨x, px, rfl⟩ | ⟨e, k, q', rfl⟩
 ·exact own_name q
 ·exact own_list st q
theorem w_ForT {iter : PySem.Expr} {body orelse : List Stmt} {p px : Pos} {x : Str} {Q : Flow → Shared → Prop} (hh : A.handled = none)
  (thr : ∀ e s', E' e s' → notedBy (model prog w) A env (fun e s' => cameBackBy (model prog w) A env E e s') e s')
  (hs : ∀ x, foldedSetIterable iter env x = pure x)
  (hx : wpAny (model prog w) A (eval iter env) (LpT A E' L ks env (.Name x px) body orelse Q) E (St s h tk)) :
  wpAny (model prog w) A (exec (.For (.Name x px) iter body orelse p) env) Q E (St s h tk) := by
 refine w_ForI (E' := E') (L := L) (ks := ks) thr hs (wpAny_mono hx (fun v s₁ h₁ => ?_) fun _ _ q => q)
 induction h₁
 rename_i l g bs cs vs h₁ tk₁ items R gl H r0 rg turn done
 have hl : IsTup h₁ l items := isTup_alls gl (H.ch g (rg _ _ _ _ r0)).alls
 refine wpAny_pyIter_tuple (s := St s h₁ tk₁) hl ?_
 have ne : l ≠ h₁.objs.size := by obtain ⟨o, e, _⟩ := hl; exact Nat.ne_of_lt (Heap.lt_size e)
 exact .mk (Itr.tuple hh ne gl) rg r0 (H.push ⟨rfl, rfl⟩ rfl rfl) (fun i v bs cs vs h tk _ => turn _ i v bs cs vs h tk) done
theorem thr_no : ∀ e s', No e s' → notedBy (model prog w) A env (fun e s' => cameBackBy (model prog w) A env E e s') e s' := fun _ _ q => q.elim
theorem thr_esc {N : Prop} {nf : Addr} (F : Fn A env L ks gs) (hE : ∀ e s', EscN N nf A bs L e s' → E e s') : ∀ e s', EscN N nf A bs L e s' → notedBy (model prog w) A env (fun e s' => cameBackBy (model prog w) A env E e s') e s' := fun _ _ q => q.2.through F rfl id fun _ _ q' => hE _ _ ⟨q.1, q'⟩
end
structure Nv (env : Env) (L : Addr) (ks gs : List Str) : Prop where
 kind : env.scope.kind = .function
 loc : env.locals = L
 glob : env.globals = mainGlobals
 bi : env.builtins = builtinsNs
 nd : ks.Nodup
 lo : ∀ x ∈ ks, env.kindOf x = some .local
 gl : ∀ x ∈ gs, env.kindOf x = some .globalImplicit
omit rt0 in
theorem Fn.nv {A : Around} {env : Env} {L : Addr} {ks gs : List Str} (F : Fn A env L ks gs) : Nv env L ks gs := ⟨F.kind, F.loc, F.glob, F.bi, F.nd, F.lo, F.gl⟩
structure Cv (env : Env) (x : Str) (c : Addr) : Prop where
 k : env.kindOf x = some .cell
 l : env.cells.lookup x = some c
noncomputable def CellO (v : Option Value) (o : Obj) : Prop := o.cls = .type "cell" ∧ o.data = .cell v
omit rt0 in
theorem CellO.mut {v : Option Value} {o : Obj} (h : CellO v o) : mutO o = true := by unfold mutO; rw [h.1]; rfl
inductive Cput : List Cell → Addr → Value → List Cell → Prop
 | head {c v0 v cs} : Cput ((c, CellO v0) :: cs) c v ((c, CellO (some v)) :: cs)
 | tail {c v cs cs' d} : Cput cs c v cs' → Cput (d :: cs) c v (d :: cs')
omit rt0 in
theorem Cput.split {cs cs' : List Cell} {c : Addr} {v : Value} (h : Cput cs c v cs') : ∃ cs₁ cs₂ v0, cs = cs₁ ++ (c, CellO v0) :: cs₂ ∧ cs' = cs₁ ++ (c, CellO (some v)) :: cs₂ := by
 induction h with
 | head => exact ⟨[], _, _, rfl, rfl⟩
 | @tail c v cs cs' d _ ih =>
  obtain ⟨a, b, v0, rfl, rfl⟩ := ih
  exact ⟨d :: a, b, v0, rfl, rfl⟩
section
variable {A : Around} {E : Value → Shared → Prop} {g h : Heap} {bs : List Heap} {tk : Nat} {env : Env} {L : Addr} {ks gs : List Str} {cs cs' : List Cell} {vs vs' : List (Option Value)} {K : Frag}
theorem w_nameV {x : Str} {v : Value} {p : Pos} {Q : Value → Shared → Prop} (H : At A bs L ks cs vs h) (F : Nv env L ks gs) (l : Lk ks vs x v) (k : Q v (St s h tk)) (hd : (x == ("__debug__" : Str)) = false := by decide) :
  wpAny (model prog w) A (eval (.Name x p) env) Q E (St s h tk) :=
 wpAny_Name (wpAny_loadName_local F.kind (F.lo x l.mem) (by rw [F.loc]; exact H.ns) (l.fm F.nd) k) hd
theorem w_globV {x : Str} {v : Value} {p : Pos} {Q : Value → Shared → Prop} (H : At A bs L ks cs vs h) (F : Nv env L ks gs) (T : Tp K g) (mb : g ∈ bs) (hm : x ∈ gs) (e : nsIn K mainGlobals x = some (some v)) (k : Q v (St s h tk)) (hd : (x == ("__debug__" : Str)) = false := by decide) :
  wpAny (model prog w) A (eval (.Name x p) env) Q E (St s h tk) := by
 have T' := T.ch (H.ch g mb)
 obtain ⟨mg, gg⟩ := T'.g
 exact Calls.Name_function_global F.kind (F.gl x hm) (Calls.loadGlobal_global (by rw [F.glob]; exact gg) (mg_of T'.k gg e) k) hd
theorem w_biV {x : Str} {v : Value} {p : Pos} {Q : Value → Shared → Prop} (H : At A bs L ks cs vs h) (F : Nv env L ks gs) (T : Tp K g) (mb : g ∈ bs) (hm : x ∈ gs) (e : nsIn K mainGlobals x = some none) (hv : bootBuiltins x = some v) (k : Q v (St s h tk))
  (hn : x ≠ "__name__" := by decide) (hd : (x == ("__debug__" : Str)) = false := by decide) :
  wpAny (model prog w) A (eval (.Name x p) env) Q E (St s h tk) := by
 have T' := T.ch (H.ch g mb)
 fin_once o1 fail
 obtain ⟨mg, gg⟩ := T'.g
 obtain ⟨mb, b, hb⟩ := T'.b
 fin_once o2 fail
 exact Calls.Name_function_global F.kind (F.gl x hm) (Calls.loadGlobal_builtin (by rw [F.glob]; exact gg) (mg_none_of T'.k gg e) (by rw [F.bi]; exact b) ((hb x hn).trans hv) k) hd
theorem w_storeV {x : Str} {v : Value} {Q : Unit → Shared → Prop} (H : At A bs L ks cs vs h) (F : Nv env L ks gs) (p : Put ks vs x v vs')
  (k : ∀ h' tk', At A bs L ks cs vs' h' → Q () (St s h' tk')) : wpAny (model prog w) A (storeName env x v) Q E (St s h tk) :=
 wpAny_storeNameC (F.lo x p.mem) (by rw [F.loc]; exact H.ns) (fun h' hn hs => k h' _ (H.store F.nd p (F.loc ▸ hn) (F.loc ▸ hs)))
  (by rw [F.kind]; rfl)
theorem w_assignV {x : Str} {v : Value} {ps : Pos} {Q : Unit → Shared → Prop} (H : At A bs L ks cs vs h) (F : Nv env L ks gs) (p : Put ks vs x v vs')
  (k : ∀ h' tk', At A bs L ks cs vs' h' → Q () (St s h' tk')) : wpAny (model prog w) A (assign (.Name x ps) env v) Q E (St s h tk) := wpAny_assign_Name (w_storeV H F p k)
theorem w_cname {x : Str} {c : Addr} {v : Value} {p : Pos} {Q : Value → Shared → Prop} (H : At A bs L ks cs vs h) (hk : env.scope.kind = .function) (V : Cv env x c) (m : (c, CellO (some v)) ∈ cs) (k : Q v (St s h tk)) (hd : (x == ("__debug__" : Str)) = false := by decide) :
  wpAny (model prog w) A (eval (.Name x p) env) Q E (St s h tk) := by
 refine H.cells.getK m fun o e co _ => ?_
 exact wpAny_Name (wpAny_loadName_cell hk V.k V.l ⟨o, e, co.2⟩ k) hd
theorem w_cstore {x : Str} {c : Addr} {v : Value} {Q : Unit → Shared → Prop} (H : At A bs L ks cs vs h) (hk : env.scope.kind = .function) (V : Cv env x c) (p : Cput cs c v cs')
  (k : ∀ h', At A bs L ks cs' vs h' → Q () (St s h' tk)) : wpAny (model prog w) A (storeName env x v) Q E (St s h tk) := by
 obtain ⟨cs₁, cs₂, v0, rfl, rfl⟩ := p.split
 refine H.cells.getK (a := c) (φ := CellO v0) (by fin_once sm fail) fun o e co _ => ?_
 unfold storeName
 rw [V.k, hk]
 show wpAny _ _ (cellOf env x >>= _) _ _ _
 refine wpAny_bind (wpAny_cellOf V.l ?_)
 unfold cellSet
 refine wpAny_bind (wpAny_load e ?_)
 rw [co.2]
 have e' : (h.update c fun o => { o with data := .cell (some v) }).get? c = some { o with data := .cell (some v) } := Heap.get?_update_self (fun o => { o with data := .cell (some v) }) e rfl
 have co' : CellO (some v) { o with data := .cell (some v) } := ⟨co.1, rfl⟩
 exact wpAny_update e (k _ (H.turn (Heap.SameBut.update ..) e' co' co'.mut))
theorem w_cassign {x : Str} {c : Addr} {v : Value} {ps : Pos} {Q : Unit → Shared → Prop} (H : At A bs L ks cs vs h) (hk : env.scope.kind = .function) (V : Cv env x c) (p : Cput cs c v cs')
  (k : ∀ h', At A bs L ks cs' vs h' → Q () (St s h' tk)) : wpAny (model prog w) A (assign (.Name x ps) env v) Q E (St s h tk) := wpAny_assign_Name (w_cstore H hk V p k)
theorem At.swap {c d : Cell} (H : At A bs L ks (c :: d :: cs) vs h) : At A bs L ks (d :: c :: cs) vs h := by
 have me : ∀ x, x ∈ d :: c :: cs → x ∈ c :: d :: cs := fun x hx => by simp at hx ⊢; rcases hx with h | h | h <;> simp [h]
 refine H.mod (fun b o e _ => e) ⟨fun x hx => H.cells.all x (me x hx), ?_⟩ fun x hx => .inl ⟨x, me x hx, rfl⟩
 have nd := H.cells.nd
 simp only [List.map_cons, List.nodup_cons, List.mem_cons, not_or] at nd ⊢
 exact ⟨⟨fun q => nd.1.1 q.symm, nd.2.1⟩, nd.1.2, nd.2.2⟩
structure Off (A : Around) (bs : List Heap) (L : Addr) (cs : List Cell) (C : Addr) : Prop where
 b : ∀ g ∈ bs, g.get? C = none
 l : C ≠ L
 c : ∀ c ∈ cs, c.1 ≠ C
 f : ∃ l, A.frames = some l ∧ ∀ env ∈ l, env.frame ≠ some C
theorem At.off {C : Addr} {h' : Heap} (H : At A bs L ks cs vs h) (O : Off A bs L cs C) (hs : Heap.SameBut C h h') : At A bs L ks cs vs h' := by
 have nb : ∀ g ∈ bs, ∀ b o, g.get? b = some o → b ≠ C := fun g m b o q z => by
  have := O.b g m
  rw [← z, q] at this
  cases this
 fin_once o1 fail
 obtain ⟨l, l1, l2⟩ := H.ff
 obtain ⟨l', l1', l2'⟩ := O.f
 fin_once o2 fail
 rw [l1] at l1'
 cases l1'
 refine ⟨fun g m => ⟨fun b o q n fr => (hs.2 b (nb g m b o q)).trans ((H.ch g m).same b o q n fr), fun b o q fr => ?_⟩, H.newL, H.newC, H.ns.sameBut hs (Ne.symm O.l), H.neL, ⟨fun c hc => ?_, H.cells.nd⟩, ⟨l, l1, fun env m => ?_⟩, H.hd⟩
 ·obtain ⟨sl, z⟩ := (H.ch g m).fr b o q fr
  exact ⟨sl, (hs.2 b (nb g m b o q)).trans z⟩
 ·fin_once o1 fail
  obtain ⟨o, e, p, m⟩ := H.cells.all c hc
  fin_once o2 fail
  exact ⟨o, (hs.2 _ (O.c c hc)).trans e, p, m⟩
 ·fin_once o1 fail
  obtain ⟨hk, b, o, hf, ho, hr, hd⟩ := l2 env m
  fin_once o2 fail
  exact ⟨hk, b, o, hf, (hs.2 b fun q => l2' env m (q ▸ hf)).trans ho, hr, hd⟩
end
omit rt0 in
theorem lookup_relabel {scope : Scope} {env : Env} {x : Str} {k : NameKind} (h : scope.names.lookup x = some k) : (relabel scope env).names.lookup x = some (if (k == .free && env.scope.kind == .function && env.kindOf x == some .cell) then .cell else k) := by
 unfold relabel
 dsimp only
 generalize scope.names = names at h
 induction names with
 | nil => cases h
 | cons p r ih =>
  obtain ⟨n, k'⟩ := p
  rw [List.lookup_cons] at h
  rw [List.map_cons]
  by_cases e : x = n
  ·subst e
   rw [show (x == x) = true from by simp] at h
   simp only [Option.some.injEq] at h
   subst h
   dsimp only
   split <;> simp [List.lookup_cons]
  ·have e' : (x == n) = false := beq_eq_false_iff_ne.mpr e
   rw [e'] at h
   have ih := ih h
   dsimp only
   rw [← ih]
   split <;> simp [List.lookup_cons, e']
theorem Nv.comp {env : Env} {L C : Addr} {ks gs gs' : List Str} {scope : Scope} {cl : List (Str × Addr)} {x : Str} (F : Nv env L ks gs) (hkind : scope.kind = .function) (hx : scope.names.lookup x = some .local) (hgl : (gs'.all fun y => scope.names.lookup y == some .globalImplicit) = true) : Nv (compEnvC scope cl C env) C [x] gs' := by
 refine ⟨hkind, rfl, F.glob, F.bi, by fin_once sm fail, fun y m => ?_, fun y m => ?_⟩
 ·rw [List.mem_singleton.mp m]
  exact lookup_relabel hx
 ·exact lookup_relabel (beq_iff_eq.mp (List.all_eq_true.mp hgl y m))
theorem Cv.comp {env : Env} {C c : Addr} {scope : Scope} {cl : List (Str × Addr)} {x : Str} (V : Cv env x c) (hk : env.scope.kind = .function) (hx : scope.names.lookup x = some .free) (hl : cl.lookup x = some c) : Cv (compEnvC scope cl C env) x c := by
 refine ⟨?_, hl⟩
 refine (lookup_relabel hx).trans ?_
 rw [hk, V.k]
 rfl
noncomputable def LO (ys : List Value) (o : Obj) : Prop := o.cls = .type "list" ∧ ∃ n, o.data = .seq ys.toArray n
theorem LO.mut {ys : List Value} {o : Obj} (h : LO ys o) : mutO o = true := mutO_list h.1
section
variable {A : Around} {E E' : Value → Shared → Prop} {h g : Heap} {bs : List Heap} {tk : Nat} {env : Env} {L it : Addr} {ks gs gs' : List Str} {cs : List Cell} {vs vs' : List (Option Value)} {n : Nat} {P : Nat → Value → Prop} {φ : Nat → Obj → Prop}
inductive ElD (A : Around) (bs : List Heap) (C it D : Addr) (x : Str) (v : Value) (φ : Obj → Prop) (cs : List Cell) (ys : List Value) (R : List Value → Prop) : Value → Shared → Prop
 | mk {y : Value} {h' : Heap} {tk' : Nat} (r : R (ys ++ [y])) (H : At A bs C [x] ((it, φ) :: (D, LO ys) :: cs) [some v] h') : ElD A bs C it D x v φ cs ys R y (St s h' tk')
inductive ElN (A : Around) (bs : List Heap) (C it D : Addr) (x : Str) (v : Value) (φ : Obj → Prop) (cs : List Cell) (ys : List Value) (R : List Value → Prop) : Shared → Prop
 | mk {h' : Heap} {tk' : Nat} (r : R ys) (H : At A bs C [x] ((it, φ) :: (D, LO ys) :: cs) [some v] h') : ElN A bs C it D x v φ cs ys R (St s h' tk')
theorem Nv.compN {env : Env} {L C : Addr} {ks gs ks' gs' : List Str} {scope : Scope} {cl : List (Str × Addr)} (F : Nv env L ks gs) (hkind : scope.kind = .function) (nd : ks'.Nodup) (hlo : (ks'.all fun y => scope.names.lookup y == some .local) = true) (hgl : (gs'.all fun y => scope.names.lookup y == some .globalImplicit) = true) : Nv (compEnvC scope cl C env) C ks' gs' :=
 ⟨hkind, rfl, F.glob, F.bi, nd, fun y m => lookup_relabel (beq_iff_eq.mp (List.all_eq_true.mp hlo y m)), fun y m => lookup_relabel (beq_iff_eq.mp (List.all_eq_true.mp hgl y m))⟩
theorem comp_setup {φ0 : Obj → Prop} {e : PySem.Expr} {scope : Scope} {cl : List (Str × Addr)} {RR : Value → Addr → Result → Shared → Prop} (ks' gs' : List Str)
  (F : Nv env L ks gs) (H : At A bs L ks ((it, φ0) :: cs) vs h) (hcell : ∀ y ∈ scope.names, y.2 ≠ .cell) (hkind : scope.kind = .function) (nd : ks'.Nodup) (hlo : (ks'.all fun y => scope.names.lookup y == some .local) = true) (hgl : (gs'.all fun y => scope.names.lookup y == some .globalImplicit) = true)
  (run : ∀ g0 D C h₂ tk₂, At A (g0 :: bs) C ks' ((it, φ0) :: (D, LO []) :: cs) (ks'.map fun _ => none) h₂ → Nv (compEnvC scope cl C env) C ks' gs' →
   (∀ ys vC h', At A (g0 :: bs) C ks' ((D, LO ys) :: cs) vC h' → At A bs L ks ((D, LO ys) :: cs) vs h' ∧ Off A bs L ((D, LO ys) :: cs) C) →
   codeAny (model prog w) A (.compStart e 0 (.ref it) (.ref D) (compEnvC scope cl C env)) (RR (.ref D) C) (St s h₂ tk₂)) :
  wpAny (model prog w) A (newList []) (fun acc s₃ => wpAny (model prog w) A (newFunctionEnv scope env.globals cl [] env.qual none .none (some env)) (fun cenv s₄ =>
   codeAny (model prog w) A (.compStart e 0 (.ref it) acc { cenv with scope := relabel scope env }) (RR acc cenv.locals) s₄) E s₃) E (St s h tk) := by
 refine wpAny_newObj_type (wpAny_newFunctionEnv hcell (by intro y hy; simp at hy) (fun h₂ hns hsb => ?_) hkind)
 dsimp only at hns hsb ⊢
 have H1 : At A bs L ks ((it, φ0) :: (h.objs.size, LO []) :: cs) vs (h.push { cls := .type "list", dict := none, data := .seq ([] : List Value).toArray }) := (H.push (o := { cls := .type "list", dict := none, data := .seq ([] : List Value).toArray }) (φ := LO []) ⟨rfl, _, rfl⟩ rfl rfl).swap
 generalize hD : h.objs.size = D at H1 ⊢
 have fH : ∃ l, A.frames = some l ∧ FF h l := H.ff
 have hCs : (h.push { cls := .type "list", dict := none, data := .seq ([] : List Value).toArray }).objs.size = h.objs.size + 1 := Heap.size_push ..
 generalize h.push { cls := .type "list", dict := none, data := .seq ([] : List Value).toArray } = h1 at H1 hns hsb hCs ⊢
 generalize hC : h1.objs.size = C at hns hsb ⊢
 have e2 : ∀ b o, h1.get? b = some o → b ≠ C ∧ h₂.get? b = some o := fun b o e => by
  have lt := Heap.lt_size e
  have ne : b ≠ C := by rw [← hC]; exact Nat.ne_of_lt lt
  exact ⟨ne, (hsb.2 b ne).trans (Heap.get?_push_of_some _ e)⟩
 have c12 : Ch [] h1 h₂ := Ch.of_keeps fun b o e => (e2 b o e).2
 have H2 := H1.keep c12
 have oF : Off A bs L ((it, φ0) :: (D, LO []) :: cs) C := by
  refine ⟨fun g m => none_new (H1.ch g m) (by rw [hC]; exact Nat.le_refl _), ?_, fun c hc => ?_, ?_⟩
  ·obtain ⟨o, e⟩ := H1.frL
   exact fun q => (e2 _ _ e).1 q.symm
  ·obtain ⟨o, e, _⟩ := H1.cells.all c hc
   exact (e2 _ _ e).1
  ·obtain ⟨l, l1, l2⟩ := H1.ff
   refine ⟨l, l1, fun env m => ?_⟩
   fin_once o1 fail
   obtain ⟨_, b, o, hf, ho, _⟩ := l2 env m
   fin_once o2 fail
   rw [hf]
   exact fun q => (e2 _ _ ho).1 (Option.some.inj q)
 obtain ⟨g0, hg0⟩ : ∃ g0, g0 = hideAll h₂ (C :: ((it, φ0) :: (D, LO []) :: cs).map (·.1)) := ⟨_, rfl⟩
 have k0 : ∀ b o, h₂.get? b = some o → b ≠ C → (∀ c ∈ ((it, φ0) :: (D, LO []) :: cs), c.1 ≠ b) → g0.get? b = some o := fun b o e nC nc => by
  rw [hg0]
  refine hideAll_get _ e fun q => ?_
  rcases List.mem_cons.mp q with q | q
  ·exact nC q
  ·obtain ⟨c, hc, e⟩ := List.mem_map.mp q
   exact nc c hc e
 have x0 : Ch [] g0 h₂ := by rw [hg0]; exact Ch.of_keeps fun b o e => of_hideAll _ e
 have n0 : ∀ b, b ∈ C :: ((it, φ0) :: (D, LO []) :: cs).map (·.1) → g0.get? b = none := fun b m => by rw [hg0]; exact hideAll_none _ m
 have L0 : g0.Ns L (fm ks vs) := by
  fin_once o1 fail
  obtain ⟨o, es, ep, ho, r⟩ := H2.ns
  fin_once o2 fail
  exact ⟨o, es, ep, k0 L o ho (Ne.symm oF.l) H2.neL, r⟩
 have H3 : At A (g0 :: bs) C ks' ((it, φ0) :: (D, LO []) :: cs) (ks'.map fun _ => none) h₂ := by
  refine ⟨fun g m => ?_, fun g m => ?_, fun g m c hc => ?_, ?_, oF.c, H2.cells, H2.ff, ?_⟩
  ·rcases List.mem_cons.mp m with rfl | m
   ·exact x0
   ·exact H2.ch g m
  ·rcases List.mem_cons.mp m with rfl | m
   ·exact n0 _ (.head _)
   ·exact oF.b g m
  ·rcases List.mem_cons.mp m with rfl | m
   ·exact n0 _ (.tail _ (List.mem_map_of_mem (f := (·.1)) hc))
   ·exact H2.newC g m c hc
  ·fin_once o1 fail
   obtain ⟨o, es, ep, ho, hd, hk, hm⟩ := hns
   fin_once o2 fail
   exact ⟨o, es, ep, ho, hd, hk, fun y => (hm y).trans (fm_nones ks' y).symm⟩
  ·obtain ⟨g, m, d⟩ := H2.hd
   exact ⟨g, .tail _ m, d⟩
 have self : ∀ g ∈ bs, g ∈ g0 :: bs := fun _ m => .tail _ m
 have back : ∀ {ψ : Obj → Prop} {ys vC h'}, (∀ o, ψ o → True) → At A (g0 :: bs) C ks' ((D, LO ys) :: cs) vC h' → At A bs L ks ((D, LO ys) :: cs) vs h' ∧ Off A bs L ((D, LO ys) :: cs) C := fun {ψ ys vC h'} _ H' => by
  have ndD : ∀ c ∈ (D, LO ys) :: cs, ∃ c0 ∈ (it, φ0) :: (D, LO []) :: cs, c0.1 = c.1 := fun c hc => by
   rcases List.mem_cons.mp hc with rfl | hc
   ·exact ⟨_, .tail _ (.head _), rfl⟩
   ·exact ⟨c, .tail _ (.tail _ hc), rfl⟩
  refine ⟨⟨fun g m => H'.ch g (self g m), H2.newL, fun g m c hc => H'.newC g (self g m) c hc, (H'.ch g0 (.head _)).ns (by fin_once sm fail) L0, fun c hc => ?_, H'.cells, H'.ff, H2.hd⟩, oF.b, oF.l, fun c hc => ?_, oF.f⟩
  ·obtain ⟨c0, m0, e0⟩ := ndD c hc
   rw [← e0]; exact H2.neL c0 m0
  ·obtain ⟨c0, m0, e0⟩ := ndD c hc
   rw [← e0]; exact oF.c c0 m0
 exact run g0 D C h₂ _ H3 (F.compN hkind nd hlo hgl) fun ys vC h' H' => back (ψ := fun _ => True) (fun _ _ => trivial) H'
inductive ICp (A : Around) (bs : List Heap) (C it D : Addr) (x : Str) (φ : Nat → Obj → Prop) (cs : List Cell) (n : Nat) (R : Nat → List Value → Prop) : Nat → Shared → Prop
 | mk {i : Nat} {vC : Option Value} {ys : List Value} {h' : Heap} {tk' : Nat} (hi : i ≤ n) (r : R i ys) (H : At A bs C [x] ((it, φ i) :: (D, LO ys) :: cs) [vC] h') : ICp A bs C it D x φ cs n R (n - i) (St s h' tk')
theorem comp_core {elt iter : PySem.Expr} {x : Str} {px : Pos} {ifs : List PySem.Expr} {scope : Scope} {cl : List (Str × Addr)} {pos : Pos} {RR : Value → Addr → Result → Shared → Prop} (R : Nat → List Value → Prop)
  (F : Nv env L ks gs) (W : Itr A (.Name x px) g it n P φ) (mb : g ∈ bs) (H : At A bs L ks ((it, φ 0) :: cs) vs h) (r0 : R 0 []) (hcell : ∀ y ∈ scope.names, y.2 ≠ .cell) (hkind : scope.kind = .function) (hx : scope.names.lookup x = some .local) (hgl : (gs'.all fun y => scope.names.lookup y == some .globalImplicit) = true) (hn : n ≤ 10000) (hrz : ∀ i ys, R i ys → ys.length ≤ i)
  (turn : ∀ i v bs' C D ys h tk, i < n → P i v → R i ys → (∀ g ∈ bs, g ∈ bs') → At A bs' C [x] ((it, φ (i + 1)) :: (D, LO ys) :: cs) [some v] h → Nv (compEnvC scope cl C env) C [x] gs' →
   wpAny (model prog w) A (forIn ifs true fun c r => if r = true then do let ok ← isTrue c (compEnvC scope cl C env) (eval c (compEnvC scope cl C env)); pure (ForInStep.yield ok) else pure (ForInStep.yield r)) (fun ok s₃ =>
    if ok = true then wpAny (model prog w) A (eval elt (compEnvC scope cl C env)) (ElD A bs' C it D x v (φ (i + 1)) cs ys (R (i + 1))) No s₃ else ElN A bs' C it D x v (φ (i + 1)) cs ys (R (i + 1)) s₃) No (St s h tk))
  (done : ∀ D C m ys h tk, R n ys → At A bs L ks ((D, LO ys) :: cs) vs h → Off A bs L ((D, LO ys) :: cs) C → h.Ns C m → RR (.ref D) C (.ok .next) (St s h tk)) :
  wpAny (model prog w) A (newList []) (fun acc s₃ => wpAny (model prog w) A (newFunctionEnv scope env.globals cl [] env.qual none .none (some env)) (fun cenv s₄ =>
   codeAny (model prog w) A (.compStart (.ListComp elt [⟨.Name x px, iter, ifs, 0⟩] scope pos) 0 (.ref it) acc { cenv with scope := relabel scope env }) (RR acc cenv.locals) s₄) E s₃) E (St s h tk) := by
 refine comp_setup [x] gs' F H hcell hkind (by fin_once sm fail) (by simp [hx]) hgl fun g0 D C h₂ tk₂ H₂ V back => ?_
 have self : ∀ g ∈ bs, g ∈ g0 :: bs := fun _ m => .tail _ m
 have lp : codeAny (model prog w) A (.compLoop (.ListComp elt [⟨.Name x px, iter, ifs, 0⟩] scope pos) 0 (.ref it) (.ref D) (compEnvC scope cl C env)) (RR (.ref D) C) (St s h₂ tk₂) := by
  refine codeAny_compLoop_tests (ICp A (g0 :: bs) C it D x φ cs n R) (fun k s' hI => ?_) (n - 0) (.mk (Nat.zero_le _) r0 H₂)
  induction hI
  rename_i i vC ys h' tk' hi r H'
  by_cases hlt : i < n
  ·refine H'.next W (self g mb) hlt fun v h₄ tk₄ pv H₄ => ?_
   refine w_assignV H₄ V Put.head fun h₅ tk₅ H₅ => ?_
   refine wpAny_mono (turn i v (g0 :: bs) C D ys h₅ tk₅ hlt pv r self H₅ V) (fun ok s₆ h₆ => ?_) fun _ _ q => q.elim
   cases ok with
   | false =>
    rw [if_neg (by decide)] at h₆
    rw [if_neg (by decide)]
    induction h₆
    rename_i r' H₇
    exact ⟨n - (i + 1), by fin_once om fail, .mk hlt r' H₇⟩
   | true =>
    rw [if_pos rfl] at h₆
    rw [if_pos rfl]
    refine wpAny_mono h₆ (fun y s₇ h₇ => ?_) fun _ _ q => q.elim
    induction h₇
    rename_i h₇ tk₇ r' H₇
    refine H₇.cells.getK (a := D) (φ := LO ys) (by fin_once sm fail) fun o e pk2 _ => ?_
    obtain ⟨c, m, d⟩ := pk2
    have zy := hrz _ _ r
    refine wpAny_list_append (s := St s h₇ tk₇) ⟨o, e, c, m, d⟩ (fun h₈ hl hs => ?_) (by rw [List.size_toArray]; exact Nat.le_trans (by fin_once om fail : ys.length ≤ 10000) (by decide))
    fin_once o1 fail
    obtain ⟨o', e', c', m', d'⟩ := hl
    fin_once o2 fail
    refine ⟨n - (i + 1), by fin_once om fail, .mk hlt r' (H₇.turn (cs₁ := [(it, φ (i + 1))]) (ψ := LO (ys ++ [y])) hs e' ⟨c', m', ?_⟩ (mutO_list c'))⟩
    rw [d']
    simp
  ·obtain rfl : i = n := by fin_once om fail
   refine H'.nexts W (self g mb) fun h₄ tk₄ H₄ => ?_
   obtain ⟨H₅, O₅⟩ := back _ _ _ H₄
   exact done D C _ ys h₄ tk₄ r H₅ O₅ H₄.ns
 refine H₂.cells.getK (a := it) (φ := φ 0) (.head _) fun o e p _ => ?_
 exact codeAny_compStart_list lp (W.self 0 _ _ _ ⟨o, e, p⟩ lp)
end
section
variable (A : Around) (L : Addr) (ks : List Str) (env : Env) (elt : PySem.Expr) (x : Str) (px : Pos) (ifs : List PySem.Expr) (scope : Scope) (cl : List (Str × Addr)) (gs' : List Str) (R : Nat → List Value → Prop)
inductive CpV (Q : Value → Shared → Prop) : Value → Shared → Prop
 | mk {it : Addr} {g : Heap} {n : Nat} {P : Nat → Value → Prop} {φ : Nat → Obj → Prop} {bs : List Heap} {cs : List Cell} {vs : List (Option Value)} {h : Heap} {tk : Nat} (W : Itr A (.Name x px) g it n P φ) (mb : g ∈ bs) (H : At A bs L ks ((it, φ 0) :: cs) vs h) (hn : n ≤ 10000)
  (turn : ∀ i v bs' C D ys h tk, i < n → P i v → R i ys → (∀ g ∈ bs, g ∈ bs') → At A bs' C [x] ((it, φ (i + 1)) :: (D, LO ys) :: cs) [some v] h → Nv (compEnvC scope cl C env) C [x] gs' →
   wpAny (model prog w) A (forIn ifs true fun c r => if r = true then do let ok ← isTrue c (compEnvC scope cl C env) (eval c (compEnvC scope cl C env)); pure (ForInStep.yield ok) else pure (ForInStep.yield r)) (fun ok s₃ =>
    if ok = true then wpAny (model prog w) A (eval elt (compEnvC scope cl C env)) (ElD A bs' C it D x v (φ (i + 1)) cs ys (R (i + 1))) No s₃ else ElN A bs' C it D x v (φ (i + 1)) cs ys (R (i + 1)) s₃) No (St s h tk))
  (done : ∀ D ys h tk, R n ys → At A bs L ks ((D, LO ys) :: cs) vs h → Q (.ref D) (St s h tk)) : CpV Q (.ref it) (St s h tk)
inductive CpS (y : Str) (Q : Flow → Shared → Prop) : Value → Shared → Prop
 | mk {it : Addr} {g : Heap} {n : Nat} {P : Nat → Value → Prop} {φ : Nat → Obj → Prop} {bs : List Heap} {cs : List Cell} {vs : List (Option Value)} {h : Heap} {tk : Nat} (W : Itr A (.Name x px) g it n P φ) (mb : g ∈ bs) (H : At A bs L ks ((it, φ 0) :: cs) vs h) (hn : n ≤ 10000) (hp : ∀ v, ∃ vs', Put ks vs y v vs')
  (turn : ∀ i v bs' C D ys h tk, i < n → P i v → R i ys → (∀ g ∈ bs, g ∈ bs') → At A bs' C [x] ((it, φ (i + 1)) :: (D, LO ys) :: cs) [some v] h → Nv (compEnvC scope cl C env) C [x] gs' →
   wpAny (model prog w) A (forIn ifs true fun c r => if r = true then do let ok ← isTrue c (compEnvC scope cl C env) (eval c (compEnvC scope cl C env)); pure (ForInStep.yield ok) else pure (ForInStep.yield r)) (fun ok s₃ =>
    if ok = true then wpAny (model prog w) A (eval elt (compEnvC scope cl C env)) (ElD A bs' C it D x v (φ (i + 1)) cs ys (R (i + 1))) No s₃ else ElN A bs' C it D x v (φ (i + 1)) cs ys (R (i + 1)) s₃) No (St s h tk))
  (done : ∀ D ys h tk vs', R n ys → Put ks vs y (.ref D) vs' → At A bs L ks ((D, LO ys) :: cs) vs' h → Q .next (St s h tk)) : CpS y Q (.ref it) (St s h tk)
end
section
variable {A : Around} {E E' : Value → Shared → Prop} {h g : Heap} {bs : List Heap} {tk : Nat} {env : Env} {L it : Addr} {ks gs gs' : List Str} {cs : List Cell} {vs vs' : List (Option Value)} {n : Nat} {P : Nat → Value → Prop} {φ : Nat → Obj → Prop}
theorem w_comp {elt iter : PySem.Expr} {x : Str} {px : Pos} {ifs : List PySem.Expr} {scope : Scope} {cl : List (Str × Addr)} {pos : Pos} {Q : Value → Shared → Prop} (gs' : List Str) (R : Nat → List Value → Prop)
  (F : Nv env L ks gs) (hclos : closureFor scope env = pure cl) (hcell : ∀ y ∈ scope.names, y.2 ≠ .cell) (hkind : scope.kind = .function) (hnames : ∀ x ∈ scope.names, x.2 = .local → scope.names.lookup x.1 = some .local) (hx : scope.names.lookup x = some .local) (hgl : (gs'.all fun y => scope.names.lookup y == some .globalImplicit) = true)
  (hs : ∀ x, foldedSetIterable iter env x = pure x) (hrz : ∀ i ys, R i ys → ys.length ≤ i) (r0 : R 0 [])
  (hw : wpAny (model prog w) A (eval iter env) (fun xv s₁ => wpAny (model prog w) A (pyIter xv) (CpV A L ks env elt x px ifs scope cl gs' R Q) E s₁) E (St s h tk)) :
  wpAny (model prog w) A (eval (.ListComp elt [⟨.Name x px, iter, ifs, 0⟩] scope pos) env) Q E (St s h tk) := by
 rw [eval_ListComp]
 refine wpAny_comprehension_free (use := none) rfl hs hclos hkind hnames (wpAny_mono hw (fun xv s₁ h₁ => wpAny_mono h₁ (fun iv s₂ h₂ => ?_) fun _ _ e => e) fun _ _ e => e)
 induction h₂
 rename_i it g n P φ bs cs vs h tk W mb H hn turn done
 refine comp_core (RR := fun acc C => compPost (model prog w) A E none Q acc C) R F W mb H r0 hcell hkind hx hgl hn hrz turn fun D C m ys h' tk' r H' O hns => ?_
 exact ⟨m, hns, fun h'' hs'' => done D ys h'' tk' r (H'.off O hs'')⟩
theorem w_compS {elt iter : PySem.Expr} {x y : Str} {px py : Pos} {ifs : List PySem.Expr} {scope : Scope} {cl : List (Str × Addr)} {pos spos : Pos} {Q : Flow → Shared → Prop} (gs' : List Str) (R : Nat → List Value → Prop)
  (F : Nv env L ks gs) (hsw : swapsWith (.ListComp elt [⟨.Name x px, iter, ifs, 0⟩] scope pos) (some (.Name y py)) spos.line env = pure true) (hclos : closureFor scope env = pure cl) (hcell : ∀ y ∈ scope.names, y.2 ≠ .cell) (hkind : scope.kind = .function) (hnames : ∀ x ∈ scope.names, x.2 = .local → scope.names.lookup x.1 = some .local) (hx : scope.names.lookup x = some .local) (hgl : (gs'.all fun y => scope.names.lookup y == some .globalImplicit) = true)
  (hs : ∀ x, foldedSetIterable iter env x = pure x) (hrz : ∀ i ys, R i ys → ys.length ≤ i) (r0 : R 0 [])
  (hw : wpAny (model prog w) A (eval iter env) (fun xv s₁ => wpAny (model prog w) A (pyIter xv) (CpS A L ks env elt x px ifs scope cl gs' R y Q) E s₁) E (St s h tk)) :
  wpAny (model prog w) A (exec (.Assign [.Name y py] (.ListComp elt [⟨.Name x px, iter, ifs, 0⟩] scope pos) spos) env) Q E (St s h tk) := by
 rw [exec_Assign_Name_used _ _ _ _ hsw]
 refine wpAny_bind (wpAny_standAt (wpAny_bind ?_))
 show wpAny _ A (do let _ ← comprehension (.ListComp elt [⟨.Name x px, iter, ifs, 0⟩] scope pos) scope env _ (newList []) false (eval iter env) (some (assign (.Name y py) env))) _ _ (St s h tk)
 refine wpAny_bind (wpAny_mono (wpAny_comprehension_free (use := some (assign (.Name y py) env)) (Q := fun _ s' => Q .next s') rfl hs hclos hkind hnames
  (wpAny_mono hw (fun xv s₁ h₁ => wpAny_mono h₁ (fun it s₂ h₂ => ?_) fun _ _ e => e) fun _ _ e => e)) (fun _ s' hq => wpAny_pure (wpAny_pure hq)) fun _ _ e => e)
 induction h₂
 rename_i it g n P φ bs cs vs h tk W mb H hn hp turn done
 refine comp_core (RR := fun acc C => compPost (model prog w) A E (some (assign (.Name y py) env)) (fun _ s' => Q .next s') acc C) R F W mb H r0 hcell hkind hx hgl hn hrz turn fun D C m ys h' tk' r H' O hns => ?_
 obtain ⟨vs', p⟩ := hp (.ref D)
 show wpAny _ A (assign (.Name y py) env (.ref D)) _ _ _
 refine wpAny_assign_Name (wpAny_storeNameC (s := St s h' tk') (F.lo y p.mem) (by rw [F.loc]; exact H'.ns) (fun h₂ hn₂ hs₂ => ?_) (by rw [F.kind]; rfl))
 rw [F.loc] at hn₂ hs₂
 refine ⟨m, hns.sameBut hs₂.1 O.l, fun h₃ hs₃ => done D ys h₃ _ vs' r p ((H'.store F.nd p hn₂ hs₂).off O hs₃)⟩
end
inductive Bd (env : Env) (ks : List Str) : List (Str × Value) → List Cell → List (Option Value) → List Cell → List (Option Value) → Prop
 | nil {cs vs} : Bd env ks [] cs vs cs vs
 | loc {x v rest cs vs vs1 cs' vs'} : env.kindOf x = some .local → Put ks vs x v vs1 → Bd env ks rest cs vs1 cs' vs' → Bd env ks ((x, v) :: rest) cs vs cs' vs'
 | cel {x c v rest cs cs1 vs cs' vs'} : Cv env x c → Cput cs c v cs1 → Bd env ks rest cs1 vs cs' vs' → Bd env ks ((x, v) :: rest) cs vs cs' vs'
section
variable {A A' : Around} {E : Value → Shared → Prop} {h : Heap} {bs : List Heap} {tk : Nat} {env : Env} {L : Addr} {ks : List Str} {cs cs' : List Cell} {vs vs' : List (Option Value)}
theorem w_storeD {x : Str} {v : Value} {Q : Unit → Shared → Prop} (H : At A' bs L ks cs vs h) (hk : env.scope.kind = .function) (hl : env.locals = L) (nd : ks.Nodup) (lo : env.kindOf x = some .local) (p : Put ks vs x v vs')
  (k : ∀ h' tk', At A' bs L ks cs vs' h' → SetNs L h h' → Q () (St s h' tk')) : wpAny (model prog w) A (storeName env x v) Q E (St s h tk) :=
 wpAny_storeNameC lo (by rw [hl]; exact H.ns) (fun h' hn hs => k h' _ (H.store nd p (hl ▸ hn) (hl ▸ hs)) (hl ▸ hs)) (by rw [hk]; rfl)
theorem w_cstoreD {x : Str} {c : Addr} {v : Value} {Q : Unit → Shared → Prop} (H : At A' bs L ks cs vs h) (hk : env.scope.kind = .function) (V : Cv env x c) (p : Cput cs c v cs')
  (k : ∀ h', At A' bs L ks cs' vs h' → Heap.SameBut c h h' → Q () (St s h' tk)) : wpAny (model prog w) A (storeName env x v) Q E (St s h tk) := by
 obtain ⟨cs₁, cs₂, v0, rfl, rfl⟩ := p.split
 refine H.cells.getK (a := c) (φ := CellO v0) (by fin_once sm fail) fun o e co _ => ?_
 unfold storeName
 rw [V.k, hk]
 show wpAny _ _ (cellOf env x >>= _) _ _ _
 refine wpAny_bind (wpAny_cellOf V.l ?_)
 unfold cellSet
 refine wpAny_bind (wpAny_load e ?_)
 rw [co.2]
 have e' : (h.update c fun o => { o with data := .cell (some v) }).get? c = some { o with data := .cell (some v) } := Heap.get?_update_self (fun o => { o with data := .cell (some v) }) e rfl
 have co' : CellO (some v) { o with data := .cell (some v) } := ⟨co.1, rfl⟩
 exact wpAny_update e (k _ (H.turn (Heap.SameBut.update ..) e' co' co'.mut) (Heap.SameBut.update ..))
theorem Cput.mem {c : Addr} {v : Value} (p : Cput cs c v cs') : ∃ d ∈ cs, d.1 = c := by
 obtain ⟨a, b, v0, rfl, rfl⟩ := p.split
 exact ⟨(c, CellO v0), by fin_once sm fail, rfl⟩
omit rt0 in
theorem Cput.app {c : Addr} {v : Value} (p : Cput cs c v cs') (ex : List Cell) : Cput (cs ++ ex) c v (cs' ++ ex) := by
 induction p with
 | head => exact .head
 | tail _ ih => exact .tail ih
theorem w_binds {f : Str × Value → PUnit → Sem (ForInStep PUnit)} (hf : ∀ x v r, f (x, v) r = (do storeName env x v; pure (.yield ⟨⟩))) {h0 : Heap} {ex : List Cell} (hk : env.scope.kind = .function) (hl : env.locals = L) (nd : ks.Nodup) {binds : List (Str × Value)} {cs cs' vs vs'} (B : Bd env ks binds cs vs cs' vs') : ∀ {h : Heap} {tk : Nat} {Q : PUnit → Shared → Prop}, At A' bs L ks (cs ++ ex) vs h → (∀ b o, h0.get? b = some o → h.get? b = some o) → (∀ c ∈ cs, h0.get? c.1 = none) → h0.get? L = none →
  (∀ h' tk', At A' bs L ks (cs' ++ ex) vs' h' → (∀ b o, h0.get? b = some o → h'.get? b = some o) → Q ⟨⟩ (St s h' tk')) → wpAny (model prog w) A (forIn binds PUnit.unit f) Q E (St s h tk) := by
 induction B with
 | nil => intro h tk Q H kp _ _ k; exact wpAny_pure (k h tk H kp)
 | @loc x v rest cs vs vs1 cs' vs' lo p B ih =>
  intro h tk Q H kp nc nl k
  rw [List.forIn_cons, hf]
  refine wpAny_bind (wpAny_bind (w_storeD H hk hl nd lo p fun h' tk' H' hs => wpAny_pure ?_))
  refine ih H' (fun b o e => (hs.1.2 b fun q => ?_).trans (kp b o e)) nc nl k
  rw [q, nl] at e
  cases e
 | @cel x c v rest cs cs1 vs cs' vs' V p B ih =>
  intro h tk Q H kp nc nl k
  rw [List.forIn_cons, hf]
  refine wpAny_bind (wpAny_bind (w_cstoreD H hk V (p.app ex) fun h' H' hs => wpAny_pure ?_))
  fin_once o1 fail
  obtain ⟨cs₁, cs₂, v0, e1, e2⟩ := p.split
  fin_once o2 fail
  refine ih H' (fun b o e => (hs.2 b fun q => ?_).trans (kp b o e)) (fun d hd => ?_) nl k
  ·have := nc (c, CellO v0) (by rw [e1]; simp)
   rw [q] at e
   rw [e] at this
   cases this
  ·rw [e2] at hd
   rcases List.mem_append.mp hd with hd | hd
   ·exact nc d (by rw [e1]; exact List.mem_append_left _ hd)
   ·rcases List.mem_cons.mp hd with rfl | hd
    ·exact nc (c, CellO v0) (by rw [e1]; simp)
    ·exact nc d (by rw [e1]; exact List.mem_append_right _ (.tail _ hd))
end
omit rt0 in
theorem cellsFrom_cls : ∀ (names : List (Str × NameKind)) (h : Heap) (acc : List (Str × Addr)), (∀ p ∈ acc, ∃ o, h.get? p.2 = some o ∧ CellO none o) → ∀ p ∈ cellsFrom h.objs.size names acc, ∃ o, (pushCells h names).get? p.2 = some o ∧ CellO none o
 | [], h, acc, x => x
 | (name, kind) :: r, h, acc, x => by
  unfold pushCells cellsFrom
  split
  ·have := cellsFrom_cls r (h.push { cls := .type "cell", data := .cell none }) ((name, h.objs.size) :: acc) fun p hp => by
    rcases List.mem_cons.mp hp with rfl | hp
    ·exact ⟨_, Heap.get?_push_size _ rfl, rfl, rfl⟩
    ·obtain ⟨o, e, c⟩ := x p hp
     exact ⟨o, Heap.get?_push_of_some _ e, c⟩
   rwa [Heap.size_push] at this
  ·exact cellsFrom_cls r h acc x
section
variable {A : Around} {Q E : Value → Shared → Prop} {h : Heap} {tk : Nat} {K : Frag} {base : Heap} {bs : List Heap} {f : Addr} {oc : Value} {od : Option Addr} {osl : Array (Option Value)}
  {name qual : Str} {params : Arguments} {body : List Stmt} {scope : Scope} {dV kV doc pm cdv ct : Value} {an : Option Addr} {args vals : List Value} {cs : List Cell}
theorem fnC (binds : List (Str × Value)) (ks gs : List Str) (cs' : Nat → List Cell) (vs' : List (Option Value))
  (T : Tp K base) (mb : base ∈ bs) (x : ∀ g ∈ bs, Ch [] g h) (C : Cells h cs) (nC : ∀ g ∈ bs, ∀ c ∈ cs, g.get? c.1 = none) (ff : ∃ l, A.frames = some l ∧ FF h l) (hd : ∃ g ∈ bs, HdOk A g)
  (ho : K.lookup f = some ⟨oc, od, .func (fnOf name qual params body scope dV kV doc pm an cdv ct), osl⟩) (hcd : codeIn K cdv qual = true) (hroom : A.depth < recursionLimit)
  (hbind : BindsTo (St s h tk) (fnOf name qual params body scope dV kV doc pm an cdv ct) ⟨args, []⟩ binds)
  (nd : ks.Nodup) (hlo : (ks.all fun y => scope.names.lookup y == some .local) = true) (hgl : (gs.all fun y => scope.names.lookup y == some .globalImplicit) = true)
  (hco : scope.isCoroutine = false) (hgen : scope.isGenerator = false) (hk : scope.kind = .function)
  (hB : ∀ (n : Nat) (env : Env), env.scope = scope → env.cells = cellsFrom n scope.names [] → Bd env ks binds ((cellsFrom n scope.names []).map fun p => (p.2, CellO none)) (ks.map fun _ => none) (cs' n) vs')
  (k : ∀ n env L h₁ tk₁, Fn (A.deeper env) env L ks gs → At (A.deeper env) bs L ks (cs' n ++ cs) vs' h₁ → Ch [] h h₁ → env.scope = scope → env.cells = cellsFrom n scope.names [] →
   wpAny (model prog w) (A.deeper env) (execs body env) (Rt Q) No (St s h₁ tk₁)) :
  wpAny (model prog w) A (call (.ref f) args) Q E (St s h tk) := by
 have T' := T.ch (x base mb)
 have hloc : ∀ y ∈ ks, scope.names.lookup y = some .local := fun y hy => beq_iff_eq.mp (List.all_eq_true.mp hlo y hy)
 obtain ⟨l, hl, hff⟩ := ff
 refine wpAny_call (codeAny_call_function (s := St s h tk) hroom (T'.k _ _ ho) rfl hco hgen rfl (codeRec_of T'.k hcd) (hbind _ _ _ _ ?_))
 simp only [newFunctionEnv, Option.isSome_none, Bool.false_eq_true, if_false]
 refine wpAny_bind (wpAny_alloc (wpAny_bind ?_))
 have L1 : (h.push { cls := .type "frame", data := .dict #[] }).get? h.objs.size = some { cls := .type "frame", data := .dict #[] } := Heap.get?_push_size _ rfl
 have kp1 : ∀ b o, h.get? b = some o → (h.push { cls := .type "frame", data := .dict #[] }).get? b = some o := fun b o e => Heap.get?_push_of_some _ e
 have ns1 : (h.push { cls := .type "frame", data := .dict #[] }).Ns h.objs.size (fun _ => none) := Heap.Ns.new ..
 have sz1 : (h.push { cls := .type "frame", data := .dict #[] }).objs.size = h.objs.size + 1 := Heap.size_push ..
 refine wpAny_layCells _ (fun name kind cells => rfl) scope.names [] _ _ ?_
 show wpAny _ _ _ _ _ _
 dsimp only
 generalize h.push { cls := .type "frame", data := .dict #[] } = h1 at L1 kp1 ns1 sz1 ⊢
 have Cok := cellsFrom_ok scope.names h1 (h.objs.size + 1) [] ⟨fun _ _ m => (nomatch m), List.Pairwise.nil⟩ (by rw [sz1]; exact Nat.le_refl _)
 have Ccl := cellsFrom_cls scope.names h1 [] (fun _ m => (nomatch m))
 have kp2 : ∀ b o, h1.get? b = some o → (pushCells h1 scope.names).get? b = some o := fun b o e => pushCells_keeps _ _ b o e
 generalize hn : h1.objs.size = n at Cok Ccl ⊢
 generalize pushCells h1 scope.names = h2 at Cok Ccl kp2 ⊢
 have kp : ∀ b o, h.get? b = some o → h2.get? b = some o := fun b o e => kp2 b o (kp1 b o e)
 have c2 : Ch [] h h2 := Ch.of_keeps kp
 generalize hE : ({ scope, locals := h.objs.size, globals := mainGlobals, cells := cellsFrom n scope.names [], qual := _, func := some f, code := cdv, frame := some h.objs.size, builtins := builtinsNs } : Env) = env
 have es : env.scope = scope := by rw [← hE]
 have ec : env.cells = cellsFrom n scope.names [] := by rw [← hE]
 have el : env.locals = h.objs.size := by rw [← hE]
 have cn : ∀ p ∈ cellsFrom n scope.names [], h.objs.size + 1 ≤ p.2 := fun p m => (Cok.empty p.1 p.2 m).2
 have none_of : ∀ b, h.objs.size ≤ b → h.get? b = none := fun b hb => Heap.get?_none_of_le hb
 have H : At (A.deeper env) bs h.objs.size ks (((cellsFrom n scope.names []).map fun p => (p.2, CellO none)) ++ cs) (ks.map fun _ => none) h2 := by
  refine ⟨fun g m => (x g m).trans c2, fun g m => none_new (x g m) (Nat.le_refl _), fun g m c hc => ?_, ?_, fun c hc => ?_, ⟨fun c hc => ?_, ?_⟩, ⟨env :: l, ?_, fun env' m => ?_⟩, hd⟩
  ·rcases List.mem_append.mp hc with hc | hc
   ·obtain ⟨p, hp, rfl⟩ := List.mem_map.mp hc
    exact none_new (x g m) (Nat.le_of_succ_le (cn p hp))
   ·exact nC g m c hc
  ·fin_once o1 fail
   obtain ⟨o, es, ep, ho, hd, hk, hm⟩ := ns1
   fin_once o2 fail
   exact ⟨o, es, ep, kp2 _ _ ho, hd, hk, fun y => (hm y).trans (fm_nones ks y).symm⟩
  ·rcases List.mem_append.mp hc with hc | hc
   ·obtain ⟨p, hp, rfl⟩ := List.mem_map.mp hc
    exact Nat.ne_of_gt (cn p hp)
   ·obtain ⟨o, e, _⟩ := C.all c hc
    exact Nat.ne_of_lt (Heap.lt_size e)
  ·rcases List.mem_append.mp hc with hc | hc
   ·obtain ⟨p, hp, rfl⟩ := List.mem_map.mp hc
    obtain ⟨o, e, co⟩ := Ccl p hp
    exact ⟨o, e, co, co.mut⟩
   ·fin_once o1 fail
    obtain ⟨o, e, p, m⟩ := C.all c hc
    fin_once o2 fail
    exact ⟨o, kp _ _ e, p, m⟩
  ·rw [List.map_append, List.nodup_append]
   refine ⟨?_, C.nd, fun a ha b hb q => ?_⟩
   ·rw [List.map_map]
    exact List.pairwise_map.mpr Cok.apart
   ·rw [List.map_map] at ha
    obtain ⟨p, hp, rfl⟩ := List.mem_map.mp ha
    obtain ⟨c, hc, rfl⟩ := List.mem_map.mp hb
    obtain ⟨o, e, _⟩ := C.all c hc
    have lt := Heap.lt_size e
    have q : p.2 = c.1 := q
    rw [← q] at lt
    exact absurd lt (Nat.not_lt.mpr (Nat.le_of_succ_le (cn p hp)))
  ·show A.frames.map _ = _
   rw [hl]; rfl
  ·rcases List.mem_cons.mp m with rfl | m
   ·refine ⟨by rw [es, hk]; exact nofun, h.objs.size, _, by rw [← hE], kp2 _ _ L1, isFr_new (T'.out (Nat.le_refl _)) rfl, fun vs q => by cases q⟩
   ·exact c2.ff hff env' m
 refine wpAny_bind (w_binds (A' := A.deeper env) (fun x v r => rfl) (h0 := h) (ex := cs) (env := env) (L := h.objs.size) (by rw [es, hk]) el nd (hB n env es ec) H kp (fun c hc => ?_) (none_of _ (Nat.le_refl _)) fun h' tk' H' kp' => ?_)
 ·obtain ⟨p, hp, rfl⟩ := List.mem_map.mp hc
  exact none_of _ (Nat.le_of_succ_le (cn p hp))
 ·refine wpAny_pure ?_
  have c' : Ch [] h h' := Ch.of_keeps kp'
  refine ⟨(T'.ch c').lim, codeAny_func ?_⟩
  have F : Fn (A.deeper env) env h.objs.size ks gs := ⟨by rw [es, hk], el, by rw [← hE], by rw [← hE], by rw [← hE], ⟨l, by show A.frames.map _ = _; rw [hl]; rfl⟩, nd, fun y hy => by unfold Env.kindOf; rw [es]; exact hloc y hy, fun y hy => by unfold Env.kindOf; rw [es]; exact beq_iff_eq.mp (List.all_eq_true.mp hgl y hy)⟩
  exact wpAny_mono (w_No (E := fun e s' => wpAny (model prog w) (A.deeper env) (leaving env e) (fun _ s'' => E e s'') (fun e' s'' => E e' s'') s') (k n env h.objs.size h' tk' F H' c' es ec)) (fun fl s' q => q) fun _ _ q => q
end
omit rt0 in
theorem Lk.i1 {k0 x : Str} {ks : List Str} {o0 : Option Value} {v : Value} {vs : List (Option Value)} : Lk (k0 :: x :: ks) (o0 :: some v :: vs) x v := .tail .head
omit rt0 in
theorem Lk.i2 {k0 k1 x : Str} {ks : List Str} {o0 o1 : Option Value} {v : Value} {vs : List (Option Value)} : Lk (k0 :: k1 :: x :: ks) (o0 :: o1 :: some v :: vs) x v := .tail .i1
omit rt0 in
theorem Lk.i3 {k0 k1 k2 x : Str} {ks : List Str} {o0 o1 o2 : Option Value} {v : Value} {vs : List (Option Value)} : Lk (k0 :: k1 :: k2 :: x :: ks) (o0 :: o1 :: o2 :: some v :: vs) x v := .tail .i2
omit rt0 in
theorem Lk.i4 {k0 k1 k2 k3 x : Str} {ks : List Str} {o0 o1 o2 o3 : Option Value} {v : Value} {vs : List (Option Value)} : Lk (k0 :: k1 :: k2 :: k3 :: x :: ks) (o0 :: o1 :: o2 :: o3 :: some v :: vs) x v := .tail .i3
omit rt0 in
theorem Lk.i5 {k0 k1 k2 k3 k4 x : Str} {ks : List Str} {o0 o1 o2 o3 o4 : Option Value} {v : Value} {vs : List (Option Value)} : Lk (k0 :: k1 :: k2 :: k3 :: k4 :: x :: ks) (o0 :: o1 :: o2 :: o3 :: o4 :: some v :: vs) x v := .tail .i4
omit rt0 in
theorem Lk.i6 {k0 k1 k2 k3 k4 k5 x : Str} {ks : List Str} {o0 o1 o2 o3 o4 o5 : Option Value} {v : Value} {vs : List (Option Value)} : Lk (k0 :: k1 :: k2 :: k3 :: k4 :: k5 :: x :: ks) (o0 :: o1 :: o2 :: o3 :: o4 :: o5 :: some v :: vs) x v := .tail .i5
omit rt0 in
theorem Lk.i7 {k0 k1 k2 k3 k4 k5 k6 x : Str} {ks : List Str} {o0 o1 o2 o3 o4 o5 o6 : Option Value} {v : Value} {vs : List (Option Value)} : Lk (k0 :: k1 :: k2 :: k3 :: k4 :: k5 :: k6 :: x :: ks) (o0 :: o1 :: o2 :: o3 :: o4 :: o5 :: o6 :: some v :: vs) x v := .tail .i6
omit rt0 in
theorem Lk.i8 {k0 k1 k2 k3 k4 k5 k6 k7 x : Str} {ks : List Str} {o0 o1 o2 o3 o4 o5 o6 o7 : Option Value} {v : Value} {vs : List (Option Value)} : Lk (k0 :: k1 :: k2 :: k3 :: k4 :: k5 :: k6 :: k7 :: x :: ks) (o0 :: o1 :: o2 :: o3 :: o4 :: o5 :: o6 :: o7 :: some v :: vs) x v := .tail .i7
omit rt0 in
theorem Lk.i9 {k0 k1 k2 k3 k4 k5 k6 k7 k8 x : Str} {ks : List Str} {o0 o1 o2 o3 o4 o5 o6 o7 o8 : Option Value} {v : Value} {vs : List (Option Value)} : Lk (k0 :: k1 :: k2 :: k3 :: k4 :: k5 :: k6 :: k7 :: k8 :: x :: ks) (o0 :: o1 :: o2 :: o3 :: o4 :: o5 :: o6 :: o7 :: o8 :: some v :: vs) x v := .tail .i8
omit rt0 in
theorem Put.i1 {k0 x : Str} {ks : List Str} {o0 o : Option Value} {v : Value} {vs : List (Option Value)} : Put (k0 :: x :: ks) (o0 :: o :: vs) x v (o0 :: some v :: vs) := .tail .head
omit rt0 in
theorem Put.i2 {k0 k1 x : Str} {ks : List Str} {o0 o1 o : Option Value} {v : Value} {vs : List (Option Value)} : Put (k0 :: k1 :: x :: ks) (o0 :: o1 :: o :: vs) x v (o0 :: o1 :: some v :: vs) := .tail .i1
omit rt0 in
theorem Put.i3 {k0 k1 k2 x : Str} {ks : List Str} {o0 o1 o2 o : Option Value} {v : Value} {vs : List (Option Value)} : Put (k0 :: k1 :: k2 :: x :: ks) (o0 :: o1 :: o2 :: o :: vs) x v (o0 :: o1 :: o2 :: some v :: vs) := .tail .i2
omit rt0 in
theorem Put.i4 {k0 k1 k2 k3 x : Str} {ks : List Str} {o0 o1 o2 o3 o : Option Value} {v : Value} {vs : List (Option Value)} : Put (k0 :: k1 :: k2 :: k3 :: x :: ks) (o0 :: o1 :: o2 :: o3 :: o :: vs) x v (o0 :: o1 :: o2 :: o3 :: some v :: vs) := .tail .i3
omit rt0 in
theorem Put.i5 {k0 k1 k2 k3 k4 x : Str} {ks : List Str} {o0 o1 o2 o3 o4 o : Option Value} {v : Value} {vs : List (Option Value)} : Put (k0 :: k1 :: k2 :: k3 :: k4 :: x :: ks) (o0 :: o1 :: o2 :: o3 :: o4 :: o :: vs) x v (o0 :: o1 :: o2 :: o3 :: o4 :: some v :: vs) := .tail .i4
omit rt0 in
theorem Put.i6 {k0 k1 k2 k3 k4 k5 x : Str} {ks : List Str} {o0 o1 o2 o3 o4 o5 o : Option Value} {v : Value} {vs : List (Option Value)} : Put (k0 :: k1 :: k2 :: k3 :: k4 :: k5 :: x :: ks) (o0 :: o1 :: o2 :: o3 :: o4 :: o5 :: o :: vs) x v (o0 :: o1 :: o2 :: o3 :: o4 :: o5 :: some v :: vs) := .tail .i5
omit rt0 in
theorem Put.i7 {k0 k1 k2 k3 k4 k5 k6 x : Str} {ks : List Str} {o0 o1 o2 o3 o4 o5 o6 o : Option Value} {v : Value} {vs : List (Option Value)} : Put (k0 :: k1 :: k2 :: k3 :: k4 :: k5 :: k6 :: x :: ks) (o0 :: o1 :: o2 :: o3 :: o4 :: o5 :: o6 :: o :: vs) x v (o0 :: o1 :: o2 :: o3 :: o4 :: o5 :: o6 :: some v :: vs) := .tail .i6
omit rt0 in
theorem Put.i8 {k0 k1 k2 k3 k4 k5 k6 k7 x : Str} {ks : List Str} {o0 o1 o2 o3 o4 o5 o6 o7 o : Option Value} {v : Value} {vs : List (Option Value)} : Put (k0 :: k1 :: k2 :: k3 :: k4 :: k5 :: k6 :: k7 :: x :: ks) (o0 :: o1 :: o2 :: o3 :: o4 :: o5 :: o6 :: o7 :: o :: vs) x v (o0 :: o1 :: o2 :: o3 :: o4 :: o5 :: o6 :: o7 :: some v :: vs) := .tail .i7
omit rt0 in
theorem Put.i9 {k0 k1 k2 k3 k4 k5 k6 k7 k8 x : Str} {ks : List Str} {o0 o1 o2 o3 o4 o5 o6 o7 o8 o : Option Value} {v : Value} {vs : List (Option Value)} : Put (k0 :: k1 :: k2 :: k3 :: k4 :: k5 :: k6 :: k7 :: k8 :: x :: ks) (o0 :: o1 :: o2 :: o3 :: o4 :: o5 :: o6 :: o7 :: o8 :: o :: vs) x v (o0 :: o1 :: o2 :: o3 :: o4 :: o5 :: o6 :: o7 :: o8 :: some v :: vs) := .tail .i8
omit rt0 in
theorem opaq {P Q' : Flow → Shared → Prop} {f : Flow} {s : Shared} (h : ∀ f s', P f s' → Q' f s') (k : P f s) : Q' f s := h _ _ k
section
variable {M : Model} {A : Around} {env : Env} {E : Value → Shared → Prop}
omit rt0 in
theorem w_seqO {s : Shared} {st : Stmt} {rest : List Stmt} {Q : Flow → Shared → Prop} (k : ∀ Q' : Flow → Shared → Prop, (∀ f s', Nx M A rest env Q E f s' → Q' f s') → wpAny M A (exec st env) Q' E s) : wpAny M A (execs (st :: rest) env) Q E s := w_seq (k _ fun _ _ h => h)
omit rt0 in
theorem w_seq1 {s : Shared} {st : Stmt} {Q : Flow → Shared → Prop} (k : wpAny M A (exec st env) Q E s) : wpAny M A (execs [st] env) Q E s := w_seq (wpAny_mono k (fun f s' q => by
 cases f
 case next => exact w_nil q
 all_goals exact q) fun _ _ q => q)
end
section
variable (A : Around) (env : Env) (h : Heap)
noncomputable def EvP (e : PySem.Expr) (val : Tok → Value) : Prop := ∀ (tk : Nat) (Q E : Value → Shared → Prop), (∀ t tk', Q (val t) (St s h tk')) → wpAny (model prog w) A (eval e env) Q E (St s h tk)
noncomputable def EvPs (es : List PySem.Expr) (vals : (Nat → Tok) → List Value) : Prop := ∀ (tk : Nat) (pos : Pos) (Q : List Value → Shared → Prop) (E : Value → Shared → Prop), (∀ ts tk', Q (vals ts) (St s h tk')) → wpAny (model prog w) A (spliced (backTo pos (starEach es env))) Q E (St s h tk)
noncomputable def EvB (e : PySem.Expr) (b : Bool) : Prop := ∀ (tk : Nat) (Q : Bool → Shared → Prop) (E : Value → Shared → Prop), (∀ tk', Q b (St s h tk')) → wpAny (model prog w) A (isTrue e env (eval e env)) Q E (St s h tk)
noncomputable def CmpB (op : CmpOp) (v1 v2 : Tok → Value) (b : Bool) : Prop := ∀ (tk : Nat) (t u : Tok) (Q E : Value → Shared → Prop), Q (.bool b) (St s h tk) → wpAny (model prog w) A (compareOp op (v1 t) (v2 u)) Q E (St s h tk)
end
section
variable {A : Around} {env : Env} {h g g' : Heap} {bs : List Heap} {L : Addr} {ks gs : List Str} {cs : List Cell} {vs : List (Option Value)} {K : Frag}
theorem EvP.name {x : Str} {v : Value} {p : Pos} (H : At A bs L ks cs vs h) (F : Fn A env L ks gs) (l : Lk ks vs x v) (hd : (x == ("__debug__" : Str)) = false) : EvP A env h (.Name x p) fun _ => v := fun _ _ _ k => w_name H F l (k default _) hd
theorem EvP.nameV {x : Str} {v : Value} {p : Pos} (H : At A bs L ks cs vs h) (F : Nv env L ks gs) (l : Lk ks vs x v) (hd : (x == ("__debug__" : Str)) = false) : EvP A env h (.Name x p) fun _ => v := fun _ _ _ k => w_nameV H F l (k default _) hd
theorem EvP.cname {x : Str} {c : Addr} {v : Value} {p : Pos} (H : At A bs L ks cs vs h) (hk : env.scope.kind = .function) (V : Cv env x c) (m : (c, CellO (some v)) ∈ cs) (hd : (x == ("__debug__" : Str)) = false) : EvP A env h (.Name x p) fun _ => v := fun _ _ _ k => w_cname H hk V m (k default _) hd
theorem EvP.str {x : Str} {j : Nat} {p : Pos} : EvP A env h (.Constant (.str x) j p) fun t => .str x t := fun _ _ _ k => w_str fun t tk' => k t tk'
theorem EvP.int {x : Int} {j : Nat} {p : Pos} : EvP A env h (.Constant (.int x) j p) fun t => .int x t := fun _ _ _ k => w_int fun t tk' => k t tk'
theorem EvP.none {j : Nat} {p : Pos} : EvP A env h (.Constant .none j p) fun _ => .none := fun _ _ _ k => w_none (k default _)
theorem EvP.bool {b : Bool} {j : Nat} {p : Pos} : EvP A env h (.Constant (.bool b) j p) fun _ => .bool b := fun _ _ _ k => w_true (k default _)
theorem EvP.attr {o : PySem.Expr} {a C : Addr} {v : Value} {fs : List (Str × Value)} {name : Str} {p : Pos} (x : EvP A env h o fun _ => .ref a) (I : Ins g' a C fs) (H : At A bs L ks cs vs h) (T : Tp K g) (mb' : g' ∈ bs) (mb : g ∈ bs) (O : AttrOk K C name) (m : (name, v) ∈ fs) (hv : handedIn v = true)
  (he : eval (.Attribute o name p) env = (do
   let ov ← eval o env
   standAt p.atName
   let r ← holding [ov] (getAttr ov name true)
   letTemporaryGo o ov r
   pure r)) : EvP A env h (.Attribute o name p) fun _ => v := fun _ _ _ k => w_Attr (x _ _ _ fun _ _ => w_attrB I H T mb' mb O m hv fun _ => k default _) he
theorem EvPs.nil : EvPs A env h [] fun _ => [] := fun _ _ _ _ k => PyProof.Rows.args_nil (k (fun _ => default) _)
theorem EvPs.cons {e : PySem.Expr} {es : List PySem.Expr} {v : Tok → Value} {vals : (Nat → Tok) → List Value} (x : EvP A env h e v) (xs : EvPs A env h es vals) (he : starEach (e :: es) env = (false, eval e env) :: starEach es env) : EvPs A env h (e :: es) fun ts => v (ts 0) :: vals fun n => ts (n + 1) :=
 fun _ _ _ _ k => PyProof.Rows.args_cons (x _ _ _ fun t _ => xs _ _ _ _ fun ts tk' => k (fun n => match n with | 0 => t | n + 1 => ts n) tk') he
theorem CmpB.eqs {a b : Str} {f g : Tok → Tok} : CmpB A h .Eq (fun t => .str a (f t)) (fun t => .str b (g t)) (a == b) := fun _ _ _ _ _ k => w_eq_str k
theorem CmpB.eqr {a : Str} {f g : Tok → Tok} : CmpB A h .Eq (fun t => .str a (f t)) (fun t => .str a (g t)) true := fun _ _ _ _ _ k => w_eq_refl k
theorem CmpB.eqf {a b : Str} {f g : Tok → Tok} (n : a ≠ b) : CmpB A h .Eq (fun t => .str a (f t)) (fun t => .str b (g t)) false := fun _ _ _ _ _ k => w_eq_f n k
theorem CmpB.nes {a b : Str} {f g : Tok → Tok} : CmpB A h .NotEq (fun t => .str a (f t)) (fun t => .str b (g t)) (a != b) := fun _ _ _ _ _ k => w_ne_str k
theorem CmpB.ner {a : Str} {f g : Tok → Tok} : CmpB A h .NotEq (fun t => .str a (f t)) (fun t => .str a (g t)) false := fun _ _ _ _ _ k => w_ne_refl k
theorem CmpB.nef {a b : Str} {f g : Tok → Tok} (n : a ≠ b) : CmpB A h .NotEq (fun t => .str a (f t)) (fun t => .str b (g t)) true := fun _ _ _ _ _ k => w_ne_f n k
theorem CmpB.isn : CmpB A h .Is (fun _ => .none) (fun _ => .none) true := fun _ _ _ _ _ k => w_is_none k
theorem CmpB.iss {a : Str} {f : Tok → Tok} : CmpB A h .Is (fun t => .str a (f t)) (fun _ => .none) false := fun _ _ _ _ _ k => w_is_str k
theorem CmpB.isr {a : Addr} : CmpB A h .Is (fun _ => .ref a) (fun _ => .none) false := fun _ _ _ _ _ k => w_is_ref k
theorem CmpB.non : CmpB A h .IsNot (fun _ => .none) (fun _ => .none) false := fun _ _ _ _ _ k => w_not_none k
theorem CmpB.nos {a : Str} {f : Tok → Tok} : CmpB A h .IsNot (fun t => .str a (f t)) (fun _ => .none) true := fun _ _ _ _ _ k => w_not_str k
theorem CmpB.nor {a : Addr} : CmpB A h .IsNot (fun _ => .ref a) (fun _ => .none) true := fun _ _ _ _ _ k => w_not_ref k
theorem CmpB.lt {a b : Int} {f g : Tok → Tok} : CmpB A h .Lt (fun t => .int a (f t)) (fun t => .int b (g t)) (decide (a < b)) := fun _ _ _ _ _ k => w_lt_int k
theorem CmpB.le {a b : Int} {f g : Tok → Tok} : CmpB A h .LtE (fun t => .int a (f t)) (fun t => .int b (g t)) (decide (a ≤ b)) := fun _ _ _ _ _ k => w_le_int k
theorem CmpB.gt {a b : Int} {f g : Tok → Tok} : CmpB A h .Gt (fun t => .int a (f t)) (fun t => .int b (g t)) (decide (a > b)) := fun _ _ _ _ _ k => w_gt_int k
theorem CmpB.ge {a b : Int} {f g : Tok → Tok} : CmpB A h .GtE (fun t => .int a (f t)) (fun t => .int b (g t)) (decide (a ≥ b)) := fun _ _ _ _ _ k => w_ge_int k
theorem CmpB.eqi {a b : Int} {f g : Tok → Tok} : CmpB A h .Eq (fun t => .int a (f t)) (fun t => .int b (g t)) (a == b) := fun _ _ _ _ _ k => w_eq_int k
theorem EvB.cmp {l r : PySem.Expr} {op : CmpOp} {p : Pos} {v1 v2 : Tok → Value} {b : Bool} (x : EvP A env h l v1) (y : EvP A env h r v2) (c : CmpB A h op v1 v2 b) (hm : behindInMarks op r = false) : EvB A env h (.Compare l [op] [r] p) b :=
 fun _ _ _ k => wpAny_isTrue_Compare1 (x _ _ _ fun _ _ => y _ _ _ fun _ _ => c _ _ _ _ _ (wpAny_truthy_bool (k _))) hm
theorem EvP.cmp {l r : PySem.Expr} {op : CmpOp} {p : Pos} {v1 v2 : Tok → Value} {b : Bool} (x : EvP A env h l v1) (y : EvP A env h r v2) (c : CmpB A h op v1 v2 b) (hm : behindInMarks op r = false) : EvP A env h (.Compare l [op] [r] p) fun _ => .bool b :=
 fun _ _ _ k => wpAny_Compare1 (x _ _ _ fun _ _ => y _ _ _ fun _ _ => c _ _ _ _ _ (k default _)) hm
theorem EvB.not {e : PySem.Expr} {p : Pos} {b : Bool} (x : EvB A env h e b) : EvB A env h (.UnaryOp .Not e p) (!b) := fun _ _ _ k => PyProof.Rows.isTrue_not (x _ _ _ fun _ => k _)
theorem EvB.val {e : PySem.Expr} {b : Bool} (x : EvP A env h e fun _ => .bool b) (he : isTrue e env (eval e env) = (do let v ← eval e env; standAt e.pos; holding [v] (truthy v))) : EvB A env h e b := fun _ _ _ k => PyProof.Rows.isTrue_plain (x _ _ _ fun _ _ => wpAny_truthy_bool (k _)) he
variable {E : Value → Shared → Prop} {tk : Nat}
theorem w_IfB {test : PySem.Expr} {body orelse : List Stmt} {p : Pos} {b : Bool} {Q : Flow → Shared → Prop} (d : EvB A env h test b) (k : ∀ tk', if b = true then wpAny (model prog w) A (execs body env) Q E (St s h tk') else wpAny (model prog w) A (execs orelse env) Q E (St s h tk')) :
  wpAny (model prog w) A (exec (.If test body orelse p) env) Q E (St s h tk) := wpAny_If (d _ _ _ k)
theorem w_evP {e : PySem.Expr} {v : Tok → Value} {Q : Value → Shared → Prop} (d : EvP A env h e v) (k : ∀ t tk', Q (v t) (St s h tk')) : wpAny (model prog w) A (eval e env) Q E (St s h tk) := d _ _ _ k
theorem w_args {es : List PySem.Expr} {vals : (Nat → Tok) → List Value} {pos : Pos} {Q : List Value → Shared → Prop} (d : EvPs A env h es vals) (k : ∀ ts tk', Q (vals ts) (St s h tk')) : wpAny (model prog w) A (spliced (backTo pos (starEach es env))) Q E (St s h tk) := d _ _ _ _ k
theorem w_callG {x : Str} {fa : Addr} {e : PySem.Expr} {r : List PySem.Expr} {vals : (Nat → Tok) → List Value} {p pos : Pos} {Q : Value → Shared → Prop} (H : At A bs L ks cs vs h) (F : Nv env L ks gs) (T : Tp K g) (mb : g ∈ bs) (hm : x ∈ gs) (en : nsIn K mainGlobals x = some (some (.ref fa))) (hk : keepIn K (.ref fa) = true) (ds : EvPs A env h (e :: r) vals) (hd : (x == ("__debug__" : Str)) = false)
  (hc : eval (.Call (.Name x p) (e :: r) [] pos) env = (do callWith pos (← eval (.Name x p) env) [] (backTo pos (starEach (e :: r) env)) (backToKw pos (keywordEach [] env)))) (h1 : starEach (e :: r) env = (false, eval e env) :: starEach r env) (h2 : (backTo pos (starEach r env)).any (·.1) = false)
  (k : ∀ ts tk', wpAny (model prog w) A (call (.ref fa) (vals ts)) Q E (St s h tk')) : wpAny (model prog w) A (eval (.Call (.Name x p) (e :: r) [] pos) env) Q E (St s h tk) :=
 PyProof.Rows.Call_ (w_globV H F T mb hm en (w_cw H T mb hk (ds _ _ _ _ fun ts tk' => ⟨(T.ch (H.ch g mb)).k, k ts tk'⟩) h1 h2) hd) hc
theorem w_callG0 {x : Str} {fa : Addr} {p pos : Pos} {Q : Value → Shared → Prop} (H : At A bs L ks cs vs h) (F : Nv env L ks gs) (T : Tp K g) (mb : g ∈ bs) (hm : x ∈ gs) (en : nsIn K mainGlobals x = some (some (.ref fa))) (hk : keepIn K (.ref fa) = true) (hd : (x == ("__debug__" : Str)) = false)
  (hc : eval (.Call (.Name x p) [] [] pos) env = (do callWith pos (← eval (.Name x p) env) [] (backTo pos (starEach [] env)) (backToKw pos (keywordEach [] env))))
  (k : wpAny (model prog w) A (call (.ref fa) []) Q E (St s h tk)) : wpAny (model prog w) A (eval (.Call (.Name x p) [] [] pos) env) Q E (St s h tk) :=
 PyProof.Rows.Call_ (w_globV H F T mb hm en (w_cw0 H T mb hk k) hd) hc
theorem w_methG {o : PySem.Expr} {a C f : Addr} {fs : List (Str × Value)} {name : Str} {pl : Sem Bool} {e : PySem.Expr} {r : List PySem.Expr} {vals : (Nat → Tok) → List Value} {ap pos : Pos} {Q : Value → Shared → Prop} (d : EvP A env h o fun _ => .ref a) (I : Ins g' a C fs) (H : At A bs L ks cs vs h) (T : Tp K g) (mb' : g' ∈ bs) (mb : g ∈ bs) (O : MethOk K C name f) (m : (fs.map (·.1)).contains name = false) (hk : keepIn K (.ref f) = true) (ds : EvPs A env h (e :: r) vals)
  (hc : eval (.Call (.Attribute o name ap) (e :: r) [] pos) env = (do
   let ov ← eval o env
   standAt ap.atName
   let (f, first) ← holding [ov] (getMethod ov name pl)
   callWith pos f first (backTo pos (starEach (e :: r) env)) [])) (h1 : starEach (e :: r) env = (false, eval e env) :: starEach r env) (h2 : (backTo pos (starEach r env)).any (·.1) = false)
  (k : ∀ ts tk', wpAny (model prog w) A (call (.ref f) (.ref a :: vals ts)) Q E (St s h tk')) : wpAny (model prog w) A (eval (.Call (.Attribute o name ap) (e :: r) [] pos) env) Q E (St s h tk) :=
 PyProof.Rows.MethodCall_ (pl := pl) (d _ _ _ fun _ _ => w_methB I H T mb' mb O m (w_cw H T mb hk (ds _ _ _ _ fun ts tk' => ⟨(T.ch (H.ch g mb)).k, k ts tk'⟩) h1 h2)) hc
theorem w_methG0 {o : PySem.Expr} {a C f : Addr} {fs : List (Str × Value)} {name : Str} {pl : Sem Bool} {ap pos : Pos} {Q : Value → Shared → Prop} (d : EvP A env h o fun _ => .ref a) (I : Ins g' a C fs) (H : At A bs L ks cs vs h) (T : Tp K g) (mb' : g' ∈ bs) (mb : g ∈ bs) (O : MethOk K C name f) (m : (fs.map (·.1)).contains name = false) (hk : keepIn K (.ref f) = true)
  (hc : eval (.Call (.Attribute o name ap) [] [] pos) env = (do
   let ov ← eval o env
   standAt ap.atName
   let (f, first) ← holding [ov] (getMethod ov name pl)
   callWith pos f first (backTo pos (starEach [] env)) []))
  (k : ∀ tk', wpAny (model prog w) A (call (.ref f) [.ref a]) Q E (St s h tk')) : wpAny (model prog w) A (eval (.Call (.Attribute o name ap) [] [] pos) env) Q E (St s h tk) :=
 PyProof.Rows.MethodCall_ (pl := pl) (d _ _ _ fun _ _ => w_methB I H T mb' mb O m (w_cw0 H T mb hk (k _))) hc
theorem w_asgP {x : Str} {px ps : Pos} {e : PySem.Expr} {v : Tok → Value} {vs' : Tok → List (Option Value)} {Q : Flow → Shared → Prop} (d : EvP A env h e v) (H : At A bs L ks cs vs h) (F : Fn A env L ks gs) (p : ∀ t, Put ks vs x (v t) (vs' t)) (hs : swapsWith e (some (.Name x px)) ps.line env = pure false)
  (k : ∀ t h' tk', At A bs L ks cs (vs' t) h' → Q .next (St s h' tk')) : wpAny (model prog w) A (exec (.Assign [.Name x px] e ps) env) Q E (St s h tk) :=
 wpAny_Assign_Name (d _ _ _ fun t _ => w_store H F (p t) fun h' tk' H' => k t h' tk' H') hs
theorem w_retP {e : PySem.Expr} {p : Pos} {v : Tok → Value} {rest : List Stmt} {Q : Flow → Shared → Prop} (d : EvP A env h e v) (k : ∀ t tk', Q (.ret (v t)) (St s h tk')) : wpAny (model prog w) A (execs (.Return (some e) p :: rest) env) Q E (St s h tk) :=
 w_ret (d _ _ _ k)
theorem w_argsL {e : PySem.Expr} {es : List PySem.Expr} {v : Tok → Value} {pos : Pos} {Q : List Value → Shared → Prop} (d : EvP A env h e v) (he : starEach (e :: es) env = (false, eval e env) :: starEach es env) (k : ∀ t tk', wpAny (model prog w) A (spliced (backTo pos (starEach es env))) (fun vs s₂ => Q (v t :: vs) s₂) E (St s h tk')) :
  wpAny (model prog w) A (spliced (backTo pos (starEach (e :: es) env))) Q E (St s h tk) := PyProof.Rows.args_cons (d _ _ _ k) he
theorem w_subP {value slice : PySem.Expr} {p : Pos} {v i : Tok → Value} {Q : Value → Shared → Prop} (d : EvP A env h value v) (d2 : EvP A env h slice i) (k : ∀ t u tk', wpAny (model prog w) A (subscriptTail value slice (v t) (i u)) Q E (St s h tk')) :
  wpAny (model prog w) A (eval (.Subscript value slice p) env) Q E (St s h tk) := PyProof.Rows.Subscript_ (d _ _ _ fun t _ => d2 _ _ _ fun u tk' => k t u tk')
theorem w_subL {value slice : PySem.Expr} {p : Pos} {v : Tok → Value} {Q : Value → Shared → Prop} (d : EvP A env h value v) (k : ∀ t tk', wpAny (model prog w) A (eval slice env) (fun i s₂ => wpAny (model prog w) A (subscriptTail value slice (v t) i) Q E s₂) E (St s h tk')) :
  wpAny (model prog w) A (eval (.Subscript value slice p) env) Q E (St s h tk) := PyProof.Rows.Subscript_ (d _ _ _ k)
theorem w_binP {l r : PySem.Expr} {op : Operator} {p : Pos} {v i : Tok → Value} {Q : Value → Shared → Prop} (d : EvP A env h l v) (d2 : EvP A env h r i) (k : ∀ t u tk', wpAny (model prog w) A (binaryOp op (v t) (i u)) Q E (St s h tk')) :
  wpAny (model prog w) A (eval (.BinOp l op r p) env) Q E (St s h tk) := wpAny_BinOp (d _ _ _ fun t _ => d2 _ _ _ fun u tk' => k t u tk')
theorem w_binL {l r : PySem.Expr} {op : Operator} {p : Pos} {v : Tok → Value} {Q : Value → Shared → Prop} (d : EvP A env h l v) (k : ∀ t tk', wpAny (model prog w) A (eval r env) (fun b s₂ => wpAny (model prog w) A (binaryOp op (v t) b) Q E s₂) E (St s h tk')) :
  wpAny (model prog w) A (eval (.BinOp l op r p) env) Q E (St s h tk) := wpAny_BinOp (d _ _ _ k)
theorem w_cmpP {l r : PySem.Expr} {op : CmpOp} {p : Pos} {v i : Tok → Value} {whole : Sem Value} {Q : Bool → Shared → Prop} (d : EvP A env h l v) (d2 : EvP A env h r i) (hm : behindInMarks op r = false) (k : ∀ t u tk', wpAny (model prog w) A (compareOp op (v t) (i u)) (fun c s₃ => wpAny (model prog w) A (truthy c) Q E s₃) E (St s h tk')) :
  wpAny (model prog w) A (isTrue (.Compare l [op] [r] p) env whole) Q E (St s h tk) := wpAny_isTrue_Compare1 (d _ _ _ fun t _ => d2 _ _ _ fun u tk' => k t u tk') hm
theorem w_cmpL {l r : PySem.Expr} {op : CmpOp} {p : Pos} {v : Tok → Value} {whole : Sem Value} {Q : Bool → Shared → Prop} (d : EvP A env h l v) (hm : behindInMarks op r = false) (k : ∀ t tk', wpAny (model prog w) A (eval r env) (fun b s₂ => wpAny (model prog w) A (compareOp op (v t) b) (fun c s₃ => wpAny (model prog w) A (truthy c) Q E s₃) E s₂) E (St s h tk')) :
  wpAny (model prog w) A (isTrue (.Compare l [op] [r] p) env whole) Q E (St s h tk) := wpAny_isTrue_Compare1 (d _ _ _ k) hm
theorem w_tupP {es : List PySem.Expr} {j : Nat} {p : Pos} {vals : (Nat → Tok) → List Value} {Q : Value → Shared → Prop} (d : EvPs A env h es vals) (k : ∀ ts tk', wpAny (model prog w) A (newTuple (vals ts)) Q E (St s h tk')) : wpAny (model prog w) A (eval (.Tuple es j p) env) Q E (St s h tk) := PyProof.Rows.Tuple_ (d _ _ _ _ k)
theorem w_lstP {es : List PySem.Expr} {p : Pos} {vals : (Nat → Tok) → List Value} {Q : Value → Shared → Prop} (d : EvPs A env h es vals) (k : ∀ ts tk', wpAny (model prog w) A (newList (vals ts)) Q E (St s h tk')) : wpAny (model prog w) A (eval (.List es p) env) Q E (St s h tk) := PyProof.Rows.List_ (d _ _ _ _ k)
theorem w_callB {x : Str} {id : String} {e : PySem.Expr} {r : List PySem.Expr} {vals : (Nat → Tok) → List Value} {p pos : Pos} {Q : Value → Shared → Prop} (H : At A bs L ks cs vs h) (F : Nv env L ks gs) (T : Tp K g) (mb : g ∈ bs) (hm : x ∈ gs) (en : nsIn K mainGlobals x = some none) (hv : bootBuiltins x = some (.builtin id)) (ds : EvPs A env h (e :: r) vals) (hn : x ≠ "__name__") (hd : (x == ("__debug__" : Str)) = false)
  (hc : eval (.Call (.Name x p) (e :: r) [] pos) env = (do callWith pos (← eval (.Name x p) env) [] (backTo pos (starEach (e :: r) env)) (backToKw pos (keywordEach [] env)))) (h1 : starEach (e :: r) env = (false, eval e env) :: starEach r env) (h2 : (backTo pos (starEach r env)).any (·.1) = false)
  (k : ∀ ts tk', wpAny (model prog w) A (call (.builtin id) (vals ts)) Q E (St s h tk')) : wpAny (model prog w) A (eval (.Call (.Name x p) (e :: r) [] pos) env) Q E (St s h tk) :=
 PyProof.Rows.Call_ (w_biV H F T mb hm en hv (PyProof.Rows.callWith_method1 (first := []) (ds _ _ _ _ fun ts tk' => k ts tk') h1 h2) hn hd) hc
theorem w_callT {x : Str} {id : String} {e : PySem.Expr} {r : List PySem.Expr} {vals : (Nat → Tok) → List Value} {p pos : Pos} {Q : Value → Shared → Prop} (H : At A bs L ks cs vs h) (F : Nv env L ks gs) (T : Tp K g) (mb : g ∈ bs) (hm : x ∈ gs) (en : nsIn K mainGlobals x = some none) (hv : bootBuiltins x = some (.type id)) (ds : EvPs A env h (e :: r) vals) (hn : x ≠ "__name__") (hd : (x == ("__debug__" : Str)) = false)
  (hc : eval (.Call (.Name x p) (e :: r) [] pos) env = (do callWith pos (← eval (.Name x p) env) [] (backTo pos (starEach (e :: r) env)) (backToKw pos (keywordEach [] env)))) (h1 : starEach (e :: r) env = (false, eval e env) :: starEach r env) (h2 : (backTo pos (starEach r env)).any (·.1) = false)
  (k : ∀ ts tk', wpAny (model prog w) A (call (.type id) (vals ts)) Q E (St s h tk')) : wpAny (model prog w) A (eval (.Call (.Name x p) (e :: r) [] pos) env) Q E (St s h tk) :=
 PyProof.Rows.Call_ (w_biV H F T mb hm en hv (PySem.Pv.callWith_type1 (ds _ _ _ _ fun ts tk' => k ts tk') h1 h2) hn hd) hc
theorem w_opT {α β : Type} {m : Sem α} {m2 : Sem β} {T : β → Shared → Prop} {s : Shared} (k : ∀ E' : Value → Shared → Prop, (∀ e s', E e s' → E' e s') → wpAny (model prog w) A m (fun _ s₃ => wpAny (model prog w) A m2 T E' s₃) E' s) : wpAny (model prog w) A m (fun _ s₃ => wpAny (model prog w) A m2 T E s₃) E s := k _ fun _ _ q => q
theorem w_opQ {α : Type} {m : Sem α} {Q : α → Shared → Prop} {s : Shared} (Q1 : α → Shared → Prop) (k : ∀ T : α → Shared → Prop, (∀ v s', Q1 v s' → T v s') → wpAny (model prog w) A m T E s) (h : ∀ v s', Q1 v s' → Q v s') : wpAny (model prog w) A m Q E s := wpAny_mono (k Q1 fun _ _ q => q) h fun _ _ q => q
theorem w_opE {α : Type} {m : Sem α} {Q : α → Shared → Prop} {s : Shared} (k : ∀ E' : Value → Shared → Prop, (∀ e s', E e s' → E' e s') → wpAny (model prog w) A m Q E' s) : wpAny (model prog w) A m Q E s := k _ fun _ _ q => q
end
omit rt0 in
theorem l_col : (Str.ofString "::").length = 2 := by decide +kernel
omit rt0 in
theorem l_told : (Str.ofString " is told twice").length = 14 := by decide +kernel
omit rt0 in
theorem l_name : (Str.ofString "the name ").length = 9 := by decide +kernel
omit rt0 in
theorem l_var : (Str.ofString "the variant ").length = 12 := by decide +kernel
omit rt0 in
theorem l_noth : (Str.ofString "nothing is named ").length = 17 := by decide +kernel
omit rt0 in
theorem l_uses : (Str.ofString "uses without an end, or too many of them: ").length = 42 := by decide +kernel
omit rt0 in
theorem l_seen : (Str.ofString " is not seen here").length = 17 := by decide +kernel
omit rt0 in
theorem b_len : bootBuiltins (Str.ofString "len") = some (.builtin "len") := by kernel_rfl
omit rt0 in
theorem b_max : bootBuiltins (Str.ofString "max") = some (.builtin "max") := by kernel_rfl
omit rt0 in
theorem b_int : bootBuiltins (Str.ofString "int") = some (.type "int") := by kernel_rfl
omit rt0 in
theorem b_str : bootBuiltins (Str.ofString "str") = some (.type "str") := by kernel_rfl
omit rt0 in
theorem b_range : bootBuiltins (Str.ofString "range") = some (.type "range") := by kernel_rfl
omit rt0 in
theorem b_tuple : bootBuiltins (Str.ofString "tuple") = some (.type "tuple") := by kernel_rfl
omit rt0 in
theorem b_list : bootBuiltins (Str.ofString "list") = some (.type "list") := by kernel_rfl
omit rt0 in
theorem b_sorted : bootBuiltins (Str.ofString "sorted") = some (.builtin "sorted") := by kernel_rfl
omit rt0 in
theorem b_enumerate : bootBuiltins (Str.ofString "enumerate") = some (.type "enumerate") := by kernel_rfl
section
variable {A : Around} {E : Value → Shared → Prop} {h : Heap} {tk : Nat} {Q : Value → Shared → Prop}
theorem c_joined {x y : Str} {t u : Tok} (C : Cx (Mine.hd.heap_1 w.params) A h 1)
  (hx : x.length ≤ 1000) (hy : y.length ≤ 1000) (k : ∀ t' h' tk', Ch [] h h' → Q (.str (J x y) t') (St s h' tk')) :
  wpAny (model prog w) A (call (.ref 75) [.str x t, .str y u]) Q E (St s h tk) := by
 refine call_fn (bs := [h]) (cs := []) (vals := [.str x t, .str y u]) ["module", "name"] [] [] C.t (.head _) (by simp [Ch.refl]) Cells.nil (by fin_once sm fail) C.ff ⟨_, .head _, C.hd⟩ (by k_is) (by k_is) C.r.room (BindsTo.of_eq rfl) rfl (by decide +kernel) (by rfl) rfl rfl rfl rfl (by decide) ?_
 intro env L h₁ tk₁ F H hc hL
 have R : Rm (A.deeper env) 0 := C.r.deeper (by decide)
 dsimp only [List.cons_append, List.nil_append, List.map] at F H
 fin_once g1 fail
 refine w_ite (fun e => ?_) fun e => ?_
 ·have e' : x = Str.ofString "" := by simpa using e
  have : J x y = y := by unfold J; rw [if_pos e']
  fin_once g1 fail
  rw [← this]
  exact k _ _ _ hc
 ·have e' : ¬ x = Str.ofString "" := by simpa using e
  have : J x y = x ++ Str.ofString "::" ++ y := by unfold J; rw [if_neg e']
  fin_once g1 fail
  rw [← this]
  exact k _ _ _ hc
end
section
theorem f_cls {h : Heap} (X : (Mine.hd.heap_1 w.params).In h) : ExcCls h 52 [.ref 39, .type "Exception", .type "BaseException", .type "object"] := by
 exact ⟨_, _, _, _, _, _, _, _, _, _, _, _, _, _, _, X 52 _ (by k_is)⟩
theorem f_init : findIn (Mine.hd.heap_1 w.params) (.ref 52) "__init__" = some (some (.ref 36)) := by k_is
theorem f_msg : ExcOk (Mine.hd.heap_1 w.params) 52 39 "message" := ⟨by k_is, by k_is, by k_is, ⟨_, by k_is, rfl⟩, by k_is⟩
theorem f_spot : ExcOk (Mine.hd.heap_1 w.params) 52 39 "spot" := ⟨by k_is, by k_is, by k_is, ⟨_, by k_is, rfl⟩, by k_is⟩
omit rt0 in
theorem f_tail : TailOk "Exception" [.ref 39, .type "Exception", .type "BaseException", .type "object"] := ⟨by decide, by decide, by decide, by decide⟩
theorem f_keep : keepIn (Mine.hd.heap_1 w.params) (.ref 52) = true := by k_is
theorem f_glob : nsIn (Mine.hd.heap_1 w.params) mainGlobals "NameFault" = some (some (.ref 52)) := by k_is
omit rt0 in
theorem f_base : ([Value.ref 39, .type "Exception", .type "BaseException", .type "object"] : List Value).contains (.type "BaseException") = true := by decide
end
omit rt0 in
theorem e_find : findCls [] (.type "Exception") (.type "type") "__init__" = some (.val (.builtin "Exception.__init__")) := by kernel_rfl
omit rt0 in
theorem e_stub : Manifest.isStub "Exception" = false := by decide +kernel
omit rt0 in
theorem e_hand : handedIn (.builtin "Exception.__init__") = true := by decide
omit rt0 in
theorem e_in {h : Heap} : Frag.In [] h := fun _ _ e => nomatch e
omit rt0 in
theorem e_type : typeOf (.type "Exception") = pure (.type "type") := by kernel_rfl
omit rt0 in
theorem e_boot : bootBuiltins "Exception" = some (.type "Exception") := by kernel_rfl
section
variable {A : Around} {E : Value → Shared → Prop} {h : Heap} {bs : List Heap} {tk : Nat} {L : Addr} {ks : List Str} {cs : List Cell} {vs : List (Option Value)}
theorem m_exc {pl : Sem Bool} {Q : Value × List Value → Shared → Prop} (H : At A bs L ks cs vs h) (k : Q (.builtin "Exception.__init__", []) (St s h (tk + 1))) : wpAny (model prog w) A (getMethod (.type "Exception") "__init__" pl) Q E (St s h tk) :=
 @method_type prog w A E (St s h tk) [] L {} (fm ks vs) "__init__" (.builtin "Exception.__init__") "Exception" pl Q H.fr e_in e_type e_stub e_find e_hand k
end
theorem e_glob : nsIn (Mine.hd.heap_1 w.params) mainGlobals "Exception" = some none := by k_is
section
variable {A : Around} {E : Value → Shared → Prop} {h g : Heap} {tk : Nat} {Q : Value → Shared → Prop}
theorem c_exc_init {e t : Addr} {m : Str} {u : Tok} {v : Value} (T : Tp (Mine.hd.heap_1 w.params) g) (x : Ch [] g h) (ff : ∃ l, A.frames = some l ∧ FF h l) (hd : HdOk A g) (r : Rm A 1)
  (he : h.get? e = some ⟨.ref 52, none, .fields #[.ref t, .none, .none, .none, .bool false, .none], #[]⟩) (ng : g.get? e = none)
  (k : ∀ h' tk', Ch [] g h' → (∃ l, A.frames = some l ∧ FF h' l) → NewE 52 h' e → Q .none (St s h' tk')) :
  wpAny (model prog w) A (call (.ref 36) [.ref e, .str m u, v]) Q E (St s h tk) := by
 refine call_fn (bs := [g]) (cs := [(e, fun o => o = ⟨.ref 52, none, .fields #[.ref t, .none, .none, .none, .bool false, .none], #[]⟩)]) (vals := [.ref e, .str m u, v]) ["self", "message", "spot"] [] ["Exception"] T (.head _) (by simpa using x) ⟨fun c hc => ?_, by fin_once sm fail⟩ (by simpa using ng) ff ⟨_, .head _, hd⟩ (by k_is) (by k_is) r.room (BindsTo.of_defaults (T := 29) rfl ((T.ch x).k 29 _ (by k_is)) rfl rfl rfl) rfl (by decide +kernel) (by decide +kernel) rfl rfl rfl rfl (by decide) ?_
 ·rw [List.mem_singleton.mp hc]
  exact ⟨_, he, rfl, mutO_ref rfl⟩
 intro env L h₁ tk₁ F H hc hL
 dsimp only [List.cons_append, List.nil_append, List.map] at F H
 fin_once g1 fail
 refine w_bi H F T (.head _) (.head _) e_glob e_boot ?_
 refine m_exc H ?_
 refine PyProof.Rows.callWith_method1 ?_ rfl rfl
 fin_once g1 fail
 fin_once o1 fail
 obtain ⟨nm, q, N, bs, hdct, sn, sub, ab, col, dd, k0, k1, k2, k3, k5, hC⟩ := f_cls (T.ch (H.ch g (.head _))).k
 fin_once o2 fail
 fin_once o1 fail
 obtain ⟨_, he₁, rfl, _⟩ := H.cells.get (.head _)
 fin_once o2 fail
 refine own_init PySem.F.excBase_Exception f_tail hC he₁ rfl rfl (show 0 < 6 by decide) (by show 1 ≤ _; decide) fun h₂ T' k2 he₂ => ?_
 have H₂ : At (A.deeper env) [g] L _ [(e, fun o => o = ⟨.ref 52, none, .fields #[T', .none, .none, .none, .bool false, .none], #[]⟩)] _ h₂ :=
  H.mod (fun b o q n => k2 b o (fun z => n _ (.head _) z.symm) q) ⟨fun c hc => by
   rw [List.mem_singleton.mp hc]
   exact ⟨_, he₂, rfl, mutO_ref rfl⟩, by fin_once sm fail⟩ (fun c hc => by
   rw [List.mem_singleton.mp hc]
   exact .inl ⟨_, .head _, rfl⟩)
 clear H
 fin_once g1 fail
 have I₂ : ExcAt h₂ e 52 #[T', .none, .none, .none, .bool false, .none] [] := ⟨none, #[], he₂, .inl ⟨rfl, rfl⟩⟩
 refine set_exc (T.ch (H₂.ch g (.head _))).k I₂ f_msg (by fin_once sm fail) (by fin_once sm fail) fun h₃ tk₃ B₃ D₃ I₃ => ?_
 fin_once o1 fail
 obtain ⟨dd₃, sl₃, he₃, hdd⟩ := id I₃.is
 fin_once o2 fail
 rcases hdd with ⟨_, q⟩ | ⟨dx, o₃, rfl, hne, hdx, FO⟩
 ·cases q
 have nd : h₂.get? dx = none := by
  rcases D₃ _ _ he₃ rfl with q | ⟨oe', q1, q2⟩
  ·exact q
  ·rw [he₂] at q1
   cases q1
   cases q2
 have kp₃ : ∀ b o, h₂.get? b = some o → b ≠ e → h₃.get? b = some o := fun b o q n => B₃ b o q n fun oe z => by
  rw [he₂] at z
  cases z
  intro y
  cases y
 have H₃ : At (A.deeper env) [g] L _ [(e, fun o => o = ⟨.ref 52, some dx, .fields #[T', .none, .none, .none, .bool false, .none], sl₃⟩), (dx, fun o => FldObj ([] ++ [(Str.ofString "message", Value.str m u)]) o)] _ h₃ :=
  H₂.mod (fun b o q n => kp₃ b o q (fun z => n _ (.head _) z.symm)) ⟨fun c hc => by
   rcases List.mem_cons.mp hc with rfl | hc
   ·exact ⟨_, he₃, rfl, mutO_ref rfl⟩
   ·rw [List.mem_singleton.mp hc]
    exact ⟨_, hdx, FO, FO.mut⟩, by simpa using Ne.symm hne⟩ (fun c hc => by
   rcases List.mem_cons.mp hc with rfl | hc
   ·exact .inl ⟨_, .head _, rfl⟩
   ·rw [List.mem_singleton.mp hc]
    exact .inr nd)
 clear H₂
 fin_once g1 fail
 refine set_exc (T.ch (H₃.ch g (.head _))).k I₃ f_spot (by show Str.ofString "spot" ∉ [Str.ofString "message"]; decide) (show 1 ≤ 100 by decide) fun h₄ tk₄ B₄ D₄ I₄ => ?_
 fin_once g1 fail
 fin_once o1 fail
 obtain ⟨dd₄, sl₄, he₄, hdd⟩ := id I₄.is
 fin_once o2 fail
 have gd : g.get? dx = none := H₃.newC g (.head _) _ (.tail _ (.head _))
 have kp₄ : ∀ b o, h₃.get? b = some o → b ≠ e → b ≠ dx → h₄.get? b = some o := fun b o q n n' => B₄ b o q n fun oe z => by
  rw [he₃] at z
  cases z
  intro y
  cases y
  exact n' rfl
 have gb : ∀ b o, g.get? b = some o → b ≠ e ∧ b ≠ dx := fun b o q => ⟨(fun z => by rw [z, ng] at q; cases q), (fun z => by rw [z, gd] at q; cases q)⟩
 have cg := H₃.ch g (.head _)
 refine k h₄ tk₄ ⟨fun b o q n f => kp₄ b o (cg.same b o q n f) (gb b o q).1 (gb b o q).2, fun b o q f => ?_⟩ ?_ ⟨_, _, _, he₄⟩
 ·obtain ⟨sl, z⟩ := cg.fr b o q f
  exact ⟨sl, kp₄ b _ z (gb b o q).1 (gb b o q).2⟩
 ·obtain ⟨l, l1, l2⟩ := H₃.ff
  obtain ⟨l', e'⟩ : ∃ l', A.frames = some l' := by
   obtain ⟨l', q, _⟩ := ff
   exact ⟨l', q⟩
  refine ⟨l', e', fun env' m' => ?_⟩
  have : (A.deeper env).frames = some (env :: l') := by show A.frames.map _ = _; rw [e']; rfl
  rw [this] at l1
  cases l1
  fin_once o1 fail
  obtain ⟨hk, b, o, hf, ho, hr, hd'⟩ := l2 env' (.tail _ m')
  fin_once o2 fail
  refine ⟨hk, b, o, hf, kp₄ b o ho (fun z => ?_) (fun z => ?_), hr, hd'⟩
  ·rw [z, he₃] at ho
   cases ho
   cases hr
  ·rw [z, hdx] at ho
   cases ho
   rw [mutO_fr FO.mut] at hr
   cases hr
theorem c_fault {m : Str} {u : Tok} {v : Value} (C : Cx (Mine.hd.heap_1 w.params) A h 3)
  (k : ∀ e h' tk', Ch [] h h' → h.get? e = none → (∃ l, A.frames = some l ∧ FF h' l) → NewE 52 h' e → Q (.ref e) (St s h' tk')) :
  wpAny (model prog w) A (call (.ref 52) [.str m u, v]) Q E (St s h tk) := by
 fin_once o1 fail
 obtain ⟨nm, q, N, bs, hdct, sn, sub, ab, col, dd, k0, k1, k2, k3, k5, hC⟩ := f_cls C.t.k
 fin_once o2 fail
 obtain ⟨o36, l36, c36⟩ : ∃ o, (Mine.hd.heap_1 w.params).lookup 36 = some o ∧ o.cls = .type "function" := ⟨_, by k_is, rfl⟩
 refine own_call PySem.F.excBase_Exception f_tail hC (fun M => looks_findIn C.t.k f_init) (C.t.k _ _ l36) c36 (by show 2 ≤ _; decide) fun h₁ e M => ?_
 fin_once o1 fail
 obtain ⟨t, ht, _, _⟩ := M.there
 obtain ⟨l, l1, l2⟩ := C.ff
 fin_once o2 fail
 have c₁ : Ch [] h h₁ := Ch.of_keeps M.keeps
 refine c_exc_init C.t c₁ ⟨l, under_frames.trans l1, c₁.ff l2⟩ ?_ (under_rm (C.r.le (by decide : 2 ≤ 3))) ht M.new fun h' tk' c' ff' n' => ⟨rfl, k e h' tk' c' M.new ?_ n'⟩
 ·exact C.hd
 ·obtain ⟨l', q1, q2⟩ := ff'
  exact ⟨l', under_frames.symm.trans q1, q2⟩
end
section
theorem a_kinds : AttrOk (Mine.hd.heap_1 w.params) 258 (Str.ofString "kinds") := ⟨by k_is, by k_is, _, by k_is, by k_is⟩
theorem a_publics : AttrOk (Mine.hd.heap_1 w.params) 258 (Str.ofString "publics") := ⟨by k_is, by k_is, _, by k_is, by k_is⟩
theorem a_tables : AttrOk (Mine.hd.heap_1 w.params) 258 (Str.ofString "tables") := ⟨by k_is, by k_is, _, by k_is, by k_is⟩
theorem a_generics : AttrOk (Mine.hd.heap_1 w.params) 258 (Str.ofString "generics") := ⟨by k_is, by k_is, _, by k_is, by k_is⟩
theorem a_items : AttrOk (Mine.hd.heap_1 w.params) 258 (Str.ofString "items") := ⟨by k_is, by k_is, _, by k_is, by k_is⟩
theorem a_types : AttrOk (Mine.hd.heap_1 w.params) 139 (Str.ofString "types") := ⟨by k_is, by k_is, _, by k_is, by k_is⟩
theorem a_values : AttrOk (Mine.hd.heap_1 w.params) 139 (Str.ofString "values") := ⟨by k_is, by k_is, _, by k_is, by k_is⟩
theorem a_uses : AttrOk (Mine.hd.heap_1 w.params) 139 (Str.ofString "uses") := ⟨by k_is, by k_is, _, by k_is, by k_is⟩
theorem a_names : AttrOk (Mine.hd.heap_1 w.params) 106 (Str.ofString "names") := ⟨by k_is, by k_is, _, by k_is, by k_is⟩
theorem a_is_pub : AttrOk (Mine.hd.heap_1 w.params) 106 (Str.ofString "is_pub") := ⟨by k_is, by k_is, _, by k_is, by k_is⟩
theorem a_spot : AttrOk (Mine.hd.heap_1 w.params) 106 (Str.ofString "spot") := ⟨by k_is, by k_is, _, by k_is, by k_is⟩
theorem m_enter : MethOk (Mine.hd.heap_1 w.params) 258 (Str.ofString "enter") 164 := ⟨by k_is, by k_is, by k_is⟩
theorem m_declare : MethOk (Mine.hd.heap_1 w.params) 258 (Str.ofString "declare") 171 := ⟨by k_is, by k_is, by k_is⟩
theorem m_declare_type : MethOk (Mine.hd.heap_1 w.params) 258 (Str.ofString "declare_type") 176 := ⟨by k_is, by k_is, by k_is⟩
theorem m_enter_variants : MethOk (Mine.hd.heap_1 w.params) 258 (Str.ofString "enter_variants") 183 := ⟨by k_is, by k_is, by k_is⟩
theorem m_enter_use : MethOk (Mine.hd.heap_1 w.params) 258 (Str.ofString "enter_use") 190 := ⟨by k_is, by k_is, by k_is⟩
theorem m_can_see : MethOk (Mine.hd.heap_1 w.params) 258 (Str.ofString "can_see") 197 := ⟨by k_is, by k_is, by k_is⟩
theorem m_find : MethOk (Mine.hd.heap_1 w.params) 258 (Str.ofString "find") 205 := ⟨by k_is, by k_is, by k_is⟩
theorem m_walk : MethOk (Mine.hd.heap_1 w.params) 258 (Str.ofString "walk") 212 := ⟨by k_is, by k_is, by k_is⟩
theorem m_begin : MethOk (Mine.hd.heap_1 w.params) 258 (Str.ofString "begin") 219 := ⟨by k_is, by k_is, by k_is⟩
theorem m_step : MethOk (Mine.hd.heap_1 w.params) 258 (Str.ofString "step") 226 := ⟨by k_is, by k_is, by k_is⟩
theorem m_look : MethOk (Mine.hd.heap_1 w.params) 258 (Str.ofString "look") 233 := ⟨by k_is, by k_is, by k_is⟩
theorem m_follow : MethOk (Mine.hd.heap_1 w.params) 258 (Str.ofString "follow") 240 := ⟨by k_is, by k_is, by k_is⟩
theorem m_checked_uses : MethOk (Mine.hd.heap_1 w.params) 258 (Str.ofString "checked_uses") 255 := ⟨by k_is, by k_is, by k_is⟩
theorem m_space : MethOk (Mine.hd.heap_1 w.params) 139 (Str.ofString "space") 131 := ⟨by k_is, by k_is, by k_is⟩
theorem m_is_taken : MethOk (Mine.hd.heap_1 w.params) 139 (Str.ofString "is_taken") 136 := ⟨by k_is, by k_is, by k_is⟩
end
noncomputable def Nm (x : Str) : Prop := x.length ≤ 40 ∧ PyData.strOk x = true
noncomputable def Pa (x : Str) : Prop := x.length ≤ 200 ∧ PyData.strOk x = true
noncomputable def waysL : List Str := [Str.ofString "crate", Str.ofString "self", Str.ofString "super"]
noncomputable def preL : List Str := [Str.ofString "Clone", Str.ofString "Copy", Str.ofString "Default", Str.ofString "Drop", Str.ofString "Err", Str.ofString "None", Str.ofString "Ok", Str.ofString "Option", Str.ofString "Range8", Str.ofString "Result", Str.ofString "Some", Str.ofString "Vec8", Str.ofString "swapped"]
structure NamesOk (ns : List Str) : Prop where
 ne : ns ≠ []
 len : ns.length ≤ 20
 nm : ∀ x ∈ ns, Nm x
 hd : (∃ r, ns = Str.ofString "crate" :: r) ∨ (∃ x r, ns = Str.ofString "self" :: x :: r ∧ x ≠ Str.ofString "super") ∨ (∃ x r, ns = x :: r ∧ x ∉ waysL ∧ x ∉ preL)
structure Wf (m : Md) : Prop where
 root : at? m.kinds (Str.ofString "") = some (Str.ofString "mod")
 pa : ∀ p k, at? m.kinds p = some k → Pa p
 tab : ∀ p, at? m.kinds p = some (Str.ofString "mod") → (at? m.tabs p).isSome
 path : ∀ o tb, at? m.tabs o = some tb → ∀ sp n p, at? (tb.space sp) n = some p → at? m.pubs p = some true ∧ (at? m.kinds p).isSome
 use : ∀ o tb, at? m.tabs o = some tb → ∀ n ns, at? tb.uses n = some ns → NamesOk ns
theorem g_ways {h : Heap} (X : (Mine.hd.heap_1 w.params).In h) : Rd h (.ref 68) (strsD waysL) := by
 refine Reads.tuple (X 68 _ (by k_is)) rfl rfl ?_
 repeat (first | exact .nil | refine ReadsAll.cons (as := []) (bs := []) (.str _ _) ?_)
theorem g_pre {h : Heap} (X : (Mine.hd.heap_1 w.params).In h) : Rd h (.ref 67) (strsD preL) := by
 refine Reads.tuple (X 67 _ (by k_is)) rfl rfl ?_
 repeat (first | exact .nil | refine ReadsAll.cons (as := []) (bs := []) (.str _ _) ?_)
section
variable {A : Around} {E : Value → Shared → Prop} {h : Heap} {tk : Nat} {Q : Value → Shared → Prop}
theorem c_can_see {x : Addr} {u v : Value} (C : Cx (Mine.hd.heap_1 w.params) A h 1) (k : ∀ h' tk', Ch [] h h' → Q (.bool true) (St s h' tk')) :
  wpAny (model prog w) A (call (.ref 197) [.ref x, u, v, .bool true]) Q E (St s h tk) := by
 refine fn0c (vals := [.ref x, u, v, .bool true]) ["self", "asker", "owner", "is_pub"] [] [] C (by k_is) (by k_is) (BindsTo.of_eq rfl) rfl (by decide +kernel) (by decide +kernel) rfl rfl rfl rfl (by decide) ?_
 intro env L h₁ tk₁ F H hc T R
 dsimp only [List.cons_append, List.nil_append, List.map] at F H
 fin_once g1 fail
 exact k _ _ hc
end
omit rt0 in
theorem names_len {ns : List Str} (N : NamesOk ns) : (ns.map PyData.str).length ≤ 10000 := by
 rw [List.length_map]; exact Nat.le_trans N.len (Nat.le_of_ble_eq_true rfl)
theorem names_lay {ns : List Str} (N : NamesOk ns) : (strsD ns).canLay0 = true := canLay_strs fun x m => (N.nm x m).2
omit rt0 in
theorem ways_ok : ∀ x ∈ waysL, PyData.strOk x = true := by decide +kernel
omit rt0 in
theorem pre_ok : ∀ x ∈ preL, PyData.strOk x = true := by decide +kernel
section
variable {A : Around} {E : Value → Shared → Prop} {h : Heap} {tk : Nat} {Q : Value → Shared → Prop}
noncomputable def BegV (module : Str) (ns : List Str) (hv : Value) (i : Nat) : Prop :=
 (∃ r t, ns = Str.ofString "crate" :: r ∧ hv = .str (Str.ofString "") t ∧ i = 1) ∨ (∃ x r t, ns = Str.ofString "self" :: x :: r ∧ hv = .str module t ∧ i = 1) ∨ (∃ x r, ns = x :: r ∧ x ∉ waysL ∧ x ∉ preL ∧ hv = .none ∧ i = 0)
omit rt0 in
theorem nm_self {x0 : Str} {rest : List Str} (N : NamesOk (x0 :: rest)) (hcr : ¬ x0 = Str.ofString "crate") (hx : x0 ∈ waysL) : ∃ y r', x0 :: rest = Str.ofString "self" :: y :: r' ∧ y ≠ Str.ofString "super" := by
 rcases N.hd with ⟨r', e⟩ | e | ⟨y, r', e, hw, _⟩
 ·cases e; exact absurd rfl hcr
 ·exact e
 ·cases e; exact absurd hx hw
omit rt0 in
theorem nm_rel {x0 : Str} {rest : List Str} (N : NamesOk (x0 :: rest)) (hcr : ¬ x0 = Str.ofString "crate") (hx : ¬ x0 ∈ waysL) : x0 ∉ preL := by
 rcases N.hd with ⟨r', e⟩ | ⟨y, r', e, _⟩ | ⟨y, r', e, _, hp⟩
 ·cases e; exact absurd rfl hcr
 ·cases e; exact absurd (by decide) hx
 ·cases e; exact hp
theorem c_begin {x tn : Addr} {module : Str} {t : Tok} {ns : List Str} {sp : Value} (C : Cx (Mine.hd.heap_1 w.params) A h 1) (N : NamesOk ns) (r : Rd h (.ref tn) (strsD ns))
  (k : ∀ a hv (i : Nat) u h' tk', Ch [] h h' → IsTup h' a #[hv, .int i u] → BegV module ns hv i → Q (.ref a) (St s h' tk')) :
  wpAny (model prog w) A (call (.ref 219) [.ref x, .str module t, .ref tn, sp]) Q E (St s h tk) := by
 refine fn0c (vals := [.ref x, .str module t, .ref tn, sp]) ["self", "module", "names", "spot"] ["here", "at"] ["NameFault", "WAYS", "len", "parent_of"] C (by k_is) (by k_is) (BindsTo.of_eq rfl) rfl (by decide +kernel) (by decide +kernel) rfl rfl rfl rfl (by decide) ?_
 intro env L h₁ tk₁ F H hc T R
 dsimp only [List.cons_append, List.nil_append, List.map] at F H
 fin_once g1 fail
 refine w_newTuple H (by decide) fun h₂ H₂ c₂ t₂ => ?_
 have r₂ := (r.ch hc).ch c₂
 refine w_eq r₂ (Reads.tuple (as := []) t₂.choose_spec.1 t₂.choose_spec.2.1 t₂.choose_spec.2.2.choose_spec .nil) (names_lay N) (by decide) ?_ ?_
 ·exact (C.r.deeper (env := env) (Nat.le_refl 1)).un2 rfl
 have e0 : PyData.eqv (strsD ns) (.tuple []) = false := by
  obtain ⟨y, ys, rfl⟩ := List.exists_cons_of_ne_nil N.ne
  rfl
 rw [e0]
 fin_once g1 fail
 obtain ⟨x0, rest, rfl⟩ := List.exists_cons_of_ne_nil N.ne
 refine w_nth 0 r₂ rfl (names_len N) (fun v0 rv0 => ?_) (by with_unfolding_all rfl)
 refine rv0.strE fun u0 rv0 => ?_
 by_cases hcr : x0 = Str.ofString "crate"
 ·subst hcr
  fin_once g1 fail
  refine w_newTuple (by assumption) (by fin_once sm fail) fun h₃ H₃ c₃ t₃ => ?_
  fin_once g1 fail
  exact k _ _ 1 _ _ _ ((hc.trans c₂).trans c₃) t₃ (.inl ⟨_, _, rfl, rfl, rfl⟩)
 fin_once g1 fail
 refine w_nth 0 r₂ rfl (names_len N) (fun v0 rv0 => ?_) (by with_unfolding_all rfl)
 refine rv0.strE fun u1 rv0 => ?_
 fin_once g1 fail
 refine w_ninT (g_ways (T.ch (hc.trans c₂)).k) (.str _ _) (canLay_strs ways_ok) (N.nm x0 (.head _)).2 ?_ ?_
 ·exact (C.r.deeper (env := env) (Nat.le_refl 1)).un1 rfl
 rw [any_strs]
 by_cases hx : x0 ∈ waysL
 ·rw [decide_eq_true hx]
  obtain ⟨y, r', e, hy⟩ := nm_self N hcr hx
  cases e
  fin_once g1 fail
  refine w_nth 0 r₂ rfl (names_len N) (fun v0 rv0 => ?_) (by with_unfolding_all rfl)
  refine rv0.strE fun u2 rv0 => ?_
  fin_once g1 fail
  refine w_newTuple (by assumption) (by fin_once sm fail) fun h₃ H₃ c₃ t₃ => ?_
  refine w_unpack2 (by assumption) F t₃ (by fin_once lk fail) (by fin_once lk fail) fun h₄ tk₄ H₄ => ?_
  have r₄ := r.ch (H₄.ch h (.head _))
  fin_once nx fail
  refine w_While0 (fun n s' => n = 0 ∧ s' = St s h₄ tk₄) 0 ⟨rfl, rfl⟩ fun n s' hI T' hT => ?_
  obtain ⟨rfl, rfl⟩ := hI
  fin_once g1 fail
  refine w_lenT r₄ (names_len N) fun u5 tk5 => ?_
  fin_once g1 fail
  rw [decide_eq_true (by simp; fin_once om fail)]
  fin_once g1 fail
  refine w_nth 1 r₄ rfl (names_len N) (fun v0 rv0 => ?_) (by with_unfolding_all rfl)
  refine rv0.strE fun u2 rv0 => ?_
  fin_once g1 fail
  refine w_newTuple (by assumption) (by fin_once sm fail) fun h₅ H₅ c₅ t₅ => ?_
  fin_once g1 fail
  exact k _ _ 1 _ _ _ ((H₄.ch h (.head _)).trans c₅) t₅ (.inr (.inl ⟨_, _, _, rfl, rfl, rfl⟩))
 ·rw [decide_eq_false hx]
  fin_once g1 fail
  refine w_newTuple (by assumption) (by fin_once sm fail) fun h₃ H₃ c₃ t₃ => ?_
  fin_once g1 fail
  exact k _ _ 0 _ _ _ ((hc.trans c₂).trans c₃) t₃ (.inr (.inr ⟨_, _, rfl, hx, nm_rel N hcr hx, rfl, rfl⟩))
end
abbrev pr (p : Str × Str) : PyData := .tuple [.str p.1, .str p.2]
noncomputable def SeenAt (h : Heap) (v : Value) (seen : List (Str × Str)) : Prop := ∃ l items, v = .ref l ∧ h.IsList l items ∧ ReadsAll h items.toList (seen.map pr) []
theorem isList_ch {h h' : Heap} {l : Addr} {items : Array Value} (x : h.IsList l items) (c : Ch [] h h') : h'.IsList l items := by
 fin_once o1 fail
 obtain ⟨o, e, t, r⟩ := x
 fin_once o2 fail
 exact ⟨o, c.same _ _ e (by fin_once sm fail) (mutO_fr (mutO_list t)), t, r⟩
theorem readsAll_ch {h h' : Heap} {vs : List Value} {ds : List PyData} (x : ReadsAll h vs ds []) (c : Ch [] h h') : ReadsAll h' vs ds [] :=
 readsAll_mv x fun b o q m => c.same b o q (by fin_once sm fail) (isFr_tuple (m.resolve_right (by fin_once sm fail)).1)
theorem SeenAt.ch {h h' : Heap} {v : Value} {seen : List (Str × Str)} (S : SeenAt h v seen) (c : Ch [] h h') : SeenAt h' v seen := by
 fin_once o1 fail
 obtain ⟨l, items, e, a, b⟩ := S
 fin_once o2 fail
 exact ⟨l, items, e, isList_ch a c, readsAll_ch b c⟩
structure SeenOk (n : Nat) (seen : List (Str × Str)) : Prop where
 len : n + seen.length = 30
 ok : ∀ p ∈ seen, PyData.strOk p.1 = true ∧ PyData.strOk p.2 = true
section
variable (m : Md) (n : Nat)
noncomputable def FollowC : Prop := ∀ {A : Around} {E : Value → Shared → Prop} {h : Heap} {tk : Nat} {Q : Value → Shared → Prop} {P : Addr → Prop} {x u : Addr} {owner name space : Str} {to tn ts : Tok} {ns : List Str} {seen : List (Str × Str)} {sv : Value},
 Cx (Mine.hd.heap_1 w.params) A h (4 * n + 5) → MdAt P h x m → UseV P h (.ref u) ns → NamesOk ns → Pa owner → Nm name → (at? m.kinds owner).isSome = true → SeenAt h sv seen → SeenOk n seen → Nm space →
 (∀ r t h' tk', Ch [] h h' → followF m seen n owner name ns space = some r → (at? m.kinds r).isSome = true → Q (.str r t) (St s h' tk')) →
 (∀ e s', followF m seen n owner name ns space = none → Rse 52 A [h] e s' → E e s') →
 wpAny (model prog w) A (call (.ref 240) [.ref x, .str owner to, .str name tn, .ref u, .str space ts, sv]) Q E (St s h tk)
noncomputable def LookC : Prop := ∀ {A : Around} {E : Value → Shared → Prop} {h : Heap} {tk : Nat} {Q : Value → Shared → Prop} {P : Addr → Prop} {x : Addr} {asker owner name space : Str} {ta to tn ts : Tok} {seen : List (Str × Str)} {sp sv : Value},
 Cx (Mine.hd.heap_1 w.params) A h (4 * n + 6) → MdAt P h x m → (at? m.kinds owner).isSome = true → Nm name → SeenAt h sv seen → SeenOk n seen → Nm space →
 (∀ v h' tk', Ch [] h h' → ((v = .none ∧ lookF m (followF m seen n) owner name space = some none) ∨ ∃ r t, v = .str r t ∧ lookF m (followF m seen n) owner name space = some (some r) ∧ (at? m.kinds r).isSome = true) → Q v (St s h' tk')) →
 (∀ e s', lookF m (followF m seen n) owner name space = none → Rse 52 A [h] e s' → E e s') →
 wpAny (model prog w) A (call (.ref 233) [.ref x, .str asker ta, .str owner to, .str name tn, .str space ts, sp, sv]) Q E (St s h tk)
noncomputable def WalkC : Prop := ∀ {A : Around} {E : Value → Shared → Prop} {h : Heap} {tk : Nat} {Q : Value → Shared → Prop} {P : Addr → Prop} {x tns : Addr} {module space : Str} {to ts : Tok} {ns : List Str} {seen : List (Str × Str)} {sp sv : Value},
 Cx (Mine.hd.heap_1 w.params) A h (4 * n + 8) → MdAt P h x m → Rd h (.ref tns) (strsD ns) → NamesOk ns → Pa module → (at? m.kinds module).isSome = true → SeenAt h sv seen → SeenOk n seen → Nm space →
 (∀ r t h' tk', Ch [] h h' → walkF m n module ns space seen = some r → (at? m.kinds r).isSome = true → Q (.str r t) (St s h' tk')) →
 (∀ e s', walkF m n module ns space seen = none → Rse 52 A [h] e s' → E e s') →
 wpAny (model prog w) A (call (.ref 212) [.ref x, .str module to, .ref tns, .str space ts, sp, sv]) Q E (St s h tk)
end
section
variable {A : Around} {E : Value → Shared → Prop} {h : Heap} {tk : Nat} {Q : Value → Shared → Prop}
theorem c_space {P : Addr → Prop} {t a b c : Addr} {sp : Str} {u : Tok} (C : Cx (Mine.hd.heap_1 w.params) A h 1) (I : InsP P h t 139 [(Str.ofString "types", .ref a), (Str.ofString "values", .ref b), (Str.ofString "uses", .ref c)])
  (k : ∀ h' tk', Ch [] h h' → Q (.ref (if sp = Str.ofString "type" then a else b)) (St s h' tk')) :
  wpAny (model prog w) A (call (.ref 131) [.ref t, .str sp u]) Q E (St s h tk) := by
 refine fn0c (vals := [.ref t, .str sp u]) ["self", "space"] [] [] C (by k_is) (by k_is) (BindsTo.of_eq rfl) rfl (by decide +kernel) (by decide +kernel) rfl rfl rfl rfl (by decide) ?_
 intro env L h₁ tk₁ F H hc T R
 dsimp only [List.cons_append, List.nil_append, List.map] at F H
 have I' := I.ins
 fin_once g1 fail
 refine w_ite (fun e => ?_) fun e => ?_
 ·have e' : sp = Str.ofString "type" := by simpa using e
  fin_once g2 fail
  have := fun tk' => k h₁ tk' hc
  rw [if_pos e'] at this
  exact this _
 ·have e' : ¬ sp = Str.ofString "type" := by simpa using e
  fin_once g2 fail
  have := fun tk' => k h₁ tk' hc
  rw [if_neg e'] at this
  exact this _
theorem c_look {m : Md} {n : Nat} (W : Wf m) (FC : FollowC m n) : LookC m n := by
 intro A E h tk Q P x asker owner name space ta to tn ts seen sp sv C M ho hn S So hs k hE
 fin_once o1 fail
 obtain ⟨dk, dp, dt, dg, di, I, Dk, Dp, Dt⟩ := M
 fin_once o2 fail
 refine fnEc (nf := 52) (vals := [.ref x, .str asker ta, .str owner to, .str name tn, .str space ts, sp, sv]) ["self", "asker", "owner", "name", "space", "spot", "seen"] ["path", "table", "use"] ["joined", "VisibilityFault"] C (by k_is) (by k_is) (BindsTo.of_eq rfl) rfl (by decide +kernel) (by decide +kernel) rfl rfl rfl rfl (by decide) (N := lookF m (followF m seen n) owner name space = none) (fun e s' q r => hE e s' q r) ?_
 intro env L h₁ tk₁ F H hc T R E' hE'
 dsimp only [List.cons_append, List.nil_append, List.map] at F H
 have I' := I.ins
 obtain ⟨kd, hkd⟩ := Option.isSome_iff_exists.mp ho
 fin_once g2 fail
 refine w_ditemB Dk H (.head _) hkd (fun v tk' rv => ?_) (by with_unfolding_all rfl)
 obtain ⟨t1, rfl⟩ := rv
 have lf : lookF m (followF m seen n) owner name space = if kd = Str.ofString "enum" then (if at? m.kinds (J owner name) = some (Str.ofString "variant") then some (some (J owner name)) else some none)
  else if kd ≠ Str.ofString "mod" then some none
  else match at? m.tabs owner with
   | none => none
   | some tb => match at? (tb.space space) name with
    | some p => some (some p)
    | none => match at? tb.uses name with
     | none => some none
     | some ns => (followF m seen n owner name ns space).map some := by
  unfold lookF
  rw [hkd]
  try rfl
 by_cases he : kd = Str.ofString "enum"
 ·subst he
  rw [if_pos rfl] at lf
  fin_once g2 fail
  refine c_joined (H.cx T (.head _) R (by fin_once om fail)) (by have := (W.pa owner _ hkd).1; fin_once om fail) (by have := hn.1; fin_once om fail) fun t2 h₂ tk₂ c₂ => ?_
  have H₂ := H.keep c₂
  fin_once g2 fail
  rename At _ _ _ _ _ _ _ => H₃
  refine w_dgetB Dk H₃ (.head _) (fun a v tk4 ea rv => ?_) fun tk4 ea => ?_
  ·obtain ⟨t5, rfl⟩ := rv
   by_cases hv : a = Str.ofString "variant"
   ·subst hv
    fin_once g2 fail
    rw [if_pos ea] at lf
    exact k _ _ _ (H₃.ch h (.head _)) (.inr ⟨_, _, rfl, lf, by rw [ea]; rfl⟩)
   ·fin_once g2 fail
    rw [if_neg (by rw [ea]; exact fun q => hv (Option.some.inj q))] at lf
    exact k _ _ _ (H₃.ch h (.head _)) (.inl ⟨rfl, lf⟩)
  ·fin_once g2 fail
   rw [if_neg (by rw [ea]; exact fun q => nomatch q)] at lf
   exact k _ _ _ (H₃.ch h (.head _)) (.inl ⟨rfl, lf⟩)
 rw [if_neg he] at lf
 fin_once g2 fail
 refine w_ditemB Dk H (.head _) hkd (fun v tk' rv => ?_) (by with_unfolding_all rfl)
 obtain ⟨t2, rfl⟩ := rv
 by_cases hm : kd = Str.ofString "mod"
 ·rw [if_neg (fun q => q hm)] at lf
  subst hm
  fin_once g2 fail
  obtain ⟨tb, htb⟩ := Option.isSome_iff_exists.mp (W.tab owner hkd)
  simp only [htb] at lf
  refine w_ditemB Dt H (.head _) htb (fun v tk' rv => ?_) (by with_unfolding_all rfl)
  fin_once o1 fail
  obtain ⟨ta, da, db, du, rfl, It, Da, Db, Du⟩ := rv
  fin_once o2 fail
  have It' := It.ins
  fin_once g2 fail
  rename At _ _ _ _ _ _ _ => H₃
  refine c_space (H₃.cx T (.head _) R (by fin_once om fail)) (It.tr (H₃.ch h (.head _)).tr) fun h₄ tk₄ c₄ => ?_
  have H₄ := H₃.keep c₄
  have Dsp : DctP P h (if space = Str.ofString "type" then da else db) IsS (tb.space space) := by
   unfold Tb.space
   split
   ·exact Da
   ·exact Db
  fin_once g2 fail
  refine w_dgetB Dsp H₄ (.head _) (fun a v tk5 ea rv => ?_) fun tk5 ea => ?_
  ·obtain ⟨t5, rfl⟩ := rv
   simp only [ea] at lf
   obtain ⟨hp, hk'⟩ := W.path owner tb htb space name a ea
   fin_once g2 fail
   rename At _ _ _ _ _ _ _ => H₆
   refine w_ditemB Dp H₆ (.head _) hp (fun v tk' rv => ?_) (by with_unfolding_all rfl)
   obtain rfl : v = .bool true := rv
   fin_once g2 fail
   refine c_can_see (H₆.cx T (.head _) R (by fin_once om fail)) fun h₇ tk₇ c₇ => ?_
   have H₇ := H₆.keep c₇
   fin_once g2 fail
   exact k _ _ _ (H₇.ch h (.head _)) (.inr ⟨_, _, rfl, lf, hk'⟩)
  ·simp only [ea] at lf
   fin_once g2 fail
   rename At _ _ _ _ _ _ _ => H₆
   refine w_dgetB Du H₆ (.head _) (fun ns v tk5 eu rv => ?_) fun tk5 eu => ?_
   ·simp only [eu] at lf
    have U := rv
    fin_once o1 fail
    obtain ⟨u, tns, sp', rfl, Iu, hsp, ru⟩ := rv
    fin_once o2 fail
    have Iu' := Iu.ins
    fin_once g2 fail
    refine c_can_see (by rename At _ _ _ _ _ _ _ => H₈; exact H₈.cx T (.head _) R (by fin_once om fail)) fun h₇ tk₇ c₇ => ?_
    rename At _ _ _ _ _ _ _ => H₈
    have H₉ := H₈.keep c₇
    fin_once g2 fail
    have Pa' := W.pa owner _ hkd
    have cx := H₉.cx T (.head _) R (by fin_once om fail : 4 * n + 5 ≤ 4 * n + 5)
    have c9 := H₉.ch h (.head _)
    refine FC (P := P) cx (MdAt.tr ⟨dk, dp, dt, dg, di, I, Dk, Dp, Dt⟩ c9.tr) (UseV.tr U c9.tr) (W.use owner tb htb name ns eu) Pa' hn ho (S.ch c9) So hs (fun r t h' tk' c e1 e2 => ?_) fun e s' e1 r => ?_
    ·fin_once g2 fail
     simp only [e1, Option.map_some] at lf
     exact k _ _ _ (c9.trans c) (.inr ⟨_, _, rfl, lf, e2⟩)
    ·simp only [e1, Option.map_none] at lf
     exact hE' _ _ ⟨lf, r.esc H₉⟩
   ·simp only [eu] at lf
    fin_once g2 fail
    rename At _ _ _ _ _ _ _ => H₈
    exact k _ _ _ (H₈.ch h (.head _)) (.inl ⟨rfl, lf⟩)
 ·rw [if_pos hm] at lf
  fin_once g2 fail
  rename At _ _ _ _ _ _ _ => H₃
  exact k _ _ _ (H₃.ch h (.head _)) (.inl ⟨rfl, lf⟩)
end
omit rt0 in
theorem eqv_pr (a b : Str × Str) : PyData.eqv (pr a) (pr b) = decide (a = b) := by
 obtain ⟨a1, a2⟩ := a
 obtain ⟨b1, b2⟩ := b
 show (PyData.eqv (.str a1) (.str b1) && (PyData.eqv (.str a2) (.str b2) && true)) = _
 have e1 : PyData.eqv (.str a1) (.str b1) = (a1 == b1) := rfl
 have e2 : PyData.eqv (.str a2) (.str b2) = (a2 == b2) := rfl
 rw [e1, e2, Bool.and_true]
 by_cases h1 : a1 = b1 <;> by_cases h2 : a2 = b2 <;> simp [h1, h2]
theorem any_pr (p : Str × Str) : ∀ l : List (Str × Str), (l.map pr).any (fun y => PyData.eqv y (pr p)) = decide (p ∈ l)
 | [] => rfl
 | q :: l => by
  rw [List.map_cons, List.any_cons, any_pr p l, eqv_pr]
  by_cases h1 : q = p
  ·subst h1; simp
  ·have h2 : ¬ p = q := fun z => h1 z.symm
   rw [decide_eq_false h1, Bool.false_or]
   congr 1
   rw [List.mem_cons]
   exact propext ⟨.inr, fun z => z.resolve_left h2⟩
omit rt0 in
theorem canLay_pr : ∀ {l : List (Str × Str)}, (∀ p ∈ l, PyData.strOk p.1 = true ∧ PyData.strOk p.2 = true) → PyData.canLayAll0 (l.map pr) = true
 | [], _ => rfl
 | p :: l, h => by
  rw [List.map_cons, PyData.canLayAll0, canLay_pr fun q m => h q (.tail _ m)]
  have := h p (.head _)
  rw [PyData.canLay0, PyData.canLayAll0, PyData.canLayAll0, PyData.canLayAll0, PyData.canLay0, PyData.canLay0, this.1, this.2]; rfl
omit rt0 in
theorem depth_pr (p : Str × Str) : (pr p).depth = 1 := by
 rw [PyData.depth, PyData.depthAll, PyData.depthAll, PyData.depthAll, PyData.depth, PyData.depth]; rfl
theorem readsAll_app {h : Heap} : ∀ {ds : List PyData} {vs ws : List Value} {es : List PyData}, ReadsAll h vs ds [] → ReadsAll h ws es [] → ReadsAll h (vs ++ ws) (ds ++ es) []
 | [], _, _, _, a, b => by
  cases readsAll_nil a
  exact b
 | d :: ds, _, _, _, a, b => by
  obtain ⟨v, vs', rfl, r1, r2⟩ := readsAll_cons a
  exact .cons (as := []) (bs := []) r1 (readsAll_app r2 b)
omit rt0 in
theorem nm_str {x : Str} (t : Tok) {h : Heap} : Reads h (.str x t) (.str x) [] := .str x t
section
variable {A : Around} {E : Value → Shared → Prop} {h : Heap} {tk : Nat} {Q : Value → Shared → Prop}
theorem c_follow {m : Md} {n : Nat} (W : Wf m) (WC : ∀ n', n = n' + 1 → WalkC m n') : FollowC m n := by
 intro A E h tk Q P x u owner name space to tn ts ns seen sv C M U N ho hn hk S So hs k hE
 have U' := U
 fin_once o1 fail
 obtain ⟨_, tns, sp', hu, Iu, hsp, ru⟩ := U'
 fin_once o2 fail
 cases hu
 refine fnEc (nf := 52) (vals := [.ref x, .str owner to, .str name tn, .ref u, .str space ts, sv]) ["self", "owner", "name", "use", "space", "seen"] [] ["len", "MOST_USES", "NameFault"] C (by k_is) (by k_is) (BindsTo.of_eq rfl) rfl (by decide +kernel) (by decide +kernel) rfl rfl rfl rfl (by decide) (N := followF m seen n owner name ns space = none) (fun e s' q r => hE e s' q r) ?_
 intro env L h₁ tk₁ F H hc T R E' hE'
 dsimp only [List.cons_append, List.nil_append, List.map] at F H
 have Iu' := Iu.ins
 have hn1 := hn.1
 have M' := M
 fin_once o1 fail
 obtain ⟨_, _, _, _, _, I, _⟩ := M'
 fin_once o2 fail
 have I' := I.ins
 fin_once g2 fail
 refine w_newTuple H (by fin_once sm fail) fun h₂ H₂ c₂ t₂ => ?_
 fin_once g2 fail
 obtain ⟨sl, sit, rfl, hsl, rsl⟩ := S.ch (H₂.ch h (.head _))
 have rp : Rd h₂ (.ref h₁.objs.size) (pr (owner, name)) := Reads.tuple (as := []) t₂.choose_spec.1 t₂.choose_spec.2.1 t₂.choose_spec.2.2.choose_spec (.cons (as := []) (bs := []) (.str _ _) (.cons (as := []) (bs := []) (.str _ _) .nil))
 refine w_inL (Reads.list hsl.choose_spec.1 hsl.choose_spec.2.1 hsl.choose_spec.2.2.choose_spec rsl) rp (canLay_pr So.ok) ?_ ?_ ?_
 ·rw [PyData.canLay0, PyData.canLayAll0, PyData.canLayAll0, PyData.canLayAll0, PyData.canLay0, PyData.canLay0, ho.2, hn.2]; rfl
 ·rw [depth_pr]; exact R.un1 rfl
 rw [any_pr]
 have lsz : sit.size = seen.length := by rw [← Array.length_toList, readsAll_len rsl, List.length_map]
 by_cases hm : (owner, name) ∈ seen
 ·rw [decide_eq_true hm]
  have hN : followF m seen n owner name ns space = none := by
   cases n with
   | zero => rfl
   | succ n => show (if (owner, name) ∈ seen then none else _) = _; rw [if_pos hm]
  fin_once g2 fail
  refine w_Raise (L := L) (gs := []) (ks := []) (bsh := [h]) f_base ?_ (fun e s' r => hE' _ _ ⟨hN, r⟩)
  fin_once g2 fail
  refine c_fault (H₂.cx T (.head _) R (by fin_once om fail)) fun e h' tk' c ne ff N' => w_raiseC H₂ c ne ff N' (f_cls ((T.ch (H₂.ch h (.head _))).ch c).k)
 ·rw [decide_eq_false hm]
  fin_once g2 fail
  refine w_len_list hsl (by have := So.len; fin_once om fail) fun u3 tk3 => ?_
  rw [lsz]
  fin_once g2 fail
  cases n with
  | zero =>
   have hl := So.len
   rw [decide_eq_true (by fin_once om fail)]
   fin_once g2 fail
   refine w_Raise (L := L) (gs := []) (ks := []) (bsh := [h]) f_base ?_ (fun e s' r => hE' _ _ ⟨rfl, r⟩)
   fin_once g2 fail
   refine c_fault (H₂.cx T (.head _) R (by fin_once om fail)) fun e h' tk' c ne ff N' => w_raiseC H₂ c ne ff N' (f_cls ((T.ch (H₂.ch h (.head _))).ch c).k)
  | succ n =>
   have hl := So.len
   rw [decide_eq_false (by fin_once om fail)]
   fin_once g2 fail
   refine w_newTuple H₂ (by fin_once sm fail) fun h₃ H₃ c₃ t₃ => ?_
   fin_once g2 fail
   refine w_newList H₃ (by fin_once sm fail) fun h₄ H₄ c₄ l₄ n₄ => ?_
   fin_once g2 fail
   refine w_addL H₄ (isList_ch (isList_ch hsl c₃) c₄) l₄ (by rw [lsz]; simp; fin_once om fail) fun h₅ H₅ c₅ l₅ n₅ => ?_
   fin_once g2 fail
   have c5 := H₅.ch h (.head _)
   have S' : SeenAt h₅ (.ref h₄.objs.size) (seen ++ [(owner, name)]) := by
    refine ⟨_, _, rfl, l₅, ?_⟩
    rw [List.map_append, Array.toList_append]
    have r1 : ReadsAll h₅ sit.toList (seen.map pr) [] := readsAll_ch (readsAll_ch (readsAll_ch rsl c₃) c₄) c₅
    have r2 : Rd h₃ (.ref h₂.objs.size) (pr (owner, name)) := Reads.tuple (as := []) t₃.choose_spec.1 t₃.choose_spec.2.1 t₃.choose_spec.2.2.choose_spec (.cons (as := []) (bs := []) (.str _ _) (.cons (as := []) (bs := []) (.str _ _) .nil))
    exact readsAll_app r1 (.cons (as := []) (bs := []) ((r2.ch c₄).ch c₅) .nil)
   refine WC n rfl (P := P) (H₅.cx T (.head _) R (by fin_once om fail)) (M.tr c5.tr) (ru.ch c5) N ho hk S' ⟨by rw [List.length_append]; simp; fin_once om fail, fun p m => ?_⟩ hs (fun r t h' tk' c e1 e2 => ?_) fun e s' e1 r => ?_
   ·rcases List.mem_append.mp m with m | m
    ·exact So.ok p m
    ·rw [List.mem_singleton.mp m]
     exact ⟨ho.2, hn.2⟩
   ·fin_once g2 fail
    refine k _ _ _ _ (c5.trans c) ?_ e2
    show (if (owner, name) ∈ seen then none else _) = _
    rw [if_neg hm]; exact e1
   ·refine hE' _ _ ⟨?_, r.esc H₅⟩
    show (if (owner, name) ∈ seen then none else _) = _
    rw [if_neg hm]; exact e1
end
section
variable (m : Md) (n : Nat)
noncomputable def StepC : Prop := ∀ {A : Around} {E : Value → Shared → Prop} {h : Heap} {tk : Nat} {Q : Value → Shared → Prop} {P : Addr → Prop} {x : Addr} {module here name space : Str} {tm tn ts : Tok} {seen : List (Str × Str)} {hv sp sv : Value},
 Cx (Mine.hd.heap_1 w.params) A h (4 * n + 7) → MdAt P h x m → (at? m.kinds here).isSome = true → Nm name → SeenAt h sv seen → SeenOk n seen → Nm space →
 ((∃ t, hv = .str here t) ∨ (hv = .none ∧ here = module ∧ name ∉ preL)) →
 (∀ v h' tk', Ch [] h h' → ((v = .none ∧ lookF m (followF m seen n) here name space = some none) ∨ ∃ r t, v = .str r t ∧ lookF m (followF m seen n) here name space = some (some r) ∧ (at? m.kinds r).isSome = true) → Q v (St s h' tk')) →
 (∀ e s', lookF m (followF m seen n) here name space = none → Rse 52 A [h] e s' → E e s') →
 wpAny (model prog w) A (call (.ref 226) [.ref x, .str module tm, hv, .str name tn, .str space ts, sp, sv]) Q E (St s h tk)
end
section
variable {A : Around} {E : Value → Shared → Prop} {h : Heap} {tk : Nat} {Q : Value → Shared → Prop}
theorem c_step {m : Md} {n : Nat} (LC : LookC m n) : StepC m n := by
 intro A E h tk Q P x module here name space tm tn ts seen hv sp sv C M ho hn S So hs HV k hE
 have M' := M
 fin_once o1 fail
 obtain ⟨_, _, _, _, _, I, _⟩ := M'
 fin_once o2 fail
 have I' := I.ins
 refine fnEc (nf := 52) (vals := [.ref x, .str module tm, hv, .str name tn, .str space ts, sp, sv]) ["self", "module", "here", "name", "space", "spot", "seen"] ["found"] ["PRELUDE_NAMES"] C (by k_is) (by k_is) (BindsTo.of_eq rfl) rfl (by decide +kernel) (by decide +kernel) rfl rfl rfl rfl (by decide) (N := lookF m (followF m seen n) here name space = none) (fun e s' q r => hE e s' q r) ?_
 intro env L h₁ tk₁ F H hc T R E' hE'
 dsimp only [List.cons_append, List.nil_append, List.map] at F H
 rcases HV with ⟨t, rfl⟩ | ⟨rfl, rfl, hp⟩
 ·fin_once g2 fail
  refine LC (P := P) (H.cx T (.head _) R (by fin_once om fail)) (M.tr hc.tr) ho hn (S.ch hc) So hs (fun v h' tk' c e => ?_) fun e s' q r => hE' _ _ ⟨q, r.esc H⟩
  fin_once g2 fail
  exact k _ _ _ (hc.trans c) e
 ·fin_once g2 fail
  refine LC (P := P) (H.cx T (.head _) R (by fin_once om fail)) (M.tr hc.tr) ho hn (S.ch hc) So hs (fun v h' tk' c e => ?_) fun e s' q r => hE' _ _ ⟨q, r.esc H⟩
  have H₂ := H.keep c
  rcases e with ⟨rfl, e⟩ | ⟨r, t, rfl, e, e'⟩
  ·fin_once g2 fail
   rename At _ _ _ _ _ _ _ => H₃
   refine w_inT (g_pre (T.ch (H₃.ch h (.head _))).k) (.str _ _) (canLay_strs pre_ok) hn.2 ?_ ?_
   ·exact R.un1 rfl
   rw [any_strs, decide_eq_false hp]
   fin_once g2 fail
   exact k _ _ _ (H₃.ch h (.head _)) (.inl ⟨rfl, e⟩)
  ·fin_once g2 fail
   rename At _ _ _ _ _ _ _ => H₃
   exact k _ _ _ (H₃.ch h (.head _)) (.inr ⟨_, _, rfl, e, e'⟩)
end
omit rt0 in
theorem startF_crate (module : Str) (r : List Str) : startF module (Str.ofString "crate" :: r) = (Str.ofString "", r) := by simp [startF]
omit rt0 in
theorem startF_self (module : Str) (r : List Str) : startF module (Str.ofString "self" :: r) = (module, r) := by
 simp only [startF]
 rw [if_neg (by decide)]
 rfl
omit rt0 in
theorem startF_rel (module y : Str) (r : List Str) (h : y ∉ waysL) : startF module (y :: r) = (module, y :: r) := by
 simp only [startF]
 have h1 : ¬ y = Str.ofString "crate" := fun q => h (by rw [q]; decide)
 have h2 : ¬ y = Str.ofString "self" := fun q => h (by rw [q]; decide)
 rw [if_neg h1, if_neg h2]
omit rt0 in
theorem loopF_cons (m : Md) (fol : Str → Str → List Str → Str → Option Str) (sp here y : Str) (r : List Str) : loopF m fol sp here (y :: r) = match lookF m fol here y (if r = [] then sp else Str.ofString "type") with | some (some p) => loopF m fol sp p r | _ => none := rfl
omit rt0 in
theorem loopF_nil {m : Md} {fol : Str → Str → List Str → Str → Option Str} {sp here : Str} : loopF m fol sp here [] = if sp = Str.ofString "value" ∧ isMod m here = true then none else some here := rfl
theorem k4_dir {hv : Value} {here module y : Str} {l r1 : List Str} (hd : l = y :: r1) (k4 : (∃ t, hv = .str here t) ∨ (hv = .none ∧ here = module ∧ ∃ y r, l = y :: r ∧ y ∉ preL)) : (∃ t, hv = .str here t) ∨ (hv = .none ∧ here = module ∧ y ∉ preL) := by
 rcases k4 with k | ⟨a, b, y', r2, e, hp⟩
 ·exact .inl k
 ·rw [hd] at e
  cases e
  exact .inr ⟨a, b, hp⟩
inductive IWk (A' : Around) (L : Addr) (h : Heap) (x tns : Addr) (m : Md) (n : Nat) (module space : Str) (to ts : Tok) (ns : List Str) (seen : List (Str × Str)) (sp sv : Value) : Nat → Shared → Prop
 | mk {i : Nat} {here : Str} {hv : Value} {u : Tok} {o1 o2 : Option Value} {h' : Heap} {tk' : Nat} (H : At A' [h] L ["self", "module", "names", "space", "spot", "seen", "here", "at", "wanted", "found"] [] [some (.ref x), some (.str module to), some (.ref tns), some (.str space ts), some sp, some sv, some hv, some (.int i u), o1, o2] h') (k1 : loopF m (followF m seen n) space here (ns.drop i) = walkF m n module ns space seen) (k2 : (at? m.kinds here).isSome = true) (k3 : i ≤ ns.length) (k4 : (∃ t, hv = .str here t) ∨ (hv = .none ∧ here = module ∧ ∃ y r, ns.drop i = y :: r ∧ y ∉ preL)) :
   IWk A' L h x tns m n module space to ts ns seen sp sv (ns.length - i) (St s h' tk')
section
variable {A : Around} {E : Value → Shared → Prop} {h : Heap} {tk : Nat} {Q : Value → Shared → Prop}
theorem c_walk {m : Md} {n : Nat} (W : Wf m) (SC : StepC m n) : WalkC m n := by
 intro A E h tk Q P x tns module space to ts ns seen sp sv C M r N hmo hmk S So hs k hE
 have M' := M
 fin_once o1 fail
 obtain ⟨dk, _, _, _, _, I, Dk, _⟩ := M'
 fin_once o2 fail
 have I' := I.ins
 refine fnEc (nf := 52) (vals := [.ref x, .str module to, .ref tns, .str space ts, sp, sv]) ["self", "module", "names", "space", "spot", "seen"] ["here", "at", "wanted", "found"] ["len", "NameFault"] C (by k_is) (by k_is) (BindsTo.of_eq rfl) rfl (by decide +kernel) (by decide +kernel) rfl rfl rfl rfl (by decide) (N := walkF m n module ns space seen = none) (fun e s' q r => hE e s' q r) ?_
 intro env L h₁ tk₁ F H hc T R E0 hE0
 dsimp only [List.cons_append, List.nil_append, List.map] at F H
 fin_once g2 fail
 refine c_begin (H.cx T (.head _) R (by fin_once om fail)) N (r.ch hc) fun a hv i u h₂ tk₂ c₂ t₂ bv => ?_
 refine w_assignT2 (H.keep c₂) F t₂ (by fin_once lk fail) (by fin_once lk fail) fun h₃ tk₃ H₃ => ?_
 fin_once nx fail
 have key : ∃ here, loopF m (followF m seen n) space here (ns.drop i) = walkF m n module ns space seen ∧ (at? m.kinds here).isSome = true ∧ i ≤ ns.length ∧ ((∃ t, hv = .str here t) ∨ (hv = .none ∧ here = module ∧ ∃ y r, ns.drop i = y :: r ∧ y ∉ preL)) := by
  rw [walkF_eq]
  rcases bv with ⟨r', t, rfl, rfl, rfl⟩ | ⟨y, r', t, rfl, rfl, rfl⟩ | ⟨y, r', rfl, h1, h2, rfl, rfl⟩
  ·rw [startF_crate]
   exact ⟨Str.ofString "", rfl, by rw [W.root]; rfl, by fin_once sm fail, .inl ⟨t, rfl⟩⟩
  ·rw [startF_self]
   exact ⟨module, rfl, hmk, by fin_once sm fail, .inl ⟨t, rfl⟩⟩
  ·rw [startF_rel _ _ _ h1]
   exact ⟨module, rfl, hmk, by fin_once sm fail, .inr ⟨rfl, rfl, y, r', rfl, h2⟩⟩
 refine w_WhileE F hE0 (IWk (A.deeper env) L h x tns m n module space to ts ns seen sp sv) (ns.length - i) ?_ fun n' s' hI T' hT E' hE' => ?_
 ·fin_once o1 fail
  obtain ⟨here, k1, k2, k3, k4⟩ := key
  fin_once o2 fail
  exact .mk H₃ k1 k2 k3 k4
 clear key bv H₃ t₂
 induction hI
 rename_i i here hv u o1 o2 h' tk' H' k1 k2 k3 k4
 have r' := r.ch (H'.ch h (.head _))
 have nl := N.len
 fin_once g2 fail
 refine w_lenT r' (names_len N) fun u3 tk3 => ?_
 fin_once g2 fail
 rw [List.length_map]
 by_cases hi : i < ns.length
 ·rw [decide_eq_true (by fin_once om fail)]
  obtain ⟨y, r1, hd⟩ : ∃ y r1, ns.drop i = y :: r1 := ⟨ns[i], ns.drop (i + 1), List.drop_eq_getElem_cons hi⟩
  have hy : ns[i]? = some y := by
   have := congrArg (·[0]?) hd
   simpa using this
  have hr1 : ns.drop (i + 1) = r1 := by
   have := congrArg List.tail hd
   simpa using this
  have hyn : Nm y := N.nm y (List.mem_of_getElem? hy)
  fin_once g2 fail
  refine w_lenT r' (names_len N) fun u4 tk4 => ?_
  rw [List.length_map]
  fin_once g2 fail
  refine w_eq_int ?_
  have el : ns.length - i = r1.length + 1 := by
   have := congrArg List.length hd
   rw [List.length_drop] at this
   simpa using this
  have en : ns.length = r1.length + 1 + i := Nat.eq_add_of_sub_eq (Nat.le_of_lt hi) el
  by_cases hr : r1 = []
  ·rw [show ((i : Int) + 1 == (ns.length : Int)) = true from beq_iff_eq.mpr (show (((i + 1 : Nat) : Int) = _) from congrArg Int.ofNat (by rw [en, hr, List.length_nil, Nat.zero_add, Nat.add_comm]))]
   fin_once g2 fail
   rename At _ _ _ _ _ _ _ => H₄
   refine w_nth i (r.ch (H₄.ch h (.head _))) (by rw [List.getElem?_map, hy]; rfl) (names_len N) (fun v rv => ?_) (by with_unfolding_all rfl)
   refine rv.strE fun t6 rv => ?_
   fin_once g2 fail
   rename At _ _ _ _ _ _ _ => H₅
   have c5 := H₅.ch h (.head _)
   refine SC (P := P) (here := here) (H₅.cx T (.head _) R (by fin_once om fail)) (M.tr c5.tr) k2 hyn (S.ch c5) So hs (k4_dir hd k4) (fun v h6 tk6 c e => ?_) fun e s' q r => hE' _ _ ⟨by rw [← k1, hd, loopF_cons, if_pos hr, q], r.esc H₅⟩
   have H₆ := H₅.keep c
   rcases e with ⟨rfl, e⟩ | ⟨p, t, rfl, e, e'⟩
   ·have hN : walkF m n module ns space seen = none := by rw [← k1, hd, loopF_cons, if_pos hr, e]
    fin_once g2 fail
    rename At _ _ _ _ _ _ _ => H₇
    refine w_Raise (L := L) (gs := []) (ks := []) (bsh := [h]) f_base ?_ (fun e s' r => hE' _ _ ⟨hN, r⟩)
    fin_once g2 fail
    refine w_joinT (r.ch (H₇.ch h (.head _))) (fun y m => (N.nm y m).1) (by rw [l_col]; decide) N.len fun jy jt jk jl => ?_
    fin_once g2 fail
    refine c_fault (H₇.cx T (.head _) R (by fin_once om fail)) fun e h' tk' c ne ff N' => w_raiseC H₇ c ne ff N' (f_cls ((T.ch (H₇.ch h (.head _))).ch c).k)
   ·fin_once g2 fail
    rename At _ _ _ _ _ _ _ => H₇
    refine w_newTuple H₇ (by fin_once sm fail) fun h₈ H₈ c₈ t₈ => ?_
    refine w_unpack2 H₈ F t₈ (by fin_once lk fail) (by fin_once lk fail) fun h₉ tk₉ H₉ => ?_
    fin_once g2 fail
    refine tn_next (m := ns.length - (i + 1)) (by fin_once om fail) (.mk (i := i + 1) (here := p) H₉ ?_ e' (by fin_once om fail) (.inl ⟨t, rfl⟩))
    rw [hr1, ← k1, hd, loopF_cons, if_pos hr, e]
  ·rw [show ((i : Int) + 1 == (ns.length : Int)) = false from beq_eq_false_iff_ne.mpr (fun q => hr (List.length_eq_zero_iff.mp (Nat.succ.inj (Nat.add_right_cancel (((Nat.add_comm 1 i).trans (Int.ofNat.inj q)).trans en))).symm))]
   fin_once g2 fail
   rename At _ _ _ _ _ _ _ => H₄
   refine w_nth i (r.ch (H₄.ch h (.head _))) (by rw [List.getElem?_map, hy]; rfl) (names_len N) (fun v rv => ?_) (by with_unfolding_all rfl)
   refine rv.strE fun t6 rv => ?_
   fin_once g2 fail
   rename At _ _ _ _ _ _ _ => H₅
   have c5 := H₅.ch h (.head _)
   refine SC (P := P) (here := here) (H₅.cx T (.head _) R (by fin_once om fail)) (M.tr c5.tr) k2 hyn (S.ch c5) So ⟨by decide +kernel, by decide +kernel⟩ (k4_dir hd k4) (fun v h6 tk6 c e => ?_) fun e s' q r => hE' _ _ ⟨by rw [← k1, hd, loopF_cons, if_neg hr, q], r.esc H₅⟩
   have H₆ := H₅.keep c
   rcases e with ⟨rfl, e⟩ | ⟨p, t, rfl, e, e'⟩
   ·have hN : walkF m n module ns space seen = none := by rw [← k1, hd, loopF_cons, if_neg hr, e]
    fin_once g2 fail
    rename At _ _ _ _ _ _ _ => H₇
    refine w_Raise (L := L) (gs := []) (ks := []) (bsh := [h]) f_base ?_ (fun e s' r => hE' _ _ ⟨hN, r⟩)
    fin_once g2 fail
    refine w_joinT (r.ch (H₇.ch h (.head _))) (fun y m => (N.nm y m).1) (by rw [l_col]; decide) N.len fun jy jt jk jl => ?_
    fin_once g2 fail
    refine c_fault (H₇.cx T (.head _) R (by fin_once om fail)) fun e h' tk' c ne ff N' => w_raiseC H₇ c ne ff N' (f_cls ((T.ch (H₇.ch h (.head _))).ch c).k)
   ·fin_once g2 fail
    rename At _ _ _ _ _ _ _ => H₇
    refine w_newTuple H₇ (by fin_once sm fail) fun h₈ H₈ c₈ t₈ => ?_
    refine w_unpack2 H₈ F t₈ (by fin_once lk fail) (by fin_once lk fail) fun h₉ tk₉ H₉ => ?_
    fin_once g2 fail
    refine tn_next (m := ns.length - (i + 1)) (by fin_once om fail) (.mk (i := i + 1) (here := p) H₉ ?_ e' (by fin_once om fail) (.inl ⟨t, rfl⟩))
    rw [hr1, ← k1, hd, loopF_cons, if_neg hr, e]
 ·rw [decide_eq_false (fun q => hi (Int.ofNat_lt.mp q))]
  have hd : ns.drop i = [] := List.drop_eq_nil_of_le (Nat.le_of_not_lt hi)
  rw [hd] at k1 k4
  have he : ∃ t, hv = .str here t := k4.resolve_right fun ⟨_, _, _, _, q, _⟩ => nomatch q
  obtain ⟨t, rfl⟩ := he
  have lf : walkF m n module ns space seen = if space = Str.ofString "value" ∧ isMod m here = true then none else some here := k1.symm
  obtain ⟨kd, hkd⟩ := Option.isSome_iff_exists.mp k2
  fin_once g2 fail
  by_cases hv : space = Str.ofString "value"
  ·rw [show (space == Str.ofString "value") = true from beq_iff_eq.mpr hv]
   fin_once g2 fail
   refine w_ditemB Dk H' (.head _) hkd (fun v tk' rv => ?_) (by with_unfolding_all rfl)
   obtain ⟨t7, rfl⟩ := rv
   by_cases hm : kd = Str.ofString "mod"
   ·have hN : walkF m n module ns space seen = none := by rw [lf, if_pos ⟨hv, by unfold isMod; rw [hkd, hm]; simp⟩]
    subst hm
    fin_once g2 fail
    refine w_Raise (L := L) (gs := []) (ks := []) (bsh := [h]) f_base ?_ (fun e s' r => hE0 _ _ ⟨hN, r⟩)
    fin_once g2 fail
    refine w_joinT r' (fun y m => (N.nm y m).1) (by rw [l_col]; decide) N.len fun jy jt jk jl => ?_
    fin_once g2 fail
    refine c_fault (H'.cx T (.head _) R (by fin_once om fail)) fun e h' tk' c ne ff N' => w_raiseC H' c ne ff N' (f_cls ((T.ch (H'.ch h (.head _))).ch c).k)
   ·have hN : walkF m n module ns space seen = some here := by rw [lf, if_neg fun q => hm (by have := q.2; unfold isMod at this; rw [hkd] at this; simpa using this)]
    fin_once g2 fail
    exact k _ _ _ _ (H'.ch h (.head _)) hN k2
  ·have hN : walkF m n module ns space seen = some here := by rw [lf, if_neg fun q => hv q.1]
   rw [show (space == Str.ofString "value") = false from beq_eq_false_iff_ne.mpr hv]
   fin_once g2 fail
   exact k _ _ _ _ (H'.ch h (.head _)) hN k2
theorem find_all {m : Md} (W : Wf m) : ∀ n, WalkC m n
 | 0 => c_walk W (c_step (c_look W (c_follow W fun _ q => absurd q (by fin_once om fail))))
 | n + 1 => c_walk W (c_step (c_look W (c_follow W fun n' q => by cases q; exact find_all W n)))
end
section
variable {A : Around} {E : Value → Shared → Prop} {h : Heap} {tk : Nat} {Q : Value → Shared → Prop}
theorem c_find {P : Addr → Prop} {m : Md} {x : Addr} {module space : Str} {to ts : Tok} {ns : List Str} {v : Value} (W : Wf m) (C : Cx (Mine.hd.heap_1 w.params) A h 130) (M : MdAt P h x m) (r : Rd h v (strsD ns)) (N : NamesOk ns) (hmo : Pa module) (hmk : (at? m.kinds module).isSome = true) (hs : Nm space)
  (k : ∀ r t h' tk', Ch [] h h' → findF m module ns space = some r → Q (.str r t) (St s h' tk'))
  (hE : ∀ e s', findF m module ns space = none → Rse 52 A [h] e s' → E e s') :
  wpAny (model prog w) A (call (.ref 205) [.ref x, .str module to, v, .str space ts]) Q E (St s h tk) := by
 have M' := M
 fin_once o1 fail
 obtain ⟨dk, _, _, _, _, I, Dk, _⟩ := M'
 fin_once o2 fail
 have I' := I.ins
 obtain ⟨tns, its, rfl, ht, rits⟩ := r.tuple
 refine fnEc (nf := 52) (vals := [.ref x, .str module to, .ref tns, .str space ts, .int 0 476]) ["self", "module", "names", "space", "spot"] [] ["tuple"] C (by k_is) (by k_is) (BindsTo.of_defaults (T := 198) rfl (C.t.k 198 _ (by k_is)) rfl rfl rfl) rfl (by decide +kernel) (by decide +kernel) rfl rfl rfl rfl (by decide) (N := findF m module ns space = none) (fun e s' q r => hE e s' q r) ?_
 intro env L h₁ tk₁ F H hc T R E' hE'
 dsimp only [List.cons_append, List.nil_append, List.map] at F H
 fin_once g2 fail
 refine call_tuple_tup (isTup_ch ht hc) ?_
 fin_once g2 fail
 refine w_newList H (by fin_once sm fail) fun h₂ H₂ c₂ l₂ n₂ => ?_
 fin_once g2 fail
 have c2 := H₂.ch h (.head _)
 refine find_all W 30 (P := P) (H₂.cx T (.head _) R (by fin_once om fail)) (M.tr c2.tr) (r.ch c2) N hmo hmk ⟨_, _, rfl, l₂, .nil⟩ ⟨rfl, fun p m => by simp at m⟩ hs (fun q t h' tk' c e1 e2 => ?_) fun e s' e1 q => hE' _ _ ⟨e1, q.esc H₂⟩
 fin_once g2 fail
 exact k _ _ _ _ (c2.trans c) e1
end
section
variable {A : Around} {E : Value → Shared → Prop} {h : Heap} {tk : Nat} {Q : Value → Shared → Prop}
noncomputable def ToldV (v : Value) (r : Option Str) : Prop := (r = none ∧ v = .none) ∨ ∃ x t, r = some x ∧ v = .str x t
theorem c_told {P : Addr → Prop} {m : Md} {x : Addr} {module space : Str} {to ts : Tok} {ns : List Str} {v : Value} (W : Wf m) (C : Cx (Mine.hd.heap_1 w.params) A h 131) (hh : A.handled = none) (M : MdAt P h x m) (r : Rd h v (strsD ns)) (N : NamesOk ns) (hmo : Pa module) (hmk : (at? m.kinds module).isSome = true) (hs : Nm space)
  (k : ∀ v h' tk', Ch [] h h' → ToldV v (findF m module ns space) → Q v (St s h' tk')) :
  wpAny (model prog w) A (call (.ref 339) [.ref x, .str module to, v, .str space ts]) Q E (St s h tk) := by
 have M' := M
 fin_once o1 fail
 obtain ⟨dk, _, _, _, _, I, Dk, _⟩ := M'
 fin_once o2 fail
 have I' := I.ins
 refine fn0c (vals := [.ref x, .str module to, v, .str space ts]) ["modules", "module", "names", "space"] [] ["NameFault"] C (by k_is) (by k_is) (BindsTo.of_eq rfl) rfl (by decide +kernel) (by decide +kernel) rfl rfl rfl rfl (by decide) ?_
 intro env L h₁ tk₁ F H hc T R
 dsimp only [List.cons_append, List.nil_append, List.map] at F H
 refine w_seq ?_
 refine w_Try (N := findF m module ns space = none) (E' := No) H F T (.head _) hh (.head _) f_glob (fun h' X => f_cls X) f_base (by decide) ?_ (fun a => no_through) fun n a g' h' tk' y1 H' c' y2 => ?_
 ·fin_once g2 fail
  refine c_find W (H.cx T (.head _) R (by fin_once om fail)) (M.tr hc.tr) (r.ch hc) N hmo hmk hs (fun q t h' tk' c e => ?_) fun e s' q rr => ⟨q, rr.esc0 H.ff⟩
  fin_once g2 fail
  exact k _ _ _ (hc.trans c) (.inr ⟨_, _, e, rfl⟩)
 ·fin_once g2 fail
  exact k _ _ _ (hc.trans c') (.inl ⟨n, rfl⟩)
end
section
variable {A : Around} {E : Value → Shared → Prop} {h : Heap} {bs : List Heap} {tk : Nat} {env : Env} {L : Addr} {ks : List Str} {cs cs' : List Cell} {vs : List (Option Value)} {Q : Value → Shared → Prop} {a b : Int} {t u : Tok}
theorem w_sub_int (k : ∀ t' tk', Q (.int (a - b) t') (St s h tk')) : wpAny (model prog w) A (binaryOp .Sub (.int a t) (.int b u)) Q E (St s h tk) := PySem.P.sub_int (k _ _)
theorem w_mul_int (hm : IntMulOk a b) (k : ∀ t' tk', Q (.int (a * b) t') (St s h tk')) : wpAny (model prog w) A (binaryOp .Mult (.int a t) (.int b u)) Q E (St s h tk) := PySem.P.mul_int (hm := hm) (k _ _)
theorem w_mod_int (hb : b ≠ 0) (k : ∀ t' tk', Q (.int (a.fmod b) t') (St s h tk')) : wpAny (model prog w) A (binaryOp .Mod (.int a t) (.int b u)) Q E (St s h tk) := mod_int' hb (k _ _)
theorem w_div_int (h0 : 0 < b) (hb : b ≤ 1073741000) (k : ∀ t' tk', Q (.int (a.fdiv b) t') (St s h tk')) : wpAny (model prog w) A (binaryOp .FloorDiv (.int a t) (.int b u)) Q E (St s h tk) := PyProof.Rows.floordiv_int (by fin_once om fail) (k _ _) (.inl (PyProof.noPylong_small (by fin_once om fail)))
theorem w_neg_int (k : ∀ t' tk', Q (.int (-a) t') (St s h tk')) : wpAny (model prog w) A (unaryOp .USub (.int a t)) Q E (St s h tk) := PyProof.Rows.neg_int (k _ _)
theorem w_int_int (k : Q (.int a t) (St s h tk)) : wpAny (model prog w) A (call (.type "int") [.int a t]) Q E (St s h tk) := PySem.call_int_int k
theorem w_int_bool {c : Bool} (k : ∀ t' tk', Q (.int (if c then 1 else 0) t') (St s h tk')) : wpAny (model prog w) A (call (.type "int") [.bool c]) Q E (St s h tk) := PySem.call_int_bool (k _ _)
theorem w_max2 (hh : A.handled = none) (H : At A bs L ks cs vs h) (k : ∀ v h' tk', At A bs L ks cs vs h' → Ch [] h h' → Q (if b > a then .int b v else .int a v) (St s h' tk')) : wpAny (model prog w) A (call (.builtin "max") [.int a t, .int b u]) Q E (St s h tk) :=
 max_two_ints hh fun h' tk' kp => by
  have c : Ch [] h h' := Ch.of_keeps kp
  by_cases q : b > a
  ·rw [if_pos q]
   have := k u h' tk' (H.keep c) c
   rwa [if_pos q] at this
  ·rw [if_neg q]
   have := k t h' tk' (H.keep c) c
   rwa [if_neg q] at this
theorem w_LOget {value slice : PySem.Expr} {l : Addr} {ys : List Value} {i : Nat} {x : Value} {ops : List Value} (H : At A bs L ks cs vs h) (m : (l, LO ys) ∈ cs) (hx : ys[i]? = some x) (hz : ys.length ≤ 10000) (k : Q x (St s h tk))
  (hs : subscripted slice false (.ref l) (.int i u) = operate ops (getItem (.ref l) (.int i u))) : wpAny (model prog w) A (subscriptTail value slice (.ref l) (.int i u)) Q E (St s h tk) := by
 refine H.cells.getK m fun o e pk2 _ => ?_
 obtain ⟨c, n, d⟩ := pk2
 have hl : (St s h tk).heap.IsList l ys.toArray := ⟨o, e, c, n, d⟩
 have hi := (List.getElem?_eq_some_iff.mp hx).1
 exact tail_any hl.typeIs slot_list_getitem.lookup (wpAny_getItem_list hl (by fin_once om fail) (by fin_once om fail) (by simpa using hx) k) hs
theorem w_Lget {value slice : PySem.Expr} {l : Addr} {its : Array Value} {i : Nat} {x : Value} {ops : List Value} (hl : h.IsList l its) (hx : its[i]? = some x) (hz : its.size ≤ 10000) (k : Q x (St s h tk))
  (hs : subscripted slice false (.ref l) (.int i u) = operate ops (getItem (.ref l) (.int i u))) : wpAny (model prog w) A (subscriptTail value slice (.ref l) (.int i u)) Q E (St s h tk) := by
 have hi := (Array.getElem?_eq_some_iff.mp hx).1
 have hl' : (St s h tk).heap.IsList l its := hl
 exact tail_any hl'.typeIs slot_list_getitem.lookup (wpAny_getItem_list hl' (by fin_once om fail) (by fin_once om fail) (by simpa using hx) k) hs
end
inductive Turn : List Cell → Addr → (Obj → Prop) → List Cell → Prop
 | head {a φ ψ cs} : Turn ((a, φ) :: cs) a ψ ((a, ψ) :: cs)
 | tail {a ψ cs cs' d} : Turn cs a ψ cs' → Turn (d :: cs) a ψ (d :: cs')
omit rt0 in
theorem Turn.split {cs cs' : List Cell} {a : Addr} {ψ : Obj → Prop} (h : Turn cs a ψ cs') : ∃ cs₁ cs₂ φ, cs = cs₁ ++ (a, φ) :: cs₂ ∧ cs' = cs₁ ++ (a, ψ) :: cs₂ := by
 induction h with
 | @head a φ ψ cs => exact ⟨[], cs, φ, rfl, rfl⟩
 | @tail a ψ cs cs' d _ ih =>
  obtain ⟨x, y, φ, rfl, rfl⟩ := ih
  exact ⟨d :: x, y, φ, rfl, rfl⟩
section
variable {A : Around} {E : Value → Shared → Prop} {h : Heap} {bs : List Heap} {tk : Nat} {env : Env} {L : Addr} {ks : List Str} {cs cs' : List Cell} {vs : List (Option Value)}
theorem At.turn' {a : Addr} {ψ : Obj → Prop} {h' : Heap} {o' : Obj} (H : At A bs L ks cs vs h) (T : Turn cs a ψ cs') (hs : Heap.SameBut a h h') (ha : h'.get? a = some o') (p : ψ o') (f : mutO o' = true) : At A bs L ks cs' vs h' := by
 obtain ⟨x, y, φ, rfl, rfl⟩ := T.split
 exact H.turn hs ha p f
theorem w_LOset {l : Addr} {ys : List Value} {i : Nat} {u : Tok} {v : Value} {Q : Unit → Shared → Prop} (H : At A bs L ks cs vs h) (m : (l, LO ys) ∈ cs) (T : Turn cs l (LO (ys.set i v)) cs') (hi : i < ys.length) (hz : ys.length ≤ 10000)
  (k : ∀ h', At A bs L ks cs' vs h' → Q () (St s h' tk)) : wpAny (model prog w) A (setItem (.ref l) (.int i u) v) Q E (St s h tk) := by
 refine H.cells.getK m fun o e pk2 _ => ?_
 obtain ⟨c, n, d⟩ := pk2
 have hl : (St s h tk).heap.IsList l ys.toArray := ⟨o, e, c, n, d⟩
 refine wpAny_setItem_list hl (by fin_once om fail) (by fin_once om fail) (by simp; fin_once om fail) fun h' hl' hs => ?_
 fin_once o1 fail
 obtain ⟨o', e', c', n', d'⟩ := hl'
 fin_once o2 fail
 refine k h' (H.turn' T hs e' ⟨c', n', ?_⟩ (mutO_list c'))
 rw [d']
 simp
end
section
variable {A : Around} {E : Value → Shared → Prop} {h : Heap} {bs : List Heap} {tk : Nat} {env : Env} {L : Addr} {ks : List Str} {cs cs' : List Cell} {vs : List (Option Value)} {u : Tok}
theorem w_LOget0 {value slice : PySem.Expr} {l : Addr} {x : Value} {ys : List Value} {ops : List Value} {Q : Value → Shared → Prop} (H : At A bs L ks cs vs h) (m : (l, LO (x :: ys)) ∈ cs) (hz : (x :: ys).length ≤ 10000) (k : Q x (St s h tk))
  (hs : subscripted slice false (.ref l) (.int 0 u) = operate ops (getItem (.ref l) (.int 0 u))) : wpAny (model prog w) A (subscriptTail value slice (.ref l) (.int 0 u)) Q E (St s h tk) := w_LOget (i := 0) H m rfl hz k hs
theorem w_LOget1 {value slice : PySem.Expr} {l : Addr} {x y : Value} {ys : List Value} {ops : List Value} {Q : Value → Shared → Prop} (H : At A bs L ks cs vs h) (m : (l, LO (y :: x :: ys)) ∈ cs) (hz : (y :: x :: ys).length ≤ 10000) (k : Q x (St s h tk))
  (hs : subscripted slice false (.ref l) (.int 1 u) = operate ops (getItem (.ref l) (.int 1 u))) : wpAny (model prog w) A (subscriptTail value slice (.ref l) (.int 1 u)) Q E (St s h tk) := w_LOget (i := 1) H m rfl hz k hs
theorem w_LOset0 {l : Addr} {x v : Value} {ys : List Value} {Q : Unit → Shared → Prop} (H : At A bs L ks cs vs h) (m : (l, LO (x :: ys)) ∈ cs) (T : Turn cs l (LO (v :: ys)) cs') (hz : (x :: ys).length ≤ 10000)
  (k : ∀ h', At A bs L ks cs' vs h' → Q () (St s h' tk)) : wpAny (model prog w) A (setItem (.ref l) (.int 0 u) v) Q E (St s h tk) := w_LOset (i := 0) H m T (by fin_once sm fail) hz k
theorem w_LOset1 {l : Addr} {x y v : Value} {ys : List Value} {Q : Unit → Shared → Prop} (H : At A bs L ks cs vs h) (m : (l, LO (y :: x :: ys)) ∈ cs) (T : Turn cs l (LO (y :: v :: ys)) cs') (hz : (y :: x :: ys).length ≤ 10000)
  (k : ∀ h', At A bs L ks cs' vs h' → Q () (St s h' tk)) : wpAny (model prog w) A (setItem (.ref l) (.int 1 u) v) Q E (St s h tk) := w_LOset (i := 1) H m T (by fin_once sm fail) hz k
end
omit rt0 in
theorem mulOk_r {a b : Int} (h1 : -(2 ^ 62) < b) (h2 : b < 2 ^ 62) : IntMulOk a b := .of_right (intBits_le_64 (by fin_once om fail) (by fin_once om fail))
omit rt0 in
theorem mulOk_l {a b : Int} (h1 : -(2 ^ 62) < a) (h2 : a < 2 ^ 62) : IntMulOk a b := .of_left (intBits_le_64 (by fin_once om fail) (by fin_once om fail))
noncomputable def PLO (ys : List Value) (o : Obj) : Prop := ∃ n, o = { cls := .type "list", dict := none, data := .seq ys.toArray n, slots := #[] }
omit rt0 in
theorem PLO.mut {ys : List Value} {o : Obj} (h : PLO ys o) : mutO o = true := by obtain ⟨n, rfl⟩ := h; rfl
omit rt0 in
theorem PLO.lo {ys : List Value} {o : Obj} (h : PLO ys o) : LO ys o := by obtain ⟨n, rfl⟩ := h; exact ⟨rfl, n, rfl⟩
theorem dct_nil : Dct [] { cls := .type "dict", data := .dict #[] } := by
 refine ⟨#[], 0, ⟨rfl, rfl, rfl⟩, rfl, ?_, .nil, List.nodup_nil⟩
 intro e he
 simp at he
section
variable {A : Around} {E : Value → Shared → Prop} {h : Heap} {bs : List Heap} {tk : Nat} {env : Env} {L : Addr} {ks : List Str} {cs cs' : List Cell} {vs : List (Option Value)} {K : Frag}
theorem w_listOf {l : Addr} {its : Array Value} {Q : Value → Shared → Prop} (H : At A bs L ks cs vs h) (hl : h.IsList l its ∨ IsTup h l its) (hz : its.size ≤ 10000)
  (k : ∀ h', At A bs L ks ((h.objs.size, PLO its.toList) :: cs) vs h' → Ch [] h h' → Q (.ref h.objs.size) (St s h' tk)) : wpAny (model prog w) A (call (.type "list") [.ref l]) Q E (St s h tk) := by
 have fin : ∀ h' c', (∀ b o', h.get? b = some o' → h'.get? b = some o') → h'.get? h.objs.size = some { cls := .type "list", dict := none, data := .seq its c', slots := #[] } → Q (.ref h.objs.size) (St s h' tk) := fun h' c' kp e => by
  have c : Ch [] h h' := Ch.of_keeps kp
  obtain ⟨oL, eL⟩ := H.frL
  refine k h' ((H.keep c).cell e ⟨c', by fin_once sm fail⟩ rfl (fun g m => none_new (H.ch g m) (Nat.le_refl _)) (fun d hd => ?_) (Nat.ne_of_gt (Heap.lt_size eL))) c
  obtain ⟨o, e, _⟩ := H.cells.all d hd
  exact Nat.ne_of_lt (Heap.lt_size e)
 have hz' : its.size ≤ sizeLine := Nat.le_trans hz (by decide)
 rcases hl with ⟨o, ho, hc, n, hd⟩ | ⟨o, ho, hc, n, hd⟩
 ·exact call_list_seq (s := St s h tk) (hsz := hz') l (.inl rfl) ho hc hd fin
 ·exact call_list_seq (s := St s h tk) (hsz := hz') l (.inr rfl) ho hc hd fin
theorem w_tupleOf {l : Addr} {its : Array Value} {Q : Value → Shared → Prop} (H : At A bs L ks cs vs h) (hl : h.IsList l its) (hz : its.size ≤ 10000)
  (k : ∀ t h', At A bs L ks cs vs h' → Ch [] h h' → IsTup h' t its → Q (.ref t) (St s h' tk)) : wpAny (model prog w) A (call (.type "tuple") [.ref l]) Q E (St s h tk) :=
 call_tuple_list (s := St s h tk) (hsz := Nat.le_trans hz (by decide)) hl fun h' kp => k _ _ (H.keep ((Ch.of_keeps kp).trans (Ch.push ..))) ((Ch.of_keeps kp).trans (Ch.push ..)) ⟨_, Heap.get?_push_size _ rfl, rfl, _, rfl⟩
theorem w_lmeth {l : Addr} {ys : List Value} {name : Str} {id : String} {pl : Sem Bool} {Q : Value × List Value → Shared → Prop} (H : At A bs L ks cs vs h) (m : (l, PLO ys) ∈ cs) (slot : Slot "list" name id) (hty : typeOf (.builtin id) = pure (.type "method_descriptor")) (k : Q (.builtin id, [.ref l]) (St s h tk)) :
  wpAny (model prog w) A (getMethod (.ref l) name pl) Q E (St s h tk) := by
 refine H.cells.getK m fun o e pk2 _ => ?_
 obtain ⟨n, rfl⟩ := pk2
 exact getMethod_builtin ⟨_, e, rfl⟩ PySem.F.plainAttrs_list slot hty (fun a q => by cases q; exact ⟨_, e, rfl⟩) k
theorem w_append {l : Addr} {ys : List Value} {x : Value} {Q : Value → Shared → Prop} (H : At A bs L ks cs vs h) (m : (l, PLO ys) ∈ cs) (T : Turn cs l (PLO (ys ++ [x])) cs') (hz : ys.length ≤ 10000)
  (k : ∀ h', At A bs L ks cs' vs h' → Q .none (St s h' tk)) : wpAny (model prog w) A (call (.builtin "list.append") [.ref l, x]) Q E (St s h tk) := by
 refine H.cells.getK m fun o e pk2 _ => ?_
 obtain ⟨n, rfl⟩ := pk2
 refine wpAny_list_append_plain (s := St s h tk) ⟨n, e⟩ (fun h' hl hs => ?_) (by rw [List.size_toArray]; exact Nat.le_trans hz (by decide))
 obtain ⟨n', e'⟩ := hl
 exact k h' (H.turn' T hs e' ⟨n', by fin_once sm fail⟩ rfl)
theorem w_pop {l : Addr} {ys : List Value} {x : Value} {Q : Value → Shared → Prop} (H : At A bs L ks cs vs h) (m : (l, PLO (ys ++ [x])) ∈ cs) (T : Turn cs l (PLO ys) cs') (hz : ys.length ≤ 10000)
  (k : ∀ h', At A bs L ks cs' vs h' → Q x (St s h' tk)) : wpAny (model prog w) A (call (.builtin "list.pop") [.ref l]) Q E (St s h tk) := by
 refine H.cells.getK m fun o e pk2 _ => ?_
 obtain ⟨n, rfl⟩ := pk2
 have z : (ys ++ [x]).toArray.size ≤ sizeLine := by rw [List.size_toArray, List.length_append]; exact Nat.le_trans (by simp; fin_once om fail : _ ≤ 10001) (by decide)
 refine call_meets PySem.F.slot_list_pop ⟨_, e, rfl⟩ PySem.F.entry_list_pop (PySem.F.args_list_pop_1 _) (PySem.MeetsSeq.list_pop_last l _ n x (by fin_once sm fail) z) ⟨e, ?_⟩
 have e' := Heap.get?_update_self (Obj.mapSeq fun xs => xs.eraseIdxIfInBounds ((ys ++ [x]).toArray.size - 1)) e rfl
 show Q x _
 have : (ys ++ [x]).toArray.eraseIdxIfInBounds ((ys ++ [x]).toArray.size - 1) = ys.toArray := by
  have h1 : (ys ++ [x]).toArray.size - 1 = ys.length := by simp
  rw [h1]
  simp [Array.eraseIdxIfInBounds, List.eraseIdx_append_of_length_le]
 have key : PLO ys (Obj.mapSeq (fun xs => xs.eraseIdxIfInBounds ((ys ++ [x]).toArray.size - 1)) { cls := .type "list", data := .seq (ys ++ [x]).toArray n }) := by
  unfold Obj.mapSeq
  dsimp only
  rw [this]
  exact ⟨_, rfl⟩
 exact k _ (H.turn' T (Heap.SameBut.update ..) e' key key.mut)
theorem w_ne_nil {l b : Addr} {its : Array Value} {Q : Value → Shared → Prop} (hl : h.IsList l its) (hb : h.IsList b #[]) (hu : A.units + 10 < cLine) (k : Q (.bool (decide (its.size ≠ 0))) (St s h tk)) : wpAny (model prog w) A (compareOp .NotEq (.ref l) (.ref b)) Q E (St s h tk) := by
 by_cases e : its.size = 0
 ·obtain rfl : its = #[] := Array.eq_empty_of_size_eq_zero e
  fin_once o1 fail
  obtain ⟨o, e1, e2, n, e3⟩ := hl
  obtain ⟨o', f1, f2, n', f3⟩ := hb
  fin_once o2 fail
  refine w_ne (Reads.list (as := []) e1 e2 e3 .nil) (Reads.list (as := []) f1 f2 f3 .nil) (by decide) (by decide) ?_ (by rw [decide_eq_false (by fin_once sm fail)] at k; exact k)
  have : PyData.depth (.list []) = 1 := rfl
  rw [this]; fin_once om fail
 ·rw [decide_eq_true e] at k
  exact PySem.SeqAt.RcNeAt.lists_lengths (s := St s h tk) hl hb (by simpa using e) (by fin_once om fail) prog w E Q k
end
section
variable {A : Around} {E : Value → Shared → Prop} {h : Heap} {bs : List Heap} {tk : Nat} {env : Env} {L : Addr} {ks : List Str} {cs cs' : List Cell} {vs : List (Option Value)} {K : Frag}
omit rt0 in
theorem dictDisplay_nil : dictDisplay [] = newDict := by
 unfold dictDisplay
 simp
theorem w_dict0 {p : Pos} {g : Heap} {Q : Value → Shared → Prop} (H : At A bs L ks cs vs h) (T : Tp K g) (mb : g ∈ bs) (lo : ∃ b o, K.lookup b = some o ∧ sysModules ≤ b) (k : ∀ d h', At A bs L ks ((d, Dct []) :: cs) vs h' → Ch [] h h' → (d == sysModules) = false → Q (.ref d) (St s h' tk)) : wpAny (model prog w) A (eval (.Dict [] [] p) env) Q E (St s h tk) := by
 rw [arm_eval_Dict]
 refine wpAny_bind (wpAny_standAt ?_)
 show wpAny _ _ (dictDisplay []) _ _ _
 rw [dictDisplay_nil]
 fin_once o1 fail
 obtain ⟨b, o, e, hb⟩ := lo
 fin_once o2 fail
 exact wpAny_newObj_type (k _ _ (H.push (o := { cls := .type "dict", data := .dict #[] }) dct_nil rfl rfl) (Ch.push ..) (noSys (T.ch (H.ch g mb)).k e hb (Nat.le_refl _)))
theorem w_dictP {g : Heap} {keys : List (Option PySem.Expr)} {values : List PySem.Expr} {pos : Pos} {pairs : List (Sem Value × Sem Value)} {Q : Value → Shared → Prop} (H : At A bs L ks cs vs h) (T : Tp K g) (mb : g ∈ bs) (lo : ∃ b o, K.lookup b = some o ∧ sysModules ≤ b)
  (hshape : (evalEachOpt keys env).zip ((evalEach values env).map fun v => do let x ← v; standAt pos; pure x) = pairs.map fun p => (some p.1, p.2)) (h0 : pairs ≠ []) (hlen : pairs.length ≤ 15)
  (k : ∀ d h', h.get? d = none → (d == sysModules) = false → At A bs L ks ((d, Dct []) :: cs) vs h' → Ch [] h h' → wpAny (model prog w) A (evalPairs pairs) (fun vl s₁ => ∃ kvs bs' cs' vs' h₁ tk₁, s₁ = St s h₁ tk₁ ∧ Carries (PySem.strKind prog w) vl kvs ∧ At A bs' L ks ((d, Dct []) :: cs') vs' h₁ ∧
   ∀ h₂ tk₂, At A bs' L ks ((d, Dct (merged [] kvs)) :: cs') vs' h₂ → Heap.SameBut d h₁ h₂ → Q (.ref d) (St s h₂ tk₂)) E (St s h' tk)) :
  wpAny (model prog w) A (eval (.Dict keys values pos) env) Q E (St s h tk) := by
 fin_once o1 fail
 obtain ⟨bb, ob, eb, hb⟩ := lo
 fin_once o2 fail
 refine wpAny_Dict_pairs (knd := PySem.strKind prog w) hshape h0 hlen (wpAny_mono (k h.objs.size _ (Heap.get?_none_of_le (Nat.le_refl _)) (noSys (T.ch (H.ch g mb)).k eb hb (Nat.le_refl _)) (H.push dct_nil rfl rfl) (Ch.push ..)) (fun vl s₁ q => ?_) fun _ _ q => q)
 fin_once o1 fail
 obtain ⟨kvs, bs', cs', vs', h₁, tk₁, rfl, hc, H₁, q⟩ := q
 fin_once o2 fail
 refine H₁.cells.getK (.head _) fun o e D _ => ?_
 refine ⟨kvs, hc, Heap.dictOf_iff.mpr ⟨o, e, D⟩, fun h₂ hD hs => ?_⟩
 obtain ⟨o', e', D'⟩ := Heap.dictOf_iff.mp hD
 exact q h₂ _ (H₁.turn' .head hs e' D' (Dct.mut D')) hs
theorem make_obj {C fI : Addr} {rest : List Value} {Q : Value → Shared → Prop} (X : K.In h) (hm : makesIn K C = true) (hi : findIn K (.ref C) "__init__" = some (some (.ref fI))) (hf : typeIn K (.ref fI) = some (.type "function"))
  (k : ∀ x dx h', x ≠ dx → h.get? x = none → h.get? dx = none → h.objs.size ≤ dx → h'.get? x = some (instObj C dx) → h'.get? dx = some emptyDict → (∀ b o, h.get? b = some o → h'.get? b = some o) →
   codeAny (model prog w) (A.under (.builtin "type.__call__" ⟨.ref C :: rest, []⟩)) (.call (.ref fI) ⟨.ref x :: rest, []⟩) (wants (fun r s' => r = .none ∧ Q (.ref x) s') E) (St s h' tk)) :
  wpAny (model prog w) A (call (.ref C) rest) Q E (St s h tk) := by
 refine wpAny_call (make_core (makes_of X hm) (looks_findIn X hi) (fun self => bind_fn X self hf) (.inl rfl) ?_)
 have hx : ((h.push emptyDict).push (instObj C h.objs.size)).get? (h.objs.size + 1) = some (instObj C h.objs.size) := by heap_get
 have hd : ((h.push emptyDict).push (instObj C h.objs.size)).get? h.objs.size = some emptyDict := Heap.get?_push_of_some _ (Heap.get?_push_at rfl rfl)
 have := k (h.objs.size + 1) h.objs.size _ (Nat.succ_ne_self _) (Heap.get?_none_of_le (Nat.le_succ _)) (Heap.get?_none_of_le (Nat.le_refl _)) (Nat.le_refl _) hx hd fun b o e => Heap.get?_push_of_some _ (Heap.get?_push_of_some _ e)
 refine codeAny_mono this fun r s' q => ?_
 rcases r with e | (v | _ | _ | _) <;> exact q
section
variable {base : Heap} {f nf : Addr} {oc : Value} {od : Option Addr} {osl : Array (Option Value)} {name qual : Str} {params : Arguments} {body : List Stmt} {scope : Scope} {dV kV doc pm cdv ct : Value} {an : Option Addr} {args vals : List Value} {Q : Value → Shared → Prop}
theorem cd0 (ks₁ ks₂ gs : List Str)
  (T : Tp K base) (mb : base ∈ bs) (x : ∀ g ∈ bs, Ch [] g h) (C : Cells h cs) (nC : ∀ g ∈ bs, ∀ c ∈ cs, g.get? c.1 = none) (ff : ∃ l, A.frames = some l ∧ FF h l) (hd : ∃ g ∈ bs, HdOk A g)
  (ho : K.lookup f = some ⟨oc, od, .func (fnOf name qual params body scope dV kV doc pm an cdv ct), osl⟩) (hcd : codeIn K cdv qual = true) (hroom : A.depth < recursionLimit)
  (hbind : BindsTo (St s h tk) (fnOf name qual params body scope dV kV doc pm an cdv ct) ⟨args, []⟩ (ks₁.zip vals)) (hlen : ks₁.length = vals.length)
  (nd : (ks₁ ++ ks₂).Nodup) (hlo : ((ks₁ ++ ks₂).all fun y => scope.names.lookup y == some .local) = true) (hgl : (gs.all fun y => scope.names.lookup y == some .globalImplicit) = true)
  (hco : scope.isCoroutine = false) (hgen : scope.isGenerator = false) (hk : scope.kind = .function) (hcell : ∀ x ∈ scope.names, x.2 ≠ .cell)
  (k : ∀ env L h₁ tk₁, Fn (A.deeper env) env L (ks₁ ++ ks₂) gs → At (A.deeper env) bs L (ks₁ ++ ks₂) cs (vals.map Option.some ++ ks₂.map fun _ => none) h₁ → Ch [] h h₁ → h.objs.size = L →
   wpAny (model prog w) (A.deeper env) (execs body env) (Rt Q) No (St s h₁ tk₁)) :
  codeAny (model prog w) A (.call (.ref f) ⟨args, []⟩) (wants Q E) (St s h tk) :=
 enter ks₁ ks₂ gs T mb x C nC ff hd ho hcd hroom hbind hlen nd hlo hgl hco hgen hk hcell fun env L h₁ tk₁ F H c e => wpAny_mono (w_No (E := fun e s' => wpAny (model prog w) (A.deeper env) (leaving env e) (fun _ s'' => E e s'') (fun e' s'' => E e' s'') s') (k env L h₁ tk₁ F H c e)) (fun _ _ q => q) fun _ _ q => q
theorem cdE {N : Prop} (bsh : List Heap) (ks₁ ks₂ gs : List Str)
  (T : Tp K base) (mb : base ∈ bs) (x : ∀ g ∈ bs, Ch [] g h) (C : Cells h cs) (nC : ∀ g ∈ bs, ∀ c ∈ cs, g.get? c.1 = none) (ff : ∃ l, A.frames = some l ∧ FF h l) (hd : ∃ g ∈ bs, HdOk A g)
  (ho : K.lookup f = some ⟨oc, od, .func (fnOf name qual params body scope dV kV doc pm an cdv ct), osl⟩) (hcd : codeIn K cdv qual = true) (hroom : A.depth < recursionLimit)
  (hbind : BindsTo (St s h tk) (fnOf name qual params body scope dV kV doc pm an cdv ct) ⟨args, []⟩ (ks₁.zip vals)) (hlen : ks₁.length = vals.length)
  (nd : (ks₁ ++ ks₂).Nodup) (hlo : ((ks₁ ++ ks₂).all fun y => scope.names.lookup y == some .local) = true) (hgl : (gs.all fun y => scope.names.lookup y == some .globalImplicit) = true)
  (hco : scope.isCoroutine = false) (hgen : scope.isGenerator = false) (hk : scope.kind = .function) (hcell : ∀ x ∈ scope.names, x.2 ≠ .cell)
  (hE : ∀ e s', N → Rse nf A bsh e s' → E e s')
  (k : ∀ env L h₁ tk₁, Fn (A.deeper env) env L (ks₁ ++ ks₂) gs → At (A.deeper env) bs L (ks₁ ++ ks₂) cs (vals.map Option.some ++ ks₂.map fun _ => none) h₁ → Ch [] h h₁ → h.objs.size = L →
   ∀ E' : Value → Shared → Prop, (∀ e s', EscN N nf (A.deeper env) bsh L e s' → E' e s') → wpAny (model prog w) (A.deeper env) (execs body env) (Rt Q) E' (St s h₁ tk₁)) :
  codeAny (model prog w) A (.call (.ref f) ⟨args, []⟩) (wants Q E) (St s h tk) :=
 enter ks₁ ks₂ gs T mb x C nC ff hd ho hcd hroom hbind hlen nd hlo hgl hco hgen hk hcell fun env L h₁ tk₁ F H c e => wpAny_mono (k env L h₁ tk₁ F H c e _ fun _ _ q => q) (fun _ _ q => q) fun _ _ q => q.2.lv F fun e s' => hE e s' q.1
end
omit rt0 in
theorem fld_nil : FldObj [] emptyDict := ⟨⟨[], 0, rfl, .nil⟩, List.nodup_nil⟩
theorem w_setattr {x dx C : Addr} {name : Str} {v : Value} {fs : List (Str × Value)} {g : Heap} {Q : Unit → Shared → Prop} (H : At A bs L ks cs vs h) (T : Tp K g) (mb : g ∈ bs) (mx : (x, fun o => o = instObj C dx) ∈ cs) (md : (dx, FldObj fs) ∈ cs) (Tn : Turn cs dx (FldObj (fs ++ [(name, v)])) cs') (O : SetOk K C name) (m : (fs.map (·.1)).contains name = false) (hz : fs.length ≤ 100)
  (k : ∀ h' tk', At A bs L ks cs' vs h' → Q () (St s h' tk')) : wpAny (model prog w) A (setAttr (.ref x) name v) Q E (St s h tk) := by
 fin_once o1 fail
 obtain ⟨ox, ex, rfl, _⟩ := H.cells.get mx
 fin_once o2 fail
 refine H.cells.getK md fun o e F _ => ?_
 exact set_attr (T.ch (H.ch g mb)).k ex e F O (fun q => by rw [List.contains_iff_mem.mpr q] at m; cases m) hz fun h' o' tk' hs e' F' => k h' tk' (H.turn' Tn hs e' F' F'.mut)
end
section
theorem s_types : SetOk (Mine.hd.heap_1 w.params) 139 (Str.ofString "types") := ⟨by k_is, by k_is, by k_is, by k_is⟩
theorem s_values : SetOk (Mine.hd.heap_1 w.params) 139 (Str.ofString "values") := ⟨by k_is, by k_is, by k_is, by k_is⟩
theorem s_uses : SetOk (Mine.hd.heap_1 w.params) 139 (Str.ofString "uses") := ⟨by k_is, by k_is, by k_is, by k_is⟩
theorem s_names : SetOk (Mine.hd.heap_1 w.params) 106 (Str.ofString "names") := ⟨by k_is, by k_is, by k_is, by k_is⟩
theorem s_is_pub : SetOk (Mine.hd.heap_1 w.params) 106 (Str.ofString "is_pub") := ⟨by k_is, by k_is, by k_is, by k_is⟩
theorem s_spot : SetOk (Mine.hd.heap_1 w.params) 106 (Str.ofString "spot") := ⟨by k_is, by k_is, by k_is, by k_is⟩
theorem s_kinds : SetOk (Mine.hd.heap_1 w.params) 258 (Str.ofString "kinds") := ⟨by k_is, by k_is, by k_is, by k_is⟩
theorem s_publics : SetOk (Mine.hd.heap_1 w.params) 258 (Str.ofString "publics") := ⟨by k_is, by k_is, by k_is, by k_is⟩
theorem s_tables : SetOk (Mine.hd.heap_1 w.params) 258 (Str.ofString "tables") := ⟨by k_is, by k_is, by k_is, by k_is⟩
theorem s_generics : SetOk (Mine.hd.heap_1 w.params) 258 (Str.ofString "generics") := ⟨by k_is, by k_is, by k_is, by k_is⟩
theorem s_items : SetOk (Mine.hd.heap_1 w.params) 258 (Str.ofString "items") := ⟨by k_is, by k_is, by k_is, by k_is⟩
theorem top_lo : ∃ b o, (Mine.hd.heap_1 w.params).lookup b = some o ∧ sysModules ≤ b := ⟨52, _, by k_is, by decide⟩
theorem t_mk : makesIn (Mine.hd.heap_1 w.params) 139 = true := by k_is
theorem t_in : findIn (Mine.hd.heap_1 w.params) (.ref 139) "__init__" = some (some (.ref 124)) := by k_is
theorem t_fn : typeIn (Mine.hd.heap_1 w.params) (.ref 124) = some (.type "function") := by k_is
theorem u_mk : makesIn (Mine.hd.heap_1 w.params) 106 = true := by k_is
theorem u_in : findIn (Mine.hd.heap_1 w.params) (.ref 106) "__init__" = some (some (.ref 103)) := by k_is
theorem u_fn : typeIn (Mine.hd.heap_1 w.params) (.ref 103) = some (.type "function") := by k_is
theorem d_mk : makesIn (Mine.hd.heap_1 w.params) 258 = true := by k_is
theorem d_in : findIn (Mine.hd.heap_1 w.params) (.ref 258) "__init__" = some (some (.ref 157)) := by k_is
theorem d_fn : typeIn (Mine.hd.heap_1 w.params) (.ref 157) = some (.type "function") := by k_is
end
structure TabNew (h h' : Heap) (t td a b c : Addr) : Prop where
 lo : (a == sysModules) = false ∧ (b == sysModules) = false ∧ (c == sysModules) = false
 nd : [t, td, a, b, c].Nodup
 new : ∀ x ∈ [t, td, a, b, c], h.get? x = none
 t : h'.get? t = some (instObj 139 td)
 td : ∃ o, h'.get? td = some o ∧ FldObj [(Str.ofString "types", .ref a), (Str.ofString "values", .ref b), (Str.ofString "uses", .ref c)] o
 a : ∃ o, h'.get? a = some o ∧ Dct [] o
 b : ∃ o, h'.get? b = some o ∧ Dct [] o
 c : ∃ o, h'.get? c = some o ∧ Dct [] o
section
variable {A : Around} {E : Value → Shared → Prop} {h : Heap} {tk : Nat} {Q : Value → Shared → Prop}
theorem c_table (C : Cx (Mine.hd.heap_1 w.params) A h 3)
  (k : ∀ t td a b c h' tk', Ch [] h h' → TabNew h h' t td a b c → Q (.ref t) (St s h' tk')) :
  wpAny (model prog w) A (call (.ref 139) []) Q E (St s h tk) := by
 refine make_obj C.t.k t_mk t_in t_fn fun x dx h₁ nxd nx nd _ ex ed kp => ?_
 obtain ⟨l, l1, l2⟩ := C.ff
 have c₁ : Ch [] h h₁ := Ch.of_keeps kp
 refine cd0 (bs := [h]) (cs := [(x, fun o => o = instObj 139 dx), (dx, FldObj [])]) (vals := [.ref x]) ["self"] [] [] C.t (.head _) (by simpa using c₁) ⟨fun c hc => ?_, by simpa using nxd⟩ (fun g mg c hc => ?_) ⟨l, under_frames.trans l1, c₁.ff l2⟩ ⟨_, .head _, C.hd⟩ (by k_is) (by k_is) (under_rm (C.r.le (by decide : 2 ≤ 3))).room (BindsTo.of_eq rfl) rfl (by decide +kernel) (by decide +kernel) rfl rfl rfl rfl (by decide) ?_
 ·simp only [List.mem_cons, List.not_mem_nil, or_false] at hc
  rcases hc with rfl | rfl
  ·exact ⟨_, ex, rfl, rfl⟩
  ·exact ⟨_, ed, fld_nil, rfl⟩
 ·rw [List.mem_singleton.mp mg]
  simp only [List.mem_cons, List.not_mem_nil, or_false] at hc
  rcases hc with rfl | rfl
  ·exact nx
  ·exact nd
 intro env L h₂ tk₂ F H hc hL
 dsimp only [List.cons_append, List.nil_append, List.map] at F H
 have T := C.t
 fin_once g5 fail
 rename At _ _ _ _ _ _ _ => H₃
 fin_once o1 fail
 obtain ⟨o1, e1, p1, _⟩ := H₃.cells.all _ (.head _)
 obtain ⟨o2, e2, p2, _⟩ := H₃.cells.all _ (.tail _ (.head _))
 obtain ⟨o3, e3, p3, _⟩ := H₃.cells.all _ (.tail _ (.tail _ (.head _)))
 fin_once o2 fail
 fin_once o1 fail
 obtain ⟨o4, e4, rfl, _⟩ := H₃.cells.all _ (.tail _ (.tail _ (.tail _ (.head _))))
 fin_once o2 fail
 fin_once o1 fail
 obtain ⟨o5, e5, p5, _⟩ := H₃.cells.all _ (.tail _ (.tail _ (.tail _ (.tail _ (.head _)))))
 fin_once o2 fail
 have nd' := H₃.cells.nd
 have nw := H₃.newC h (.head _)
 simp only [List.forall_mem_cons] at nw
 refine ⟨rfl, k x dx _ _ _ _ _ (H₃.ch h (.head _)) ⟨⟨by assumption, by assumption, by assumption⟩, ?_, ?_, e4, ⟨_, e5, p5⟩, ⟨_, e3, p3⟩, ⟨_, e2, p2⟩, ⟨_, e1, p1⟩⟩⟩
 ·exact nd_rev rfl nd'
 ·simp only [List.forall_mem_cons]
  exact ⟨nx, nd, nw.2.2.1, nw.2.1, nw.1, fun _ m => (nomatch m)⟩
end
section
variable {A : Around} {E : Value → Shared → Prop} {h : Heap} {tk : Nat} {Q : Value → Shared → Prop}
theorem c_use {tn sp : Value} (C : Cx (Mine.hd.heap_1 w.params) A h 3)
  (k : ∀ u du h' tk', Ch [] h h' → u ≠ du → h.get? u = none → h.get? du = none → h'.get? u = some (instObj 106 du) → (∃ o, h'.get? du = some o ∧ FldObj [(Str.ofString "names", tn), (Str.ofString "is_pub", .bool true), (Str.ofString "spot", sp)] o) → Q (.ref u) (St s h' tk')) :
  wpAny (model prog w) A (call (.ref 106) [tn, .bool true, sp]) Q E (St s h tk) := by
 refine make_obj C.t.k u_mk u_in u_fn fun x dx h₁ nxd nx nd _ ex ed kp => ?_
 obtain ⟨l, l1, l2⟩ := C.ff
 have c₁ : Ch [] h h₁ := Ch.of_keeps kp
 refine cd0 (bs := [h]) (cs := [(x, fun o => o = instObj 106 dx), (dx, FldObj [])]) (vals := [.ref x, tn, .bool true, sp]) ["self", "names", "is_pub", "spot"] [] [] C.t (.head _) (by simpa using c₁) ⟨fun c hc => ?_, by simpa using nxd⟩ (fun g mg c hc => ?_) ⟨l, under_frames.trans l1, c₁.ff l2⟩ ⟨_, .head _, C.hd⟩ (by k_is) (by k_is) (under_rm (C.r.le (by decide : 2 ≤ 3))).room (BindsTo.of_eq rfl) rfl (by decide +kernel) (by decide +kernel) rfl rfl rfl rfl (by decide) ?_
 ·simp only [List.mem_cons, List.not_mem_nil, or_false] at hc
  rcases hc with rfl | rfl
  ·exact ⟨_, ex, rfl, rfl⟩
  ·exact ⟨_, ed, fld_nil, rfl⟩
 ·rw [List.mem_singleton.mp mg]
  simp only [List.mem_cons, List.not_mem_nil, or_false] at hc
  rcases hc with rfl | rfl
  ·exact nx
  ·exact nd
 intro env L h₂ tk₂ F H hc hL
 dsimp only [List.cons_append, List.nil_append, List.map] at F H
 have T := C.t
 fin_once g5 fail
 rename At _ _ _ _ _ _ _ => H₃
 fin_once o1 fail
 obtain ⟨o4, e4, rfl, _⟩ := H₃.cells.all _ (.head _)
 fin_once o2 fail
 fin_once o1 fail
 obtain ⟨o5, e5, p5, _⟩ := H₃.cells.all _ (.tail _ (.head _))
 fin_once o2 fail
 exact ⟨rfl, k x dx _ _ (H₃.ch h (.head _)) nxd nx nd e4 ⟨_, e5, p5⟩⟩
end
theorem Nv.cv {env : Env} {L C c : Addr} {ks gs : List Str} {scope : Scope} {cl : List (Str × Addr)} {x : Str} (_ : Nv (compEnvC scope cl C env) L ks gs) (V : Cv env x c) (hk : env.scope.kind = .function) (hx : scope.names.lookup x = some .free) (hl : cl.lookup x = some c) : Cv (compEnvC scope cl C env) x c := V.comp hk hx hl
section
variable {A : Around} {E : Value → Shared → Prop} {h : Heap} {tk : Nat} {Q : Value → Shared → Prop}
noncomputable def takenF (tb : Tb) (name : Str) (sps : List Str) : Bool := (at? tb.uses name).isSome || sps.any fun sp => (at? (tb.space sp) name).isSome
theorem c_taken {P : Addr → Prop} {t sp : Addr} {tb : Tb} {name : Str} {tn : Tok} {sps : List Str} (C : Cx (Mine.hd.heap_1 w.params) A h 3) (hh : A.handled = none) (Tb : TabAt P h (.ref t) tb) (r : Rd h (.ref sp) (strsD sps)) (hz : sps.length ≤ 2)
  (k : ∀ h' tk', Ch [] h h' → Q (.bool (takenF tb name sps)) (St s h' tk')) :
  wpAny (model prog w) A (call (.ref 136) [.ref t, .str name tn, .ref sp]) Q E (St s h tk) := by
 fin_once o1 fail
 obtain ⟨t', da, db, du, et, It, Da, Db, Du⟩ := Tb
 fin_once o2 fail
 cases et
 refine fnC (bs := [h]) (cs := []) [("self", .ref t), ("name", .str name tn), ("spaces", .ref sp)] ["spaces"] [] (fun n => [(n + 1, CellO (some (.str name tn))), (n, CellO (some (.ref t)))]) [some (.ref sp)] C.t (.head _) (by simp [Ch.refl]) Cells.nil (by fin_once sm fail) C.ff ⟨_, .head _, C.hd⟩ (by k_is) (by k_is) C.r.room (BindsTo.of_eq rfl) (by decide +kernel) (by decide +kernel) (by decide +kernel) rfl rfl rfl ?_ ?_
 ·intro n env hs hc
  have c1 : Cv env "self" n := ⟨by unfold Env.kindOf; rw [hs]; rfl, by rw [hc]; rfl⟩
  have c2 : Cv env "name" (n + 1) := ⟨by unfold Env.kindOf; rw [hs]; rfl, by rw [hc]; rfl⟩
  exact .cel c1 (.tail .head) (.cel c2 .head (.loc (by unfold Env.kindOf; rw [hs]; rfl) .head .nil))
 intro n env L h₁ tk₁ F H hc hs hcl
 simp only [List.cons_append, List.nil_append] at H
 have c1 : Cv env "self" n := ⟨by unfold Env.kindOf; rw [hs]; rfl, by rw [hcl]; rfl⟩
 have c2 : Cv env "name" (n + 1) := ⟨by unfold Env.kindOf; rw [hs]; rfl, by rw [hcl]; rfl⟩
 have hk : env.scope.kind = .function := F.kind
 have V := F.nv
 have It' := It.ins
 have T := C.t
 have R : Rm (A.deeper env) 2 := C.r.deeper (by fin_once om fail)
 fin_once g3 fail
 have Dsp : ∀ x, DctP P h (if x = Str.ofString "type" then da else db) IsS (tb.space x) := fun x => by
  unfold Tb.space
  split
  ·exact Da
  ·exact Db
 refine w_dinB Du H (.head _) fun tk₂ => ?_
 fin_once g3 fail
 refine w_ite (fun e => ?_) fun e => ?_
 ·have e' : takenF tb name sps = true := by unfold takenF; rw [e]; rfl
  rw [e]
  rw [e'] at k
  exact k _ _ hc
 have ef : takenF tb name sps = sps.any fun sp => (at? (tb.space sp) name).isSome := by unfold takenF; rw [e]; rfl
 fin_once g3 fail
 fin_once o1 fail
 obtain ⟨t', its, et, ht, rits⟩ := r.tuple
 fin_once o2 fail
 cases et
 have hl : its.size = sps.length := by rw [← Array.length_toList, readsAll_len rits, List.length_map]
 refine w_comp (L := L) (ks := ["spaces"]) [] (fun i ys => ys.length ≤ i ∧ decide (ys ≠ []) = (sps.take i).any fun sp => (at? (tb.space sp) name).isSome) V (cl := [("self", n), ("name", n + 1)]) (by simp [closureFor, cellOf, c1.l, c2.l]) (by decide +kernel) rfl (by decide +kernel) (by decide +kernel) rfl (fun _ => rfl) (fun i ys h => h.1) ⟨Nat.le_refl _, by fin_once sm fail⟩ ?_
 fin_once g3 fail
 have ht₁ := isTup_ch ht hc
 refine wpAny_pyIter_tuple (s := St s h₁ tk₂) ht₁ ?_
 have ne : sp ≠ h₁.objs.size := by obtain ⟨o, e, _⟩ := ht₁; exact Nat.ne_of_lt (Heap.lt_size e)
 refine .mk (Itr.tuple hh ne ht) (.head _) (H.push ⟨rfl, rfl⟩ rfl rfl) (by fin_once om fail) (fun i v bs' C' D ys h₂ tk₃ hi hv R' sub H₂ V' => ?_) fun D ys h₂ tk₃ R' H₂ => ?_
 ·have x1 := V'.cv c1 hk rfl rfl
  have x2 := V'.cv c2 hk rfl rfl
  have hk' := V'.kind
  refine wpAny_tests_one ?_
  have mb : h ∈ bs' := sub _ (.head _)
  fin_once g3 fail
  obtain ⟨t3, rfl⟩ : ∃ t3, v = .str (sps[i]'(by fin_once om fail)) t3 := by
   obtain ⟨v', e1, r1⟩ := readsAll_get rits i (.str (sps[i]'(by fin_once om fail))) (by rw [List.getElem?_map, List.getElem?_eq_getElem (by fin_once om fail)]; rfl)
   rw [Array.getElem?_toList, hv] at e1
   cases e1
   exact r1.str
  refine c_space (H₂.cx T mb R (by fin_once om fail)) (It.tr (H₂.ch h mb).tr) fun h₄ tk₄ c₄ => ?_
  have H₄ := H₂.keep c₄
  fin_once g3 fail
  refine w_dinB (Dsp _) H₄ mb fun tk₅ => ?_
  have tk' : (sps.take (i + 1)).any (fun sp => (at? (tb.space sp) name).isSome) = ((sps.take i).any (fun sp => (at? (tb.space sp) name).isSome) || (at? (tb.space (sps[i]'(by fin_once om fail))) name).isSome) := by
   rw [List.take_succ_eq_append_getElem (by fin_once om fail), List.any_append]
   simp
  fin_once g3 fail
  refine w_ite (fun e => ?_) fun e => ?_
  ·fin_once g3 fail
   refine .mk ⟨by simp; exact R'.1, ?_⟩ H₄
   rw [tk', e, Bool.or_true]
   simp
  ·refine .mk ⟨by have := R'.1; fin_once om fail, ?_⟩ H₄
   rw [tk', e, Bool.or_false]
   exact R'.2
 ·fin_once g3 fail
  refine w_newList H₂ (by fin_once sm fail) fun h₃ H₃ c₃ l₃ _ => ?_
  refine H₃.cells.getK (a := D) (φ := LO ys) (.head _) fun o e1 pk2 _ => ?_
  obtain ⟨e2, n2, e3⟩ := pk2
  refine w_ne_nil ⟨o, e1, e2, n2, e3⟩ l₃ (R.un0 rfl) ?_
  have : decide (ys.toArray.size ≠ 0) = takenF tb name sps := by
   rw [ef]
   have := R'.2
   rw [hl, List.take_length] at this
   rw [← this, List.size_toArray]
   congr 1
   simp
  rw [this]
  fin_once g3 fail
  exact k _ _ (H₃.ch h (.head _))
end
noncomputable def isSp (sp : Str) : Prop := sp = Str.ofString "type" ∨ sp = Str.ofString "value"
noncomputable def Tb.put (tb : Tb) (name path sp : Str) : Tb := if sp = Str.ofString "type" then { tb with types := upd tb.types name path } else { tb with values := upd tb.values name path }
noncomputable def Tb.puts (tb : Tb) (name path : Str) (sps : List Str) : Tb := sps.foldl (fun tb sp => tb.put name path sp) tb
noncomputable def declF (m : Md) (mo name kind : Str) (sps : List Str) : Option Md :=
 match at? m.tabs mo with
 | none => none
 | some tb => if (takenF tb name sps || (at? m.kinds (J mo name)).isSome) = true then none
  else some { kinds := upd m.kinds (J mo name) kind, pubs := upd m.pubs (J mo name) true, tabs := setTab m.tabs mo fun tb => tb.puts name (J mo name) sps }
omit rt0 in
theorem at?_setTab (l : List (Str × Tb)) (mo : Str) (f : Tb → Tb) (x : Str) : at? (setTab l mo f) x = (at? l x).map fun tb => if x = mo then f tb else tb := by
 unfold setTab
 induction l with
 | nil => rfl
 | cons p l ih =>
  obtain ⟨k, a⟩ := p
  show (if k = x then some (if k = mo then f a else a) else at? (l.map _) x) = Option.map _ (if k = x then some a else at? l x)
  by_cases e : k = x
  ·rw [if_pos e, if_pos e, e]; rfl
  ·rw [if_neg e, if_neg e]; exact ih
omit rt0 in
theorem setTab_id (l : List (Str × Tb)) (mo : Str) : setTab l mo (fun tb => tb) = l := by
 unfold setTab
 conv => rhs; rw [← List.map_id l]
 refine List.map_congr_left fun p _ => ?_
 split <;> rfl
omit rt0 in
theorem setTab_setTab (l : List (Str × Tb)) (mo : Str) (f g : Tb → Tb) : setTab (setTab l mo f) mo g = setTab l mo fun tb => g (f tb) := by
 unfold setTab
 rw [List.map_map]
 refine List.map_congr_left fun p _ => ?_
 show (p.1, if p.1 = mo then g (if p.1 = mo then f p.2 else p.2) else _) = _
 by_cases e : p.1 = mo
 ·simp only [if_pos e]
 ·simp only [if_neg e]
omit rt0 in
theorem puts_succ (tb : Tb) (name path : Str) (sps : List Str) (i : Nat) (h : i < sps.length) : tb.puts name path (sps.take (i + 1)) = (tb.puts name path (sps.take i)).put name path sps[i] := by
 unfold Tb.puts
 rw [List.take_succ_eq_append_getElem h, List.foldl_append]
 rfl
section
variable {F F' : Fp} {h g g' : Heap} {n n' : Nat}
theorem TabF.tab {v : Value} {mo : Str} {tb : Tb} (T : TabF F h n v (mo, tb)) : TabAt (inF F) h v tb := by
 have wk : ∀ b, fz F b → inF F b := fun b q => q.elim (fun q => ⟨_, q⟩) fun ⟨m, q⟩ => ⟨_, q⟩
 fin_once o1 fail
 obtain ⟨t, a, b, c, e, _, I, x, y, z⟩ := T
 fin_once o2 fail
 refine ⟨t, a, b, c, e, I.weak wk, x.dct, y.dct, ?_⟩
 fin_once o1 fail
 obtain ⟨o, kvs, mm, lo, e, D, Tb, z⟩ := z
 fin_once o2 fail
 refine ⟨o, kvs, ⟨_, mm⟩, lo, e, D, Tb.mono fun v ns q => ?_⟩
 fin_once o1 fail
 obtain ⟨u, tn, sp, e, I, hs, r⟩ := q
 fin_once o2 fail
 exact ⟨u, tn, sp, e, I.weak wk, hs, r⟩
theorem FpOk.but {d : Addr} (O : FpOk h F) (hd : ∃ o, g.get? d = some o ∧ mutO o = true) (og : ∀ a ∈ F.map (·.1), ∃ o, g.get? a = some o ∧ mutO o = true) (b : But d g g') (hd' : ∃ o, g'.get? d = some o ∧ mutO o = true) : FpOk g' F :=
 ⟨O.nd, fun a m => by
  by_cases e : a = d
  ·rw [e]; exact hd'
  ·obtain ⟨o, e1, e2⟩ := og a m
   exact ⟨o, b a o e1 (mutO_fr e2) e, e2⟩, O.inj⟩
theorem FpOk.alls (O : FpOk g F) (x : Alls g g') : FpOk g' F := ⟨O.nd, fun a m => by
 obtain ⟨o, e1, e2⟩ := O.ob a m
 exact ⟨o, x a o e1 (mutO_fr e2), e2⟩, O.inj⟩
theorem DF.mem {α : Type} {r : Ro} {d : Addr} {R : Value → α → Prop} {l : List (Str × α)} (D : DF F g r d R l n) : (d, r) ∈ F ∧ ∃ o, g.get? d = some o ∧ mutO o = true := by
 fin_once o1 fail
 obtain ⟨o, kvs, m, lo, e, D, Tb, z⟩ := D
 fin_once o2 fail
 exact ⟨m, o, e, D.mut⟩
theorem But.fpok {α : Type} {r : Ro} {d : Addr} {R R' : Value → α → Prop} {l l' : List (Str × α)} (O : FpOk g F) (D : DF F g r d R l n) (b : But d g g') (D' : DF F g' r d R' l' n') : FpOk g' F := O.but D.mem.2 O.ob b D'.mem.2
theorem But.tqD {α : Type} {r : Ro} {d : Addr} {R : Value → α → Prop} {l : List (Str × α)} (O : FpOk g F) (D : DF F g r d R l n) (b : But d g g') : Tq (· ≠ r) F g g' := b.tq O.nd D.mem.1 D.mem.2
end
inductive RDcl (Fo : Fp) (N : Nat) (x dk dp dt dg di sp ta : Addr) (m : Md) (mo name kind : Str) (t1 t2 t3 t4 : Tok) (spot : Value) (tb : Tb) (sps : List Str) (g : Heap) : Nat → List Heap → List Cell → List (Option Value) → Prop
 | mk {i : Nat} {o : Option Value} {g1 : Heap} (T : Tp (Mine.hd.heap_1 w.params) g1) (M : MdX Fo g1 (N + i) x dk dp dt dg di { m with tabs := setTab m.tabs mo fun tb => tb.puts name (J mo name) (sps.take i) }) (V : TabF Fo g1 (N + i) (.ref ta) (mo, tb.puts name (J mo name) (sps.take i))) (O : FpOk g1 Fo) :
  RDcl Fo N x dk dp dt dg di sp ta m mo name kind t1 t2 t3 t4 spot tb sps g i [g1, g] [] [some (.ref x), some (.str mo t1), some (.str name t2), some (.str kind t3), some (.ref sp), some (.bool true), some spot, some (.ref ta), some (.str (J mo name) t4), o]
section
variable {A : Around} {E : Value → Shared → Prop} {g h : Heap} {tk : Nat} {Q : Value → Shared → Prop}
theorem c_declare {Fo : Fp} {N : Nat} {x dk dp dt dg di sp : Addr} {m : Md} {mo name kind : Str} {t1 t2 t3 : Tok} {sps : List Str} {spot : Value} (C : Cg (Mine.hd.heap_1 w.params) A g h (Fo.map (·.1)) 5) (hh : A.handled = none) (M : MdX Fo h N x dk dp dt dg di m) (O : FpOk h Fo) (hN : N ≤ 8000) (r : Rd h (.ref sp) (strsD sps)) (hsp : ∀ s ∈ sps, isSp s) (hz : sps.length ≤ 2)
  (hmo : (at? m.tabs mo).isSome = true) (lm : mo.length ≤ 200) (ln : name.length ≤ 200)
  (k : ∀ h' tk' m', declF m mo name kind sps = some m' → Ch (Fo.map (·.1)) h h' → MdX Fo h' (N + 4) x dk dp dt dg di m' → FpOk h' Fo → Q .none (St s h' tk'))
  (hE : ∀ e s', declF m mo name kind sps = none → Rse 52 A [g] e s' → E e s') :
  wpAny (model prog w) A (call (.ref 171) [.ref x, .str mo t1, .str name t2, .str kind t3, .ref sp, .bool true, spot]) Q E (St s h tk) := by
 refine fnM (nf := 52) (N := declF m mo name kind sps = none) (vals := [.ref x, .str mo t1, .str name t2, .str kind t3, .ref sp, .bool true, spot]) ["self", "module", "name", "kind", "spaces", "is_pub", "spot"] ["table", "path", "space"] ["joined", "NameFault"] C (by k_is) (by k_is) (BindsTo.of_eq rfl) rfl (by decide +kernel) (by decide +kernel) rfl rfl rfl rfl (by decide) hE ?_
 intro env L h₁ tk₁ F H hc Th T hd R E' hE'
 dsimp only [List.cons_append, List.nil_append, List.map] at F H
 have I' := M.i.ins
 obtain ⟨tb, htb⟩ := Option.isSome_iff_exists.mp hmo
 have et : at? (m.tabs.map fun p => (p.1, p)) mo = some (mo, tb) := by rw [at?_keyed, htb]; rfl
 fin_once g3 fail
 refine w_ditemB M.t.dct H (.head _) et (fun v tk2 V => ?_) (by with_unfolding_all rfl)
 have V0 := V
 fin_once o1 fail
 obtain ⟨ta, da, db, du, rfl, _, It, _, _, _⟩ := V
 fin_once o2 fail
 fin_once g3 fail
 refine c_joined (H.cx Th (.head _) R (by fin_once om fail)) (by fin_once om fail) (by fin_once om fail) fun t4 h₂ tk₂ c₂ => ?_
 have H₂ := H.keep c₂
 fin_once g3 fail
 refine w_newTuple H₂ (by fin_once sm fail) fun h₃ H₃ c₃ t₃ => ?_
 refine w_unpack2 H₃ F t₃ (by fin_once lk fail) (by fin_once lk fail) fun h₄ tk₄ H₄ => ?_
 have It' := It.ins
 fin_once g3 fail
 refine c_taken (H₄.cx Th (.head _) R (by fin_once om fail)) hh ((V0.tab).tr (H₄.ch h (.head _)).tr) (r.ch (H₄.ch h (.head _))) hz fun h₅ tk₅ c₅ => ?_
 have H₅ := H₄.keep c₅
 have df : declF m mo name kind sps = if (takenF tb name sps || (at? m.kinds (J mo name)).isSome) = true then none
  else some { kinds := upd m.kinds (J mo name) kind, pubs := upd m.pubs (J mo name) true, tabs := setTab m.tabs mo fun tb => tb.puts name (J mo name) sps } := by
  unfold declF
  rw [htb]
 have rz : ∀ {c : Bool}, c = (takenF tb name sps || (at? m.kinds (J mo name)).isSome) → c = true → declF m mo name kind sps = none := fun e1 e2 => by rw [df, ← e1, if_pos e2]
 fin_once g3 fail
 have dropG : ∀ {vs h'}, At (A.deeper env) [h, g] L _ [] vs h' → At (A.deeper env) [g] L ["self", "module", "name", "kind", "spaces", "is_pub", "spot", "table", "path", "space"] [] vs h' := fun H' => H'.drop (fun b mb => .tail _ mb) ⟨g, .head _, hd⟩
 refine w_ite (fun e => ?_) fun e => ?_
 ·first | refine w_ite_t ?_ | rw [if_pos trivial]
  have hN' := rz rfl (by rw [e]; rfl)
  refine w_seq ?_
  refine w_Raise (L := L) (gs := []) (ks := []) (bsh := [g]) f_base ?_ (fun e s' r => hE' _ _ ⟨hN', r⟩)
  fin_once g3 fail
  refine c_fault (H₅.cx Th (.head _) R (by fin_once om fail)) fun e h' tk' c ne ff N' => w_raiseC (dropG H₅) c ne ff N' (f_cls ((Th.ch (H₅.ch h (.head _))).ch c).k)
 fin_once g3 fail
 refine w_dinB M.k.dct H₅ (.head _) fun tk₆ => ?_
 fin_once g3 fail
 refine w_ite (fun e' => ?_) fun e' => ?_
 ·have hN' := rz rfl (by rw [e', Bool.or_true])
  refine w_seq ?_
  refine w_Raise (L := L) (gs := []) (ks := []) (bsh := [g]) f_base ?_ (fun e s' r => hE' _ _ ⟨hN', r⟩)
  fin_once g3 fail
  refine c_fault (H₅.cx Th (.head _) R (by fin_once om fail)) fun e h' tk' c ne ff N' => w_raiseC (dropG H₅) c ne ff N' (f_cls ((Th.ch (H₅.ch h (.head _))).ch c).k)
 have hS : declF m mo name kind sps = some { kinds := upd m.kinds (J mo name) kind, pubs := upd m.pubs (J mo name) true, tabs := setTab m.tabs mo fun tb => tb.puts name (J mo name) sps } := by
  rw [df, if_neg (by rw [e, e']; decide)]
 fin_once g3 fail
 have rg : Rd g (.ref sp) (strsD sps) := r.mv fun b o e tt => C.kp b o e fun q => by
  obtain ⟨o', e', mu⟩ := C.ms b q
  rw [e] at e'
  cases e'
  exact mutO_tup mu tt.1
 fin_once o1 fail
 obtain ⟨t', its, et', ht, rits⟩ := rg.tuple
 fin_once o2 fail
 cases et'
 have hl : its.size = sps.length := by rw [← Array.length_toList, readsAll_len rits, List.length_map]
 refine w_ForT (E' := EscN (declF m mo name kind sps = none) 52 (A.deeper env) [g] L) (L := L) (ks := ["self", "module", "name", "kind", "spaces", "is_pub", "spot", "table", "path", "space"]) hh (thr_esc F hE') (fun _ => rfl) ?_
 fin_once g3 fail
 have M0 : MdX Fo h (N + 0) x dk dp dt dg di { m with tabs := setTab m.tabs mo fun tb => tb.puts name (J mo name) (sps.take 0) } := by
  have : (setTab m.tabs mo fun tb => tb.puts name (J mo name) (sps.take 0)) = m.tabs := setTab_id m.tabs mo
  rw [this]
  exact M
 refine .mk (RDcl Fo N x dk dp dt dg di sp ta m mo name kind t1 t2 t3 _ spot tb sps g) ht H₅ (.mk Th M0 V0 O) (fun i bs cs vs hR => ?_) (fun it i v bs cs vs h₆ tk₆ hv hR H₆ Tz hTz => ?_) fun bs cs vs h₆ tk₆ hR H₆ => ?_
 ·induction hR
  exact .tail _ (.head _)
 ·induction hR
  rename_i ov g1 T1 M1 V1 O1
  refine w_opT ?_
  intro E' hE'
  have hi : i < its.size := (Array.getElem?_eq_some_iff.mp hv).1
  obtain ⟨t5, rfl⟩ : ∃ t5, v = .str (sps[i]'(by fin_once om fail)) t5 := by
   obtain ⟨v', e1, r1⟩ := readsAll_get rits i (.str (sps[i]'(by fin_once om fail))) (by rw [List.getElem?_map, List.getElem?_eq_getElem (by fin_once om fail)]; rfl)
   rw [Array.getElem?_toList, hv] at e1
   cases e1
   exact r1.str
  fin_once o1 fail
  obtain ⟨_, da1, db1, du1, eta, tm1, It1, Da1, Db1, Du1⟩ := id V1
  fin_once o2 fail
  cases eta
  have It1' := It1.ins
  fin_once g3 fail
  rename At _ _ _ _ _ _ _ => H₇
  refine c_space (H₇.cx T1 (.head _) R (by fin_once om fail)) (InsP.tr It1 (H₇.ch g1 (.head _)).tr) fun h₈ tk₈ c₈ => ?_
  have H₈ := H₇.keep c₈
  fin_once g3 fail
  have hs : isSp (sps[i]'(by fin_once om fail)) := hsp _ (List.getElem_mem _)
  have e1 : at? (setTab m.tabs mo fun tb => tb.puts name (J mo name) (sps.take i)) mo = some (tb.puts name (J mo name) (sps.take i)) := by rw [at?_setTab, htb]; simp
  have sF : ∀ p ∈ Fo, p ∈ Fo := fun _ q => q
  have nnS : ∀ b ∈ [g], ∀ a ∈ Fo.map (·.1), b.get? a = none := fun b mb a ma => by
   rw [List.mem_singleton.mp mb]
   exact C.hs a ma
  by_cases e : (sps[i]'(by fin_once om fail)) = Str.ofString "type"
  ·rw [if_pos e]
   have pe : (tb.puts name (J mo name) (sps.take i)).put name (J mo name) (sps[i]'(by fin_once om fail)) = { tb.puts name (J mo name) (sps.take i) with types := upd (tb.puts name (J mo name) (sps.take i)).types name (J mo name) } := by unfold Tb.put; rw [if_pos e]
   refine w_put (bs0 := [g]) Da1 ⟨_, rfl⟩ H₈ F (.head _) (fun b mb => .tail _ mb) ⟨g, .head _, hd⟩ nnS (by fin_once om fail) fun g2 h9 tk9 xg H₉ bt D2 _ => ?_
   have tq := bt.tqD O1 Da1
   have V2 : TabF Fo g2 (N + (i + 1)) (.ref ta) (mo, tb.puts name (J mo name) (sps.take (i + 1))) := by
    rw [puts_succ _ _ _ _ _ (by fin_once om fail), pe]
    exact ⟨ta, da1, db1, du1, rfl, tm1, It1.tq tq ⟨nofun, nofun⟩ sF, D2, Db1.tr tq nofun sF (fun _ _ q => q) (by fin_once om fail), Du1.tr tq nofun sF (fun _ _ q => q.tq tq ⟨nofun, nofun⟩ sF) (by fin_once om fail)⟩
   fin_once g3 fail
   refine tf_next (.mk (.mk (T.ch (xg g (.head _))) ?_ V2 (bt.fpok O1 Da1 D2)) H₉)
   have M2 := MdX.setT (f := fun tb => tb.put name (J mo name) (sps[i]'(by fin_once om fail))) M1 O1 (.inl rfl) tq e1 (by rw [← puts_succ _ _ _ _ _ (by fin_once om fail)]; exact V2) (by fin_once om fail)
   dsimp only at M2
   rw [setTab_setTab] at M2
   simpa only [puts_succ _ _ _ _ _ (show i < sps.length by fin_once om fail)] using M2
  ·rw [if_neg e]
   have pe : (tb.puts name (J mo name) (sps.take i)).put name (J mo name) (sps[i]'(by fin_once om fail)) = { tb.puts name (J mo name) (sps.take i) with values := upd (tb.puts name (J mo name) (sps.take i)).values name (J mo name) } := by unfold Tb.put; rw [if_neg e]
   refine w_put (bs0 := [g]) Db1 ⟨_, rfl⟩ H₈ F (.head _) (fun b mb => .tail _ mb) ⟨g, .head _, hd⟩ nnS (by fin_once om fail) fun g2 h9 tk9 xg H₉ bt D2 _ => ?_
   have tq := bt.tqD O1 Db1
   have V2 : TabF Fo g2 (N + (i + 1)) (.ref ta) (mo, tb.puts name (J mo name) (sps.take (i + 1))) := by
    rw [puts_succ _ _ _ _ _ (by fin_once om fail), pe]
    exact ⟨ta, da1, db1, du1, rfl, tm1, It1.tq tq ⟨nofun, nofun⟩ sF, Da1.tr tq nofun sF (fun _ _ q => q) (by fin_once om fail), D2, Du1.tr tq nofun sF (fun _ _ q => q.tq tq ⟨nofun, nofun⟩ sF) (by fin_once om fail)⟩
   fin_once g3 fail
   refine tf_next (.mk (.mk (T.ch (xg g (.head _))) ?_ V2 (bt.fpok O1 Db1 D2)) H₉)
   have M2 := MdX.setT (f := fun tb => tb.put name (J mo name) (sps[i]'(by fin_once om fail))) M1 O1 (.inr (.inl rfl)) tq e1 (by rw [← puts_succ _ _ _ _ _ (by fin_once om fail)]; exact V2) (by fin_once om fail)
   dsimp only at M2
   rw [setTab_setTab] at M2
   simpa only [puts_succ _ _ _ _ _ (show i < sps.length by fin_once om fail)] using M2
 ·induction hR
  rename_i ov g1 T1 M1 V1 O1
  rw [hl, List.take_length] at M1
  have nnS : ∀ b ∈ [g], ∀ a ∈ Fo.map (·.1), b.get? a = none := fun b mb a ma => by
   rw [List.mem_singleton.mp mb]
   exact C.hs a ma
  have I1' := M1.i.ins
  fin_once g3 fail
  refine w_put (bs0 := [g]) M1.k ⟨_, rfl⟩ H₆ F (.head _) (fun b mb => .tail _ mb) ⟨g, .head _, hd⟩ nnS (by fin_once om fail) fun g2 h7 tk7 xg2 H₇ bt2 D2 _ => ?_
  have M2 := M1.setK (bt2.tqD O1 M1.k) D2 (by fin_once om fail)
  have O2 := bt2.fpok O1 M1.k D2
  have I2' := M2.i.ins
  have T2 := T.ch (xg2 g (.head _))
  fin_once g3 fail
  refine w_put (bs0 := [g]) M2.p (xv := true) rfl H₇ F (.head _) (fun b mb => .tail _ mb) ⟨g, .head _, hd⟩ nnS (by fin_once om fail) fun g3 h8 tk8 xg3 H₈ bt3 D3 _ => ?_
  have M3 := M2.setP (bt3.tqD O2 M2.p) D3 (by fin_once om fail)
  have O3 := bt3.fpok O2 M2.p D3
  fin_once g3 fail
  have al : Alls g3 h8 := (H₈.ch g3 (.head _)).alls
  exact k _ _ _ hS (C.out (H₈.ch g (.tail _ (.head _)))) ((M3.alls al).tr (Alls.tq (P := fun _ => True) fun _ _ e _ => e) (fun _ q => q) (by fin_once om fail)) (O3.alls al)
end
abbrev genD : PyData := .tuple [.tuple [], .tuple []]
section
variable {A : Around} {E : Value → Shared → Prop} {g h : Heap} {tk : Nat} {Q : Value → Shared → Prop}
theorem Cg.rd {K : Frag} {S : List Addr} {n : Nat} {v : Value} {d : PyData} (C : Cg K A g h S n) (r : Rd h v d) : Rd g v d := r.mv fun b o e tt => C.kp b o e fun q => by
 obtain ⟨o', e', mu⟩ := C.ms b q
 rw [e] at e'
 cases e'
 exact mutO_tup mu tt.1
theorem c_dtype {Fo : Fp} {N : Nat} {x dk dp dt dg di sp it : Addr} {m : Md} {mo name kind : Str} {t1 : Tok} {sps : List Str} {rest : List PyData} (C : Cg (Mine.hd.heap_1 w.params) A g h (Fo.map (·.1)) 7) (hh : A.handled = none) (M : MdX Fo h N x dk dp dt dg di m) (O : FpOk h Fo) (hN : N ≤ 7000) (r : Rd h (.ref sp) (strsD sps)) (hsp : ∀ s ∈ sps, isSp s) (hz : sps.length ≤ 2)
  (ri : Rd h (.ref it) (.tuple (.str kind :: .int 0 :: .str name :: genD :: rest))) (hrz : rest.length ≤ 10)
  (hmo : (at? m.tabs mo).isSome = true) (lm : mo.length ≤ 200) (ln : name.length ≤ 200)
  (k : ∀ h' tk' m', declF m mo name kind sps = some m' → Ch (Fo.map (·.1)) h h' → MdX Fo h' (N + 6) x dk dp dt dg di m' → FpOk h' Fo → Q .none (St s h' tk'))
  (hE : ∀ e s', declF m mo name kind sps = none → Rse 52 A [g] e s' → E e s') :
  wpAny (model prog w) A (call (.ref 176) [.ref x, .str mo t1, .ref it, .ref sp, .bool true]) Q E (St s h tk) := by
 refine fnM (nf := 52) (N := declF m mo name kind sps = none) (vals := [.ref x, .str mo t1, .ref it, .ref sp, .bool true]) ["self", "module", "item", "spaces", "is_pub"] ["path", "regions", "params"] ["joined", "tuple"] C (by k_is) (by k_is) (BindsTo.of_eq rfl) rfl (by decide +kernel) (by decide +kernel) rfl rfl rfl rfl (by decide) hE ?_
 intro env L h₁ tk₁ F H hc Th T hd R E' hE'
 dsimp only [List.cons_append, List.nil_append, List.map] at F H
 have I' := M.i.ins
 have rg := C.rd ri
 have nnS : ∀ b ∈ [g], ∀ a ∈ Fo.map (·.1), b.get? a = none := fun b mb a ma => by
  rw [List.mem_singleton.mp mb]
  exact C.hs a ma
 have iz : (PyData.str kind :: .int 0 :: .str name :: genD :: rest).length ≤ 10000 := by simp; fin_once om fail
 fin_once g3 fail
 refine w_nth 2 (ri.ch (H.ch h (.head _))) rfl iz (fun v rv => ?_) (by with_unfolding_all rfl)
 refine rv.strE fun t2 rv => ?_
 fin_once g3 fail
 refine w_nth 0 (ri.ch (H.ch h (.head _))) rfl iz (fun v rv => ?_) (by with_unfolding_all rfl)
 refine rv.strE fun t3 rv => ?_
 fin_once g3 fail
 refine w_nth 1 (ri.ch (H.ch h (.head _))) rfl iz (fun v rv => ?_) (by with_unfolding_all rfl)
 refine rv.intE fun t4 rv => ?_
 fin_once g3 fail
 have al := (H.ch h (.head _)).alls
 obtain ⟨Cc, xc⟩ := H.cg (bs0 := [g]) T (.head _) (fun b mb => .tail _ mb) ⟨g, .head _, hd⟩ nnS (O.alls al).ob R (by fin_once om fail : 5 ≤ 6)
 refine c_declare Cc hh (M.alls al) (O.alls al) (by fin_once om fail) (r.ch (H.ch h (.head _))) hsp hz hmo lm ln (fun h₂ tk₂ m' e cS M₂ O₂ => ?_) fun e s' q rr => hE' _ _ ⟨q, rr.escG Cc xc⟩
 fin_once o1 fail
 obtain ⟨g2, xg2, H₂, kp2⟩ := H.back (bs0 := [g]) F (fun b mb => .tail _ mb) ⟨g, .head _, hd⟩ cS nnS (fun c hc => by cases hc) (O.alls al).ob
 fin_once o2 fail
 have al2 : Alls h₂ g2 := fun b o e f => kp2 b o e f (fun c hc => by cases hc)
 have M₂ := M₂.alls al2
 have O₂ := O₂.alls al2
 have T2 := T.ch (xg2 g (.head _))
 have I2' := M₂.i.ins
 fin_once g3 fail
 refine w_nth 2 (rg.ch (H₂.ch g (.tail _ (.head _)))) rfl iz (fun v rv => ?_) (by with_unfolding_all rfl)
 refine rv.strE fun t5 rv => ?_
 fin_once g3 fail
 refine c_joined (H₂.cx T2 (.head _) R (by fin_once om fail)) (by fin_once om fail) (by fin_once om fail) fun t6 h₃ tk₃ c₃ => ?_
 have H₃ := H₂.keep c₃
 fin_once g3 fail
 rename At _ _ _ _ _ _ _ => H₄
 refine w_nth 3 (rg.ch (H₄.ch g (.tail _ (.head _)))) rfl iz (fun v rv => ?_) (by with_unfolding_all rfl)
 obtain ⟨tg, its, rfl, ht, rits⟩ := rv.tuple
 fin_once o1 fail
 obtain ⟨v1, vs1, e1, r1, rits⟩ := readsAll_cons rits
 obtain ⟨v2, vs2, e2, r2, rits⟩ := readsAll_cons rits
 fin_once o2 fail
 obtain rfl := readsAll_nil rits
 subst e2
 obtain ⟨ta, i1, rfl, hta, ra1⟩ := r1.tuple
 obtain ⟨tb, i2, rfl, htb, ra2⟩ := r2.tuple
 obtain rfl : its = #[.ref ta, .ref tb] := by rw [← Array.toArray_toList (xs := its), e1]
 obtain rfl : i1 = #[] := by rw [← Array.toArray_toList (xs := i1), readsAll_nil ra1]
 obtain rfl : i2 = #[] := by rw [← Array.toArray_toList (xs := i2), readsAll_nil ra2]
 refine H₄.nowK F fun g3 xg3 H₄ kp3 => ?_
 have al3 : Alls _ g3 := fun b o e f => kp3 b o e f (fun c hc => by cases hc)
 have hta := isTup_alls hta al3
 have htb := isTup_alls htb al3
 refine w_assignT2 H₄ F ht (by fin_once lk fail) (by fin_once lk fail) fun h₅ tk₅ H₅ => ?_
 fin_once g3 fail
 refine call_tuple_tup (isTup_ch hta (H₅.ch g3 (.head _))) ?_
 fin_once g3 fail
 refine w_comp (L := L) (ks := ["self", "module", "item", "spaces", "is_pub", "path", "regions", "params"]) [] (fun i ys => ys.length ≤ i) F.nv (cl := []) (by rfl) (by decide +kernel) rfl (by decide +kernel) (by decide +kernel) rfl (fun _ => rfl) (fun i ys h => h) (Nat.le_refl _) ?_
 fin_once g3 fail
 have htb₁ := isTup_ch htb (H₅.ch g3 (.head _))
 refine wpAny_pyIter_tuple (s := St s h₅ _) htb₁ ?_
 have ne : tb ≠ h₅.objs.size := by obtain ⟨o, e, _⟩ := htb₁; exact Nat.ne_of_lt (Heap.lt_size e)
 refine .mk (Itr.tuple (A := A.deeper env) hh ne htb) (.head _) (H₅.push ⟨rfl, rfl⟩ rfl rfl) (Nat.zero_le _) (fun i v _ _ _ _ _ _ hi => absurd hi (Nat.not_lt_zero _)) fun D ys h₆ tk₆ hR H₆ => ?_
 obtain rfl := List.length_eq_zero_iff.mp (Nat.le_zero.mp hR)
 fin_once g3 fail
 refine H₆.cells.getK (a := D) (φ := LO []) (.head _) fun o e1 pk2 _ => ?_
 obtain ⟨e2, n2, e3⟩ := pk2
 refine w_tupleOf (H₆.sub (List.sublist_cons_self _ _)) ⟨o, e1, e2, n2, e3⟩ (by fin_once sm fail) fun tq h₇ H₇ c₇ ht7 => ?_
 fin_once g3 fail
 refine w_newTuple H₇ (by fin_once sm fail) fun h₈ H₈ c₈ t₈ => ?_
 fin_once g3 fail
 obtain ⟨lg, Dg⟩ := M₂.g
 refine w_put (bs0 := [g]) Dg (xv := ()) trivial H₈ F (.tail _ (.head _)) (fun b mb => .tail _ (.tail _ mb)) ⟨g, .head _, hd⟩ nnS (by fin_once om fail) fun g4 h9 tk9 xg4 H₉ bt4 D4 _ => ?_
 have M₄ := M₂.setG (bt4.tqD O₂ Dg) D4 (by fin_once om fail)
 have O₄ := bt4.fpok O₂ Dg D4
 have T4 := T.ch (xg4 g (.head _))
 have I4' := M₄.i.ins
 fin_once g3 fail
 obtain ⟨lj, Dj⟩ := M₄.j
 refine w_put (bs0 := [g]) Dj (xv := ()) trivial H₉ F (.head _) (fun b mb => .tail _ mb) ⟨g, .head _, hd⟩ nnS (by fin_once om fail) fun g5 h10 tk10 xg5 H₁₀ bt5 D5 _ => ?_
 have M₅ := M₄.setJ (bt5.tqD O₄ Dj) D5 (by fin_once om fail)
 have O₅ := bt5.fpok O₄ Dj D5
 fin_once g3 fail
 have al5 : Alls g5 h10 := (H₁₀.ch g5 (.head _)).alls
 exact k _ _ _ e (C.out (H₁₀.ch g (.tail _ (.head _)))) (M₅.alls al5) (O₅.alls al5)
end
abbrev rowD (v : Str) : PyData := .tuple [.str v, .str (Str.ofString "unit"), .tuple []]
noncomputable def varsF (m : Md) (path : Str) : List Str → Option Md
 | [] => some m
 | v :: r => if (at? m.kinds (J path v)).isSome = true then none else varsF { m with kinds := upd m.kinds (J path v) (Str.ofString "variant") } path r
omit rt0 in
theorem varsF_c {m : Md} {path v : Str} {r : List Str} : varsF m path (v :: r) = if (at? m.kinds (J path v)).isSome = true then none else varsF { m with kinds := upd m.kinds (J path v) (Str.ofString "variant") } path r := rfl
inductive RVar (Fo : Fp) (N : Nat) (x dk dp dt dg di it : Addr) (m : Md) (path : Str) (vl : List Str) (t1 : Tok) (g : Heap) : Nat → List Heap → List Cell → List (Option Value) → Prop
 | mk {i : Nat} {o : Option Value} {g1 : Heap} {m1 : Md} (T : Tp (Mine.hd.heap_1 w.params) g1) (M : MdX Fo g1 (N + i) x dk dp dt dg di m1) (O : FpOk g1 Fo) (e : varsF m1 path (vl.drop i) = varsF m path vl) : RVar Fo N x dk dp dt dg di it m path vl t1 g i [g1, g] [] [some (.ref x), some (.str path t1), some (.ref it), o]
section
variable {A : Around} {E : Value → Shared → Prop} {g h : Heap} {tk : Nat} {Q : Value → Shared → Prop}
theorem c_vars {Fo : Fp} {N : Nat} {x dk dp dt dg di it : Addr} {m : Md} {path : Str} {t1 : Tok} {d0 d2 d3 : PyData} {i1 : Int} {vl : List Str} {rest : List PyData} (C : Cg (Mine.hd.heap_1 w.params) A g h (Fo.map (·.1)) 5) (hh : A.handled = none) (M : MdX Fo h N x dk dp dt dg di m) (O : FpOk h Fo) (hN : N ≤ 7000)
  (ri : Rd h (.ref it) (.tuple (d0 :: .int i1 :: d2 :: d3 :: .tuple (vl.map rowD) :: rest))) (hrz : rest.length ≤ 10) (hvz : vl.length ≤ 10) (hv : ∀ v ∈ vl, v.length ≤ 200) (lm : path.length ≤ 400)
  (k : ∀ h' tk' m', varsF m path vl = some m' → Ch (Fo.map (·.1)) h h' → MdX Fo h' (N + vl.length) x dk dp dt dg di m' → FpOk h' Fo → Q .none (St s h' tk'))
  (hE : ∀ e s', varsF m path vl = none → Rse 52 A [g] e s' → E e s') :
  wpAny (model prog w) A (call (.ref 183) [.ref x, .str path t1, .ref it]) Q E (St s h tk) := by
 refine fnM (nf := 52) (N := varsF m path vl = none) (vals := [.ref x, .str path t1, .ref it]) ["self", "path", "item"] ["row"] ["joined", "NameFault"] C (by k_is) (by k_is) (BindsTo.of_eq rfl) rfl (by decide +kernel) (by decide +kernel) rfl rfl rfl rfl (by decide) hE ?_
 intro env L h₁ tk₁ F H hc Th T hd R E' hE'
 dsimp only [List.cons_append, List.nil_append, List.map] at F H
 have rg := C.rd ri
 have nnS : ∀ b ∈ [g], ∀ a ∈ Fo.map (·.1), b.get? a = none := fun b mb a ma => by
  rw [List.mem_singleton.mp mb]
  exact C.hs a ma
 have iz : (d0 :: .int i1 :: d2 :: d3 :: .tuple (vl.map rowD) :: rest).length ≤ 10000 := by simp; fin_once om fail
 fin_once o1 fail
 obtain ⟨t', its, et, ht, rits⟩ := rg.tuple
 fin_once o2 fail
 cases et
 obtain ⟨v4, e4, r4⟩ := readsAll_get rits 4 (.tuple (vl.map rowD)) rfl
 obtain ⟨tv, vits, rfl, htv, rvits⟩ := r4.tuple
 have hl : vits.size = vl.length := by rw [← Array.length_toList, readsAll_len rvits, List.length_map]
 have hz : its.size = (d0 :: .int i1 :: d2 :: d3 :: .tuple (vl.map rowD) :: rest).length := by rw [← readsAll_len rits]; simp
 refine w_seq ?_
 refine w_ForT (E' := EscN (varsF m path vl = none) 52 (A.deeper env) [g] L) (L := L) (ks := ["self", "path", "item", "row"]) hh (thr_esc F hE') (fun _ => rfl) ?_
 fin_once g3 fail
 refine w_item (j := 4) (isTup_ch ht (H.ch g (.tail _ (.head _)))) (by fin_once om fail) (by fin_once om fail) (by unfold seqIndex?; simp; rw [hz]; simp; fin_once om fail) (by simpa using e4) ?_ (by with_unfolding_all rfl)
 refine .mk (RVar Fo N x dk dp dt dg di it m path vl t1 g) htv H (.mk Th M O rfl) (fun i bs cs vs hR => ?_) (fun itr i v bs cs vs h₆ tk₆ hv' hR H₆ Tz hTz => ?_) fun bs cs vs h₆ tk₆ hR H₆ => ?_
 ·induction hR
  exact .tail _ (.head _)
 ·induction hR
  rename_i ov g1 m1 T1 M1 O1 hm1
  refine w_opT ?_
  intro E' hE'
  have hi : i < vits.size := (Array.getElem?_eq_some_iff.mp hv').1
  have rr : Rd g v (rowD (vl[i]'(by fin_once om fail))) := by
   obtain ⟨v', e1, r1⟩ := readsAll_get rvits i (rowD (vl[i]'(by fin_once om fail))) (by rw [List.getElem?_map, List.getElem?_eq_getElem (by fin_once om fail)]; rfl)
   rw [Array.getElem?_toList, hv'] at e1
   cases e1
   exact r1
  obtain ⟨tr, _, rfl, _, _⟩ := rr.tuple
  have hvi := hv _ (List.getElem_mem (show i < vl.length by fin_once om fail))
  have I1' := M1.i.ins
  have hd1 : vl.drop i = vl[i]'(by fin_once om fail) :: vl.drop (i + 1) := List.drop_eq_getElem_cons (by fin_once om fail)
  rw [hd1] at hm1
  fin_once g3 fail
  rename At _ _ _ _ _ _ _ => H₇
  refine w_nth 0 (rr.ch (H₇.ch g (.tail _ (.head _)))) rfl (by fin_once sm fail) (fun v rv => ?_) (by with_unfolding_all rfl)
  refine rv.strE fun t2 rv => ?_
  fin_once g3 fail
  refine c_joined (H₇.cx T1 (.head _) R (by fin_once om fail)) (by fin_once om fail) (by fin_once om fail) fun t6 h₈ tk₈ c₈ => ?_
  have H₈ := H₇.keep c₈
  fin_once g3 fail
  refine w_dinB M1.k.dct H₈ (.head _) fun tk₉ => ?_
  fin_once g3 fail
  refine w_ite (fun e => ?_) fun e => ?_
  ·have hN' : varsF m path vl = none := by rw [← hm1, varsF_c, if_pos e]
   refine w_seq ?_
   refine w_Raise (L := L) (gs := []) (ks := []) (bsh := [g]) f_base ?_ (fun e s' r => hE' _ _ ⟨hN', r⟩)
   fin_once g3 fail
   refine w_nth 0 (rr.ch (H₈.ch g (.tail _ (.head _)))) rfl (by fin_once sm fail) (fun v rv => ?_) (by with_unfolding_all rfl)
   refine rv.strE fun t3 rv => ?_
   fin_once g3 fail
   refine w_nth 1 (rg.ch (H₈.ch g (.tail _ (.head _)))) rfl iz (fun v rv => ?_) (by with_unfolding_all rfl)
   refine rv.intE fun t4 rv => ?_
   fin_once g3 fail
   have H₉ := H₈.drop (bs' := [g]) (fun b mb => .tail _ mb) ⟨g, .head _, hd⟩
   refine c_fault (H₈.cx T1 (.head _) R (by fin_once om fail)) fun e h' tk' c ne ff N' => w_raiseC H₉ c ne ff N' (f_cls ((T1.ch (H₈.ch g1 (.head _))).ch c).k)
  ·have hm2 : varsF { m1 with kinds := upd m1.kinds (J path (vl[i]'(by fin_once om fail))) (Str.ofString "variant") } path (vl.drop (i + 1)) = varsF m path vl := by
    rw [← hm1]
    conv => rhs; rw [varsF_c]
    rw [if_neg (by rw [e]; decide)]
   fin_once g3 fail
   refine w_nth 0 (rr.ch (H₈.ch g (.tail _ (.head _)))) rfl (by fin_once sm fail) (fun v rv => ?_) (by with_unfolding_all rfl)
   refine rv.strE fun t5 rv => ?_
   fin_once g3 fail
   refine c_joined (H₈.cx T1 (.head _) R (by fin_once om fail)) (by fin_once om fail) (by fin_once om fail) fun t7 h₉ tk₉ c₉ => ?_
   have H₉ := H₈.keep c₉
   fin_once g3 fail
   refine w_put (bs0 := [g]) M1.k ⟨_, rfl⟩ H₉ F (.head _) (fun b mb => .tail _ mb) ⟨g, .head _, hd⟩ nnS (by fin_once om fail) fun g2 h7 tk7 xg2 H₁₀ bt2 D2 _ => ?_
   have M2 := M1.setK (bt2.tqD O1 M1.k) D2 (by fin_once om fail)
   have O2 := bt2.fpok O1 M1.k D2
   fin_once g3 fail
   exact tf_next (.mk (.mk (T.ch (xg2 g (.head _))) M2 O2 hm2) H₁₀)
 ·induction hR
  rename_i ov g1 m1 T1 M1 O1 hm1
  rw [hl] at M1
  rw [hl, List.drop_length] at hm1
  fin_once g3 fail
  have al : Alls g1 h₆ := (H₆.ch g1 (.head _)).alls
  exact k _ _ _ hm1.symm (C.out (H₆.ch g (.tail _ (.head _)))) (M1.alls al) (O1.alls al)
end
noncomputable def useF (m : Md) (mo name : Str) (ns : List Str) : Option Md :=
 match at? m.tabs mo with
 | none => none
 | some tb => if name ∈ waysL ∨ takenF tb name [Str.ofString "type", Str.ofString "value"] = true then none else some { m with tabs := setTab m.tabs mo fun tb => { tb with uses := upd tb.uses name ns } }
noncomputable def useN (ns : List Str) : Option Str → Str
 | some a => a
 | none => ns.getLastD (Str.ofString "")
noncomputable def optD : Option Str → PyData
 | some a => .str a
 | none => .none
structure Grew (h : Heap) (F F' : Fp) : Prop where
 old : ∀ p ∈ F, p ∈ F'
 new : ∀ p ∈ F', p ∈ F ∨ h.get? p.1 = none
theorem FpOk.add2 {h h7 g8 : Heap} {F : Fp} {u du : Addr} (O : FpOk h F) (a7 : Alls h h7) (n1 : h7.get? u = none) (n2 : h7.get? du = none) (ne : u ≠ du) (a8 : Alls h g8) (e1 : ∃ o, g8.get? u = some o ∧ mutO o = true) (e2 : ∃ o, g8.get? du = some o ∧ mutO o = true) : FpOk g8 (F ++ [(u, Ro.fz), (du, Ro.fz)]) := by
 have nf : ∀ a, h7.get? a = none → a ∉ F.map (·.1) := fun a n q => by
  obtain ⟨o, e, m⟩ := O.ob a q
  rw [a7 a o e (mutO_fr m)] at n
  cases n
 refine ⟨?_, fun a m => ?_, fun a b r ha hb hr => ?_⟩
 ·rw [List.map_append, List.nodup_append]
  refine ⟨O.nd, by simpa using ne, fun a ha b hb q => ?_⟩
  exact alc (P := fun b => a = b → False) (a := u) (fun q => nf _ n1 (q ▸ ha)) (alc (a := du) (fun q => nf _ n2 (q ▸ ha)) aln) b hb q
 ·rw [List.map_append, List.mem_append] at m
  rcases m with m | m
  ·obtain ⟨o, e, mu⟩ := O.ob a m
   exact ⟨o, a8 a o e (mutO_fr mu), mu⟩
  ·exact alc (P := fun a => ∃ o, g8.get? a = some o ∧ mutO o = true) e1 (alc e2 aln) a m
 ·have key : ∀ a, (a, r) ∈ F ++ [(u, Ro.fz), (du, Ro.fz)] → (a, r) ∈ F := fun a ha => by
   rcases List.mem_append.mp ha with ha | ha
   ·exact ha
   ·simp only [List.mem_cons, List.not_mem_nil, or_false, Prod.mk.injEq] at ha
    rcases ha with ⟨_, rfl⟩ | ⟨_, rfl⟩ <;> exact absurd rfl hr
  exact O.inj a b r (key a ha) (key b hb) hr
section
variable {A : Around} {E : Value → Shared → Prop} {g h : Heap} {tk : Nat} {Q : Value → Shared → Prop}
theorem c_enter_use {Fo : Fp} {N : Nat} {x dk dp dt dg di it : Addr} {m : Md} {mo : Str} {t1 : Tok} {ns : List Str} {al : Option Str} (C : Cg (Mine.hd.heap_1 w.params) A g h (Fo.map (·.1)) 6) (hh : A.handled = none) (M : MdX Fo h N x dk dp dt dg di m) (O : FpOk h Fo) (hN : N ≤ 7000)
  (ri : Rd h (.ref it) (.tuple [.str (Str.ofString "use"), .int 0, strsD ns, optD al, .bool true])) (hns : ns ≠ []) (hnz : ns.length ≤ 20) (hnl : (useN ns al).length ≤ 200) (hok : PyData.strOk (useN ns al) = true)
  (hmo : (at? m.tabs mo).isSome = true)
  (k : ∀ h' tk' m' F', useF m mo (useN ns al) ns = some m' → Grew h Fo F' → (∀ p ∈ F', p ∈ Fo ∨ p.2 = Ro.fz) → Ch (Fo.map (·.1)) h h' → MdX F' h' (N + 2) x dk dp dt dg di m' → FpOk h' F' → Q .none (St s h' tk'))
  (hE : ∀ e s', useF m mo (useN ns al) ns = none → Rse 52 A [g] e s' → E e s') :
  wpAny (model prog w) A (call (.ref 190) [.ref x, .str mo t1, .ref it]) Q E (St s h tk) := by
 obtain ⟨nm, hnm⟩ : ∃ nm, nm = useN ns al := ⟨_, rfl⟩
 simp only [← hnm] at k hE hnl hok
 refine fnM (nf := 52) (N := useF m mo nm ns = none) (vals := [.ref x, .str mo t1, .ref it]) ["self", "module", "item"] ["spot", "names", "alias", "is_pub", "name", "table"] ["WAYS", "NameFault", "Use", "tuple"] C (by k_is) (by k_is) (BindsTo.of_eq rfl) rfl (by decide +kernel) (by decide +kernel) rfl rfl rfl rfl (by decide) hE ?_
 intro env L h₁ tk₁ F H hc Th T hd R E' hE'
 dsimp only [List.cons_append, List.nil_append, List.map] at F H
 have rg := C.rd ri
 have nnS : ∀ b ∈ [g], ∀ a ∈ Fo.map (·.1), b.get? a = none := fun b mb a ma => by
  rw [List.mem_singleton.mp mb]
  exact C.hs a ma
 have I' := M.i.ins
 refine H.nowK F fun g1 xg1 H kp1 => ?_
 have al1 : Alls h₁ g1 := fun b o e f => kp1 b o e f (fun c hc => by cases hc)
 fin_once g3 fail
 have rh := rg.ch (H.ch g (by fin_once sm fail))
 refine w_nth 1 rh rfl (by fin_once sm fail) (fun v rv => ?_) (by with_unfolding_all rfl)
 refine rv.intE fun tsp rv => ?_
 fin_once g3 fail
 refine w_nth 2 rh rfl (by fin_once sm fail) (fun vn rn => ?_) (by with_unfolding_all rfl)
 fin_once g3 fail
 refine w_nth 3 rh rfl (by fin_once sm fail) (fun va ra => ?_) (by with_unfolding_all rfl)
 fin_once g3 fail
 refine w_nth 4 rh rfl (by fin_once sm fail) (fun v rv => ?_) (by with_unfolding_all rfl)
 obtain rfl := rv.bool
 fin_once g3 fail
 refine w_newTuple H (by fin_once sm fail) fun h₂ H₂ c₂ t₂ => ?_
 refine w_assignT4 H₂ F t₂ (by fin_once lk fail) (by fin_once lk fail) (by fin_once lk fail) (by fin_once lk fail) fun h₃ tk₃ H₃ => ?_
 have rn1 : Rd g1 vn (strsD ns) := rn.mv fun b o e tt => al1 b o e (isFr_tuple tt.1)
 obtain ⟨tn, its, rfl, htn, rits⟩ := rn1.tuple
 have hil : its.size = ns.length := by rw [← Array.length_toList, readsAll_len rits, List.length_map]
 have hn0 : 0 < ns.length := List.length_pos_iff.mpr hns
 rcases al with _ | al
 all_goals (first
  | (obtain rfl := ra.none; fin_once g3 fail; obtain ⟨vl, e1, r1⟩ := readsAll_get rits (ns.length - 1) (.str (ns.getLastD (Str.ofString ""))) (by rw [List.getElem?_map, List.getLastD_eq_getLast?, List.getLast?_eq_getElem?, List.getElem?_eq_getElem (by fin_once om fail)]; rfl); refine w_item (j := ns.length - 1) (isTup_ch htn (H₃.ch g1 (.head _))) (by fin_once om fail) (by fin_once om fail) (by unfold seqIndex?; simp; fin_once om fail) (by simpa using e1) ?_ (by with_unfolding_all rfl); refine r1.strE fun ta r1 => ?_; rw [show ns.getLastD (Str.ofString "") = nm from hnm.symm]; fin_once g3 fail)
  | (obtain ⟨ta, rfl⟩ := ra.str; obtain rfl : nm = al := hnm; fin_once g3 fail))
 all_goals (
  rename At _ _ _ _ _ _ _ => H₄
  obtain ⟨tb, htb⟩ := Option.isSome_iff_exists.mp hmo
  have et : at? (m.tabs.map fun p => (p.1, p)) mo = some (mo, tb) := by rw [at?_keyed, htb]; rfl
  refine w_ditemB M.t.dct H₄ (by fin_once sm fail) et (fun v tk2 V => ?_) (by with_unfolding_all rfl)
  have V0 := V
  fin_once o1 fail
  obtain ⟨tt, da, db, du, rfl, tm, It, Da, Db, Du⟩ := V
  fin_once o2 fail
  have It' := It.ins
  have df : useF m mo nm ns = if nm ∈ waysL ∨ takenF tb nm [Str.ofString "type", Str.ofString "value"] = true then none else some { m with tabs := setTab m.tabs mo fun tb => { tb with uses := upd tb.uses nm ns } } := by
   unfold useF
   rw [htb]
  fin_once g3 fail
  rename At _ _ _ _ _ _ _ => H₅
  refine w_inT (g_ways (T.ch (H₅.ch g (by fin_once sm fail))).k) (.str _ _) (canLay_strs ways_ok) hok ?_ ?_
  ·exact R.un1 rfl
  rw [any_strs]
  fin_once g3 fail
  have T1 := T.ch (xg1 g (.tail _ (.head _)))
  refine w_ite (fun e => ?_) fun e => ?_
  ·have hN' : useF m mo nm ns = none := by rw [df, if_pos (.inl (of_decide_eq_true e))]
   refine w_ite_t ?_
   refine w_seq ?_
   refine w_Raise (L := L) (gs := []) (ks := []) (bsh := [g]) f_base ?_ (fun e s' r => hE' _ _ ⟨hN', r⟩)
   fin_once g3 fail
   have H₆ := H₅.drop (bs' := [g]) (fun b mb => .tail _ (.tail _ mb)) ⟨g, .head _, hd⟩
   refine c_fault (H₅.cx T1 (.head _) R (by fin_once om fail)) fun e h' tk' c ne ff N' => w_raiseC H₆ c ne ff N' (f_cls ((T1.ch (H₅.ch g1 (.head _))).ch c).k)
  fin_once g3 fail
  refine w_newTuple H₅ (by fin_once sm fail) fun h₆ H₆ c₆ t₆ => ?_
  fin_once g3 fail
  refine c_taken (sps := [Str.ofString "type", Str.ofString "value"]) (H₆.cx T1 (.head _) R (by fin_once om fail)) hh ((V0.tab).tr (H₆.ch h (.tail _ (.head _))).tr) (Reads.tuple (as := []) t₆.choose_spec.1 t₆.choose_spec.2.1 t₆.choose_spec.2.2.choose_spec (.cons (as := []) (bs := []) (.str _ _) (.cons (as := []) (bs := []) (.str _ _) .nil))) (by fin_once sm fail) fun h₇ tk₇ c₇ => ?_
  have H₇ := H₆.keep c₇
  fin_once g3 fail
  refine w_ite (fun e' => ?_) fun e' => ?_
  ·have hN' : useF m mo nm ns = none := by rw [df, if_pos (.inr e')]
   refine w_seq ?_
   refine w_Raise (L := L) (gs := []) (ks := []) (bsh := [g]) f_base ?_ (fun e s' r => hE' _ _ ⟨hN', r⟩)
   fin_once g3 fail
   have H₈ := H₇.drop (bs' := [g]) (fun b mb => .tail _ (.tail _ mb)) ⟨g, .head _, hd⟩
   refine c_fault (H₇.cx T1 (.head _) R (by fin_once om fail)) fun e h' tk' c ne ff N' => w_raiseC H₈ c ne ff N' (f_cls ((T1.ch (H₇.ch g1 (.head _))).ch c).k)
  have hS : useF m mo nm ns = some { m with tabs := setTab m.tabs mo fun tb => { tb with uses := upd tb.uses nm ns } } := by
   rw [df, if_neg (by rw [e']; intro q; rcases q with q | q; exact of_decide_eq_false e q; cases q)]
  fin_once g3 fail
  refine call_tuple_tup (isTup_ch htn (H₇.ch g1 (.head _))) ?_
  fin_once g3 fail
  refine c_use (H₇.cx T1 (.head _) R (by fin_once om fail)) fun u du h₈ tk₈ c₈ hud nu ndu eu edu => ?_
  have H₈ := H₇.keep c₈
  fin_once o1 fail
  refine H₈.nowK F fun g8 xg8 H₈ kp8 => ?_
  have al8 : Alls h₈ g8 := fun b o e f => kp8 b o e f (fun c hc => by cases hc)
  have a7 : Alls h h₇ := (H₇.ch h (.tail _ (.head _))).alls
  have a8 : Alls h g8 := fun b o e f => al8 b o ((H₈.ch h (by fin_once sm fail)).alls b o e f) f
  obtain ⟨ou, eou, fou⟩ := edu
  have O8 := O.add2 a7 nu ndu hud a8 ⟨_, al8 _ _ eu rfl, rfl⟩ ⟨_, al8 _ _ eou fou.fr, fou.mut⟩
  have sF : ∀ p ∈ Fo, p ∈ Fo ++ [(u, Ro.fz), (du, Ro.fz)] := fun p hp => List.mem_append_left _ hp
  have M8 := M.tr (n' := N) (a8.tq) sF (Nat.le_refl _)
  have V8 := V0.tr (P := fun _ => True) (n' := N) a8.tq ⟨trivial, fun _ => trivial⟩ trivial trivial trivial sF (Nat.le_refl _)
  have U8 : UseV (fz (Fo ++ [(u, Ro.fz), (du, Ro.fz)])) g8 (.ref u) ns := ⟨u, tn, _, rfl, ⟨du, ou, .inl (by fin_once sm fail), .inl (by fin_once sm fail), al8 _ _ eu rfl, al8 _ _ eou fou.fr, fou⟩, rfl, Rd.ch (Reads.tuple (as := []) htn.choose_spec.1 htn.choose_spec.2.1 htn.choose_spec.2.2.choose_spec rits) (xg8 g1 (.head _))⟩
  obtain ⟨_, da8, db8, du8, et8, tm8, It8, Da8, Db8, Du8⟩ := V8
  fin_once o2 fail
  cases et8
  have nn8 : ∀ b ∈ [g], ∀ a ∈ (Fo ++ [(u, Ro.fz), (du, Ro.fz)]).map (·.1), b.get? a = none := fun b mb a ma => by
   rw [List.map_append, List.mem_append] at ma
   rcases ma with ma | ma
   ·exact nnS b mb a ma
   ·rw [List.mem_singleton.mp mb]
    have : h₇.get? a = none := alc (P := fun a => h₇.get? a = none) nu (alc ndu aln) a ma
    exact (H₇.ch g (by fin_once sm fail)).nn this
  have It8' := It8.ins
  clear It'
  fin_once g3 fail
  refine w_put (bs0 := [g]) Du8 U8 H₈ F (.head _) (by fin_once sb fail) ⟨g, .head _, hd⟩ nn8 (by fin_once om fail) fun g9 h9 tk9 xg9 H₉ bt9 D9 _ => ?_
  have tq9 := bt9.tqD O8 Du8
  have sF' : ∀ p ∈ Fo ++ [(u, Ro.fz), (du, Ro.fz)], p ∈ Fo ++ [(u, Ro.fz), (du, Ro.fz)] := fun p hp => hp
  have D9' := D9.tr (P := fun _ => True) (n' := N + 1) (R' := UseV (fz (Fo ++ [(u, Ro.fz), (du, Ro.fz)])) g9) (Alls.tq fun _ _ e _ => e) trivial sF' (fun _ _ q => q.tq tq9 ⟨nofun, nofun⟩ sF') (Nat.le_refl _)
  have V9 : TabF (Fo ++ [(u, Ro.fz), (du, Ro.fz)]) g9 (N + 1) (.ref tt) (mo, { tb with uses := upd tb.uses nm ns }) := ⟨tt, da8, db8, du8, rfl, tm8, It8.tq tq9 ⟨nofun, nofun⟩ sF', Da8.tr tq9 nofun sF' (fun _ _ q => q) (by fin_once om fail), Db8.tr tq9 nofun sF' (fun _ _ q => q) (by fin_once om fail), D9'⟩
  have M9 := MdX.setT (f := fun tb => { tb with uses := upd tb.uses nm ns }) M8 O8 (.inr (.inr rfl)) tq9 htb V9 (by fin_once om fail)
  have O9 := bt9.fpok O8 Du8 D9
  fin_once g3 fail
  have al9 : Alls g9 h9 := (H₉.ch g9 (.head _)).alls
  refine k _ _ _ (Fo ++ [(u, Ro.fz), (du, Ro.fz)]) hS ⟨sF, fun p hp => ?_⟩ (fun p hp => (List.mem_append.mp hp).imp id fun q => by simp at q; rcases q with rfl | rfl <;> rfl) (C.out (H₉.ch g (.tail _ (.head _)))) ((M9.alls al9).tr (Alls.tq (P := fun _ => True) fun _ _ e _ => e) (fun _ q => q) (by fin_once om fail)) (O9.alls al9)
  rcases List.mem_append.mp hp with hp | hp
  ·exact .inl hp
  ·refine .inr ?_
   have hn : h₇.get? p.1 = none := by
    exact alc (P := fun p : Addr × Ro => h₇.get? p.1 = none) nu (alc ndu aln) p hp
   exact (H₇.ch h (by fin_once sm fail)).nn (hn))
end
inductive Itm where
 | fn (n : Str) | const (n : Str) | struct (n : Str) (u : Bool) | enum (n : Str) (vs : List Str) | trait (n : Str)
 | use (ns : List Str) (al : Option Str) | mod (n : Str) (inner : List Itm)
mutual
noncomputable def Itm.d : Itm → PyData
 | .fn n => .tuple [.str (Str.ofString "fn"), .int 0, .str n, genD, .none, .tuple [], .none, .none, .bool true]
 | .const n => .tuple [.str (Str.ofString "const"), .int 0, .str n, .tuple [.str (Str.ofString "tuple"), .int 0, .tuple []], .tuple [.str (Str.ofString "int"), .int 0, .int 1, .none], .bool true]
 | .struct n u => .tuple [.str (Str.ofString "struct"), .int 0, .str n, genD, .str (if u then Str.ofString "unit" else Str.ofString "named"), .tuple [], .bool true]
 | .enum n vs => .tuple [.str (Str.ofString "enum"), .int 0, .str n, genD, .tuple (vs.map rowD), .bool true]
 | .trait n => .tuple [.str (Str.ofString "trait"), .int 0, .str n, genD, .tuple [], .bool true]
 | .use ns al => .tuple [.str (Str.ofString "use"), .int 0, strsD ns, optD al, .bool true]
 | .mod n inner => .tuple [.str (Str.ofString "mod"), .int 0, .str n, .tuple (Itm.ds inner), .bool true]
noncomputable def Itm.ds : List Itm → List PyData
 | [] => []
 | i :: r => Itm.d i :: Itm.ds r
end
noncomputable def typeL : List Str := [Str.ofString "type"]
noncomputable def valueL : List Str := [Str.ofString "value"]
noncomputable def bothL : List Str := [Str.ofString "type", Str.ofString "value"]
noncomputable def enterF (m : Md) (mo : Str) : Itm → Option Md
 | .use ns al => useF m mo (useN ns al) ns
 | .mod n _ => (declF m mo n (Str.ofString "mod") typeL).map fun m' => { m' with tabs := m'.tabs ++ [(J mo n, ⟨[], [], []⟩)] }
 | .struct n u => declF m mo n (Str.ofString "struct") (if u then bothL else typeL)
 | .enum n vs => (declF m mo n (Str.ofString "enum") typeL).bind fun m' => varsF m' (J mo n) vs
 | .trait n => declF m mo n (Str.ofString "trait") typeL
 | .fn n => declF m mo n (Str.ofString "fn") valueL
 | .const n => declF m mo n (Str.ofString "const") valueL
noncomputable def ItmOk : Itm → Prop
 | .use ns al => ns ≠ [] ∧ ns.length ≤ 20 ∧ (useN ns al).length ≤ 100 ∧ PyData.strOk (useN ns al) = true
 | .enum n vs => n.length ≤ 100 ∧ vs.length ≤ 10 ∧ ∀ v ∈ vs, v.length ≤ 100
 | .fn n | .const n | .struct n _ | .trait n | .mod n _ => n.length ≤ 100
omit rt0 in
theorem k_ne1 : Str.ofString "mod" ≠ Str.ofString "use" := by decide +kernel
omit rt0 in
theorem k_ne2 : Str.ofString "struct" ≠ Str.ofString "use" ∧ Str.ofString "struct" ≠ Str.ofString "mod" := by decide +kernel
omit rt0 in
theorem k_ne3 : Str.ofString "enum" ≠ Str.ofString "use" ∧ Str.ofString "enum" ≠ Str.ofString "mod" ∧ Str.ofString "enum" ≠ Str.ofString "struct" := by decide +kernel
omit rt0 in
theorem k_ne4 : Str.ofString "trait" ≠ Str.ofString "use" ∧ Str.ofString "trait" ≠ Str.ofString "mod" ∧ Str.ofString "trait" ≠ Str.ofString "struct" ∧ Str.ofString "trait" ≠ Str.ofString "enum" := by decide +kernel
omit rt0 in
theorem k_ne5 : Str.ofString "fn" ≠ Str.ofString "use" ∧ Str.ofString "fn" ≠ Str.ofString "mod" ∧ Str.ofString "fn" ≠ Str.ofString "struct" ∧ Str.ofString "fn" ≠ Str.ofString "enum" ∧ Str.ofString "fn" ≠ Str.ofString "trait" := by decide +kernel
omit rt0 in
theorem k_ne6 : Str.ofString "const" ≠ Str.ofString "use" ∧ Str.ofString "const" ≠ Str.ofString "mod" ∧ Str.ofString "const" ≠ Str.ofString "struct" ∧ Str.ofString "const" ≠ Str.ofString "enum" ∧ Str.ofString "const" ≠ Str.ofString "trait" ∧ Str.ofString "const" ≠ Str.ofString "fn" := by decide +kernel
omit rt0 in
theorem isSp_type : ∀ s ∈ typeL, isSp s := by intro s hs; simp [typeL] at hs; exact .inl hs
omit rt0 in
theorem isSp_value : ∀ s ∈ valueL, isSp s := by intro s hs; simp [valueL] at hs; exact .inr hs
omit rt0 in
theorem isSp_both : ∀ s ∈ bothL, isSp s := by intro s hs; simp [bothL] at hs; exact hs
omit rt0 in
theorem rd_one {h : Heap} {t : Addr} {x : Str} {u : Tok} (ht : IsTup h t [Value.str x u].toArray) : Rd h (.ref t) (strsD [x]) := Reads.tuple (as := []) ht.choose_spec.1 ht.choose_spec.2.1 ht.choose_spec.2.2.choose_spec (.cons (as := []) (bs := []) (.str _ _) .nil)
omit rt0 in
theorem rd_two {h : Heap} {t : Addr} {x y : Str} {u v : Tok} (ht : IsTup h t [Value.str x u, Value.str y v].toArray) : Rd h (.ref t) (strsD [x, y]) := Reads.tuple (as := []) ht.choose_spec.1 ht.choose_spec.2.1 ht.choose_spec.2.2.choose_spec (.cons (as := []) (bs := []) (.str _ _) (.cons (as := []) (bs := []) (.str _ _) .nil))
omit rt0 in
theorem at?_isSome {α : Type} (l : List (Str × α)) (x : Str) : (at? l x).isSome = true ↔ x ∈ l.map (·.1) := by
 induction l with
 | nil => exact ⟨fun h => (nomatch h), fun h => (nomatch h)⟩
 | cons p l ih =>
  obtain ⟨k, a⟩ := p
  show (if k = x then some a else at? l x).isSome = true ↔ x ∈ k :: l.map (·.1)
  rw [List.mem_cons]
  by_cases e : k = x
  ·rw [if_pos e]; exact ⟨fun _ => .inl e.symm, fun _ => rfl⟩
  ·rw [if_neg e, ih]; exact ⟨.inr, fun h => h.resolve_left fun q => e q.symm⟩
noncomputable def RO (F : Fp) (m : Md) : Prop := ∀ a q r, (a, r) ∈ F → (r = .ty q ∨ r = .va q ∨ r = .us q ∨ r = .tb q) → (at? m.tabs q).isSome = true
theorem RO.keys {F F' : Fp} {m m' : Md} (x : RO F m) (k : m'.tabs.map (·.1) = m.tabs.map (·.1)) (hF : ∀ p ∈ F', p ∈ F ∨ p.2 = Ro.fz) : RO F' m' := fun a q r h hr => by
 rcases hF _ h with h' | h'
 ·have := x a q r h' hr
  rw [at?_isSome] at this ⊢
  rw [k]; exact this
 ·dsimp only at h'
  subst h'
  rcases hr with q | q | q | q <;> cases q
omit rt0 in
theorem setTab_keys (l : List (Str × Tb)) (mo : Str) (f : Tb → Tb) : (setTab l mo f).map (·.1) = l.map (·.1) := by
 unfold setTab
 rw [List.map_map]
 rfl
theorem useF_keys {m m' : Md} {mo name : Str} {ns : List Str} (e : useF m mo name ns = some m') : m'.tabs.map (·.1) = m.tabs.map (·.1) ∧ m'.kinds = m.kinds := by
 unfold useF at e
 split at e
 ·cases e
 ·split at e
  ·cases e
  ·cases e
   have h := setTab_keys m.tabs mo fun tb => { tb with uses := upd tb.uses name ns }
   exact ⟨h, rfl⟩
theorem varsF_tabs {path : Str} : ∀ {vs : List Str} {m m' : Md}, varsF m path vs = some m' → m'.tabs = m.tabs
 | [], m, m', e => by cases e; rfl
 | v :: r, m, m', e => by
  rw [varsF_c] at e
  split at e
  ·cases e
  ·have h := varsF_tabs e
   exact h
abbrev tabFp (t td a b c : Addr) (p : Str) : Fp := [(t, Ro.tb p), (td, Ro.fz), (a, Ro.ty p), (b, Ro.va p), (c, Ro.us p)]
noncomputable def roA (t a b c : Addr) : Ro → Addr
 | .ty _ => a
 | .va _ => b
 | .us _ => c
 | _ => t
theorem tabFp_at {t td a b c : Addr} {p : Str} : ∀ q, q ∈ tabFp t td a b c p → q.2 = .fz ∨ (q.1 = roA t a b c q.2 ∧ (q.2 = .tb p ∨ q.2 = .ty p ∨ q.2 = .va p ∨ q.2 = .us p)) :=
 alc (.inr ⟨rfl, .inl rfl⟩) (alc (.inl rfl) (alc (.inr ⟨rfl, .inr (.inl rfl)⟩) (alc (.inr ⟨rfl, .inr (.inr (.inl rfl))⟩) (alc (.inr ⟨rfl, .inr (.inr (.inr rfl))⟩) aln))))
noncomputable def rolS : Ro → Option Str
 | .ty m | .va m | .us m | .tb m => some m
 | _ => none
theorem tabFp_q {t td a b c x : Addr} {p q : Str} {r : Ro} (hr : (x, r) ∈ tabFp t td a b c p) (hq : r = .ty q ∨ r = .va q ∨ r = .us q ∨ r = .tb q) : q = p := by
 have e : rolS r = some q := by rcases hq with e | e | e | e <;> rw [e] <;> rfl
 rcases tabFp_at _ hr with e' | ⟨_, e'⟩
 ·rw [show r = .fz from e'] at e
  cases e
 ·have e2 : rolS r = some p := by rcases e' with e | e | e | e <;> exact (congrArg rolS e).trans rfl
  exact Option.some.inj (e.symm.trans e2)
theorem FpOk.addT {h h7 g8 : Heap} {F : Fp} {t td a b c : Addr} {p : Str} (O : FpOk h F) (a7 : Alls h h7) (nw : ∀ x ∈ [t, td, a, b, c], h7.get? x = none) (nd : [t, td, a, b, c].Nodup) (a8 : Alls h g8) (ex : ∀ x ∈ [t, td, a, b, c], ∃ o, g8.get? x = some o ∧ mutO o = true)
  (nr : ∀ a r, (a, r) ∈ F → r ≠ .tb p ∧ r ≠ .ty p ∧ r ≠ .va p ∧ r ≠ .us p) : FpOk g8 (F ++ tabFp t td a b c p) := by
 have nf : ∀ a, h7.get? a = none → a ∉ F.map (·.1) := fun a n q => by
  obtain ⟨o, e, m⟩ := O.ob a q
  rw [a7 a o e (mutO_fr m)] at n
  cases n
 have em : (tabFp t td a b c p).map (·.1) = [t, td, a, b, c] := rfl
 refine ⟨?_, fun x m => ?_, fun x y r hx hy hr => ?_⟩
 ·rw [List.map_append, List.nodup_append, em]
  exact ⟨O.nd, nd, fun x hx y hy q => nf y (nw y hy) (q ▸ hx)⟩
 ·rw [List.map_append, List.mem_append, em] at m
  rcases m with m | m
  ·obtain ⟨o, e, mu⟩ := O.ob x m
   exact ⟨o, a8 x o e (mutO_fr mu), mu⟩
  ·exact ex x m
 ·have no : ∀ {x y}, (x, r) ∈ F → (y, r) ∈ tabFp t td a b c p → False := fun hx hy => by
   have n := nr _ _ hx
   have q := ((tabFp_at _ hy).resolve_left hr).2
   exact q.elim n.1 fun q => q.elim n.2.1 fun q => q.elim n.2.2.1 n.2.2.2
  rcases List.mem_append.mp hx with hx | hx <;> rcases List.mem_append.mp hy with hy | hy
  ·exact O.inj x y r hx hy hr
  ·exact (no hx hy).elim
  ·exact (no hy hx).elim
  ·exact ((tabFp_at _ hx).resolve_left hr).1.trans ((tabFp_at _ hy).resolve_left hr).1.symm
theorem TabNew.tabF {h h' g8 : Heap} {F : Fp} {t td a b c : Addr} {p : Str} (tn : TabNew h h' t td a b c) (a8 : ∀ z ∈ [t, td, a, b, c], ∀ o, h'.get? z = some o → isFr z o = false → g8.get? z = some o) (n : Nat) : TabF (F ++ tabFp t td a b c p) g8 n (.ref t) (p, ⟨[], [], []⟩) := by
 fin_once o1 fail
 obtain ⟨⟨l1, l2, l3⟩, _, _, e1, ⟨o2, e2, f2⟩, ⟨o3, e3, f3⟩, ⟨o4, e4, f4⟩, ⟨o5, e5, f5⟩⟩ := tn
 fin_once o2 fail
 exact ⟨t, a, b, c, rfl, by fin_once sm fail, ⟨td, o2, .inr ⟨p, by fin_once sm fail⟩, .inl (by fin_once sm fail), a8 _ (by fin_once sm fail) _ e1 rfl, a8 _ (by fin_once sm fail) _ e2 f2.fr, f2⟩, ⟨o3, [], by fin_once sm fail, l1, a8 _ (by fin_once sm fail) _ e3 (mutO_fr (Dct.mut f3)), f3, .nil, Nat.zero_le _⟩, ⟨o4, [], by fin_once sm fail, l2, a8 _ (by fin_once sm fail) _ e4 (mutO_fr (Dct.mut f4)), f4, .nil, Nat.zero_le _⟩, ⟨o5, [], by fin_once sm fail, l3, a8 _ (by fin_once sm fail) _ e5 (mutO_fr (Dct.mut f5)), f5, .nil, Nat.zero_le _⟩⟩
theorem TabNew.ex {h h' g8 : Heap} {t td a b c : Addr} (tn : TabNew h h' t td a b c) (a8 : ∀ z ∈ [t, td, a, b, c], ∀ o, h'.get? z = some o → isFr z o = false → g8.get? z = some o) : ∀ x ∈ [t, td, a, b, c], ∃ o, g8.get? x = some o ∧ mutO o = true := by
 fin_once o1 fail
 obtain ⟨_, _, _, e1, ⟨o2, e2, f2⟩, ⟨o3, e3, f3⟩, ⟨o4, e4, f4⟩, ⟨o5, e5, f5⟩⟩ := tn
 fin_once o2 fail
 intro x m
 simp only [List.mem_cons, List.not_mem_nil, or_false] at m
 rcases m with rfl | rfl | rfl | rfl | rfl
 ·exact ⟨_, a8 _ (by fin_once sm fail) _ e1 rfl, rfl⟩
 ·exact ⟨_, a8 _ (by fin_once sm fail) _ e2 f2.fr, f2.mut⟩
 ·exact ⟨_, a8 _ (by fin_once sm fail) _ e3 (mutO_fr (Dct.mut f3)), Dct.mut f3⟩
 ·exact ⟨_, a8 _ (by fin_once sm fail) _ e4 (mutO_fr (Dct.mut f4)), Dct.mut f4⟩
 ·exact ⟨_, a8 _ (by fin_once sm fail) _ e5 (mutO_fr (Dct.mut f5)), Dct.mut f5⟩
theorem MdX.setTabs {F : Fp} {g g' : Heap} {n n' : Nat} {x dk dp dt dg di : Addr} {m : Md} {l : List (Str × Tb)} (M : MdX F g n x dk dp dt dg di m) (T : Tq (· ≠ .tabs) F g g') (D : DF F g' .tabs dt (TabF F g' n') (l.map fun p => (p.1, p)) n') (le : n ≤ n') : MdX F g' n' x dk dp dt dg di { m with tabs := l } := by
 fin_once o1 fail
 obtain ⟨i, k, p, t, ⟨lg, gg⟩, ⟨lj, j⟩⟩ := M
 fin_once o2 fail
 have sF : ∀ p ∈ F, p ∈ F := fun _ q => q
 exact ⟨i.tq T ⟨nofun, nofun⟩ sF, k.tr T nofun sF (fun _ _ q => q) le, p.tr T nofun sF (fun _ _ q => q) le, D, ⟨lg, gg.tr T nofun sF (fun _ _ q => q) le⟩, ⟨lj, j.tr T nofun sF (fun _ _ q => q) le⟩⟩
omit rt0 in
theorem declF_new {m m' : Md} {mo name kind : Str} {sps : List Str} (e : declF m mo name kind sps = some m') : at? m.kinds (J mo name) = none ∧ m'.tabs.map (·.1) = m.tabs.map (·.1) := by
 unfold declF at e
 split at e
 ·cases e
 ·rename_i tb _
  split at e
  ·cases e
  ·rename_i hc
   cases e
   refine ⟨?_, ?_⟩
   ·cases q : at? m.kinds (J mo name) with
    | none => rfl
    | some k => rw [q] at hc; simp at hc
   ·unfold setTab
    rw [List.map_map]
    rfl
noncomputable def Itm.kd (i : Itm) : Str := match i.d with
 | .tuple (.str k :: _) => k
 | _ => Str.ofString ""
noncomputable def Itm.rs (i : Itm) : List PyData := match i.d with
 | .tuple (_ :: _ :: r) => r
 | _ => []
omit rt0 in
theorem Itm.d_eq (i : Itm) : i.d = .tuple (.str i.kd :: .int 0 :: i.rs) := by cases i <;> simp only [Itm.d, Itm.kd, Itm.rs]
omit rt0 in
theorem Itm.rs_len (i : Itm) : i.rs.length ≤ 10 := by cases i <;> simp [Itm.d, Itm.rs]
section
variable {A : Around} {E : Value → Shared → Prop} {g h : Heap} {tk : Nat} {Q : Value → Shared → Prop}
theorem Grew.since {h h' : Heap} {F F' : Fp} (x : Grew h' F F') (c : Ch [] h h') : Grew h F F' := ⟨x.old, fun p q => (x.new p q).imp id fun n => by
 cases e : h.get? p.1 with
 | none => rfl
 | some o =>
  obtain ⟨sl, z⟩ := c.some e (by fin_once sm fail)
  rw [n] at z
  cases z⟩
omit rt0 in
theorem Grew.refl (h : Heap) (F : Fp) : Grew h F F := ⟨fun _ q => q, fun _ q => .inl q⟩
theorem c_enter {Fo : Fp} {N : Nat} {x dk dp dt dg di it : Addr} {m : Md} {mo : Str} {t1 : Tok} {i : Itm} (C : Cg (Mine.hd.heap_1 w.params) A g h (Fo.map (·.1)) 9) (hh : A.handled = none) (M : MdX Fo h N x dk dp dt dg di m) (O : FpOk h Fo) (hN : N ≤ 6000)
  (ri : Rd h (.ref it) i.d) (ok : ItmOk i) (lm : mo.length ≤ 200) (hmo : (at? m.tabs mo).isSome = true) (ti : ∀ p, (at? m.tabs p).isSome = true → (at? m.kinds p).isSome = true) (ro : RO Fo m)
  (k : ∀ h' tk' m' F', enterF m mo i = some m' → Grew h Fo F' → Ch (Fo.map (·.1)) h h' → MdX F' h' (N + 20) x dk dp dt dg di m' → FpOk h' F' → RO F' m' → Q .none (St s h' tk'))
  (hE : ∀ e s', enterF m mo i = none → Rse 52 A [g] e s' → E e s') :
  wpAny (model prog w) A (call (.ref 164) [.ref x, .str mo t1, .ref it]) Q E (St s h tk) := by
 refine fnM (nf := 52) (N := enterF m mo i = none) (vals := [.ref x, .str mo t1, .ref it]) ["self", "module", "item"] ["kind", "spot", "spaces"] ["joined", "Table"] C (by k_is) (by k_is) (BindsTo.of_eq rfl) rfl (by decide +kernel) (by decide +kernel) rfl rfl rfl rfl (by decide) hE ?_
 intro env L h₁ tk₁ F H hc Th T hd R E' hE'
 dsimp only [List.cons_append, List.nil_append, List.map] at F H
 have rg := C.rd ri
 have nnS : ∀ b ∈ [g], ∀ a ∈ Fo.map (·.1), b.get? a = none := fun b mb a ma => by
  rw [List.mem_singleton.mp mb]
  exact C.hs a ma
 have I' := M.i.ins
 have rh : Rd h₁ (.ref it) (.tuple (.str i.kd :: .int 0 :: i.rs)) := i.d_eq ▸ rg.ch (H.ch g (.tail _ (.head _)))
 have rz := i.rs_len
 fin_once g3 fail
 refine w_nth 0 rh rfl (by simp; fin_once om fail) (fun v rv => ?_) (by with_unfolding_all rfl)
 refine rv.strE fun t2 rv => ?_
 fin_once g3 fail
 refine w_nth 1 rh rfl (by simp; fin_once om fail) (fun v rv => ?_) (by with_unfolding_all rfl)
 refine rv.intE fun tsp rv => ?_
 fin_once g3 fail
 refine w_newTuple H (by fin_once sm fail) fun h₂ H₂ c₂ t₂ => ?_
 refine w_unpack2 H₂ F t₂ (by fin_once lk fail) (by fin_once lk fail) fun h₃ tk₃ H₃ => ?_
 clear rh H₂ t₂
 induction i using Itm.casesOn with
 | use ns al =>
  dsimp only [Itm.d] at ri rg
  dsimp only [Itm.kd, Itm.d, Bool.false_eq_true, ↓reduceIte] at H₃
  refine H₃.opE fun VT hVT lv H₃ => ?_
  have e0 := lv (x := "self") (by fin_once lk fail)
  have e1 := lv (x := "module") (by fin_once lk fail)
  have e2 := lv (x := "item") (by fin_once lk fail)
  have e3 := lv (x := "kind") (by fin_once lk fail)
  have e4 := lv (x := "spot") (by fin_once lk fail)
  clear lv hVT
  fin_once g3 fail
  have al3 : Alls h _ := (H₃.ch h (.head _)).alls
  fin_once o1 fail
  obtain ⟨Cc, xc⟩ := H₃.cg (bs0 := [g]) T (.head _) (fun b mb => .tail _ mb) ⟨g, .head _, hd⟩ nnS (O.alls al3).ob R (by fin_once om fail : 6 ≤ 8)
  obtain ⟨o1, o2, o3, o4⟩ := ok
  fin_once o2 fail
  refine c_enter_use Cc hh (M.alls al3) (O.alls al3) (by fin_once om fail) (ri.ch (H₃.ch h (.head _))) o1 o2 (by fin_once om fail) o4 hmo (fun h₄ tk₄ m' F' e gr fzs cS M₄ O₄ => ?_) fun e s' q rr => hE' _ _ ⟨q, rr.escG Cc xc⟩
  fin_once g3 fail
  exact k _ _ _ F' e (gr.since (H₃.ch h (.head _))) (((H₃.ch h (.head _)).mono (fun _ q => nomatch q)).trans cS) (M₄.tr (Alls.tq (P := fun _ => True) fun _ _ e _ => e) (fun _ q => q) (by fin_once om fail)) O₄ (ro.keys (useF_keys e).1 fzs)
 | trait n =>
  dsimp only [Itm.d] at ri rg
  fin_once o1 fail
  obtain ⟨n1, n2, n3, n4⟩ := k_ne4
  fin_once o2 fail
  dsimp only [Itm.kd, Itm.d, Bool.false_eq_true, ↓reduceIte] at H₃
  refine H₃.opE fun VT hVT lv H₃ => ?_
  have e0 := lv (x := "self") (by fin_once lk fail)
  have e1 := lv (x := "module") (by fin_once lk fail)
  have e2 := lv (x := "item") (by fin_once lk fail)
  have e3 := lv (x := "kind") (by fin_once lk fail)
  have e4 := lv (x := "spot") (by fin_once lk fail)
  clear lv hVT
  fin_once g3 fail
  refine w_newTuple H₃ (by fin_once sm fail) fun h₄ H₄ c₄ t₄ => ?_
  fin_once g3 fail
  refine w_nth 5 (rg.ch (H₄.ch g (.tail _ (.head _)))) rfl (by fin_once sm fail) (fun v rv => ?_) (by with_unfolding_all rfl)
  obtain rfl := rv.bool
  fin_once g3 fail
  have al4 : Alls h _ := (H₄.ch h (.head _)).alls
  obtain ⟨Cc, xc⟩ := H₄.cg (bs0 := [g]) T (.head _) (fun b mb => .tail _ mb) ⟨g, .head _, hd⟩ nnS (O.alls al4).ob R (by fin_once om fail : 7 ≤ 8)
  refine c_dtype (sps := typeL) Cc hh (M.alls al4) (O.alls al4) (by fin_once om fail) (rd_one t₄) isSp_type (by simp [typeL]) (ri.ch (H₄.ch h (.head _))) (by fin_once sm fail) hmo lm (by have : n.length ≤ 100 := ok; fin_once om fail) (fun h₅ tk₅ m' e cS M₅ O₅ => ?_) fun e s' q rr => hE' _ _ ⟨q, rr.escG Cc xc⟩
  fin_once g3 fail
  exact k _ _ _ Fo e (Grew.refl _ _) (((H₄.ch h (.head _)).mono (fun _ q => nomatch q)).trans cS) (M₅.tr (Alls.tq (P := fun _ => True) fun _ _ e _ => e) (fun _ q => q) (by fin_once om fail)) O₅ (ro.keys (declF_new e).2 fun _ q => .inl q)
 | struct n u =>
  obtain ⟨n1, n2⟩ := k_ne2
  have nu : Str.ofString "unit" ≠ Str.ofString "named" := by decide +kernel
  induction u
  ·simp only [Itm.d, Bool.false_eq_true, if_false] at ri rg
   dsimp only [Itm.kd, Itm.d, Bool.false_eq_true, ↓reduceIte] at H₃
   fin_once g3 fail
   refine w_nth 4 (rg.ch (H₃.ch g (.tail _ (.head _)))) rfl (by fin_once sm fail) (fun v rv => ?_) (by with_unfolding_all rfl)
   refine rv.strE fun t5 rv => ?_
   fin_once g3 fail
   refine w_newTuple H₃ (by fin_once sm fail) fun h₄ H₄ c₄ t₄ => ?_
   refine H₄.nowK F fun g4 xg4 H₄ kp4 => ?_
   have al4 : Alls _ g4 := fun b o e f => kp4 b o e f (fun c hc => by cases hc)
   have rs := (rd_one t₄).mv fun b o e tt => al4 b o e (isFr_tuple tt.1)
   fin_once g3 fail
   rename At _ _ _ _ _ _ _ => H₅
   refine H₅.opE fun VT hVT lv H₅ => ?_
   have e0 := lv (x := "self") (by fin_once lk fail)
   have e1 := lv (x := "module") (by fin_once lk fail)
   have e2 := lv (x := "item") (by fin_once lk fail)
   have e3 := lv (x := "kind") (by fin_once lk fail)
   have e4 := lv (x := "spot") (by fin_once lk fail)
   have e5 := lv (x := "spaces") (by fin_once lk fail)
   clear lv hVT
   refine w_nth 6 (rg.ch (H₅.ch g (.tail _ (.tail _ (.head _))))) rfl (by fin_once sm fail) (fun v rv => ?_) (by with_unfolding_all rfl)
   obtain rfl := rv.bool
   fin_once g3 fail
   have al5 : Alls h _ := (H₅.ch h (.tail _ (.head _))).alls
   obtain ⟨Cc, xc⟩ := H₅.cg (bs0 := [g]) T (.head _) (fun b mb => .tail _ (.tail _ mb)) ⟨g, .head _, hd⟩ nnS (O.alls al5).ob R (by fin_once om fail : 7 ≤ 8)
   refine c_dtype (sps := typeL) Cc hh (M.alls al5) (O.alls al5) (by fin_once om fail) (rs.ch (H₅.ch g4 (.head _))) isSp_type (by simp [typeL]) (ri.ch (H₅.ch h (.tail _ (.head _)))) (by fin_once sm fail) hmo lm (by have : n.length ≤ 100 := ok; fin_once om fail) (fun h₅ tk₅ m' e cS M₅ O₅ => ?_) fun e s' q rr => hE' _ _ ⟨q, rr.escG Cc xc⟩
   fin_once g3 fail
   exact k _ _ _ Fo e (Grew.refl _ _) (((H₅.ch h (.tail _ (.head _))).mono (fun _ q => nomatch q)).trans cS) (M₅.tr (Alls.tq (P := fun _ => True) fun _ _ e _ => e) (fun _ q => q) (by fin_once om fail)) O₅ (ro.keys (declF_new e).2 fun _ q => .inl q)
  ·simp only [Itm.d, if_true] at ri rg
   dsimp only [Itm.kd, Itm.d, Bool.false_eq_true, ↓reduceIte] at H₃
   fin_once g3 fail
   refine w_nth 4 (rg.ch (H₃.ch g (.tail _ (.head _)))) rfl (by fin_once sm fail) (fun v rv => ?_) (by with_unfolding_all rfl)
   refine rv.strE fun t5 rv => ?_
   fin_once g3 fail
   refine w_newTuple H₃ (by fin_once sm fail) fun h₄ H₄ c₄ t₄ => ?_
   refine H₄.nowK F fun g4 xg4 H₄ kp4 => ?_
   have al4 : Alls _ g4 := fun b o e f => kp4 b o e f (fun c hc => by cases hc)
   have rs := (rd_two t₄).mv fun b o e tt => al4 b o e (isFr_tuple tt.1)
   fin_once g3 fail
   rename At _ _ _ _ _ _ _ => H₅
   refine H₅.opE fun VT hVT lv H₅ => ?_
   have e0 := lv (x := "self") (by fin_once lk fail)
   have e1 := lv (x := "module") (by fin_once lk fail)
   have e2 := lv (x := "item") (by fin_once lk fail)
   have e3 := lv (x := "kind") (by fin_once lk fail)
   have e4 := lv (x := "spot") (by fin_once lk fail)
   have e5 := lv (x := "spaces") (by fin_once lk fail)
   clear lv hVT
   refine w_nth 6 (rg.ch (H₅.ch g (.tail _ (.tail _ (.head _))))) rfl (by fin_once sm fail) (fun v rv => ?_) (by with_unfolding_all rfl)
   obtain rfl := rv.bool
   fin_once g3 fail
   have al5 : Alls h _ := (H₅.ch h (.tail _ (.head _))).alls
   obtain ⟨Cc, xc⟩ := H₅.cg (bs0 := [g]) T (.head _) (fun b mb => .tail _ (.tail _ mb)) ⟨g, .head _, hd⟩ nnS (O.alls al5).ob R (by fin_once om fail : 7 ≤ 8)
   refine c_dtype (sps := bothL) Cc hh (M.alls al5) (O.alls al5) (by fin_once om fail) (rs.ch (H₅.ch g4 (.head _))) isSp_both (by simp [bothL]) (ri.ch (H₅.ch h (.tail _ (.head _)))) (by fin_once sm fail) hmo lm (by have : n.length ≤ 100 := ok; fin_once om fail) (fun h₅ tk₅ m' e cS M₅ O₅ => ?_) fun e s' q rr => hE' _ _ ⟨q, rr.escG Cc xc⟩
   fin_once g3 fail
   exact k _ _ _ Fo e (Grew.refl _ _) (((H₅.ch h (.tail _ (.head _))).mono (fun _ q => nomatch q)).trans cS) (M₅.tr (Alls.tq (P := fun _ => True) fun _ _ e _ => e) (fun _ q => q) (by fin_once om fail)) O₅ (ro.keys (declF_new e).2 fun _ q => .inl q)
 | enum n vs =>
  dsimp only [Itm.d] at ri rg
  fin_once o1 fail
  obtain ⟨n1, n2, n3⟩ := k_ne3
  obtain ⟨o1, o2, o3⟩ := ok
  fin_once o2 fail
  dsimp only [Itm.kd, Itm.d, Bool.false_eq_true, ↓reduceIte] at H₃
  refine H₃.opE fun VT hVT lv H₃ => ?_
  have e0 := lv (x := "self") (by fin_once lk fail)
  have e1 := lv (x := "module") (by fin_once lk fail)
  have e2 := lv (x := "item") (by fin_once lk fail)
  have e3 := lv (x := "kind") (by fin_once lk fail)
  have e4 := lv (x := "spot") (by fin_once lk fail)
  clear lv hVT
  fin_once g3 fail
  refine w_newTuple H₃ (by fin_once sm fail) fun h₄ H₄ c₄ t₄ => ?_
  fin_once g3 fail
  refine w_nth 5 (rg.ch (H₄.ch g (.tail _ (.head _)))) rfl (by fin_once sm fail) (fun v rv => ?_) (by with_unfolding_all rfl)
  obtain rfl := rv.bool
  fin_once g3 fail
  have al4 : Alls h _ := (H₄.ch h (.head _)).alls
  obtain ⟨Cc, xc⟩ := H₄.cg (bs0 := [g]) T (.head _) (fun b mb => .tail _ mb) ⟨g, .head _, hd⟩ nnS (O.alls al4).ob R (by fin_once om fail : 7 ≤ 8)
  refine c_dtype (sps := typeL) Cc hh (M.alls al4) (O.alls al4) (by fin_once om fail) (rd_one t₄) isSp_type (by simp [typeL]) (ri.ch (H₄.ch h (.head _))) (by fin_once sm fail) hmo lm (by fin_once om fail) (fun h₅ tk₅ m' e cS M₅ O₅ => ?_) fun e s' q rr => hE' _ _ ⟨by show (declF m mo n (Str.ofString "enum") typeL).bind _ = _; rw [q]; rfl, rr.escG Cc xc⟩
  fin_once o1 fail
  obtain ⟨g6, xg6, H₆, kp6⟩ := H₄.back (bs0 := [g]) F (fun b mb => .tail _ mb) ⟨g, .head _, hd⟩ cS nnS (fun c hc => by cases hc) (O.alls al4).ob
  fin_once o2 fail
  have al6 : Alls _ g6 := fun b o e f => kp6 b o e f (fun c hc => by cases hc)
  have M₆ := M₅.alls al6
  have O₆ := O₅.alls al6
  have T6 := T.ch (xg6 g (.head _))
  have I6' := M₆.i.ins
  fin_once g3 fail
  refine w_nth 2 (rg.ch (H₆.ch g (.tail _ (.head _)))) rfl (by fin_once sm fail) (fun v rv => ?_) (by with_unfolding_all rfl)
  refine rv.strE fun t7 rv => ?_
  fin_once g3 fail
  refine c_joined (H₆.cx T6 (.head _) R (by fin_once om fail)) (by fin_once om fail) (by fin_once om fail) fun t8 h₇ tk₇ c₇ => ?_
  have H₇ := H₆.keep c₇
  fin_once g3 fail
  have al7 : Alls g6 _ := (H₇.ch g6 (.head _)).alls
  obtain ⟨Cd, xd⟩ := H₇.cg (bs0 := [g]) T (.head _) (fun b mb => .tail _ mb) ⟨g, .head _, hd⟩ nnS (O₆.alls al7).ob R (by fin_once om fail : 5 ≤ 8)
  have lj : (J mo n).length ≤ 400 := by
   unfold J
   split
   ·fin_once om fail
   ·rw [Str.length_append, Str.length_append, l_col]; fin_once om fail
  refine c_vars Cd hh (M₆.alls al7) (O₆.alls al7) (by fin_once om fail) (rg.ch (H₇.ch g (.tail _ (.head _)))) (by fin_once sm fail) o2 (fun v hv => by have := o3 v hv; fin_once om fail) lj (fun h₈ tk₈ m'' e2 cS2 M₈ O₈ => ?_) fun ex s' q rr => hE' _ _ ⟨by show (declF m mo n (Str.ofString "enum") typeL).bind _ = _; rw [e]; exact q, rr.escG Cd xd⟩
  fin_once g3 fail
  have c45 : Ch (Fo.map (·.1)) h h₇ := C.out (H₇.ch g (.tail _ (.head _)))
  exact k _ _ _ Fo (by show (declF m mo n (Str.ofString "enum") typeL).bind _ = _; rw [e]; exact e2) (Grew.refl _ _) (c45.trans cS2) (M₈.tr (Alls.tq (P := fun _ => True) fun _ _ e _ => e) (fun _ q => q) (by fin_once om fail)) O₈ (ro.keys ((congrArg (·.map (·.1)) (varsF_tabs e2)).trans (declF_new e).2) fun _ q => .inl q)
 | fn n =>
  dsimp only [Itm.d] at ri rg
  fin_once o1 fail
  obtain ⟨n1, n2, n3, n4, n5⟩ := k_ne5
  fin_once o2 fail
  dsimp only [Itm.kd, Itm.d, Bool.false_eq_true, ↓reduceIte] at H₃
  refine H₃.opE fun VT hVT lv H₃ => ?_
  have e0 := lv (x := "self") (by fin_once lk fail)
  have e1 := lv (x := "module") (by fin_once lk fail)
  have e2 := lv (x := "item") (by fin_once lk fail)
  have e3 := lv (x := "kind") (by fin_once lk fail)
  have e4 := lv (x := "spot") (by fin_once lk fail)
  clear lv hVT
  fin_once g3 fail
  refine w_newTuple H₃ (by fin_once sm fail) fun h₄ H₄ c₄ t₄ => ?_
  refine w_inT (xs := [.str (Str.ofString "fn"), .str (Str.ofString "const")]) (rd_two t₄) (.str _ _) (by decide +kernel) (by decide +kernel) ?_ ?_
  ·exact R.un1 rfl
  rw [show ([PyData.str (Str.ofString "fn"), PyData.str (Str.ofString "const")].any fun y => PyData.eqv y (.str (Str.ofString "fn"))) = true from by decide +kernel]
  fin_once g3 fail
  refine w_nth 2 (rg.ch (H₄.ch g (.tail _ (.head _)))) rfl (by fin_once sm fail) (fun v rv => ?_) (by with_unfolding_all rfl)
  refine rv.strE fun t5 rv => ?_
  fin_once g3 fail
  refine w_newTuple H₄ (by fin_once sm fail) fun h₅ H₅ c₅ t₅ => ?_
  fin_once g3 fail
  refine w_nth 8 (rg.ch (H₅.ch g (.tail _ (.head _)))) rfl (by fin_once sm fail) (fun v rv => ?_) (by with_unfolding_all rfl)
  obtain rfl := rv.bool
  fin_once g3 fail
  have al5 : Alls h _ := (H₅.ch h (.head _)).alls
  obtain ⟨Cc, xc⟩ := H₅.cg (bs0 := [g]) T (.head _) (fun b mb => .tail _ mb) ⟨g, .head _, hd⟩ nnS (O.alls al5).ob R (by fin_once om fail : 5 ≤ 8)
  refine c_declare (sps := valueL) Cc hh (M.alls al5) (O.alls al5) (by fin_once om fail) (rd_one t₅) isSp_value (by simp [valueL]) hmo lm (by have : n.length ≤ 100 := ok; fin_once om fail) (fun h₅ tk₅ m' e cS M₅ O₅ => ?_) fun e s' q rr => hE' _ _ ⟨q, rr.escG Cc xc⟩
  fin_once o1 fail
  obtain ⟨g6, xg6, H₆, kp6⟩ := H₅.back (bs0 := [g]) F (fun b mb => .tail _ mb) ⟨g, .head _, hd⟩ cS nnS (fun c hc => by cases hc) (O.alls al5).ob
  fin_once o2 fail
  have al6 : Alls _ g6 := fun b o e f => kp6 b o e f (fun c hc => by cases hc)
  have M₆ := M₅.alls al6
  have O₆ := O₅.alls al6
  have T6 := T.ch (xg6 g (.head _))
  have I6' := M₆.i.ins
  fin_once g3 fail
  refine w_nth 2 (rg.ch (H₆.ch g (.tail _ (.head _)))) rfl (by fin_once sm fail) (fun v rv => ?_) (by with_unfolding_all rfl)
  refine rv.strE fun t7 rv => ?_
  fin_once g3 fail
  refine c_joined (H₆.cx T6 (.head _) R (by fin_once om fail)) (by fin_once om fail) (by have : n.length ≤ 100 := ok; fin_once om fail) fun t8 h₇ tk₇ c₇ => ?_
  have H₇ := H₆.keep c₇
  fin_once g3 fail
  obtain ⟨lj, Dj⟩ := M₆.j
  refine w_put (bs0 := [g]) Dj (xv := ()) trivial H₇ F (.head _) (fun b mb => .tail _ mb) ⟨g, .head _, hd⟩ nnS (by fin_once om fail) fun g8 h8 tk8 xg8 H₈ bt8 D8 _ => ?_
  have M₈ := M₆.setJ (bt8.tqD O₆ Dj) D8 (by fin_once om fail)
  have O₈ := bt8.fpok O₆ Dj D8
  fin_once g3 fail
  have al8 : Alls g8 h8 := (H₈.ch g8 (.head _)).alls
  exact k _ _ _ Fo e (Grew.refl _ _) (C.out (H₈.ch g (.tail _ (.head _)))) ((M₈.alls al8).tr (Alls.tq (P := fun _ => True) fun _ _ e _ => e) (fun _ q => q) (by fin_once om fail)) (O₈.alls al8) (ro.keys (declF_new e).2 fun _ q => .inl q)
 | const n =>
  dsimp only [Itm.d] at ri rg
  fin_once o1 fail
  obtain ⟨n1, n2, n3, n4, n5, n6⟩ := k_ne6
  fin_once o2 fail
  dsimp only [Itm.kd, Itm.d, Bool.false_eq_true, ↓reduceIte] at H₃
  refine H₃.opE fun VT hVT lv H₃ => ?_
  have e0 := lv (x := "self") (by fin_once lk fail)
  have e1 := lv (x := "module") (by fin_once lk fail)
  have e2 := lv (x := "item") (by fin_once lk fail)
  have e3 := lv (x := "kind") (by fin_once lk fail)
  have e4 := lv (x := "spot") (by fin_once lk fail)
  clear lv hVT
  fin_once g3 fail
  refine w_newTuple H₃ (by fin_once sm fail) fun h₄ H₄ c₄ t₄ => ?_
  refine w_inT (xs := [.str (Str.ofString "fn"), .str (Str.ofString "const")]) (rd_two t₄) (.str _ _) (by decide +kernel) (by decide +kernel) ?_ ?_
  ·exact R.un1 rfl
  rw [show ([PyData.str (Str.ofString "fn"), PyData.str (Str.ofString "const")].any fun y => PyData.eqv y (.str (Str.ofString "const"))) = true from by decide +kernel]
  fin_once g3 fail
  refine w_nth 2 (rg.ch (H₄.ch g (.tail _ (.head _)))) rfl (by fin_once sm fail) (fun v rv => ?_) (by with_unfolding_all rfl)
  refine rv.strE fun t5 rv => ?_
  fin_once g3 fail
  refine w_newTuple H₄ (by fin_once sm fail) fun h₅ H₅ c₅ t₅ => ?_
  fin_once g3 fail
  refine w_nth 5 (rg.ch (H₅.ch g (.tail _ (.head _)))) rfl (by fin_once sm fail) (fun v rv => ?_) (by with_unfolding_all rfl)
  obtain rfl := rv.bool
  fin_once g3 fail
  have al5 : Alls h _ := (H₅.ch h (.head _)).alls
  obtain ⟨Cc, xc⟩ := H₅.cg (bs0 := [g]) T (.head _) (fun b mb => .tail _ mb) ⟨g, .head _, hd⟩ nnS (O.alls al5).ob R (by fin_once om fail : 5 ≤ 8)
  refine c_declare (sps := valueL) Cc hh (M.alls al5) (O.alls al5) (by fin_once om fail) (rd_one t₅) isSp_value (by simp [valueL]) hmo lm (by have : n.length ≤ 100 := ok; fin_once om fail) (fun h₅ tk₅ m' e cS M₅ O₅ => ?_) fun e s' q rr => hE' _ _ ⟨q, rr.escG Cc xc⟩
  fin_once o1 fail
  obtain ⟨g6, xg6, H₆, kp6⟩ := H₅.back (bs0 := [g]) F (fun b mb => .tail _ mb) ⟨g, .head _, hd⟩ cS nnS (fun c hc => by cases hc) (O.alls al5).ob
  fin_once o2 fail
  have al6 : Alls _ g6 := fun b o e f => kp6 b o e f (fun c hc => by cases hc)
  have M₆ := M₅.alls al6
  have O₆ := O₅.alls al6
  have T6 := T.ch (xg6 g (.head _))
  have I6' := M₆.i.ins
  fin_once g3 fail
  refine w_nth 2 (rg.ch (H₆.ch g (.tail _ (.head _)))) rfl (by fin_once sm fail) (fun v rv => ?_) (by with_unfolding_all rfl)
  refine rv.strE fun t7 rv => ?_
  fin_once g3 fail
  refine c_joined (H₆.cx T6 (.head _) R (by fin_once om fail)) (by fin_once om fail) (by have : n.length ≤ 100 := ok; fin_once om fail) fun t8 h₇ tk₇ c₇ => ?_
  have H₇ := H₆.keep c₇
  fin_once g3 fail
  obtain ⟨lj, Dj⟩ := M₆.j
  refine w_put (bs0 := [g]) Dj (xv := ()) trivial H₇ F (.head _) (fun b mb => .tail _ mb) ⟨g, .head _, hd⟩ nnS (by fin_once om fail) fun g8 h8 tk8 xg8 H₈ bt8 D8 _ => ?_
  have M₈ := M₆.setJ (bt8.tqD O₆ Dj) D8 (by fin_once om fail)
  have O₈ := bt8.fpok O₆ Dj D8
  fin_once g3 fail
  have al8 : Alls g8 h8 := (H₈.ch g8 (.head _)).alls
  exact k _ _ _ Fo e (Grew.refl _ _) (C.out (H₈.ch g (.tail _ (.head _)))) ((M₈.alls al8).tr (Alls.tq (P := fun _ => True) fun _ _ e _ => e) (fun _ q => q) (by fin_once om fail)) (O₈.alls al8) (ro.keys (declF_new e).2 fun _ q => .inl q)
 | mod n inner =>
  dsimp only [Itm.d] at ri rg
  have n1 := k_ne1
  have ln : n.length ≤ 100 := ok
  dsimp only [Itm.kd, Itm.d, Bool.false_eq_true, ↓reduceIte] at H₃
  refine H₃.opE fun VT hVT lv H₃ => ?_
  have e0 := lv (x := "self") (by fin_once lk fail)
  have e1 := lv (x := "module") (by fin_once lk fail)
  have e2 := lv (x := "item") (by fin_once lk fail)
  have e3 := lv (x := "kind") (by fin_once lk fail)
  have e4 := lv (x := "spot") (by fin_once lk fail)
  clear lv hVT
  fin_once g3 fail
  refine w_nth 2 (rg.ch (H₃.ch g (.tail _ (.head _)))) rfl (by fin_once sm fail) (fun v rv => ?_) (by with_unfolding_all rfl)
  refine rv.strE fun t5 rv => ?_
  fin_once g3 fail
  refine w_newTuple H₃ (by fin_once sm fail) fun h₅ H₅ c₅ t₅ => ?_
  fin_once g3 fail
  refine w_nth 4 (rg.ch (H₅.ch g (.tail _ (.head _)))) rfl (by fin_once sm fail) (fun v rv => ?_) (by with_unfolding_all rfl)
  obtain rfl := rv.bool
  fin_once g3 fail
  have al5 : Alls h _ := (H₅.ch h (.head _)).alls
  obtain ⟨Cc, xc⟩ := H₅.cg (bs0 := [g]) T (.head _) (fun b mb => .tail _ mb) ⟨g, .head _, hd⟩ nnS (O.alls al5).ob R (by fin_once om fail : 5 ≤ 8)
  refine c_declare (sps := typeL) Cc hh (M.alls al5) (O.alls al5) (by fin_once om fail) (rd_one t₅) isSp_type (by simp [typeL]) hmo lm (by fin_once om fail) (fun h₅ tk₅ m' e cS M₅ O₅ => ?_) fun ex s' q rr => hE' _ _ ⟨by show (declF m mo n (Str.ofString "mod") typeL).map _ = _; rw [q]; rfl, rr.escG Cc xc⟩
  fin_once o1 fail
  obtain ⟨g6, xg6, H₆, kp6⟩ := H₅.back (bs0 := [g]) F (fun b mb => .tail _ mb) ⟨g, .head _, hd⟩ cS nnS (fun c hc => by cases hc) (O.alls al5).ob
  have al6 : Alls _ g6 := fun b o e f => kp6 b o e f (fun c hc => by cases hc)
  have M₆ := M₅.alls al6
  have O₆ := O₅.alls al6
  have T6 := T.ch (xg6 g (.head _))
  have I6' := M₆.i.ins
  obtain ⟨nk, tkn⟩ := declF_new e
  fin_once o2 fail
  fin_once g3 fail
  refine c_table (H₆.cx T6 (.head _) R (by fin_once om fail)) fun tt td da db du h₇ tk₇ c₇ tn => ?_
  have H₇ := H₆.keep c₇
  refine H₇.nowK F fun g7 xg7 H₇ kp7 => ?_
  have al7 : Alls h₇ g7 := fun b o e f => kp7 b o e f (fun c hc => by cases hc)
  have T7 := T.ch (xg7 g (.tail _ (.head _)))
  have T6' := T6
  fin_once g3 fail
  refine w_nth 2 (rg.ch (H₇.ch g (.tail _ (.tail _ (.head _))))) rfl (by fin_once sm fail) (fun v rv => ?_) (by with_unfolding_all rfl)
  refine rv.strE fun t9 rv => ?_
  fin_once g3 fail
  refine c_joined (H₇.cx T7 (.head _) R (by fin_once om fail)) (by fin_once om fail) (by fin_once om fail) fun t8 h₈ tk₈ c₈ => ?_
  have H₈ := H₇.keep c₈
  fin_once g3 fail
  have a67 : Alls g6 h₅ := (H₆.ch g6 (.head _)).alls
  have a8 : Alls g6 g7 := fun b o e f => al7 b o (c₇.alls b o (a67 b o e f) f) f
  have tno : at? m'.tabs (J mo n) = none := by
   cases q : at? m'.tabs (J mo n) with
   | none => rfl
   | some tb =>
    have h1 : (at? m'.tabs (J mo n)).isSome = true := by rw [q]; rfl
    rw [at?_isSome, tkn, ← at?_isSome] at h1
    have := ti _ h1
    rw [nk] at this
    cases this
  have O7 := O₆.addT (p := J mo n) a67 tn.new tn.nd a8 (tn.ex fun z _ => al7 z) fun a r ha => by
   have : ∀ q, (r = .ty q ∨ r = .va q ∨ r = .us q ∨ r = .tb q) → q ≠ J mo n := fun q hr e => by
    have := ti _ (ro a q r ha hr)
    rw [e, nk] at this
    cases this
   exact ⟨fun e => this _ (.inr (.inr (.inr e))) rfl, fun e => this _ (.inl e) rfl, fun e => this _ (.inr (.inl e)) rfl, fun e => this _ (.inr (.inr (.inl e))) rfl⟩
  have sF : ∀ p ∈ Fo, p ∈ Fo ++ tabFp tt td da db du (J mo n) := fun p hp => List.mem_append_left _ hp
  have sF' : ∀ p ∈ Fo ++ tabFp tt td da db du (J mo n), p ∈ Fo ++ tabFp tt td da db du (J mo n) := fun p hp => hp
  have M7 := M₆.tr (n' := N + 4) a8.tq sF (Nat.le_refl _)
  have new5 : ∀ a ∈ (tabFp tt td da db du (J mo n)).map (·.1), h₅.get? a = none := tn.new
  have nn7 : ∀ b ∈ [g], ∀ a ∈ (Fo ++ tabFp tt td da db du (J mo n)).map (·.1), b.get? a = none := fun b mb a ma => by
   rw [List.map_append, List.mem_append] at ma
   rcases ma with ma | ma
   ·exact nnS b mb a ma
   ·rw [List.mem_singleton.mp mb]
    have := new5 a ma
    exact (H₆.ch g (by fin_once sm fail)).nn this
  refine w_put (bs0 := [g]) M7.t (xv := (J mo n, ⟨[], [], []⟩)) (tn.tabF (fun z _ => al7 z) _) H₈ F (.head _) (fun b mb => .tail _ (.tail _ mb)) ⟨g, .head _, hd⟩ nn7 (by fin_once om fail) fun g9 h9 tk9 xg9 H₉ bt9 _ D9 => ?_
  have D9 := D9 (by rw [at?_keyed, tno]; rfl)
  have tq9 := bt9.tqD O7 M7.t
  have D9' := D9.tr (P := fun _ => True) (n' := N + 4 + 1) (R' := TabF (Fo ++ tabFp tt td da db du (J mo n)) g9 (N + 4 + 1)) (Alls.tq fun _ _ e _ => e) trivial sF' (fun _ _ q => q.tr tq9 ⟨nofun, nofun⟩ nofun nofun nofun sF' (by fin_once om fail)) (Nat.le_refl _)
  have M9 := M7.setTabs (l := m'.tabs ++ [(J mo n, ⟨[], [], []⟩)]) tq9 (by rw [List.map_append]; exact D9') (by fin_once om fail)
  have O9 := bt9.fpok O7 M7.t D9
  fin_once g3 fail
  have al9 : Alls g9 h9 := (H₉.ch g9 (.head _)).alls
  refine k _ _ _ (Fo ++ tabFp tt td da db du (J mo n)) (by show (declF m mo n (Str.ofString "mod") typeL).map _ = _; rw [e]; rfl) ⟨sF, fun p hp => ?_⟩ (C.out (H₉.ch g (.tail _ (.head _)))) ((M9.alls al9).tr (Alls.tq (P := fun _ => True) fun _ _ e _ => e) (fun _ q => q) (by fin_once om fail)) (O9.alls al9) fun a q r hr hq => ?_
  ·rcases List.mem_append.mp hp with hp | hp
   ·exact .inl hp
   ·refine .inr ?_
    have hn := new5 p.1 (List.mem_map.mpr ⟨p, hp, rfl⟩)
    cases q : h.get? p.1 with
    | none => rfl
    | some o =>
     obtain ⟨sl, z⟩ := (H₅.ch h (.head _)).some q (by fin_once sm fail)
     obtain ⟨sl', z'⟩ := cS.some z fun ma => by
      obtain ⟨o', e', _⟩ := O₅.ob _ ma
      rw [hn] at e'
      cases e'
     rw [hn] at z'
     cases z'
  ·rw [at?_isSome]
   show q ∈ List.map (fun x => x.1) (m'.tabs ++ [(J mo n, (⟨[], [], []⟩ : Tb))])
   rw [List.map_append, List.mem_append, tkn]
   rcases List.mem_append.mp hr with hr | hr
   ·exact .inl ((at?_isSome _ _).mp (ro a q r hr hq))
   ·refine .inr ?_
    rw [tabFp_q hr hq]
    exact .head _
end
omit rt0 in
theorem at?_map_upd {α : Type} (l : List (Str × α)) (x y : Str) (b : α) : at? (l.map fun p => if p.1 = x then (p.1, b) else p) y = if y = x then (at? l x).map fun _ => b else at? l y := by
 induction l with
 | nil => show none = if y = x then none else none; split <;> rfl
 | cons p l ih =>
  obtain ⟨k, a⟩ := p
  rw [List.map_cons]
  by_cases e : k = x
  ·subst e
   rw [if_pos rfl]
   show (if k = y then some b else at? _ y) = if y = k then Option.map _ (if k = k then some a else at? l k) else (if k = y then some a else at? l y)
   rw [if_pos rfl]
   by_cases e : k = y
   ·subst e; rw [if_pos rfl, if_pos rfl]; rfl
   ·rw [if_neg e, if_neg (fun q => e q.symm), if_neg e, ih, if_neg (fun q => e q.symm)]
  ·rw [if_neg e]
   show (if k = y then some a else at? _ y) = if y = x then Option.map _ (if k = x then some a else at? l x) else (if k = y then some a else at? l y)
   rw [if_neg e, ih]
   by_cases e2 : k = y
   ·subst e2; rw [if_pos rfl, if_neg e, if_pos rfl]
   ·rw [if_neg e2, if_neg e2]
omit rt0 in
theorem at?_append {α : Type} (l l' : List (Str × α)) (y : Str) : at? (l ++ l') y = (at? l y).or (at? l' y) := by
 induction l with
 | nil => rfl
 | cons p l ih =>
  obtain ⟨k, a⟩ := p
  show (if k = y then some a else at? (l ++ l') y) = Option.or (if k = y then some a else at? l y) _
  by_cases e : k = y
  ·rw [if_pos e, if_pos e]; rfl
  ·rw [if_neg e, if_neg e, ih]
theorem at?_upd {α : Type} (l : List (Str × α)) (x y : Str) (b : α) : at? (upd l x b) y = if y = x then some b else at? l y := by
 unfold upd
 split
 ·rename_i h
  rw [at?_map_upd]
  by_cases e : y = x
  ·rw [if_pos e, if_pos e]
   obtain ⟨a, ha⟩ := Option.isSome_iff_exists.mp h
   rw [ha]; rfl
  ·rw [if_neg e, if_neg e]
 ·rename_i h
  have hn : at? l x = none := by
   cases q : at? l x with
   | none => rfl
   | some a => rw [q] at h; exact absurd rfl h
  rw [at?_append]
  by_cases e : y = x
  ·rw [if_pos e, e, hn]
   show Option.or none (if x = x then some b else none) = _
   rw [if_pos rfl]; rfl
  ·rw [if_neg e]
   show (at? l y).or (if x = y then some b else none) = _
   rw [if_neg (fun q => e q.symm)]
   cases at? l y <;> rfl
noncomputable def KIn (m : Md) : Prop := ∀ p, (at? m.tabs p).isSome = true → (at? m.kinds p).isSome = true
theorem KIn.more {m m' : Md} (x : KIn m) (k : m'.tabs.map (·.1) = m.tabs.map (·.1)) (h : ∀ p, (at? m.kinds p).isSome = true → (at? m'.kinds p).isSome = true) : KIn m' := fun p q => by
 rw [at?_isSome, k, ← at?_isSome] at q
 exact h p (x p q)
theorem upd_more {α : Type} (l : List (Str × α)) (x p : Str) (b : α) (h : (at? l p).isSome = true) : (at? (upd l x b) p).isSome = true := by
 rw [at?_upd]
 split
 ·rfl
 ·exact h
omit rt0 in
theorem declF_kinds {m m' : Md} {mo name kind : Str} {sps : List Str} (e : declF m mo name kind sps = some m') : m'.kinds = upd m.kinds (J mo name) kind := by
 unfold declF at e
 split at e
 ·cases e
 ·split at e
  ·cases e
  ·cases e; rfl
theorem KIn.decl {m m' : Md} {mo name kind : Str} {sps : List Str} (x : KIn m) (e : declF m mo name kind sps = some m') : KIn m' := x.more (declF_new e).2 fun p h => by rw [declF_kinds e]; exact upd_more _ _ _ _ h
theorem varsF_more {path : Str} : ∀ {vs : List Str} {m m' : Md}, varsF m path vs = some m' → ∀ p, (at? m.kinds p).isSome = true → (at? m'.kinds p).isSome = true
 | [], m, m', e, p, h => by cases e; exact h
 | v :: r, m, m', e, p, h => by
  rw [varsF_c] at e
  split at e
  ·cases e
  ·exact varsF_more e p (upd_more _ _ _ _ h)
noncomputable def subK (mo : Str) : Itm → List Str
 | .mod n _ => [J mo n]
 | _ => []
theorem enterF_keys {m m' : Md} {mo : Str} {i : Itm} (e : enterF m mo i = some m') : m'.tabs.map (·.1) = m.tabs.map (·.1) ++ subK mo i := by
 cases i with
 | use ns al => rw [(useF_keys e).1]; simp [subK]
 | fn n => rw [(declF_new e).2]; simp [subK]
 | const n => rw [(declF_new e).2]; simp [subK]
 | trait n => rw [(declF_new e).2]; simp [subK]
 | struct n u => rw [(declF_new e).2]; simp [subK]
 | enum n vs =>
  obtain ⟨m1, e1, e2⟩ := Option.bind_eq_some_iff.mp (show (declF m mo n (Str.ofString "enum") typeL).bind _ = _ from e)
  rw [varsF_tabs e2, (declF_new e1).2]; simp [subK]
 | mod n inner =>
  obtain ⟨m1, e1, rfl⟩ := Option.map_eq_some_iff.mp (show (declF m mo n (Str.ofString "mod") typeL).map _ = _ from e)
  show List.map (fun x => x.1) (m1.tabs ++ [(J mo n, (⟨[], [], []⟩ : Tb))]) = _
  rw [List.map_append, (declF_new e1).2]; rfl
theorem KIn.enter {m m' : Md} {mo : Str} {i : Itm} (x : KIn m) (e : enterF m mo i = some m') : KIn m' := by
 cases i with
 | use ns al => exact x.more (useF_keys e).1 fun p h => by rw [(useF_keys e).2]; exact h
 | fn n => exact KIn.decl x e
 | const n => exact KIn.decl x e
 | trait n => exact KIn.decl x e
 | struct n u => exact KIn.decl x e
 | enum n vs =>
  obtain ⟨m1, e1, e2⟩ := Option.bind_eq_some_iff.mp (show (declF m mo n (Str.ofString "enum") typeL).bind _ = _ from e)
  exact (KIn.decl x e1).more (congrArg _ (varsF_tabs e2)) (varsF_more e2)
 | mod n inner =>
  obtain ⟨m1, e1, rfl⟩ := Option.map_eq_some_iff.mp (show (declF m mo n (Str.ofString "mod") typeL).map _ = _ from e)
  intro p hp
  have x1 := KIn.decl x e1
  rw [at?_isSome] at hp
  have hp : p ∈ List.map (fun x => x.1) (m1.tabs ++ [(J mo n, (⟨[], [], []⟩ : Tb))]) := hp
  rw [List.map_append, List.mem_append] at hp
  rcases hp with hp | hp
  ·exact x1 p ((at?_isSome _ _).mpr hp)
  ·simp only [List.map_cons, List.map_nil, List.mem_singleton] at hp
   subst hp
   show (at? m1.kinds _).isSome = true
   rw [declF_kinds e1, at?_upd, if_pos rfl]; rfl
abbrev Wl := List (Str × List Itm)
noncomputable def subs (mo : Str) : Itm → Wl
 | .mod n inner => [(J mo n, inner)]
 | _ => []
noncomputable def innerF (mo : Str) : List Itm → Md → Wl → Option (Md × Wl)
 | [], m, l => some (m, l)
 | i :: r, m, l => match enterF m mo i with
  | none => none
  | some m' => innerF mo r m' (l ++ subs mo i)
omit rt0 in
theorem innerF_c {mo : Str} {i : Itm} {r : List Itm} {m : Md} {l : Wl} : innerF mo (i :: r) m l = match enterF m mo i with | none => none | some m' => innerF mo r m' (l ++ subs mo i) := rfl
noncomputable def runF : Nat → Wl → Md → Option Md
 | 0, _, m => some m
 | k + 1, l, m => match l.getLast? with
  | none => some m
  | some (mo, inner) => (innerF mo inner m l.dropLast).bind fun p => runF k p.2 p.1
mutual
noncomputable def Itm.mc : Itm → Nat
 | .mod _ inner => 1 + Itm.mcs inner
 | _ => 0
noncomputable def Itm.mcs : List Itm → Nat
 | [] => 0
 | i :: r => Itm.mc i + Itm.mcs r
end
mutual
noncomputable def Itm.ic : Itm → Nat
 | .mod _ inner => 1 + Itm.ics inner
 | _ => 1
noncomputable def Itm.ics : List Itm → Nat
 | [] => 0
 | i :: r => Itm.ic i + Itm.ics r
end
mutual
noncomputable def Itm.okAt (mo : Str) : Itm → Prop
 | .mod n inner => n.length ≤ 100 ∧ (J mo n).length ≤ 200 ∧ Itm.oksAt (J mo n) inner
 | .fn n => ItmOk (.fn n)
 | .const n => ItmOk (.const n)
 | .struct n u => ItmOk (.struct n u)
 | .enum n vs => ItmOk (.enum n vs)
 | .trait n => ItmOk (.trait n)
 | .use ns al => ItmOk (.use ns al)
noncomputable def Itm.oksAt (mo : Str) : List Itm → Prop
 | [] => True
 | i :: r => Itm.okAt mo i ∧ Itm.oksAt mo r
end
noncomputable def wtL (l : Wl) : Nat := (l.map fun p => 1 + Itm.mcs p.2).sum
noncomputable def icL (l : Wl) : Nat := (l.map fun p => Itm.ics p.2).sum
noncomputable def md0 : Md := ⟨[(Str.ofString "", Str.ofString "mod")], [(Str.ofString "", true)], [(Str.ofString "", ⟨[], [], []⟩)]⟩
noncomputable def buildF (items : List Itm) : Option Md := runF (1 + Itm.mcs items) [(Str.ofString "", items)] md0
omit rt0 in
theorem okAt_ok {mo : Str} {i : Itm} (h : Itm.okAt mo i) : ItmOk i := by
 cases i with
 | mod n inner => simp only [Itm.okAt] at h; exact h.1
 | _ => simp only [Itm.okAt] at h; exact h
omit rt0 in
theorem wt_subs (mo : Str) (i : Itm) : wtL (subs mo i) = Itm.mc i := by
 cases i <;> simp [subs, wtL, Itm.mc]
omit rt0 in
theorem ic_subs (mo : Str) (i : Itm) : icL (subs mo i) + (subs mo i).length + (if (subs mo i) = [] then 1 else 0) = Itm.ic i := by
 cases i <;> simp [subs, icL, Itm.ic]
 fin_once om fail
omit rt0 in
theorem wt_app (l l' : Wl) : wtL (l ++ l') = wtL l + wtL l' := by simp [wtL]
omit rt0 in
theorem ic_app (l l' : Wl) : icL (l ++ l') = icL l + icL l' := by simp [icL]
section
variable {A : Around} {E : Value → Shared → Prop} {h : Heap} {tk : Nat} {Q : Value → Shared → Prop}
theorem c_ljoined {x y : Str} {t u : Tok} (C : Cx (Mine.hd.heap_1 w.params) A h 1)
  (hx : x.length ≤ 1000) (hy : y.length ≤ 1000) (k : ∀ t' h' tk', Ch [] h h' → Q (.str (J x y) t') (St s h' tk')) :
  wpAny (model prog w) A (call (.ref 294) [.str x t, .str y u]) Q E (St s h tk) := by
 refine fn0c (vals := [.str x t, .str y u]) ["module", "name"] [] [] C (by k_is) (by k_is) (BindsTo.of_eq rfl) rfl (by decide +kernel) (by decide +kernel) rfl rfl rfl rfl (by decide) ?_
 intro env L h₁ tk₁ F H hc T R
 dsimp only [List.cons_append, List.nil_append, List.map] at F H
 fin_once g1 fail
 refine w_ite (fun e => ?_) fun e => ?_
 ·have e' : x = Str.ofString "" := by simpa using e
  have : J x y = y := by unfold J; rw [if_pos e']
  fin_once g1 fail
  rw [← this]
  exact k _ _ _ hc
 ·have e' : ¬ x = Str.ofString "" := by simpa using e
  have : J x y = x ++ Str.ofString "::" ++ y := by unfold J; rw [if_neg e']
  fin_once g1 fail
  rw [← this]
  exact k _ _ _ hc
end
noncomputable def SrcO (o : Obj) : Prop := o.cls = .type "list" ∧ ∃ n a t b u, o.data = .seq #[.int a t, .int b u] n ∧ 0 ≤ a ∧ 0 ≤ b ∧ b < 2147483647
section
variable {A : Around} {E : Value → Shared → Prop} {h : Heap} {tk : Nat} {Q : Value → Shared → Prop}
theorem c_take {src : Addr} {top : Int} {tt : Tok} (C : Cm (Mine.hd.heap_1 w.params) A h [src] 1) (I : ∃ o, h.get? src = some o ∧ SrcO o) (ht : 0 < top) (ht' : top ≤ 1000)
  (k : ∀ v u h' tk', 0 ≤ v → v < top → Ch [src] h h' → (∃ o', h'.get? src = some o' ∧ SrcO o') → Q (.int v u) (St s h' tk')) :
  wpAny (model prog w) A (call (.ref 276) [.ref src, .int top tt]) Q E (St s h tk) := by
 fin_once o1 fail
 obtain ⟨⟨g, T, x, n, d, kp⟩, ff, r⟩ := C
 obtain ⟨o, ho, hc, n', a, t, b, u, hd, a0, b0, b1⟩ := I
 fin_once o2 fail
 have fr : ∀ b o, h.get? b = some o → isFr b o = true → b ∉ [src] := fun b o' e f q => by
  rw [List.mem_singleton] at q
  rw [q, ho] at e
  cases e
  rw [mutO_fr (mutO_list hc)] at f
  cases f
 refine fn0 (bs := [g]) (cs := [(src, LO [.int a t, .int b u])]) (vals := [.ref src, .int top tt]) ["source", "top"] ["drawn"] ["int"] T (.head _) (by simpa using x) ⟨fun c hc => ?_, by fin_once sm fail⟩ (by simpa using n) ff ⟨_, .head _, d⟩ (by k_is) (by k_is) r.room (BindsTo.of_eq rfl) rfl (by decide +kernel) (by decide +kernel) rfl rfl rfl rfl (by decide) ?_
 ·rw [List.mem_singleton.mp hc]
  exact ⟨o, ho, ⟨by assumption, n', hd⟩, mutO_list (by assumption)⟩
 intro env L h₁ tk₁ F H hc hL
 dsimp only [List.cons_append, List.nil_append, List.map] at F H
 have fin : ∀ {a' t' b' u' vs h'}, At (A.deeper env) [g] L ["source", "top", "drawn"] [(src, LO [.int a' t', .int b' u'])] vs h' → 0 ≤ a' → 0 ≤ b' → b' < 2147483647 → Ch [src] h h' ∧ ∃ o', h'.get? src = some o' ∧ SrcO o' := fun {a' t' b' u' vs h'} H' q1 q2 q3 => by
  refine H'.cells.getK (.head _) fun o' e' pk2 _ => ?_
  obtain ⟨c', m', d'⟩ := pk2
  exact ⟨unhide (H'.ch g (.head _)) kp fr, o', e', c', m', a', t', b', u', by rw [d'], q1, q2, q3⟩
 repeat' (first | fin_once wk fail | fin_once mo fail)
 have ht2 : top ≠ 0 := by fin_once om fail
 refine w_ite (fun e => ?_) fun e => ?_
 ·have e' : 0 < a := by simpa using e
  have m0 : 0 ≤ a.fmod top := Int.fmod_nonneg_of_pos a ht
  have m1 : a.fmod top < top := Int.fmod_lt_of_pos a ht
  have d0 : 0 ≤ a.fdiv top := Int.fdiv_nonneg a0 (by fin_once om fail)
  repeat' (first | fin_once wk fail | fin_once mo fail)
  rename At _ _ _ _ _ _ _ => H₃
  obtain ⟨c1, c2⟩ := fin H₃ d0 b0 b1
  exact k _ _ _ _ m0 m1 c1 c2
 ·have m0 : 0 ≤ (b * 39373 + 7).fmod 2147483647 := Int.fmod_nonneg_of_pos _ (by fin_once om fail)
  have m1 : (b * 39373 + 7).fmod 2147483647 < 2147483647 := Int.fmod_lt_of_pos _ (by fin_once om fail)
  repeat' (first | fin_once wk fail | fin_once mo fail)
  rename At _ _ _ _ _ _ _ => H₃
  obtain ⟨c1, c2⟩ := fin H₃ a0 m0 m1
  exact k _ _ _ _ (Int.fmod_nonneg_of_pos _ ht) (Int.fmod_lt_of_pos _ ht) c1 c2
theorem frs_src {src : Addr} {o : Obj} (ho : h.get? src = some o) (so : SrcO o) : ∀ b o, h.get? b = some o → isFr b o = true → b ∉ [src] := fun b o' e f q => by
 rw [List.mem_singleton] at q
 rw [q, ho] at e
 cases e
 rw [mutO_fr (mutO_list so.1)] at f
 cases f
theorem At.drew {A : Around} {bs : List Heap} {L : Addr} {ks : List Str} {cs : List Cell} {vs : List (Option Value)} {h h' : Heap} {src : Addr} (H : At A bs L ks cs vs h) (m : (src, SrcO) ∈ cs) (x : Ch [src] h h') (so : ∃ o', h'.get? src = some o' ∧ SrcO o') : At A bs L ks cs vs h' := by
 have nd := H.cells.nd
 refine H.turned x (fun a ha => ?_) ⟨fun c hc => ?_, nd⟩ fun c hc => .inl ⟨c, hc, rfl⟩
 ·rw [List.mem_singleton.mp ha]
  exact ⟨_, m, rfl⟩
 ·fin_once o1 fail
  obtain ⟨o, e, p, mu⟩ := H.cells.all c hc
  fin_once o2 fail
  by_cases q : c.1 = src
  ·obtain ⟨o', e', s'⟩ := so
   have : c = (src, SrcO) := by
    have key : ∀ {l : List Cell} {c d : Cell}, (l.map (·.1)).Nodup → c ∈ l → d ∈ l → c.1 = d.1 → c = d := by
     intro l
     induction l with
     | nil => intro c d _ h; cases h
     | cons x l ih =>
      intro c d nd hc hd e
      rw [List.map_cons, List.nodup_cons] at nd
      rcases List.mem_cons.mp hc with rfl | hc2 <;> rcases List.mem_cons.mp hd with rfl | hd2
      ·rfl
      ·exact absurd (List.mem_map.mpr ⟨d, hd2, e.symm⟩ : c.1 ∈ l.map (·.1)) nd.1
      ·exact absurd (List.mem_map.mpr ⟨c, hc2, e⟩ : d.1 ∈ l.map (·.1)) nd.1
      ·exact ih nd.2 hc2 hd2 e
    exact key nd hc m q
   subst this
   exact ⟨o', e', s', mutO_list s'.1⟩
  ·exact ⟨o, x.same _ _ e (by simpa using q) (mutO_fr mu), p, mu⟩
theorem c_one {src l : Addr} {its : Array Value} (C : Cm (Mine.hd.heap_1 w.params) A h [src] 2) (I : ∃ o, h.get? src = some o ∧ SrcO o) (hl : h.IsList l its) (ne : l ≠ src) (hz : 0 < its.size) (hz' : its.size ≤ 1000)
  (k : ∀ (i : Nat) v h' tk', its[i]? = some v → Ch [src] h h' → (∃ o', h'.get? src = some o' ∧ SrcO o') → Q v (St s h' tk')) :
  wpAny (model prog w) A (call (.ref 283) [.ref src, .ref l]) Q E (St s h tk) := by
 fin_once o1 fail
 obtain ⟨⟨g, T, x, n, d, kp⟩, ff, r⟩ := C
 obtain ⟨o, ho, so⟩ := I
 fin_once o2 fail
 have fr := frs_src ho so
 have gl : g.IsList l its := by
  fin_once o1 fail
  obtain ⟨ol, e, c, r⟩ := hl
  fin_once o2 fail
  exact ⟨ol, kp _ _ e (by simpa using ne), c, r⟩
 refine fn0 (bs := [g]) (cs := [(src, SrcO)]) (vals := [.ref src, .ref l]) ["source", "things"] [] ["_law_take", "len"] T (.head _) (by simpa using x) ⟨fun c hc => ?_, by fin_once sm fail⟩ (by simpa using n) ff ⟨_, .head _, d⟩ (by k_is) (by k_is) r.room (BindsTo.of_eq rfl) rfl (by decide +kernel) (by decide +kernel) rfl rfl rfl rfl (by decide) ?_
 ·rw [List.mem_singleton.mp hc]
  exact ⟨o, ho, so, mutO_list so.1⟩
 intro env L h₁ tk₁ F H hc hL
 dsimp only [List.cons_append, List.nil_append, List.map] at F H
 repeat' (first | fin_once wk fail | fin_once mo fail)
 refine w_len_list (isList_ch gl (H.ch g (.head _))) (by fin_once om fail) fun u tk₂ => ?_
 repeat' (first | fin_once wk fail | fin_once mo fail)
 refine H.cells.getK (.head _) fun o₁ e₁ s₁ _ => ?_
 refine c_take (H.cm T (.head _) (fun a ha => ⟨(src, SrcO), .head _, (List.mem_singleton.mp ha).symm⟩) (r.deeper (m := 1) (by fin_once om fail)) (by fin_once om fail)) ⟨o₁, e₁, s₁⟩ (by fin_once om fail) (by fin_once om fail) fun v u h₃ tk₃ v0 v1 c₃ so₃ => ?_
 have H₃ := H.drew (.head _) c₃ so₃
 obtain ⟨j, rfl⟩ := Int.eq_ofNat_of_zero_le v0
 have hj : j < its.size := by fin_once om fail
 have gx : its[j]? = some its[j] := Array.getElem?_eq_getElem hj
 refine w_Lget (isList_ch gl (H₃.ch g (.head _))) gx (by fin_once om fail) ?_ (by with_unfolding_all rfl)
 repeat' (first | fin_once wk fail | fin_once mo fail)
 exact k j _ _ _ gx (unhide (H₃.ch g (.head _)) kp fr) so₃
end
section
variable {A : Around} {E : Value → Shared → Prop} {env : Env}
theorem w_pair {s : Shared} {ke ve : PySem.Expr} {pos : Pos} {rest : List (Sem Value × Sem Value)} {Q : List (Value × Value) → Shared → Prop}
  (h : wpAny (model prog w) A (eval ke env) (fun kv s₁ => wpAny (model prog w) A (eval ve env) (fun vv s₂ => wpAny (model prog w) A (evalPairs rest) (fun vs s₃ => Q ((kv, vv) :: vs) s₃) E s₂) E s₁) E s) :
  wpAny (model prog w) A (evalPairs ((eval ke env, (do let x ← eval ve env; standAt pos; pure x)) :: rest)) Q E s :=
 evalPairs_cons (wpAny_mono h (fun _ _ q => wpAny_bind (wpAny_mono q (fun _ _ q => wpAny_bind (wpAny_standAt (wpAny_pure q))) fun _ _ q => q)) fun _ _ q => q)
noncomputable def DisP (A : Around) (L : Addr) (ks : List Str) (d : Addr) (Q : Value → Shared → Prop) (vl : List (Value × Value)) : Shared → Prop := fun s₁ => ∃ kvs bs' cs' vs' h₁ tk₁, s₁ = St s h₁ tk₁ ∧ Carries (PySem.strKind prog w) vl kvs ∧ At A bs' L ks ((d, Dct []) :: cs') vs' h₁ ∧
   ∀ h₂ tk₂, At A bs' L ks ((d, Dct (merged [] kvs)) :: cs') vs' h₂ → Heap.SameBut d h₁ h₂ → Q (.ref d) (St s h₂ tk₂)
variable {g h : Heap} {tk : Nat} {L : Addr} {ks : List Str} {bs : List Heap} {cs : List Cell} {vs : List (Option Value)} {K : Frag} {Q : Value → Shared → Prop}
theorem w_dict1 {ke ve : PySem.Expr} {pos : Pos} (H : At A bs L ks cs vs h) (T : Tp K g) (mb : g ∈ bs) (lo : ∃ b o, K.lookup b = some o ∧ sysModules ≤ b)
  (k : ∀ d h', h.get? d = none → (d == sysModules) = false → At A bs L ks ((d, Dct []) :: cs) vs h' → Ch [] h h' → wpAny (model prog w) A (eval ke env) (fun kv s₁ => wpAny (model prog w) A (eval ve env) (fun vv s₂ => DisP A L ks d Q [(kv, vv)] s₂) E s₁) E (St s h' tk)) :
  wpAny (model prog w) A (eval (.Dict [some ke] [ve] pos) env) Q E (St s h tk) :=
 w_dictP (pairs := [(eval ke env, (do let x ← eval ve env; standAt pos; pure x))]) H T mb lo rfl (by fin_once sm fail) (Nat.le_of_ble_eq_true rfl) fun d h' a b c e => w_pair (wpAny_mono (k d h' a b c e) (fun _ _ q => wpAny_mono q (fun _ _ q => evalPairs_nil q) fun _ _ q => q) fun _ _ q => q)
theorem w_dict2 {ke ve ke2 ve2 : PySem.Expr} {pos : Pos} (H : At A bs L ks cs vs h) (T : Tp K g) (mb : g ∈ bs) (lo : ∃ b o, K.lookup b = some o ∧ sysModules ≤ b)
  (k : ∀ d h', h.get? d = none → (d == sysModules) = false → At A bs L ks ((d, Dct []) :: cs) vs h' → Ch [] h h' → wpAny (model prog w) A (eval ke env) (fun kv s₁ => wpAny (model prog w) A (eval ve env) (fun vv s₂ => wpAny (model prog w) A (eval ke2 env) (fun kv2 s₃ => wpAny (model prog w) A (eval ve2 env) (fun vv2 s₄ => DisP A L ks d Q [(kv, vv), (kv2, vv2)] s₄) E s₃) E s₂) E s₁) E (St s h' tk)) :
  wpAny (model prog w) A (eval (.Dict [some ke, some ke2] [ve, ve2] pos) env) Q E (St s h tk) :=
 w_dictP (pairs := [(eval ke env, (do let x ← eval ve env; standAt pos; pure x)), (eval ke2 env, (do let x ← eval ve2 env; standAt pos; pure x))]) H T mb lo rfl (by fin_once sm fail) (Nat.le_of_ble_eq_true rfl) fun d h' a b c e => w_pair (wpAny_mono (k d h' a b c e) (fun _ _ q => wpAny_mono q (fun _ _ q => w_pair (wpAny_mono q (fun _ _ q => wpAny_mono q (fun _ _ q => evalPairs_nil q) fun _ _ q => q) fun _ _ q => q)) fun _ _ q => q) fun _ _ q => q)
end
omit rt0 in
theorem paired_last {α β : Type} {R : α → β → Prop} : ∀ {l₁ : List α} {l₂ : List β} {b : β}, Paired R l₁ (l₂ ++ [b]) → ∃ l a, l₁ = l ++ [a] ∧ Paired R l l₂ ∧ R a b
 | l₁, [], b, P => by
  cases P with
  | cons r P => cases P; exact ⟨[], _, rfl, .nil, r⟩
 | l₁, c :: l₂, b, P => by
  cases P with
  | cons r P =>
   obtain ⟨l, a, rfl, P', ra⟩ := paired_last P
   exact ⟨_ :: l, a, rfl, .cons r P', ra⟩
omit rt0 in
theorem paired_mono {α β : Type} {R R' : α → β → Prop} {l₁ : List α} {l₂ : List β} (P : Paired R l₁ l₂) (k : ∀ a b, R a b → R' a b) : Paired R' l₁ l₂ := by
 induction P with
 | nil => exact .nil
 | cons r _ ih => exact .cons (k _ _ r) ih
noncomputable def EntAt (g : Heap) (v : Value) (p : Str × List Itm) : Prop := ∃ t tm il its, v = .ref t ∧ IsTup g t #[.str p.1 tm, .ref il] ∧ g.IsList il its ∧ ReadsAll g its.toList (Itm.ds p.2) []
theorem EntAt.ch {g g' : Heap} {v : Value} {p : Str × List Itm} (e : EntAt g v p) (c : Ch [] g g') : EntAt g' v p := by
 fin_once o1 fail
 obtain ⟨t, tm, il, its, rfl, a, b, r⟩ := e
 fin_once o2 fail
 exact ⟨t, tm, il, its, rfl, isTup_ch a c, isList_ch b c, readsAll_ch r c⟩
omit rt0 in
theorem ds_len : ∀ l : List Itm, (Itm.ds l).length = l.length
 | [] => by simp [Itm.ds]
 | i :: r => by simp [Itm.ds, ds_len r]
omit rt0 in
theorem ds_get : ∀ (l : List Itm) (i : Nat), (Itm.ds l)[i]? = (l[i]?).map Itm.d
 | [], i => by simp [Itm.ds]
 | a :: r, 0 => by simp [Itm.ds]
 | a :: r, i + 1 => by simpa [Itm.ds] using ds_get r i
omit rt0 in
theorem ics_len : ∀ l : List Itm, l.length ≤ Itm.ics l
 | [] => by simp [Itm.ics]
 | i :: r => by
  have := ics_len r
  have h1 : 1 ≤ Itm.ic i := by cases i <;> simp [Itm.ic]
  simp only [Itm.ics, List.length_cons]; fin_once om fail
noncomputable def kdS : Itm → Str
 | .fn _ => Str.ofString "fn"
 | .const _ => Str.ofString "const"
 | .struct _ _ => Str.ofString "struct"
 | .enum _ _ => Str.ofString "enum"
 | .trait _ => Str.ofString "trait"
 | .use _ _ => Str.ofString "use"
 | .mod _ _ => Str.ofString "mod"
omit rt0 in
theorem itm_head (mo : Str) (i : Itm) : (∃ n inner, i = .mod n inner) ∨ (∃ rest, i.d = .tuple (.str (kdS i) :: rest) ∧ rest.length ≤ 10 ∧ kdS i ≠ Str.ofString "mod" ∧ subs mo i = []) := by
 cases i with
 | mod n inner => exact .inl ⟨n, inner, rfl⟩
 | fn n => exact .inr ⟨_, rfl, by fin_once sm fail, (by decide +kernel : Str.ofString "fn" ≠ Str.ofString "mod"), rfl⟩
 | const n => exact .inr ⟨_, rfl, by fin_once sm fail, (by decide +kernel : Str.ofString "const" ≠ Str.ofString "mod"), rfl⟩
 | struct n u => exact .inr ⟨_, rfl, by fin_once sm fail, (by decide +kernel : Str.ofString "struct" ≠ Str.ofString "mod"), rfl⟩
 | enum n vs => exact .inr ⟨_, rfl, by fin_once sm fail, (by decide +kernel : Str.ofString "enum" ≠ Str.ofString "mod"), rfl⟩
 | trait n => exact .inr ⟨_, rfl, by fin_once sm fail, (by decide +kernel : Str.ofString "trait" ≠ Str.ofString "mod"), rfl⟩
 | use ns al => exact .inr ⟨_, rfl, by fin_once sm fail, (by decide +kernel : Str.ofString "use" ≠ Str.ofString "mod"), rfl⟩
section
variable {A : Around} {bs : List Heap} {g h : Heap} {L : Addr} {ks : List Str} {cs : List Cell} {vs : List (Option Value)}
theorem At.hide (H : At A bs L ks cs vs h) (mb : g ∈ bs) (S : List Addr) : At A (hideAll g S :: bs) L ks cs vs h := by
 have x : Ch [] (hideAll g S) g := Ch.of_keeps fun b o e => of_hideAll _ e
 have n : ∀ b, g.get? b = none → (hideAll g S).get? b = none := fun b e => by
  cases q : (hideAll g S).get? b with
  | none => rfl
  | some o => rw [of_hideAll _ q] at e; cases e
 refine ⟨fun b m => ?_, fun b m => ?_, fun b m c hc => ?_, H.ns, H.neL, H.cells, H.ff, ?_⟩
 ·rcases List.mem_cons.mp m with rfl | m
  ·exact x.trans (H.ch g mb)
  ·exact H.ch b m
 ·rcases List.mem_cons.mp m with rfl | m
  ·exact n _ (H.newL g mb)
  ·exact H.newL b m
 ·rcases List.mem_cons.mp m with rfl | m
  ·exact n _ (H.newC g mb c hc)
  ·exact H.newC b m c hc
 ·obtain ⟨b, m, d⟩ := H.hd
  exact ⟨b, .tail _ m, d⟩
end
theorem w_listOf' {A : Around} {E : Value → Shared → Prop} {h : Heap} {bs : List Heap} {tk : Nat} {L : Addr} {ks : List Str} {cs : List Cell} {vs : List (Option Value)} {l : Addr} {its : Array Value} {Q : Value → Shared → Prop} (H : At A bs L ks cs vs h) (hl : h.IsList l its ∨ IsTup h l its) (hz : its.size ≤ 10000)
  (k : ∀ lf h', At A bs L ks ((lf, PLO its.toList) :: cs) vs h' → Ch [] h h' → Q (.ref lf) (St s h' tk)) : wpAny (model prog w) A (call (.type "list") [.ref l]) Q E (St s h tk) := w_listOf H hl hz fun h' H' c => k _ h' H' c
theorem w_newListP {A : Around} {E : Value → Shared → Prop} {h : Heap} {bs : List Heap} {tk : Nat} {L : Addr} {ks : List Str} {cs : List Cell} {vs : List (Option Value)} {args : List Value} {Q : Value → Shared → Prop} (H : At A bs L ks cs vs h) (hz : args.length ≤ 10000)
  (k : ∀ lf h', At A bs L ks ((lf, PLO args) :: cs) vs h' → Ch [] h h' → Q (.ref lf) (St s h' tk)) : wpAny (model prog w) A (newList args) Q E (St s h tk) :=
 wpAny_newObj_type (k _ _ (H.push (o := { cls := .type "list", data := .seq args.toArray }) ⟨_, rfl⟩ rfl rfl) (Ch.push ..)) (by show args.toArray.size ≤ sizeLine; rw [List.size_toArray]; exact Nat.le_trans hz (by decide))
omit rt0 in
theorem isTup_hide {g : Heap} {F : Fp} {t : Addr} {its : Array Value} (O : FpOk g F) (x : IsTup g t its) : IsTup (hideAll g (F.map (·.1))) t its := by
 fin_once o1 fail
 obtain ⟨o, e, c, r⟩ := x
 fin_once o2 fail
 refine ⟨o, hideAll_get _ e fun q => ?_, c, r⟩
 obtain ⟨o', e', m⟩ := O.ob _ q
 rw [e] at e'
 cases e'
 exact mutO_tup m c
omit rt0 in
theorem isList_hide {g : Heap} {S : List Addr} {l : Addr} {its : Array Value} (n : l ∉ S) (x : g.IsList l its) : (hideAll g S).IsList l its := by
 fin_once o1 fail
 obtain ⟨o, e, c, r⟩ := x
 fin_once o2 fail
 exact ⟨o, hideAll_get _ e n, c, r⟩
omit rt0 in
theorem runF_nil (k : Nat) (m : Md) : runF k [] m = some m := by cases k <;> rfl
omit rt0 in
theorem wt_nil_iff (l : Wl) : wtL l = 0 ↔ l = [] := by
 cases l with
 | nil => exact ⟨fun _ => rfl, fun _ => rfl⟩
 | cons p l => simp [wtL]
theorem runF_pop (l : Wl) (mo : Str) (inner : List Itm) (m : Md) : runF (wtL (l ++ [(mo, inner)])) (l ++ [(mo, inner)]) m = (innerF mo inner m l).bind fun p => runF (wtL l + Itm.mcs inner) p.2 p.1 := by
 have : wtL (l ++ [(mo, inner)]) = wtL l + Itm.mcs inner + 1 := by rw [wt_app]; simp [wtL]; fin_once om fail
 rw [this]
 show (match (l ++ [(mo, inner)]).getLast? with | none => some m | some (mo, inner) => _) = _
 rw [List.getLast?_append]
 simp
omit rt0 in
theorem itm_shape (i : Itm) : (∃ ds, i.d = .tuple ds ∧ ds.length ≤ 20) ∨ ∃ ds, i.d = .tuple ds := by
 cases i <;> exact .inl ⟨_, rfl, by fin_once sm fail⟩
omit rt0 in
theorem oks_get {mo : Str} : ∀ {l : List Itm} {i : Nat} {x : Itm}, Itm.oksAt mo l → l[i]? = some x → Itm.okAt mo x
 | [], i, x, _, e => by simp at e
 | a :: r, 0, x, h, e => by
  simp at e; subst e
  simp only [Itm.oksAt] at h; exact h.1
 | a :: r, i + 1, x, h, e => by
  simp only [Itm.oksAt] at h
  simp at e
  exact oks_get h.2 e
noncomputable def rk : Ro → Option (Nat × Str)
 | .fz => none
 | .kinds => some (0, Str.ofString "")
 | .pubs => some (1, Str.ofString "")
 | .tabs => some (2, Str.ofString "")
 | .gens => some (3, Str.ofString "")
 | .items => some (4, Str.ofString "")
 | .ty m => some (5, m)
 | .va m => some (6, m)
 | .us m => some (7, m)
 | .tb m => some (8, m)
omit rt0 in
theorem fp_inj : ∀ {F : Fp}, (F.map fun p => rk p.2).Pairwise (fun x y => x = none ∨ x ≠ y) → ∀ a b r, (a, r) ∈ F → (b, r) ∈ F → r ≠ .fz → a = b
 | [], _, _, _, _, h, _, _ => nomatch h
 | p :: F, P, a, b, r, h, h', n => by
  have rn : rk r ≠ none := by cases r <;> simp [rk] at n ⊢
  obtain ⟨P1, P2⟩ := List.pairwise_cons.mp P
  rcases List.mem_cons.mp h with e | h
  ·rcases List.mem_cons.mp h' with e' | h'
   ·rw [← e] at e'; cases e'; rfl
   ·rw [← e] at P1
    exact ((P1 (rk r) (List.mem_map.mpr ⟨_, h', rfl⟩)).elim (fun q => absurd q rn) fun q => absurd rfl q)
  ·rcases List.mem_cons.mp h' with e' | h'
   ·rw [← e'] at P1
    exact ((P1 (rk r) (List.mem_map.mpr ⟨_, h, rfl⟩)).elim (fun q => absurd q rn) fun q => absurd rfl q)
   ·exact fp_inj P2 a b r h h' n
omit rt0 in
theorem rk_in {r : Ro} {q : Str} (h : r = .ty q ∨ r = .va q ∨ r = .us q ∨ r = .tb q) : ∃ n, 5 ≤ n ∧ rk r = some (n, q) := by
 rcases h with rfl | rfl | rfl | rfl
 ·exact ⟨5, by fin_once om fail, rfl⟩
 ·exact ⟨6, by fin_once om fail, rfl⟩
 ·exact ⟨7, by fin_once om fail, rfl⟩
 ·exact ⟨8, by fin_once om fail, rfl⟩
section
variable {A : Around} {L : Addr} {ks gs : List Str} {vs : List (Option Value)} {env : Env}
omit rt0 in
theorem subs_ic {mo : Str} (im : Itm) : icL (subs mo im) + (subs mo im).length ≤ Itm.ic im ∧ icL (subs mo im) + 1 ≤ Itm.ic im := by
 cases im <;> simp [subs, icL, Itm.ic]
 fin_once om fail
theorem Rse.as {nf : Addr} {A A' : Around} {bs : List Heap} {e : Value} {s' : Shared} (r : Rse nf A' bs e s') (q : A'.handled = A.handled) : Rse nf A bs e s' := by
 induction r
 rename_i a h' tk' x f
 exact .mk x (q ▸ f)
theorem seed {g1 h h9 ha hc : Heap} {x dx dk dp dt dg di tt td ta tb tu : Addr} {tm : Tok}
  (Hc : At A [g1, h] L ks [(di, Dct []), (dg, Dct []), (dt, Dct [(Str.ofString "", .ref tt)]), (dp, Dct [(Str.ofString "", .bool true)]), (dk, Dct [(Str.ofString "", .str (Str.ofString "mod") tm)]), (x, fun o => o = instObj 258 dx), (dx, FldObj [(Str.ofString "kinds", .ref dk), (Str.ofString "publics", .ref dp), (Str.ofString "tables", .ref dt), (Str.ofString "generics", .ref dg), (Str.ofString "items", .ref di)])] vs hc)
  (F : Fn A env L ks gs) (hd : HdOk A h) (tn : TabNew h9 ha tt td ta tb tu) (al : ∀ z ∈ [tt, td, ta, tb, tu], ∀ o, ha.get? z = some o → isFr z o = false → g1.get? z = some o) (c9 : Ch [] h h9) (l1 : (dk == sysModules) = false) (l2 : (dp == sysModules) = false) (l3 : (dt == sysModules) = false) (l4 : (dg == sysModules) = false) (l5 : (di == sysModules) = false) :
  ∃ Fo g2 gh, At A [g2, gh, h] L ks [] vs hc ∧ Ch [] h gh ∧ Ch [] h g2 ∧ MdX Fo g2 1 x dk dp dt dg di md0 ∧ FpOk g2 Fo ∧ (∀ a ∈ Fo.map (·.1), gh.get? a = none) ∧ (∀ a ∈ Fo.map (·.1), h.get? a = none) ∧ RO Fo md0 := by
 have cells := Hc.cells.all
 have nd7 := Hc.cells.nd
 have n1 := Hc.newC g1 (.head _)
 have nh := Hc.newC h (.tail _ (.head _))
 refine (Hc.sub (cs' := []) (List.nil_sublist _)).nowK F fun g2 xg2 H2 kp2 => ?_
 have al2 : Alls hc g2 := fun b o e f => kp2 b o e f (fun c hc => by cases hc)
 have al1 : Alls g1 g2 := fun b o e f => al2 b o ((Hc.ch g1 (.head _)).alls b o e f) f
 have ala : ∀ z ∈ [tt, td, ta, tb, tu], ∀ o, ha.get? z = some o → isFr z o = false → g2.get? z = some o := fun z m o e f => al1 z o (al z m o e f) f
 simp only [List.forall_mem_cons] at cells n1 nh
 fin_once o1 fail
 obtain ⟨⟨oi, ei, Di, mi⟩, ⟨og, eg, Dg, mg⟩, ⟨ot, et, Dt, mt⟩, ⟨op, ep, Dp, mp⟩, ⟨ok, ek, Dk, mk⟩, ⟨ox, ex, rfl, mx⟩, ⟨od, ed, Fd, md⟩, _⟩ := cells
 fin_once o2 fail
 obtain ⟨Fo, hFo⟩ : ∃ Fo : Fp, Fo = [(x, Ro.fz), (dx, Ro.fz), (dk, Ro.kinds), (dp, Ro.pubs), (dt, Ro.tabs), (dg, Ro.gens), (di, Ro.items)] ++ tabFp tt td ta tb tu (Str.ofString "") := ⟨_, rfl⟩
 have eM : Fo.map (·.1) = [x, dx, dk, dp, dt, dg, di] ++ [tt, td, ta, tb, tu] := by rw [hFo]; rfl
 have ek2 : (Fo.map fun p => rk p.2) = [none, none, rk .kinds, rk .pubs, rk .tabs, rk .gens, rk .items] ++ (tabFp 0 0 0 0 0 (Str.ofString "")).map fun p => rk p.2 := by rw [hFo]; rfl
 have tnh : ∀ z ∈ [tt, td, ta, tb, tu], h.get? z = none := fun z m => by
  exact (c9).nn (tn.new z m)
 have ex1 := tn.ex al
 have ex2 := tn.ex ala
 have cr : ∀ a ∈ [x, dx, dk, dp, dt, dg, di], g1.get? a = none ∧ h.get? a = none ∧ ∃ o, g2.get? a = some o ∧ mutO o = true := by
  exact alc ⟨n1.2.2.2.2.2.1, nh.2.2.2.2.2.1, _, al2 _ _ ex (mutO_fr mx), mx⟩ (alc ⟨n1.2.2.2.2.2.2.1, nh.2.2.2.2.2.2.1, _, al2 _ _ ed (mutO_fr md), md⟩ (alc ⟨n1.2.2.2.2.1, nh.2.2.2.2.1, _, al2 _ _ ek (mutO_fr mk), mk⟩ (alc ⟨n1.2.2.2.1, nh.2.2.2.1, _, al2 _ _ ep (mutO_fr mp), mp⟩ (alc ⟨n1.2.2.1, nh.2.2.1, _, al2 _ _ et (mutO_fr mt), mt⟩ (alc ⟨n1.2.1, nh.2.1, _, al2 _ _ eg (mutO_fr mg), mg⟩ (alc ⟨n1.1, nh.1, _, al2 _ _ ei (mutO_fr mi), mi⟩ aln))))))
 have nFh : ∀ a ∈ Fo.map (·.1), h.get? a = none := fun a m => by
  rw [eM, List.mem_append] at m
  exact m.elim (fun m => (cr a m).2.1) (tnh a)
 have O : FpOk g2 Fo := by
  refine ⟨?_, fun a m => ?_, fun a b r hx hy hr => ?_⟩
  ·rw [eM, List.nodup_append]
   refine ⟨?_, tn.nd, fun a ha b hb q => ?_⟩
   ·exact nd_rev rfl nd7
   ·obtain ⟨o, e, _⟩ := ex1 b hb
    rw [← q, (cr a ha).1] at e
    cases e
  ·rw [eM, List.mem_append] at m
   exact m.elim (fun m => (cr a m).2.2) (ex2 a)
  ·exact fp_inj (by rw [ek2]; decide +kernel) a b r hx hy hr
 have M : MdX Fo g2 1 x dk dp dt dg di md0 := by
  refine ⟨⟨dx, od, .inl (by rw [hFo]; exact List.mem_append_left _ (by fin_once sm fail)), .inl (by rw [hFo]; exact List.mem_append_left _ (by fin_once sm fail)), al2 _ _ ex (mutO_fr mx), al2 _ _ ed (mutO_fr md), Fd⟩, ⟨_, _, by rw [hFo]; exact List.mem_append_left _ (by fin_once sm fail), l1, al2 _ _ ek (mutO_fr mk), Dk, .cons ⟨_, rfl⟩ .nil, Nat.le_refl _⟩, ⟨_, _, by rw [hFo]; exact List.mem_append_left _ (by fin_once sm fail), l2, al2 _ _ ep (mutO_fr mp), Dp, .cons rfl .nil, Nat.le_refl _⟩,
   ⟨_, _, by rw [hFo]; exact List.mem_append_left _ (by fin_once sm fail), l3, al2 _ _ et (mutO_fr mt), Dt, .cons ?_ .nil, Nat.le_refl _⟩, ⟨[], _, _, by rw [hFo]; exact List.mem_append_left _ (by fin_once sm fail), l4, al2 _ _ eg (mutO_fr mg), Dg, .nil, Nat.zero_le _⟩, ⟨[], _, _, by rw [hFo]; exact List.mem_append_left _ (by fin_once sm fail), l5, al2 _ _ ei (mutO_fr mi), Di, .nil, Nat.zero_le _⟩⟩
  rw [hFo]
  exact tn.tabF ala 1
 have H3 := (H2.hide (.head _) (Fo.map (·.1))).drop (bs' := [g2, hideAll g2 (Fo.map (·.1)), h]) (by fin_once sb fail) ⟨h, by fin_once sm fail, hd⟩
 have cg2 := xg2 h (.tail _ (.head _))
 refine ⟨Fo, g2, _, H3, hide_ch cg2 nFh, cg2, M, O, fun a m => hideAll_none _ m, nFh, fun a q r hr hq => ?_⟩
 obtain ⟨n, n5, e⟩ := rk_in hq
 have m : rk r ∈ Fo.map fun p => rk p.2 := List.mem_map.mpr ⟨_, hr, rfl⟩
 rw [ek2, e] at m
 have key : ∀ y ∈ [none, none, rk .kinds, rk .pubs, rk .tabs, rk .gens, rk .items] ++ (tabFp 0 0 0 0 0 (Str.ofString "")).map fun p => rk p.2, ∀ p, y = some p → 5 ≤ p.1 → p.2 = Str.ofString "" := by
  have : ∀ y ∈ [none, none, rk .kinds, rk .pubs, rk .tabs, rk .gens, rk .items] ++ (tabFp 0 0 0 0 0 (Str.ofString "")).map fun p => rk p.2, (y.all fun p => decide (5 ≤ p.1 → p.2 = Str.ofString "")) = true := by decide +kernel
  intro y my p ey
  have := this y my
  rw [ey] at this
  exact of_decide_eq_true this
 rw [show q = Str.ofString "" from key _ m _ rfl n5]
 rfl
end
structure MIn (h gh : Heap) (F1 : Fp) (g2 : Heap) (N : Nat) (x dk dp dt dg di : Addr) (m : Md) : Prop where
 cg : Ch [] h g2
 M : MdX F1 g2 N x dk dp dt dg di m
 O : FpOk g2 F1
 nG : ∀ a ∈ F1.map (·.1), gh.get? a = none
 kin : KIn m
 ro : RO F1 m
noncomputable def WlOk (m : Md) (wl : Wl) : Prop := ∀ p ∈ wl, Itm.oksAt p.1 p.2 ∧ p.1.length ≤ 200 ∧ (at? m.tabs p.1).isSome = true
inductive IWh (A' : Around) (L : Addr) (h : Heap) (x l lf dk dp dt dg di : Addr) (items : List Itm) : Nat → Shared → Prop
 | mk {wl : Wl} {m : Md} {F1 : Fp} {N : Nat} {g2 gh : Heap} {vals : List Value} {o1 o2 o3 : Option Value} {hh : Heap} {tk : Nat} (H : At A' [g2, gh, h] L ["self", "items", "left", "module", "inner", "item"] [(lf, PLO vals)] [some (.ref x), some (.ref l), some (.ref lf), o1, o2, o3] hh) (cgh : Ch [] h gh) (I : MIn h gh F1 g2 N x dk dp dt dg di m) (nH : ∀ a ∈ F1.map (·.1), h.get? a = none)
   (run : runF (wtL wl) wl m = buildF items) (W : Paired (EntAt gh) vals wl) (hw : WlOk m wl) (hN : N + 20 * icL wl ≤ 5000) (hz : wl.length + icL wl ≤ 300) : IWh A' L h x l lf dk dp dt dg di items (wtL wl) (St s hh tk)
inductive RIn (h gh : Heap) (x l lf dk dp dt dg di il : Addr) (mo : Str) (tm : Tok) (inner : List Itm) (m : Md) (wl0 : Wl) : Nat → List Heap → List Cell → List (Option Value) → Prop
 | mk {i : Nat} {m1 : Md} {l1 : Wl} {F1 : Fp} {N1 : Nat} {g3 gh1 : Heap} {vals1 : List Value} {o : Option Value} (cgh1 : Ch [] gh gh1) (I : MIn h gh1 F1 g3 N1 x dk dp dt dg di m1) (hin : innerF mo (inner.drop i) m1 l1 = innerF mo inner m wl0) (W : Paired (EntAt gh1) vals1 l1) (hw : WlOk m1 l1)
   (hN : N1 + 20 * (icL l1 + Itm.ics (inner.drop i)) ≤ 5000) (hz : l1.length + icL l1 + Itm.ics (inner.drop i) ≤ 300) (hwt : wtL l1 + Itm.mcs (inner.drop i) = wtL wl0 + Itm.mcs inner) (tm1 : (at? m1.tabs mo).isSome = true) : RIn h gh x l lf dk dp dt dg di il mo tm inner m wl0 i [g3, gh1, gh, h] [(lf, PLO vals1)] [some (.ref x), some (.ref l), some (.ref lf), some (.str mo tm), some (.ref il), o]
inductive PJn (A' : Around) (L : Addr) (h gh : Heap) (x l lf dk dp dt dg di il itr ti : Addr) (mo : Str) (tm : Tok) (i : Nat) (F1 : Fp) (N1 : Nat) (m1 : Md) (wl : Wl) : Flow → Shared → Prop
 | mk {g4 gh2 : Heap} {vals2 : List Value} {hq : Heap} {tkq : Nat} (H : At A' [g4, gh2, gh, h] L ["self", "items", "left", "module", "inner", "item"] [(itr, LI il (i + 1)), (lf, PLO vals2)] [some (.ref x), some (.ref l), some (.ref lf), some (.str mo tm), some (.ref il), some (.ref ti)] hq) (cgh2 : Ch [] gh gh2) (cg4 : Ch [] h g4) (M : MdX F1 g4 N1 x dk dp dt dg di m1) (O : FpOk g4 F1) (nG : ∀ a ∈ F1.map (·.1), gh2.get? a = none) (W : Paired (EntAt gh2) vals2 wl) :
   PJn A' L h gh x l lf dk dp dt dg di il itr ti mo tm i F1 N1 m1 wl .next (St s hq tkq)
section
variable {A : Around} {E : Value → Shared → Prop} {g h : Heap} {tk : Nat} {Q : Value → Shared → Prop}
theorem c_modules {l : Addr} {items : List Itm} {its : Array Value} (C : Cx (Mine.hd.heap_1 w.params) A h 14) (hh : A.handled = none) (hl : h.IsList l its) (rits : ReadsAll h its.toList (Itm.ds items) []) (ok : Itm.oksAt (Str.ofString "") items) (iz : Itm.ics items ≤ 200)
  (k : ∀ x h' tk' F n dk dp dt dg di m, buildF items = some m → Ch [] h h' → MdX F h' n x dk dp dt dg di m → FpOk h' F → (∀ p ∈ F, h.get? p.1 = none) → Q (.ref x) (St s h' tk'))
  (hE : ∀ e s', buildF items = none → Rse 52 A [h] e s' → E e s') :
  wpAny (model prog w) A (call (.ref 258) [.ref l]) Q E (St s h tk) := by
 refine make_obj C.t.k d_mk d_in d_fn fun x dx h₁ nxd nx nd _ ex ed kp => ?_
 obtain ⟨fl, l1, l2⟩ := C.ff
 have c₁ : Ch [] h h₁ := Ch.of_keeps kp
 refine cdE (nf := 52) (N := buildF items = none) (bs := [h]) (cs := [(x, fun o => o = instObj 258 dx), (dx, FldObj [])]) (vals := [.ref x, .ref l]) [h] ["self", "items"] ["left", "module", "inner", "item"] ["Table", "list", "joined"] C.t (.head _) (by simpa using c₁) ⟨fun c hc => ?_, by simpa using nxd⟩ (fun g mg c hc => ?_) ⟨fl, under_frames.trans l1, c₁.ff l2⟩ ⟨_, .head _, C.hd⟩ (by k_is) (by k_is) (under_rm (C.r.le (by decide : 13 ≤ 14))).room (BindsTo.of_eq rfl) rfl (by decide +kernel) (by decide +kernel) rfl rfl rfl rfl (by decide) (fun e s' n r => hE e s' n (r.as rfl)) ?_
 ·simp only [List.mem_cons, List.not_mem_nil, or_false] at hc
  rcases hc with rfl | rfl
  ·exact ⟨_, ex, rfl, rfl⟩
  ·exact ⟨_, ed, fld_nil, rfl⟩
 ·rw [List.mem_singleton.mp mg]
  simp only [List.mem_cons, List.not_mem_nil, or_false] at hc
  rcases hc with rfl | rfl
  ·exact nx
  ·exact nd
 intro env L h₂ tk₂ F H hc hL E' hE'
 dsimp only [List.cons_append, List.nil_append, List.map] at F H
 have T := C.t
 have R : Rm ((A.under (Code.builtin "type.__call__" { pos := [Value.ref 258, Value.ref l] })).deeper env) 11 := (under_rm (C.r.le (by decide : 13 ≤ 14))).deeper (by fin_once om fail)
 have hd0 : HdOk ((A.under (Code.builtin "type.__call__" { pos := [Value.ref 258, Value.ref l] })).deeper env) h := C.hd
 have hh' : ((A.under (Code.builtin "type.__call__" { pos := [Value.ref 258, Value.ref l] })).deeper env).handled = none := hh
 revert F H hE' R hd0 hh'
 refine gen1 ((A.under (Code.builtin "type.__call__" { pos := [Value.ref 258, Value.ref l] })).deeper env) ?_
 intro A' F H hE' R hd0 hh'
 fin_once g5 fail
 refine w_dict1 H T (.head _) top_lo fun dk h₃ nk lok H₃ c₃ => ?_
 fin_once g5 fail
 refine ⟨[(Str.ofString "", _)], _, _, _, _, _, rfl, ⟨strIs, rfl, trivial⟩, H₃, fun h₄ tk₄ H₄ _ => ?_⟩
 rw [show merged [] [(Str.ofString "", _)] = [(Str.ofString "", _)] from rfl] at H₄
 fin_once g5 fail
 rename At _ _ _ _ _ _ _ => H₅
 refine w_dict1 H₅ T (.head _) top_lo fun dp h₆ np lop H₆ c₆ => ?_
 fin_once g5 fail
 refine ⟨[(Str.ofString "", _)], _, _, _, _, _, rfl, ⟨strIs, rfl, trivial⟩, H₆, fun h₇ tk₇ H₇ _ => ?_⟩
 rw [show merged [] [(Str.ofString "", _)] = [(Str.ofString "", _)] from rfl] at H₇
 fin_once g5 fail
 rename At _ _ _ _ _ _ _ => H₈
 refine w_dict1 H₈ T (.head _) top_lo fun dt h₉ nt lot H₉ c₉ => ?_
 fin_once g5 fail
 refine c_table (H₉.cx T (.head _) R (by fin_once om fail)) fun tt td ta tb tu ha tka ca tn => ?_
 have Ha := H₉.keep ca
 refine Ha.nowK F fun g1 xg1 Ha kpa => ?_
 fin_once g5 fail
 refine ⟨[(Str.ofString "", _)], _, _, _, _, _, rfl, ⟨strIs, rfl, trivial⟩, Ha, fun hb tkb Hb _ => ?_⟩
 rw [show merged [] [(Str.ofString "", _)] = [(Str.ofString "", _)] from rfl] at Hb
 fin_once g5 fail
 rename At _ _ _ _ _ _ _ => Hc
 obtain ⟨Fo, g2, gh, H0, cgh, cg2, M0, O0, nG, nH, ro0⟩ := seed Hc F hd0 tn (fun z m o e f => kpa z o e f fun c hc q => by
  obtain ⟨o', e', _⟩ := H₉.cells.all c hc
  rw [q, tn.new z m] at e'
  cases e') (H₉.ch h (.head _)) lok lop lot (by assumption) (by assumption)
 obtain ⟨dg, di, M0⟩ : ∃ dg di, MdX Fo g2 1 x dk dp dt dg di md0 := ⟨_, _, M0⟩
 have T0 := T.ch cg2
 have lz : items.length ≤ 200 := Nat.le_trans (ics_len items) iz
 have iz0 : its.size = items.length := by rw [← Array.length_toList, readsAll_len rits, ds_len]
 refine w_listOf' H0 (.inl (isList_ch hl (H0.ch h (by fin_once sm fail)))) (by fin_once om fail) fun il hd1 Hd1 cd1 => ?_
 fin_once o1 fail
 refine Hd1.cells.getK (a := il) (φ := PLO its.toList) (.head _) fun oil eil pil _ => ?_
 refine (Hd1.sub (List.sublist_cons_self _ _)).nowK F fun g3 xg3 H1 kp3 => ?_
 fin_once o2 fail
 have al3 : Alls hd1 g3 := fun b o e f => kp3 b o e f (fun c hc => by cases hc)
 have lil : g3.IsList il its := by
  obtain ⟨n', rfl⟩ := pil
  exact ⟨_, al3 _ _ eil rfl, rfl, n', by fin_once sm fail⟩
 have M1 := M0.alls (xg3 g2 (.head _)).alls
 have O1 := O0.alls (xg3 g2 (.head _)).alls
 fin_once g5 fail
 refine w_newTuple H1 (by fin_once sm fail) fun he He ce te => ?_
 refine He.nowK F fun g4 xg4 He kp4 => ?_
 have al4 : Alls he g4 := fun b o e f => kp4 b o e f (fun c hc => by cases hc)
 have te4 := isTup_alls te al4
 have M2 := M1.alls (xg4 g3 (.head _)).alls
 have O2 := O1.alls (xg4 g3 (.head _)).alls
 fin_once g5 fail
 refine w_newListP He (by fin_once sm fail) fun lf hf Hf cf => ?_
 fin_once g5 fail
 rename At _ _ _ _ _ _ _ => Hg
 have Hg := (Hg.hide (g := g4) (.head _) (Fo.map (·.1))).drop (bs' := [g4, hideAll g4 (Fo.map (·.1)), h]) (by fin_once sb fail) ⟨h, by fin_once sm fail, hd0⟩
 have nG4 : ∀ a ∈ Fo.map (·.1), (hideAll g4 (Fo.map (·.1))).get? a = none := fun a m => hideAll_none _ m
 have cg4 : Ch [] h (hideAll g4 (Fo.map (·.1))) := hide_ch (Ch.trans (Ch.trans cg2 (xg3 g2 (.head _))) (xg4 g3 (.head _))) nH
 have W4 : EntAt (hideAll g4 (Fo.map (·.1))) (Value.ref hd1.objs.size) (Str.ofString "", items) := by
  have nS : il ∉ Fo.map (·.1) := fun q => by
   obtain ⟨o, e, _⟩ := O0.ob _ q
   have := Hd1.newC g2 (.head _) _ (.head _)
   rw [e] at this
   cases this
  exact ⟨_, _, il, its, rfl, isTup_hide O2 te4, isList_hide nS (isList_ch lil (xg4 g3 (.head _))), readsAll_ch rits cg4⟩
 refine w_WhileE F hE' (IWh A' L h x l lf dk dp dt dg di items) (1 + Itm.mcs items) ?_ fun n s' hI T' hT E' hE' => ?_
 ·rw [show 1 + Itm.mcs items = wtL [(Str.ofString "", items)] from by simp [wtL]]
  refine .mk Hg cg4 ⟨Ch.trans (Ch.trans cg2 (xg3 g2 (.head _))) (xg4 g3 (.head _)), M2, O2, nG4, ?_, ro0⟩ nH (by simp [wtL, buildF]) (.cons W4 .nil) ?_ (by simp [icL]; fin_once om fail) (by simp [icL]; fin_once om fail)
  ·intro p hp
   rw [at?_isSome] at hp ⊢
   exact hp
  ·intro p hp
   rw [List.mem_singleton.mp hp]
   exact ⟨ok, (by decide +kernel : (Str.ofString "").length ≤ 200), rfl⟩
 induction hI
 rename_i wl m F1 N g2 gh vals o1 o2 o3 hz tkz H' cgh' pk1 nH' hrun W hwl hN hzl
 fin_once o1 fail
 obtain ⟨cg2', M', O', nG', kin, ro⟩ := pk1
 fin_once o2 fail
 have Th := T.ch cgh'
 have T2 := T.ch cg2'
 fin_once g4 fail
 refine w_newList H' (by fin_once sm fail) fun h5 H5 c5 l5 _ => ?_
 refine H5.cells.getK (a := lf) (φ := PLO vals) (.head _) fun ol el pk2 _ => ?_
 obtain ⟨nl, rfl⟩ := pk2
 refine w_ne_nil ⟨_, el, rfl, nl, rfl⟩ l5 (R.un0 rfl) ?_
 fin_once g4 fail
 refine w_ite (fun e => ?_) fun e => ?_
 ·have lenW := W.length
  rcases List.eq_nil_or_concat wl with rfl | ⟨wl0, ⟨mo, inner⟩, rfl⟩
  ·rw [List.length_nil] at lenW
   rw [List.length_eq_zero_iff.mp lenW] at e
   simp at e
  rw [List.concat_eq_append] at *
  fin_once o1 fail
  obtain ⟨vals0, v, rfl, W0, t, tm, il, its2, rfl, ht, hil, rinn⟩ := paired_last W
  fin_once o2 fail
  obtain ⟨okI, lmo, tmo⟩ := hwl (mo, inner) (by fin_once sm fail)
  fin_once g4 fail
  refine w_lmeth H5 (.head _) PySem.F.slot_list_pop PySem.F.type_list_pop ?_
  fin_once g4 fail
  refine PyProof.Rows.callWith_method0 ?_
  refine w_pop H5 (.head _) .head (by simp at hzl lenW; fin_once om fail) fun h6 H6 => ?_
  refine w_assignT2 H6 F (isTup_ch ht (H6.ch gh (by fin_once sm fail))) (by fin_once lk fail) (by fin_once lk fail) fun h7 tk7 H7 => ?_
  fin_once g4 fail
  refine w_ForM (E' := EscN (buildF items = none) 52 A' [h] L) (L := L) ["self", "items", "left", "module", "inner", "item"] hh' (thr_esc F hE') (fun _ => rfl) (.inl ⟨_, _, rfl⟩) ?_
  fin_once g4 fail
  have H7' := H7.drop (bs' := [g2, gh, gh, h]) (by fin_once sb fail) ⟨h, by fin_once sm fail, hd0⟩
  have izz : its2.size = inner.length := by rw [← Array.length_toList, readsAll_len rinn, ds_len]
  have w1 : wtL (wl0 ++ [(mo, inner)]) = wtL wl0 + Itm.mcs inner + 1 := by rw [wt_app]; simp [wtL]; fin_once om fail
  have i1 : icL (wl0 ++ [(mo, inner)]) = icL wl0 + Itm.ics inner := by rw [ic_app]; simp [icL]
  have z1 : (wl0 ++ [(mo, inner)]).length = wl0.length + 1 := by simp
  rw [i1] at hN hzl
  rw [z1] at hzl
  rw [runF_pop] at hrun
  refine .mk (RIn h gh x l lf dk dp dt dg di il mo tm inner m wl0) hil H7' (.mk (Ch.refl _ _) ⟨cg2', M', O', nG', kin, ro⟩ rfl W0 (fun p hp => hwl p (List.mem_append_left _ hp)) (by rw [List.drop_zero]; fin_once om fail) (by rw [List.drop_zero]; fin_once om fail) (by rw [List.drop_zero]) tmo) (fun i bs cs vs hR => ?_) (fun itr i v bs cs vs h8 tk8 hv hR H8 Tz hTz => ?_) fun bs cs vs h8 tk8 hR H8 => ?_
  ·induction hR
   simp
  ·induction hR
   rename_i m1 l1 F1 N1 g3 gh1 vals1 o cgh1 pk1 hin W1 hw1 hN1 hz1 hwt tm1
   fin_once o1 fail
   obtain ⟨cg3, M1, O1, nG1, kin1, ro1⟩ := pk1
   fin_once o2 fail
   refine w_opT ?_
   intro E' hE'
   have hi : i < its2.size := (Array.getElem?_eq_some_iff.mp hv).1
   obtain ⟨im, him⟩ : ∃ im, inner[i]? = some im := ⟨inner[i]'(by fin_once om fail), List.getElem?_eq_getElem (by fin_once om fail)⟩
   have hdr : inner.drop i = im :: inner.drop (i + 1) := by
    obtain ⟨hlt, e⟩ := List.getElem?_eq_some_iff.mp him
    rw [← e]
    exact List.drop_eq_getElem_cons hlt
   rw [hdr] at hin hN1 hz1 hwt
   simp only [Itm.ics, Itm.mcs] at hN1 hz1 hwt
   have okm : Itm.okAt mo im := oks_get okI him
   obtain ⟨v', e1, rv⟩ := readsAll_get rinn i im.d (by rw [ds_get, him]; rfl)
   rw [Array.getElem?_toList, hv] at e1
   obtain rfl : v = v' := Option.some.inj e1
   have rtup : ∃ t, v = .ref t := by
    fin_once o1 fail
    obtain ⟨_, e, _⟩ | ⟨ds, e⟩ := itm_shape im
    all_goals fin_once o2 fail
    all_goals (rw [e] at rv; obtain ⟨t, _, e, _⟩ := rv.tuple; exact ⟨t, e⟩)
   obtain ⟨ti, rfl⟩ := rtup
   have sb := wt_subs mo im
   have ib := ic_subs mo im
   have T3 := T.ch cg3
   refine w_assign H8 F (by fin_once lk fail) fun h9 tk9 H9 => w_seq ?_
   refine w_opQ (PJn A' L h gh x l lf dk dp dt dg di il itr ti mo tm i F1 N1 m1 (l1 ++ subs mo im)) (fun X hX => ?_) (fun f s' hp => ?_)
   ·rcases itm_head mo im with ⟨n, inn, rfl⟩ | ⟨rest, ed, rz, kne, sbn⟩
    ·dsimp only [Itm.d] at rv
     simp only [Itm.okAt] at okm
     obtain ⟨on, oj, oin⟩ := okm
     have iin : Itm.ics inn ≤ 300 := by simp only [Itm.ic] at hz1; fin_once om fail
     fin_once g4 fail
     refine w_nth 0 (rv.ch (H9.ch gh (by fin_once sm fail))) rfl (by fin_once sm fail) (fun v rv0 => ?_) (by with_unfolding_all rfl)
     refine rv0.strE fun t2 rv0 => ?_
     fin_once g4 fail
     refine w_lmeth H9 (.tail _ (.head _)) slot_list_append type_list_append ?_
     fin_once g4 fail
     refine w_nth 2 (rv.ch (H9.ch gh (by fin_once sm fail))) rfl (by fin_once sm fail) (fun v rv0 => ?_) (by with_unfolding_all rfl)
     refine rv0.strE fun t3 rv0 => ?_
     fin_once g4 fail
     have lmo' : mo.length ≤ 200 := lmo
     refine c_joined (H9.cx T3 (.head _) R (by fin_once om fail)) (by fin_once om fail) (by fin_once om fail) fun t4 h10 tk10 c10 => ?_
     have H10 := H9.keep c10
     fin_once g4 fail
     refine w_nth 3 (rv.ch (H10.ch gh (by fin_once sm fail))) rfl (by fin_once sm fail) (fun v rv0 => ?_) (by with_unfolding_all rfl)
     obtain ⟨tin, it3, rfl, htin, rit3⟩ := rv0.tuple
     have z3 : it3.size = inn.length := by rw [← Array.length_toList, readsAll_len rit3, ds_len]
     have z4 := ics_len inn
     fin_once g4 fail
     refine w_listOf' H10 (.inr htin) (by fin_once om fail) fun il2 h11 H11 c11 => ?_
     refine H11.cells.getK (a := il2) (φ := PLO it3.toList) (.head _) fun oil2 eil2 pk2 _ => ?_
     obtain ⟨nil2, rfl⟩ := pk2
     have nS2 : il2 ∉ F1.map (·.1) := fun q => by
      obtain ⟨o, e, _⟩ := O1.ob _ q
      have := H11.newC g3 (.head _) _ (.head _)
      rw [e] at this
      cases this
     refine (H11.sub (List.sublist_cons_self _ _)).nowK F fun g4 xg4 H12 kp4 => ?_
     have nc12 : ∀ c ∈ [(itr, LI il (i + 1)), (lf, PLO vals1)], c.1 ≠ il2 := fun c hc q => by
      have nd := H11.cells.nd
      rw [List.map_cons, List.nodup_cons] at nd
      exact nd.1 (List.mem_map.mpr ⟨c, hc, q⟩)
     have lil2 : g4.IsList il2 it3 := ⟨_, kp4 _ _ eil2 rfl nc12, rfl, nil2, by fin_once sm fail⟩
     have rit4 : ReadsAll g4 it3.toList (Itm.ds inn) [] := readsAll_mv rit3 fun b o e q => by
      have e' := c11.same b o e (by fin_once sm fail) (isFr_tuple (q.resolve_right (by fin_once sm fail)).1)
      refine kp4 b o e' (isFr_tuple (q.resolve_right (by fin_once sm fail)).1) fun c hc qq => ?_
      fin_once o1 fail
      obtain ⟨oc, ec, _, mc⟩ := H12.cells.all c hc
      fin_once o2 fail
      rw [qq, e'] at ec
      cases ec
      exact mutO_tup mc (q.resolve_right (by fin_once sm fail)).1
     fin_once g4 fail
     refine w_newTuple H12 (by fin_once sm fail) fun h13 H13 c13 t13 => ?_
     refine H13.nowK F fun g5 xg5 H13 kp5 => ?_
     have t14 : IsTup g5 h11.objs.size #[.str (J mo n) t4, .ref il2] := by
      fin_once o1 fail
      obtain ⟨o, e, c, r⟩ := t13
      fin_once o2 fail
      refine ⟨o, kp5 _ _ e (isFr_tuple c) fun d hd qq => ?_, c, r⟩
      fin_once o1 fail
      obtain ⟨oc, ec, _, mc⟩ := H13.cells.all d hd
      fin_once o2 fail
      rw [qq, e] at ec
      cases ec
      exact mutO_tup mc c
     fin_once g4 fail
     refine w_append H13 (.tail _ (.head _)) (.tail .head) (by have := W1.length; fin_once om fail) fun h15 H15 => ?_
     fin_once g4 fail
     have c35 : Ch [] g3 g5 := (xg4 g3 (.head _)).trans (xg5 g4 (.head _))
     have O5 := O1.alls c35.alls
     have nG5 : ∀ a ∈ F1.map (·.1), (hideAll g5 (F1.map (·.1))).get? a = none := fun a m => hideAll_none _ m
     have cgg : Ch [] gh1 (hideAll g5 (F1.map (·.1))) := hide_ch ((xg4 gh1 (.tail _ (.head _))).trans (xg5 g4 (.head _))) nG1
     have H16 := (H15.hide (g := g5) (.head _) (F1.map (·.1))).drop (bs' := [g5, hideAll g5 (F1.map (·.1)), gh, h]) (by fin_once sb fail) ⟨h, by fin_once sm fail, hd0⟩
     refine .mk H16 (cgh1.trans cgg) (cg3.trans c35) (M1.alls c35.alls) O5 nG5 ?_
     refine Paired.snoc (paired_mono W1 fun a b q => q.ch cgg) ?_
     refine ⟨_, _, il2, it3, rfl, isTup_hide O5 t14, isList_hide nS2 (isList_ch lil2 (xg5 g4 (.head _))), readsAll_mv (readsAll_ch rit4 (xg5 g4 (.head _))) fun b o e q => hideAll_get _ e fun qq => ?_⟩
     obtain ⟨o', e', mu⟩ := O5.ob _ qq
     rw [e] at e'
     cases e'
     exact mutO_tup mu (q.resolve_right (by fin_once sm fail)).1
    ·rw [ed] at rv
     fin_once g4 fail
     refine w_nth 0 (rv.ch (H9.ch gh (by fin_once sm fail))) rfl (by simp; fin_once om fail) (fun v rv0 => ?_) (by with_unfolding_all rfl)
     refine rv0.strE fun t2 rv0 => ?_
     fin_once g4 fail
     exact .mk H9 cgh1 cg3 M1 O1 nG1 (by rw [sbn, List.append_nil]; exact W1)
   ·induction hp
    rename_i g4 gh2 vals2 hq tkq Hq cgh2 cg4 M4 O4 nG4 W2
    have I4 := M4.i.ins
    have T4 := T.ch cg4
    fin_once g4 fail
    have al4 : Alls g4 hq := (Hq.ch g4 (.head _)).alls
    have nnS : ∀ b ∈ [gh2, gh, h], ∀ a ∈ F1.map (·.1), b.get? a = none := fun b mb a ma => by
     have key : ∀ b, Ch [] b gh2 → b.get? a = none := fun b cb => by
      exact (cb).nn (nG4 a ma)
     exact alc (P := fun b => b.get? a = none) (nG4 a ma) (alc (key _ cgh2) (alc (key _ (cgh'.trans cgh2)) aln)) b mb
    obtain ⟨Cc, xc⟩ := Hq.cg (bs0 := [gh2, gh, h]) T (by fin_once sm fail) (fun b mb => .tail _ mb) ⟨h, by fin_once sm fail, hd0⟩ nnS (O4.alls al4).ob R (by fin_once om fail : 9 ≤ 11)
    refine c_enter Cc hh' (M4.alls al4) (O4.alls al4) (by fin_once om fail) (rv.ch (Hq.ch gh (by fin_once sm fail))) (okAt_ok okm) lmo tm1 kin1 ro1 (fun h5' tk5 m' F' e gr cS M5 O5 ro5 => ?_) fun ex s' q rr => hE' _ _ ⟨?_, rr.escG Cc fun b mb => xc b (by simp at mb; subst mb; simp)⟩
    ·obtain ⟨g5, xg5, H5', kp5⟩ := Hq.back (bs0 := [gh2, gh, h]) F (fun b mb => .tail _ mb) ⟨h, by fin_once sm fail, hd0⟩ cS nnS (fun c hc q => by
      obtain ⟨o', e', _⟩ := O4.ob _ q
      have := Hq.newC g4 (.head _) c hc
      rw [e'] at this
      cases this) (O4.alls al4).ob
     have ncell : ∀ p ∈ F', ∀ c ∈ [(itr, LI il (i + 1)), (lf, PLO vals2)], c.1 ≠ p.1 := fun p hp c hc q => by
      rcases gr.new p hp with m | n
      ·obtain ⟨o', e', _⟩ := O4.ob p.1 (List.mem_map.mpr ⟨p, m, rfl⟩)
       have := Hq.newC g4 (.head _) c hc
       rw [q, e'] at this
       cases this
      ·obtain ⟨o', e', _⟩ := Hq.cells.all c hc
       rw [q, n] at e'
       cases e'
     have tup : ∀ b o, h5'.get? b = some o → isT o → g5.get? b = some o := fun b o e tt => kp5 b o e (isFr_tuple tt.1) fun c hc q => by
      fin_once o1 fail
      obtain ⟨oc, ec, _, mc⟩ := H5'.cells.all c hc
      fin_once o2 fail
      rw [q, e] at ec
      cases ec
      exact mutO_tup mc tt.1
     have tq5 : Tq (fun _ => True) F' h5' g5 := ⟨fun b r o m _ e f => kp5 b o e f (ncell (b, r) m), tup⟩
     have M6 := M5.tr tq5 (fun _ q => q) (Nat.le_refl _)
     have O6 : FpOk g5 F' := ⟨O5.nd, fun a m => by
      obtain ⟨o, e1, e2⟩ := O5.ob a m
      obtain ⟨p, hp, rfl⟩ := List.mem_map.mp m
      exact ⟨o, kp5 _ _ e1 (mutO_fr e2) (ncell p hp), e2⟩, O5.inj⟩
     have nG6 : ∀ a ∈ F'.map (·.1), gh2.get? a = none := fun a ma => by
      obtain ⟨p, hp, rfl⟩ := List.mem_map.mp ma
      rcases gr.new p hp with m | n
      ·exact nG4 _ (List.mem_map.mpr ⟨p, m, rfl⟩)
      ·cases q : gh2.get? p.1 with
       | none => rfl
       | some o =>
        obtain ⟨sl, z⟩ := (Hq.ch gh2 (by fin_once sm fail)).some q (by fin_once sm fail)
        rw [n] at z
        cases z
     have ek := enterF_keys e
     have keep : ∀ p, (at? m1.tabs p).isSome = true → (at? m'.tabs p).isSome = true := fun p hp => by
      rw [at?_isSome] at hp ⊢
      rw [ek]; exact List.mem_append_left _ hp
     have hin' : innerF mo (inner.drop (i + 1)) m' (l1 ++ subs mo im) = innerF mo inner m wl0 := by rw [← hin, innerF_c, e]
     have hsub : ∀ p ∈ subs mo im, Itm.oksAt p.1 p.2 ∧ p.1.length ≤ 200 ∧ (at? m'.tabs p.1).isSome = true := fun p hp => by
      induction im using Itm.casesOn with
      | mod n inn =>
       simp only [subs, List.mem_singleton] at hp
       subst hp
       simp only [Itm.okAt] at okm
       refine ⟨okm.2.2, okm.2.1, ?_⟩
       rw [at?_isSome, ek]
       exact List.mem_append_right _ (by simp [subK])
      | _ => simp [subs] at hp
     have ib1 : icL (subs mo im) + (subs mo im).length ≤ Itm.ic im ∧ icL (subs mo im) + 1 ≤ Itm.ic im := by
      exact subs_ic im
     have z2 : (l1 ++ subs mo im).length = l1.length + (subs mo im).length := List.length_append
     have z3 := ic_app l1 (subs mo im)
     have z4 := wt_app l1 (subs mo im)
     fin_once g4 fail
     refine tf_next (.mk (.mk cgh2 ⟨(cgh'.trans cgh2).trans (xg5 gh2 (.head _)), M6, O6, nG6, KIn.enter kin1 e, ro5⟩ hin' W2 (fun p hp => ?_) (by fin_once om fail) (by fin_once om fail) (by fin_once om fail) (keep _ tm1)) H5')
     rcases List.mem_append.mp hp with hp | hp
     ·obtain ⟨a1, a2, a3⟩ := hw1 p hp
      exact ⟨a1, a2, keep _ a3⟩
     ·exact hsub p hp
    ·rw [← hrun, ← hin, innerF_c, q]; rfl
  ·induction hR
   rename_i m1 l1 F1 N1 g3 gh1 vals1 o cgh1 pk1 hin W1 hw1 hN1 hz1 hwt tm1
   fin_once o1 fail
   obtain ⟨cg3, M1, O1, nG1, kin1, ro1⟩ := pk1
   fin_once o2 fail
   have hd : inner.drop its2.size = [] := List.drop_eq_nil_of_le (by fin_once om fail)
   rw [hd] at hin hN1 hz1 hwt
   simp only [Itm.ics, Itm.mcs] at hN1 hz1 hwt
   rw [← hin] at hrun
   fin_once g4 fail
   have nh1 : ∀ a ∈ F1.map (·.1), h.get? a = none := fun a ma => by
    exact (cgh'.trans cgh1).nn (nG1 a ma)
   have H9 := H8.drop (bs' := [g3, gh1, h]) (by fin_once sb fail) ⟨h, by fin_once sm fail, hd0⟩
   refine tn_next (m := wtL l1) (by fin_once om fail) (.mk H9 (cgh'.trans cgh1) ⟨cg3, M1, O1, nG1, kin1, ro1⟩ nh1 ?_ W1 hw1 (by fin_once om fail) (by fin_once om fail))
   rw [← hrun]
   show _ = runF (wtL wl0 + Itm.mcs inner) l1 m1
   rw [show wtL wl0 + Itm.mcs inner = wtL l1 by fin_once om fail]
 ·have e0 : vals = [] := by
   cases vals with
   | nil => rfl
   | cons v r => simp at e
  have ew : wl = [] := List.length_eq_zero_iff.mp (by rw [← W.length, e0]; rfl)
  subst ew
  fin_once g4 fail
  rw [runF_nil] at hrun
  have al : Alls g2 h5 := (H5.ch g2 (.head _)).alls
  refine ⟨rfl, k x h5 _ F1 N dk dp dt dg di m hrun.symm (H5.ch h (by fin_once sm fail)) (M'.alls al) (O'.alls al) fun p hp => nH' p.1 (List.mem_map.mpr ⟨p, hp, rfl⟩)⟩
end
omit rt0 in
theorem strsAre_of_get : ∀ {ks : List Str} {vs : List Value}, vs.length = ks.length → (∀ (j : Nat) (v : Value), vs[j]? = some v → ∃ (k : Str) (t : Tok), ks[j]? = some k ∧ v = Value.str k t) → StrsAre vs ks
 | [], [], _, _ => .nil
 | k :: ks, v :: vs, e, h => by
  obtain ⟨k', t, e1, rfl⟩ := h 0 v rfl
  simp at e1; subst e1
  exact .cons _ _ (strsAre_of_get (by simpa using e) fun j u hj => h (j + 1) u (by simpa using hj))
 | [], _ :: _, e, _ => by simp at e
 | _ :: _, [], e, _ => by simp at e
theorem str_is {k : Str} {v : Value} (h : (PySem.strKind prog w).is k v = true) : ∃ t, v = .str k t := by
 cases v with
 | str y t =>
  have h : (y == k) = true := h
  exact ⟨t, by rw [beq_iff_eq.mp h]⟩
 | _ => exact absurd h (by change ¬ (false = true); decide)
section
variable {A : Around} {E : Value → Shared → Prop}
open Builtin.List in
theorem collect_dict {s : Shared} {d : Addr} {kvs : List (Str × Value)} {ep : Nat} {Q : List Value → Shared → Prop} (hh : A.handled = none) (hd : (d == sysModules) = false) (hm : s.heap.DictAt (PySem.strKind prog w) d kvs ep) (hn : kvs.length ≤ 10000)
  (hQ : ∀ h' tk acc, (∀ b o, s.heap.get? b = some o → h'.get? b = some o) → StrsAre acc (kvs.map (·.1)) → Q acc { s with heap := h', toks := tk }) : wpAny (model prog w) A (collect (.ref d)) Q E s := by
 have hn' : kvs.length ≤ sizeLine := Nat.le_trans hn (by decide)
 have hdlt : d < s.heap.objs.size := by obtain ⟨o, es, e, _⟩ := hm; exact Heap.lt_size e
 have hSI : s.heap.objs.size ≠ d := Nat.ne_of_gt hdlt
 unfold collect
 refine wpAny_bind (wpAny_runValue (codeAny_builtin PySem.F.entry_proto_collect ?_))
 rw [Around.under_plainId PySem.F.plain_proto_collect _]
 show wpAny _ A.in1 (newList [] >>= fun l => again (.builtin "list.__iadd__" ⟨[l, .ref d], []⟩)) _ _ s
 refine wpAny_bind (wpAny_newObj_type ?_)
 refine wpAny_pure ⟨plainId_quiet PySem.F.plain_list_iadd _, codeAny_builtin PySem.F.entry_list_iadd ?_⟩
 rw [Around.under_plainId PySem.F.plain_list_iadd _]
 have hS₁ : (s.heap.push { cls := .type "list", data := .seq ([] : List Value).toArray }).get? s.heap.objs.size = some { cls := .type "list", data := .seq ([] : List Value).toArray } := Heap.get?_push_size _ rfl
 have kp₁ : ∀ b o, s.heap.get? b = some o → (s.heap.push { cls := .type "list", data := .seq ([] : List Value).toArray }).get? b = some o := fun b o e => Heap.get?_push_of_some _ e
 have sz₁ : (s.heap.push { cls := .type "list", data := .seq ([] : List Value).toArray }).objs.size = s.heap.objs.size + 1 := Heap.size_push ..
 generalize s.heap.push { cls := .type "list", data := .seq ([] : List Value).toArray } = h₁ at hS₁ kp₁ sz₁ ⊢
 have hm₁ : h₁.DictAt (PySem.strKind prog w) d kvs ep := hm.at' fun o e => kp₁ _ o e
 have h1 : listSameRef (.ref s.heap.objs.size) (.ref d) = false := by simp [listSameRef, hSI]
 have hT₁ : ({ s with heap := h₁ } : Shared).TypeIs (.ref d) "dict" := Heap.DictOf.typeIs (s := { s with heap := h₁ }) hm₁.dictOf
 show wpAny _ A.in1 (listExtendWith (.ref s.heap.objs.size) (.ref d) (.ref s.heap.objs.size)) _ _ _
 unfold listExtendWith
 refine wpAny_bind (wpAny_typeOf hT₁ ?_)
 rw [h1, if_neg (show ¬ ((false || Value.type "dict" == Value.type "list" || Value.type "dict" == Value.type "tuple") = true) from by decide)]
 refine wpAny_bind (wpAny_pyIter_dict (s := { s with heap := h₁ }) hd hm₁ ?_)
 have hit : (h₁.push { cls := .type "dict_keyiterator", data := .fields #[.ref d, .int 0 0, .int kvs.length 0, .int ep 0] }).IsKeyIter h₁.objs.size d 0 kvs.length ep := ⟨_, Heap.get?_push_size _ rfl, rfl, rfl⟩
 have kp₂ : ∀ b o, h₁.get? b = some o → (h₁.push { cls := .type "dict_keyiterator", data := .fields #[.ref d, .int 0 0, .int kvs.length 0, .int ep 0] }).get? b = some o := fun b o e => Heap.get?_push_of_some _ e
 dsimp only
 generalize h₁.push { cls := .type "dict_keyiterator", data := .fields #[.ref d, .int 0 0, .int kvs.length 0, .int ep 0] } = h₂ at hit kp₂ ⊢
 have hm₂ : h₂.DictAt (PySem.strKind prog w) d kvs ep := hm₁.at' fun o e => kp₂ _ o e
 have hT₂ : ({ s with heap := h₂ } : Shared).TypeIs (.ref d) "dict" := Heap.DictOf.typeIs (s := { s with heap := h₂ }) hm₂.dictOf
 refine wpAny_bind (wpAny_holding ?_)
 unfold listLengthHint
 refine wpAny_bind (wpAny_specialOf (s := { s with heap := h₂ }) hT₂ PySem.F.slot_dict_len.lookup ?_)
 generalize hid : ("dict.__len__" : String) = id0
 wp_delta
 rw [show splitId id0 = some ("dict", "__len__") from by subst hid; decide +kernel]
 subst hid
 refine wpAny_bind (wpAny_isInstance (b := true) hT₂ (by rw [isSubtype_type]; kernel_rfl) ?_)
 show wpAny _ A.in1 (typeOf (.ref d) >>= _) _ _ _
 refine wpAny_bind (wpAny_typeOf hT₂ ?_)
 refine wpAny_pure ?_
 have hS₂ := kp₂ _ _ hS₁
 show wpAny _ A.in1 (rule "list.extend.makes-room" >>= fun _ => listTouch (.ref s.heap.objs.size) >>= fun _ =>
  again (.builtin "list.extend.loop" ⟨[.ref s.heap.objs.size, .ref h₁.objs.size, .ref s.heap.objs.size], []⟩)) _ _ _
 refine wpAny_bind (wpAny_rule (wpAny_bind ?_))
 show wpAny _ A.in1 (updateSeq s.heap.objs.size (·.push .none) >>= fun _ => updateSeq s.heap.objs.size (·.pop)) _ _ _
 refine wpAny_bind (wpAny_updateSeq hS₂ rfl ?_)
 have hS₃ := Heap.get?_update_self (Obj.mapSeq (·.push Value.none)) hS₂ rfl
 have kp₃ : ∀ b o, b ≠ s.heap.objs.size → h₂.get? b = some o → (h₂.update s.heap.objs.size (Obj.mapSeq (·.push Value.none))).get? b = some o := fun b o n e => (Heap.get?_update_other _ _ (Ne.symm n)).trans e
 dsimp only
 generalize h₂.update s.heap.objs.size (Obj.mapSeq (·.push Value.none)) = h₃ at hS₃ kp₃ ⊢
 refine wpAny_updateSeq hS₃ rfl ?_
 have hS₄ := Heap.get?_update_self (Obj.mapSeq (·.pop)) hS₃ rfl
 have kp₄ : ∀ b o, b ≠ s.heap.objs.size → h₃.get? b = some o → (h₃.update s.heap.objs.size (Obj.mapSeq (·.pop))).get? b = some o := fun b o n e => (Heap.get?_update_other _ _ (Ne.symm n)).trans e
 dsimp only
 generalize h₃.update s.heap.objs.size (Obj.mapSeq (·.pop)) = h₄ at hS₄ kp₄ ⊢
 have nI : h₁.objs.size ≠ s.heap.objs.size := by rw [sz₁]; exact Nat.succ_ne_self _
 have up : ∀ b o, b ≠ s.heap.objs.size → h₂.get? b = some o → h₄.get? b = some o := fun b o n e => kp₄ b o n (kp₃ b o n e)
 have hit₄ : h₄.IsKeyIter h₁.objs.size d 0 kvs.length ep := by
  obtain ⟨o, e, r⟩ := hit
  exact ⟨o, up _ _ nI e, r⟩
 have hm₄ : h₄.DictAt (PySem.strKind prog w) d kvs ep := hm₂.at' fun o e => up _ o (Ne.symm hSI) e
 have ndI : d ≠ h₁.objs.size := by rw [sz₁]; exact Nat.ne_of_lt (Nat.lt_succ_of_lt hdlt)
 have W := (Walks.dictKeys (prog := prog) (w := w) (A := A.in1) (knd := PySem.strKind prog w) hh h₁.objs.size d ndI kvs ep).toS
 refine wpAny_pure ⟨plainId_quiet PySem.F.plain_extend_loop _, codeAny_extend_loopS W hn' s.heap.objs.size (by simp [hSI, Ne.symm nI]) _ kvs.length 0 _ #[] _ rfl (Nat.zero_le _) ⟨hit₄, hm₄⟩ hS₄ (ItemsOf.nil _) fun s' acc' c' hmv hS' hacc => ?_⟩
 fin_once o1 fail
 obtain ⟨hp, gg, dr, tk', os⟩ := s'
 obtain ⟨mh, mg, md, mo, mt⟩ := hmv
 fin_once o2 fail
 dsimp only at mh mg md mo hS'
 subst mg md mo
 show wpAny _ A (load s.heap.objs.size >>= _) _ _ _
 refine wpAny_bind (wpAny_load hS' ?_)
 refine wpAny_pure (hQ hp tk' acc'.toList (fun b o e => ?_) (strsAre_of_get (by rw [Array.length_toList, hacc.1, List.length_map]) fun j v hj => ?_))
 ·have lt := Heap.lt_size e
  have n1 : b ≠ s.heap.objs.size := Nat.ne_of_lt lt
  have n2 : b ≠ h₁.objs.size := by rw [sz₁]; exact Nat.ne_of_lt (Nat.lt_succ_of_lt lt)
  exact mh b o (by simp [n1, n2]) (up b o n1 (kp₂ b o (kp₁ b o e)))
 ·fin_once o1 fail
  obtain ⟨k, x, e1, e2⟩ := hacc.2 j v (by simpa using hj)
  fin_once o2 fail
  obtain ⟨t, rfl⟩ := str_is e2
  exact ⟨k, t, by rw [List.getElem?_map, e1]; rfl, rfl⟩
end
section
variable {A : Around} {E : Value → Shared → Prop} {h : Heap} {bs : List Heap} {tk : Nat} {L : Addr} {ks : List Str} {cs : List Cell} {vs : List (Option Value)}
theorem w_sortedD {d : Addr} {o : Obj} {kvs : List (Str × Value)} {Q : Value → Shared → Prop} (hh : A.handled = none) (H : At A bs L ks cs vs h) (hd : h.get? d = some o) (D : Dct kvs o) (lo : (d == sysModules) = false) (hz : kvs.length < 64)
  (k : ∀ l h' tk' vl ss, At A bs L ks cs vs h' → Ch [] h h' → h'.IsList l vl → StrsAre vl.toList ss → ss.Perm (kvs.map (·.1)) → Q (.ref l) (St s h' tk')) :
  wpAny (model prog w) A (call (.builtin "sorted") [.ref d]) Q E (St s h tk) := by
 fin_once o1 fail
 obtain ⟨es, ep, D1, D2, D3, D4, D5⟩ := D
 fin_once o2 fail
 refine Calls.call_function_entry kind_sorted plain_sorted entry_sorted (args_sorted1 _) ?_
 unfold Builtin.«sorted»
 refine wpAny_bind (m := checkCount "sorted" 1 1 _) (wpAny_pure ?_)
 refine wpAny_bind (collect_dict (s := St s h tk) (A := A.in1) hh lo ⟨o, es, hd, D1, D2, D3, D4, D5⟩ (by fin_once om fail) fun h₁ tk₁ acc kp₁ sa => ?_)
 have la : acc.length = kvs.length := by
  have := sa.length
  rwa [List.length_map] at this
 refine wpAny_bind (wpAny_newList ?_)
 have hoL : (h₁.push (seqObj "list" acc.toArray 0)).get? h₁.objs.size = some (seqObj "list" acc.toArray 0) := Heap.get?_push_size _ rfl
 show wpAny _ _ _ _ _ { s with heap := h₁.push (seqObj "list" acc.toArray 0), toks := tk₁ }
 refine wpAny_bind (wpAny_holding (wpAny_call_entry slot_list_sort ⟨_, hoL, rfl⟩ entry_list_sort (list_sort_treeK strKind_oneLt hoL sa.keysOf (fun v₁ v₂ rest e => keyKind_strs (by rw [← e]; exact sa)) (by fin_once om fail) fun st' a1 a2 => ⟨_, rfl, ?_⟩) (args_list_sort _)))
 fin_once o1 fail
 obtain ⟨ss', b1, b2, b3⟩ := sorted_out_str sa a1 a2
 fin_once o2 fail
 have kp₂ : ∀ b o, h₁.get? b = some o → (h₁.push (seqObj "list" acc.toArray 0)).get? b = some o := fun b o e => Heap.get?_push_of_some _ e
 have kp₃ : ∀ b o, h.get? b = some o → (sortedHeap (h₁.push (seqObj "list" acc.toArray 0)) h₁.objs.size acc ((arrOf st').map (·.2))).get? b = some o := fun b o e => by
  have e1 := kp₁ b o e
  rw [sortedHeap_old (Nat.ne_of_lt (Heap.lt_size e1)) (by rw [Heap.size_push]; exact Nat.lt_succ_of_lt (Heap.lt_size e1))]
  exact kp₂ b o e1
 obtain ⟨ep', e5⟩ := sortedHeap_at (out := (arrOf st').map (·.2)) hoL
 have c : Ch [] h (sortedHeap (h₁.push (seqObj "list" acc.toArray 0)) h₁.objs.size acc ((arrOf st').map (·.2))) := Ch.of_keeps kp₃
 exact wpAny_pure ⟨_, rfl, k h₁.objs.size _ tk₁ _ ss' (H.keep c) c ⟨_, e5, rfl, ep', rfl⟩ b1 b2⟩
end
inductive EscX (nf : Addr) (A : Around) (bs : List Heap) (L : Addr) : Value → Shared → Prop
 | mk {a : Addr} {h' : Heap} {tk' : Nat} {l : List Env} (x : ∀ g ∈ bs, Ch [] g h') (l1 : A.frames = some l) (l2 : FF h' l) (f : Fly nf bs h' a (anyFl L) False) : EscX nf A bs L (.ref a) (St s h' tk')
inductive RseX (nf : Addr) (bs : List Heap) : Value → Shared → Prop
 | mk {a : Addr} {h' : Heap} {tk' : Nat} (x : ∀ g ∈ bs, Ch [] g h') (f : Fly nf bs h' a restFl False) : RseX nf bs (.ref a) (St s h' tk')
section
variable {M : Model} {A : Around} {env : Env} {L nf : Addr} {bs bs' : List Heap} {ks gs : List Str} {cs : List Cell} {vs : List (Option Value)} {h : Heap}
theorem Rse.escX {A1 : Around} {e : Value} {s' : Shared} (H : At A bs L ks cs vs h) (r : Rse nf A1 [h] e s') : EscX nf A bs L e s' := by
 induction r
 rename_i a h' tk' x f
 obtain ⟨l, l1, l2⟩ := H.ff
 have x := x h (.head _)
 exact (.mk (fun g m => (H.ch g m).trans x) l1 (x.ff l2) ((f.old fun g m => ⟨h, .head _, H.ch g m⟩).weak (fun _ q => .inr (.inl q)) fun q => q.elim))
theorem RseX.escX {e : Value} {s' : Shared} (ff : ∃ l, A.frames = some l ∧ FF h l) (r : RseX nf [h] e s') : EscX nf A [h] L e s' := by
 induction r
 rename_i a h' tk' x f
 obtain ⟨l, l1, l2⟩ := ff
 exact (.mk x l1 ((x h (.head _)).ff l2) (f.weak (fun _ q => .inr (.inl q)) id))
theorem EscX.drop {e : Value} {s' : Shared} (r : EscX nf A bs L e s') (k : ∀ g ∈ bs', g ∈ bs) : EscX nf A bs' L e s' := by
 induction r
 rename_i a h' tk' l x l1 l2 f
 exact (.mk (fun g m => x g (k g m)) l1 l2 (f.old fun g m => ⟨g, k g m, Ch.refl _ _⟩))
theorem EscX.lv {e : Value} {s' : Shared} {E : Value → Shared → Prop} (F : Fn (A.deeper env) env L ks gs) (r : EscX nf (A.deeper env) bs L e s') (k : ∀ e s', RseX nf bs e s' → E e s') : Lv M A env E e s' := by
 induction r
 rename_i a h' tk' l x l1 l2 f
 obtain ⟨l', e'⟩ := F.fs
 rw [e'] at l1
 cases l1
 exact leave_fly (s := St s h' tk') e' l2 F.frame x f fun h'' x'' _ f'' => k _ _ (.mk x'' f'')
theorem EscX.through {A' : Around} {e : Value} {s' : Shared} {E : Value → Shared → Prop} (F : Fn A env L ks gs) (ha : A'.frames = A.frames) (r : EscX nf A bs L e s') (k : ∀ e s', EscX nf A bs L e s' → E e s') : notedBy M A' env (fun e s' => cameBackBy M A env E e s') e s' := by
 induction r
 rename_i a h' tk' l x l1 l2 f
 obtain ⟨l', e'⟩ := F.fs
 rw [e'] at l1
 cases l1
 refine note_fly (s := St s h' tk') (ha.trans e') l2 F.frame x f fun h'' x'' ff'' f'' => ?_
 show wpAny M A _ _ _ _
 fin_once o1 fail
 obtain ⟨oe, ws, he, hcls, hd, hz, hc', hh⟩ := id f''.is
 fin_once o2 fail
 rcases hh with ⟨_, h⟩ | ⟨h1, hTn, hTa, hT, hfT, hdT, hzT, h3, hfl⟩
 ·cases h
 rename_i T oT ts v
 refine wpAny_bind (wpAny_field he hd h1 ?_)
 rw [if_neg (by fin_once sm fail)]
 rw [F.frame]
 refine flight_fly (s := { s with heap := h'', toks := tk' }) ff'' x'' f'' (fun q => by cases q) fun h₃ x₃ ff₃ f₃ => k _ _ (.mk x₃ e' ff₃ (f₃.weak (fun _ q => .inr (.inr q)) id))
end
theorem EscX.as {nf L : Addr} {A A' : Around} {bs : List Heap} {e : Value} {s' : Shared} (r : EscX nf A' bs L e s') (q : A'.frames = A.frames) : EscX nf A bs L e s' := by
 induction r
 rename_i a h' tk' l x l1 l2 f
 exact .mk x (q ▸ l1) l2 f
noncomputable def EscXN (N : Prop) (nf : Addr) (A : Around) (bs : List Heap) (L : Addr) : Value → Shared → Prop := fun e s' => N ∧ EscX nf A bs L e s'
theorem thr_escX {A : Around} {env : Env} {L nf : Addr} {ks gs : List Str} {bs : List Heap} {N : Prop} (F : Fn A env L ks gs) : ∀ e s', EscXN N nf A bs L e s' → notedBy (model prog w) A env (fun e s' => cameBackBy (model prog w) A env (EscXN N nf A bs L) e s') e s' := fun _ _ q => q.2.through F rfl fun _ _ q' => ⟨q.1, q'⟩
section
variable {A : Around} {E E' : Value → Shared → Prop} {g h : Heap} {bs : List Heap} {tk : Nat} {env : Env} {L nf : Addr} {ks gs : List Str} {cs : List Cell} {vs : List (Option Value)} {K : Frag}
theorem w_TryX {N : Prop} {bm : List Value} {body orelse : List Stmt} {b₀ : Stmt} {suite : List Stmt} {nm : Str} {np hp p : Pos} {rest : List ExceptHandler} {Q : Flow → Shared → Prop} (H : At A bs L ks cs vs h) (F : Fn A env L ks gs) (T : Tp K g) (mb : g ∈ bs) (hm : nm ∈ gs) (e1 : nsIn K mainGlobals nm = some (some (.ref nf))) (hcl : ∀ h', K.In h' → ExcCls h' nf bm) (hbase : bm.contains (.type "BaseException") = true)
  (hdb : (nm == ("__debug__" : Str)) = false)
  (hbody : wpAny (model prog w) A (execs body env) (fun f s₁ => match f with | .next => wpAny (model prog w) A (execs orelse env) Q E s₁ | f => Q f s₁) (fun e s' => N ∧ EscX nf A [h] L e s') (St s h tk))
  (hE : ∀ a e s', E' e s' → notedBy (model prog w) (A.mark (some (.ref a))) env (fun e s' => cameBackBy (model prog w) A env E e s') e s')
  (hand : N → ∀ a h' tk', At A bs L ks cs vs h' → wpAny (model prog w) (A.mark (some (.ref a))) (execs (b₀ :: suite) env) Q E' (St s h' tk')) :
  wpAny (model prog w) A (exec (.Try body (.ExceptHandler (some (.Name nm np)) none (b₀ :: suite) hp :: rest) orelse [] p) env) Q E (St s h tk) := by
 refine wpAny_Try_except (wpAny_mono hbody (fun _ _ q => q) fun e s' q => ?_)
 obtain ⟨n, r⟩ := q
 induction r
 rename_i a h₁ tk₁ l x l1 l2 f
 obtain ⟨l', e'⟩ := F.fs
 rw [e'] at l1
 cases l1
 refine note_fly (s := St s h₁ tk₁) e' l2 F.frame x f fun h₂ x₂ ff₂ f₂ => ?_
 refine flight_fly (s := { St s h₁ tk₁ with heap := h₂ }) (l := env :: l') ff₂ x₂ f₂ (fun q => by cases q) fun h₃ x₃ ff₃ f₃ => ?_
 have c₃ : Ch [] h h₃ := x₃ h (.head _)
 have H₃ := H.keep c₃
 have hcl' := hcl h₃ (T.ch (H₃.ch g mb)).k
 fin_once o1 fail
 obtain ⟨oe, ws, he, hcls, hdd, hz, hc, _⟩ := f₃.is
 fin_once o2 fail
 refine wpAny_handleBy_cons (codeAny_handlers_test ?_) (by intro q; cases q)
 have T' := T.ch (H₃.ch g mb)
 obtain ⟨mg, gg⟩ := T'.g
 refine Calls.Name_function_global F.kind (F.gl nm hm) (Calls.loadGlobal_global (by rw [F.glob]; exact gg) (mg_of T'.k gg e1) ?_) hdb
 fin_once o1 fail
 obtain ⟨nm', q, N', bs', hdct, sn, sub, ab, col, dd, k0, k1, k2, k3, k5, hC⟩ := hcl'
 fin_once o2 fail
 refine wpAny_excMatches_sub_self hC he hcls hbase ?_
 refine codeAny_handlers_suite ?_
 refine flight_fly (s := { s with heap := h₃, toks := tk₁ }) (l := env :: l') ff₃ x₃ f₃ (fun q => by cases q) fun h₄ x₄ ff₄ f₄ => ?_
 exact wpAny_mono (hand n a h₄ tk₁ (H.keep (x₄ h (.head _)))) (fun _ _ q => q) fun e s' q => hE a e s' q
end
section
variable {A : Around} {E E' : Value → Shared → Prop} {h g : Heap} {bs : List Heap} {tk : Nat} {env : Env} {L it : Addr} {ks gs : List Str} {cs : List Cell} {vs : List (Option Value)} {target : PySem.Expr}
end
omit rt0 in
theorem at?_in {α : Type} : ∀ {l : List (Str × α)} {x : Str} {a : α}, at? l x = some a → (x, a) ∈ l
 | [], _, _, h => nomatch h
 | (k, b) :: l, x, a, h => by
  have h : (if k = x then some b else at? l x) = some a := h
  by_cases e : k = x
  ·rw [if_pos e] at h
   cases h
   subst e
   exact .head _
  ·rw [if_neg e] at h
   exact .tail _ (at?_in h)
omit rt0 in
theorem strsAre_get : ∀ {vs : List Value} {ss : List Str} {i : Nat} {v : Value} {x : Str}, StrsAre vs ss → vs[i]? = some v → ss[i]? = some x → ∃ t, v = .str x t
 | _, _, i, v, x, .nil, h, _ => by simp at h
 | _, _, 0, v, x, .cons y t r, h, e => by
  simp at h e
  subst h e
  exact ⟨t, rfl⟩
 | _, _, i + 1, v, x, .cons y t r, h, e => strsAre_get r (by simpa using h) (by simpa using e)
noncomputable def badU (m : Md) (mo name : Str) (ns : List Str) : Prop := followF m [] 30 mo name ns (Str.ofString "type") = none ∧ followF m [] 30 mo name ns (Str.ofString "value") = none
noncomputable def badM (m : Md) : Prop := ∃ mo tb name ns, at? m.tabs mo = some tb ∧ at? tb.uses name = some ns ∧ badU m mo name ns
structure ChkOk (m : Md) : Prop where
 tz : m.tabs.length < 64
 uz : ∀ p ∈ m.tabs, p.2.uses.length < 64
 mo : ∀ p tb, at? m.tabs p = some tb → (at? m.kinds p).isSome = true ∧ Pa p ∧ ∀ n ns, at? tb.uses n = some ns → Nm n
inductive RCm (m : Md) (x : Addr) (ss : List Str) (g1 h : Heap) : Nat → List Heap → List Cell → List (Option Value) → Prop
 | mk {i : Nat} {o1 o2 o3 o4 : Option Value} (ok : ∀ j, j < i → ∀ mo, ss[j]? = some mo → ∀ tb name ns, at? m.tabs mo = some tb → at? tb.uses name = some ns → ¬ badU m mo name ns) : RCm m x ss g1 h i [g1, h] [] [some (.ref x), o1, o2, o3, o4]
inductive RCu (m : Md) (tb : Tb) (mo : Str) (x ta itr l : Addr) (k : Nat) (t1 : Tok) (ss2 : List Str) (g2 g1 h : Heap) : Nat → List Heap → List Cell → List (Option Value) → Prop
 | mk {i : Nat} {o3 o4 : Option Value} (ok : ∀ j, j < i → ∀ nm, ss2[j]? = some nm → ∀ ns, at? tb.uses nm = some ns → ¬ badU m mo nm ns) : RCu m tb mo x ta itr l k t1 ss2 g2 g1 h i [g2, g1, h] [(itr, LI l k)] [some (.ref x), some (.str mo t1), some (.ref ta), o3, o4]
section
variable {A : Around} {E : Value → Shared → Prop} {h : Heap} {tk : Nat} {Q : Value → Shared → Prop}
theorem c_checked {P : Addr → Prop} {x : Addr} {m : Md} (C : Cx (Mine.hd.heap_1 w.params) A h 130) (hh : A.handled = none) (M : MdAt P h x m) (W : Wf m) (O : ChkOk m)
  (k : ∀ h' tk', Ch [] h h' → ¬ badM m → Q .none (St s h' tk'))
  (hE : ∀ e s', badM m → RseX 52 [h] e s' → E e s') :
  wpAny (model prog w) A (call (.ref 255) [.ref x]) Q E (St s h tk) := by
 have M' := M
 fin_once o1 fail
 obtain ⟨dk, dp, dt, dg, di, I, Dk, Dp, Dt⟩ := M'
 fin_once o2 fail
 have I' := I.ins
 refine call_fn (bs := [h]) (cs := []) (vals := [.ref x]) ["self"] ["module", "table", "name", "use"] ["sorted", "NameFault"] C.t (.head _) (by simp [Ch.refl]) Cells.nil (by fin_once sm fail) C.ff ⟨_, .head _, C.hd⟩ (by k_is) (by k_is) C.r.room (BindsTo.of_eq rfl) rfl (by decide +kernel) (by decide +kernel) rfl rfl rfl rfl (by decide) ?_
 intro env L h₁ tk₁ F H hc hL
 dsimp only [List.cons_append, List.nil_append, List.map] at F H
 have T := C.t
 have R : Rm (A.deeper env) 129 := C.r.deeper (by fin_once om fail)
 refine wpAny_mono (E := EscXN (badM m) 52 (A.deeper env) [h] L) ?_ (fun _ _ q => q) fun e s' q => q.2.lv F fun e s' r => hE e s' q.1 r
 refine w_seq ?_
 fin_once o1 fail
 obtain ⟨ot, kvt, _, lot, et, Dct, Tt⟩ := id Dt
 fin_once o2 fail
 have kz : kvt.length < 64 := by rw [Tt.len]; exact O.tz
 have hh' : (A.deeper env).handled = none := hh
 have hk1 : ∀ ss : List Str, ss.Perm (kvt.map (·.1)) → ∀ p, (at? m.tabs p).isSome = true → p ∈ ss := fun ss pm p hp => by
  rw [at?_isSome, ← Tt.keys] at hp
  exact pm.mem_iff.mpr hp
 refine w_ForM (E' := EscXN (badM m) 52 (A.deeper env) [h] L) (L := L) ["self", "module", "table", "name", "use"] hh' (thr_escX F) (fun _ => rfl) (.inl ⟨_, _, rfl⟩) ?_
 fin_once g3 fail
 refine w_sortedD hh' H ((H.ch h (.head _)).same _ _ et (by fin_once sm fail) (mutO_fr Dct.mut)) Dct lot kz fun l h₂ tk₂ its ss H₂ c₂ hl sa pm => ?_
 refine H₂.nowK F fun g1 xg1 H₂ kp1 => ?_
 have al1 : Alls h₂ g1 := fun b o e f => kp1 b o e f (fun c hc => by cases hc)
 have hl1 := isList_alls hl al1
 refine .mk (RCm m x ss g1 h) hl1 H₂ (.mk fun j hj => absurd hj (Nat.not_lt_zero _)) (fun i bs cs vs hR => ?_) (fun itr i v bs cs vs h₃ tk₃ hv hR H₃ Tz hTz => ?_) fun bs cs vs h₃ tk₃ hR H₃ => ?_
 ·induction hR
  exact .head _
 ·induction hR
  rename_i o1 o2 o3 o4 hok
  have hi : i < its.size := (Array.getElem?_eq_some_iff.mp hv).1
  have sl : its.toList.length = ss.length := sa.length
  rw [Array.length_toList] at sl
  obtain ⟨t1, rfl⟩ : ∃ t1, v = .str (ss[i]'(by fin_once om fail)) t1 := strsAre_get sa (by rw [Array.getElem?_toList]; exact hv) (List.getElem?_eq_getElem (by fin_once om fail))
  obtain ⟨mo, hmo⟩ : ∃ mo, mo = ss[i]'(by fin_once om fail) := ⟨_, rfl⟩
  rw [← hmo]
  have mmo : mo ∈ kvt.map (·.1) := pm.mem_iff.mp (hmo ▸ List.getElem_mem _)
  rw [Tt.keys, ← at?_isSome] at mmo
  fin_once o1 fail
  obtain ⟨tb, htb⟩ := Option.isSome_iff_exists.mp mmo
  obtain ⟨okk, okp, okn⟩ := O.mo mo tb htb
  fin_once o2 fail
  fin_once g3 fail
  rename At _ _ _ _ _ _ _ => H₄
  refine w_ditemB Dt H₄ (.tail _ (.head _)) htb (fun v tk' rv => ?_) (by with_unfolding_all rfl)
  fin_once o1 fail
  obtain ⟨ta, da, db, du, rfl, It, Da, Db, Du⟩ := rv
  fin_once o2 fail
  have It' := It.ins
  fin_once g3 fail
  fin_once o1 fail
  obtain ⟨ou, kvu, _, lou, eu, Dcu, Tu⟩ := id Du
  fin_once o2 fail
  have uz : kvu.length < 64 := by
   rw [Tu.len]
   exact O.uz (mo, tb) (at?_in htb)
  refine w_ForM (E' := EscXN (badM m) 52 (A.deeper env) [h] L) (L := L) ["self", "module", "table", "name", "use"] hh' (thr_escX F) (fun _ => rfl) (.inl ⟨_, _, rfl⟩) ?_
  fin_once g3 fail
  rename At _ _ _ _ _ _ _ => H₅
  refine w_sortedD hh' H₅ ((H₅.ch h (.tail _ (.head _))).same _ _ eu (by fin_once sm fail) (mutO_fr Dcu.mut)) Dcu lou uz fun l2 h₆ tk₆ its2 ss2 H₆ c₆ hl2 sa2 pm2 => ?_
  refine H₆.nowK F fun g2 xg2 H₆ kp2 => ?_
  have al2 : ∀ b o, h₆.get? b = some o → isFr b o = false → b ≠ itr → g2.get? b = some o := fun b o e f n => kp2 b o e f (fun c hc => by rw [List.mem_singleton.mp hc]; exact Ne.symm n)
  have nl2 : l2 ≠ itr := fun q => by
   fin_once o1 fail
   refine H₆.cells.getK (.head _) fun o e pk2 _ => ?_
   obtain ⟨c, _⟩ := pk2
   obtain ⟨o', e', c', _⟩ := hl2
   fin_once o2 fail
   rw [q, e] at e'
   cases e'
   rw [c] at c'
   exact absurd c' (by decide)
  have hl3 : g2.IsList l2 its2 := by
   fin_once o1 fail
   obtain ⟨o, e, c, r⟩ := hl2
   fin_once o2 fail
   exact ⟨o, al2 _ _ e (mutO_fr (mutO_list c)) nl2, c, r⟩
  refine .mk (RCu m tb mo x ta itr l (i + 1) t1 ss2 g2 g1 h) hl3 H₆ (.mk fun j hj => absurd hj (Nat.not_lt_zero _)) (fun i bs cs vs hR => ?_) (fun itr2 i2 v bs cs vs h₇ tk₇ hv2 hR H₇ Tr hTr => ?_) fun bs cs vs h₇ tk₇ hR H₇ => ?_
  ·induction hR
   exact .head _
  ·induction hR
   rename_i o3 o4 hok2
   have hi2 : i2 < its2.size := (Array.getElem?_eq_some_iff.mp hv2).1
   have sl2 : its2.toList.length = ss2.length := sa2.length
   rw [Array.length_toList] at sl2
   obtain ⟨t2, rfl⟩ : ∃ t2, v = .str (ss2[i2]'(by fin_once om fail)) t2 := strsAre_get sa2 (by rw [Array.getElem?_toList]; exact hv2) (List.getElem?_eq_getElem (by fin_once om fail))
   obtain ⟨nm, hnm⟩ : ∃ nm, nm = ss2[i2]'(by fin_once om fail) := ⟨_, rfl⟩
   rw [← hnm]
   have mnm : nm ∈ kvu.map (·.1) := pm2.mem_iff.mp (hnm ▸ List.getElem_mem _)
   rw [Tu.keys, ← at?_isSome] at mnm
   obtain ⟨ns, hns⟩ := Option.isSome_iff_exists.mp mnm
   have Nn := okn nm ns hns
   have No' := W.use mo tb htb nm ns hns
   fin_once g3 fail
   rename At _ _ _ _ _ _ _ => H₈
   refine w_ditemB Du H₈ (by fin_once sm fail) hns (fun v tk' rv => ?_) (by with_unfolding_all rfl)
   have U := rv
   fin_once o1 fail
   obtain ⟨u, tns, sp', rfl, Iu, hsp, ru⟩ := rv
   fin_once o2 fail
   have FC : FollowC m 30 := c_follow W fun n' q => by cases q; exact find_all W 29
   fin_once g3 fail
   rename At _ _ _ _ _ _ _ => H₉
   have sk : SeenOk 30 [] := ⟨rfl, fun p mp => by simp at mp⟩
   have nty : Nm (Str.ofString "type") := ⟨by decide +kernel, by decide +kernel⟩
   have nva : Nm (Str.ofString "value") := ⟨by decide +kernel, by decide +kernel⟩
   have done : ∀ {h'' tk''}, At (A.deeper env) [g2, g1, h] L ["self", "module", "table", "name", "use"] [(itr2, LI l2 (i2 + 1)), (itr, LI l (i + 1))] [some (.ref x), some (.str mo t1), some (.ref ta), some (.str nm t2), some (.ref u)] h'' → ¬ badU m mo nm ns → ForI (A.deeper env) L ["self", "module", "table", "name", "use"] itr2 (LI l2) (RCu m tb mo x ta itr l (i + 1) t1 ss2 g2 g1 h) (i2 + 1) (St s h'' tk'') := fun {h'' tk''} H'' nb => .mk (.mk fun j hj nm' hj' ns' e2 => by
    by_cases q : j < i2
    ·exact hok2 j q nm' hj' ns' e2
    ·obtain rfl : j = i2 := by fin_once om fail
     rw [List.getElem?_eq_getElem (by fin_once om fail), ← hnm] at hj'
     cases hj'
     rw [hns] at e2
     cases e2
     exact nb) H''
   refine w_Try (N := followF m [] 30 mo nm ns (Str.ofString "type") = none) (E' := fun e s' => badM m ∧ EscX 52 (A.deeper env) [h] L e s') H₉ F T (by fin_once sm fail) hh' (by fin_once sm fail) f_glob (fun h' X => f_cls X) f_base (by decide) ?_ (fun a e s' q => q.2.through F rfl fun _ _ q' => ⟨q.1, q'⟩) fun n a g' h' tk' y1 H' c' y2 => ?_
   ·have I'' := I'
    clear It'
    fin_once g3 fail
    refine w_newList H₉ (by fin_once sm fail) fun h₁₀ H₁₀ c₁₀ l₁₀ n₁₀ => ?_
    fin_once g3 fail
    have c10 := H₁₀.ch h (by fin_once sm fail)
    refine FC (P := P) (H₁₀.cx T (by fin_once sm fail) R (by fin_once om fail)) (M.tr c10.tr) (UseV.tr U c10.tr) No' okp Nn okk ⟨_, _, rfl, l₁₀, .nil⟩ sk nty (fun r t h₁₁ tk₁₁ c₁₁ e1 e2 => ?_) fun e s' e1 r => ⟨e1, ?_⟩
    ·have H₁₁ := H₁₀.keep c₁₁
     fin_once g3 fail
     exact done H₁₁ fun b => by rw [b.1] at e1; cases e1
    ·induction r
     rename_i a' h' tk' x' f'
     obtain ⟨ll, ll1, ll2⟩ := H₁₀.ff
     have x'' := x' _ (.head _)
     exact (.mk (by intro g0 mg0; rw [List.mem_singleton.mp mg0]; exact c₁₀.trans x'') ll1 (x''.ff ll2) ((f'.old fun g0 mg0 => ⟨_, .head _, by rw [List.mem_singleton.mp mg0]; exact c₁₀⟩).weak (fun _ q => .inr (.inl q)) id))
   ·have F' := F.mark (x := some (.ref a))
    clear It'
    clear H₉
    fin_once g3 fail
    refine w_newList H' (by fin_once sm fail) fun h₁₀ H₁₀ c₁₀ l₁₀ n₁₀ => ?_
    fin_once g3 fail
    have c10 := H₁₀.ch h (by fin_once sm fail)
    refine FC (P := P) (H₁₀.cx T (by fin_once sm fail) R.mark (by fin_once om fail)) (M.tr c10.tr) (UseV.tr U c10.tr) No' okp Nn okk ⟨_, _, rfl, l₁₀, .nil⟩ sk nva (fun r t h₁₁ tk₁₁ c₁₁ e1 e2 => ?_) fun e s' e1 r => ⟨⟨mo, tb, nm, ns, htb, hns, n, e1⟩, ?_⟩
    ·have H₁₁ := (H₁₀.keep c₁₁).unmark ⟨h, by fin_once sm fail, C.hd⟩
     clear H'
     fin_once g3 fail
     exact done H₁₁ fun b => by rw [b.2] at e1; cases e1
    ·have r1 := (r.escX H₁₀).drop (bs' := [h]) (by fin_once sb fail)
     exact r1.as rfl
  ·induction hR
   rename_i hok2
   fin_once g3 fail
   have H₈ := H₇.drop (bs' := [g1, h]) (fun b mb => .tail _ mb) ⟨h, by fin_once sm fail, C.hd⟩
   refine tf_next (.mk (.mk fun j hj mo' hj' tb' name ns e1 e2 => ?_) H₈)
   by_cases q : j < i
   ·exact hok j q mo' hj' tb' name ns e1 e2
   ·obtain rfl : j = i := by fin_once om fail
    rw [List.getElem?_eq_getElem (by fin_once om fail), ← hmo] at hj'
    cases hj'
    rw [htb] at e1
    cases e1
    have mm : name ∈ ss2 := pm2.mem_iff.mpr (by rw [Tu.keys, ← at?_isSome, e2]; rfl)
    obtain ⟨j2, hj2, ej2⟩ := List.getElem_of_mem mm
    have sl2 : its2.toList.length = ss2.length := sa2.length
    rw [Array.length_toList] at sl2
    exact hok2 j2 (by fin_once om fail) name (by rw [List.getElem?_eq_getElem hj2, ej2]) ns e2
 ·induction hR
  rename_i hok
  fin_once g3 fail
  refine k _ _ (H₃.ch h (.tail _ (.head _))) fun ⟨mo, tb, name, ns, e1, e2, b⟩ => ?_
  have mm := hk1 ss pm mo (by rw [e1]; rfl)
  obtain ⟨j, hj, ej⟩ := List.getElem_of_mem mm
  have sl : its.toList.length = ss.length := sa.length
  rw [Array.length_toList] at sl
  exact hok j (by fin_once om fail) mo (by rw [List.getElem?_eq_getElem hj, ej]) tb name ns e1 e2 b
end
section
variable {A : Around} {E : Value → Shared → Prop} {h : Heap} {tk : Nat} {bs : List Heap} {L : Addr} {ks : List Str} {cs : List Cell} {vs : List (Option Value)} {Q : Value → Shared → Prop}
omit rt0 in
theorem strsAre_pairs : ∀ l : List (Str × Tok), StrsAre (strValues l) (l.map (·.1))
 | [] => .nil
 | p :: r => .cons p.1 p.2 (strsAre_pairs r)
open PySem.Builtin.Str in
theorem w_split {x y : Str} {t u : Tok} (H : At A bs L ks cs vs h) (hy : (y.length == 0) = false) (hx : x.length ≤ 1000)
  (k : ∀ l h' tk' its, At A bs L ks cs vs h' → Ch [] h h' → h'.IsList l its → StrsAre its.toList (Txt.split x y) → Q (.ref l) (St s h' tk')) :
  wpAny (model prog w) A (call (.builtin "str.split") [.str x t, .str y u]) Q E (St s h tk) := by
 have hn1 : (partsBetween x (occurrences x y 0 x.length (x.length + 1)) y.length).length ≤ sizeLine := by
  have e1 := PySem.StrLaws.occ_length_le x y 0 x.length (x.length + 1)
  rw [length_partsBetween]
  exact Nat.le_trans (by fin_once om fail : _ ≤ 1002) (by decide)
 refine SCH.split1 (P := fun h' => ∀ b o, h.get? b = some o → h'.get? b = some o) (fun _ ob x b o e => Heap.get?_push_of_some _ (x b o e)) (fun b o e => e) hy (fun D l h' k' e kp hl => ?_) (hsz := Nat.le_trans hx (by decide)) (hsz2 := hn1)
 have c : Ch [] h h' := Ch.of_keeps kp
 refine k D h' k' _ (H.keep c) c hl ?_
 rw [← e]
 exact strsAre_pairs l
end
noncomputable def partsF (x : Str) : List Str := if x = Str.ofString "" then [] else Txt.split x (Str.ofString "::")
omit rt0 in
theorem rd_strs {h : Heap} {t : Addr} {its : Array Value} {xs : List Str} (ht : IsTup h t its) (sa : StrsAre its.toList xs) : Rd h (.ref t) (strsD xs) := by
 refine Reads.tuple (as := []) ht.choose_spec.1 ht.choose_spec.2.1 ht.choose_spec.2.2.choose_spec ?_
 have : ∀ {vs : List Value} {xs : List Str}, StrsAre vs xs → ReadsAll h vs (xs.map .str) [] := by
  intro vs xs sa
  induction sa with
  | nil => exact .nil
  | cons x t _ ih => exact .cons (as := []) (bs := []) (.str _ _) ih
 exact this sa
section
variable {A : Around} {E : Value → Shared → Prop} {h : Heap} {tk : Nat} {Q : Value → Shared → Prop}
theorem c_parts {x : Str} {t : Tok} (C : Cx (Mine.hd.heap_1 w.params) A h 1) (hx : x.length ≤ 1000) (hz : (Txt.split x (Str.ofString "::")).length ≤ 100)
  (k : ∀ t h' tk', Ch [] h h' → Rd h' (.ref t) (strsD (partsF x)) → Q (.ref t) (St s h' tk')) :
  wpAny (model prog w) A (call (.ref 301) [.str x t]) Q E (St s h tk) := by
 refine fn0c (vals := [.str x t]) ["path"] [] ["tuple"] C (by k_is) (by k_is) (BindsTo.of_eq rfl) rfl (by decide +kernel) (by decide +kernel) rfl rfl rfl rfl (by decide) ?_
 intro env L h₁ tk₁ F H hc T R
 dsimp only [List.cons_append, List.nil_append, List.map] at F H
 fin_once g3 fail
 refine w_ite (fun e => ?_) fun e => ?_
 ·have e' : x ≠ Str.ofString "" := by simpa using e
  fin_once g3 fail
  refine w_split H (by decide +kernel) hx fun l h₂ tk₂ its H₂ c₂ hl sa => ?_
  have z : its.size ≤ 10000 := by
   have := sa.length
   rw [Array.length_toList] at this
   fin_once om fail
  fin_once g3 fail
  refine w_tupleOf H₂ hl z fun tq h₃ H₃ c₃ ht => ?_
  fin_once g3 fail
  refine k _ _ _ ((hc.trans c₂).trans c₃) ?_
  unfold partsF
  rw [if_neg e']
  exact rd_strs ht sa
 ·have e' : x = Str.ofString "" := by simpa using e
  fin_once g3 fail
  refine w_newTuple H (by fin_once sm fail) fun h₂ H₂ c₂ t₂ => ?_
  fin_once g3 fail
  refine k _ _ _ (hc.trans c₂) ?_
  unfold partsF
  rw [if_pos e']
  exact rd_strs t₂ .nil
noncomputable def spacesF (kind : Str) : List Str := if kind ∈ [Str.ofString "unit", Str.ofString "variant"] then bothL else if kind = Str.ofString "fn" then valueL else typeL
theorem c_spaces {x : Str} {t : Tok} (C : Cx (Mine.hd.heap_1 w.params) A h 1) (hx : PyData.strOk x = true)
  (k : ∀ l h' tk' its, Ch [] h h' → h'.IsList l its → StrsAre its.toList (spacesF x) → Q (.ref l) (St s h' tk')) :
  wpAny (model prog w) A (call (.ref 315) [.str x t]) Q E (St s h tk) := by
 refine fn0c (vals := [.str x t]) ["kind"] [] [] C (by k_is) (by k_is) (BindsTo.of_eq rfl) rfl (by decide +kernel) (by decide +kernel) rfl rfl rfl rfl (by decide) ?_
 intro env L h₁ tk₁ F H hc T R
 dsimp only [List.cons_append, List.nil_append, List.map] at F H
 fin_once g3 fail
 refine w_newList H (by fin_once sm fail) fun h₂ H₂ c₂ l₂ _ => ?_
 refine w_inL (xs := [.str (Str.ofString "unit"), .str (Str.ofString "variant")]) (Reads.list (as := []) l₂.choose_spec.1 l₂.choose_spec.2.1 l₂.choose_spec.2.2.choose_spec (.cons (as := []) (bs := []) (.str _ _) (.cons (as := []) (bs := []) (.str _ _) .nil))) (.str _ _) (by decide +kernel) hx ?_ ?_
 ·exact R.un1 rfl
 rw [show ([PyData.str (Str.ofString "unit"), PyData.str (Str.ofString "variant")].any fun y => PyData.eqv y (.str x)) = decide (x ∈ [Str.ofString "unit", Str.ofString "variant"]) from any_strs x [Str.ofString "unit", Str.ofString "variant"]]
 fin_once g3 fail
 refine w_ite (fun e => ?_) fun e => ?_
 ·fin_once g3 fail
  refine w_newList H₂ (by fin_once sm fail) fun h₃ H₃ c₃ l₃ _ => ?_
  fin_once g3 fail
  refine k _ _ _ _ ((hc.trans c₂).trans c₃) l₃ ?_
  unfold spacesF
  rw [if_pos (of_decide_eq_true e)]
  exact .cons _ _ (.cons _ _ .nil)
 ·fin_once g3 fail
  refine w_ite (fun e2 => ?_) fun e2 => ?_
  ·have e2' : x = Str.ofString "fn" := by simpa using e2
   fin_once g3 fail
   refine w_newList H₂ (by fin_once sm fail) fun h₃ H₃ c₃ l₃ _ => ?_
   fin_once g3 fail
   refine k _ _ _ _ ((hc.trans c₂).trans c₃) l₃ ?_
   unfold spacesF
   rw [if_neg (of_decide_eq_false e), if_pos e2']
   exact .cons _ _ .nil
  ·have e2' : x ≠ Str.ofString "fn" := by simpa using e2
   fin_once g3 fail
   refine w_newList H₂ (by fin_once sm fail) fun h₃ H₃ c₃ l₃ _ => ?_
   fin_once g3 fail
   refine k _ _ _ _ ((hc.trans c₂).trans c₃) l₃ ?_
   unfold spacesF
   rw [if_neg (of_decide_eq_false e), if_neg e2']
   exact .cons _ _ .nil
end
noncomputable def DctS (l : List (Str × Str)) (o : Obj) : Prop := ∃ kvs, Dct kvs o ∧ Tab IsS kvs l
theorem DctS.mut {l : List (Str × Str)} {o : Obj} (h : DctS l o) : mutO o = true := by obtain ⟨_, D, _⟩ := h; exact Dct.mut D
theorem w_cset {A : Around} {E : Value → Shared → Prop} {h : Heap} {tk : Nat} {bs : List Heap} {L : Addr} {ks : List Str} {cs cs' : List Cell} {vs : List (Option Value)} {d : Addr} {l : List (Str × Str)} {y x : Str} {t u : Tok} {Q : Unit → Shared → Prop} (H : At A bs L ks cs vs h) (m : (d, DctS l) ∈ cs) (T : Turn cs d (DctS (upd l y x)) cs') (hz : l.length ≤ 5000)
  (k : ∀ h' tk', At A bs L ks cs' vs h' → Q () (St s h' tk')) : wpAny (model prog w) A (setItem (.ref d) (.str y t) (.str x u)) Q E (St s h tk) := by
 refine H.cells.getK m fun o e pk2 _ => ?_
 obtain ⟨kvs, D, Tb⟩ := pk2
 refine w_dset e D (by rw [Tb.len]; fin_once om fail) fun h' o' hs e' D' => k h' _ (H.turn' T hs e' ⟨_, D', Tb.upd ⟨_, rfl⟩⟩ D'.mut)
noncomputable def placesL : List Str := [Str.ofString "", Str.ofString "a", Str.ofString "a::b"]
noncomputable def rowsK (unit : Bool) : List (Str × Str) := [(Str.ofString "f", Str.ofString "fn"), (Str.ofString "S", if unit then Str.ofString "unit" else Str.ofString "named"), (Str.ofString "E", Str.ofString "enum"), (Str.ofString "T", Str.ofString "trait")]
noncomputable def varsK : List Str := [Str.ofString "V", Str.ofString "W"]
noncomputable def kRow (mo : Str) (l : List (Str × Str)) (p : Str × Str) : List (Str × Str) := upd l (J mo p.1) p.2
noncomputable def kVar (mo : Str) (l : List (Str × Str)) (v : Str) : List (Str × Str) := upd l (J mo (Str.ofString "E::" ++ v)) (Str.ofString "variant")
noncomputable def kMod (unit : Bool) (l : List (Str × Str)) (mo : Str) : List (Str × Str) := varsK.foldl (kVar mo) ((rowsK unit).foldl (kRow mo) l)
noncomputable def k0L : List (Str × Str) := [(Str.ofString "a", Str.ofString "mod"), (Str.ofString "a::b", Str.ofString "mod")]
noncomputable def lawK (unit : Bool) : List (Str × Str) := placesL.foldl (kMod unit) k0L
omit rt0 in
theorem upd_len {α : Type} (l : List (Str × α)) (x : Str) (b : α) : (upd l x b).length ≤ l.length + 1 := by
 unfold upd
 split
 ·rw [List.length_map]; fin_once om fail
 ·rw [List.length_append]; simp
omit rt0 in
theorem foldl_len {α β : Type} (f : List β → α → List β) (hf : ∀ l a, (f l a).length ≤ l.length + 1) : ∀ (xs : List α) (l : List β), (xs.foldl f l).length ≤ l.length + xs.length
 | [], l => by simp
 | x :: xs, l => by
  have := foldl_len f hf xs (f l x)
  have := hf l x
  simp only [List.foldl_cons, List.length_cons]; fin_once om fail
omit rt0 in
theorem foldl_take {α β : Type} {f : β → α → β} {xs : List α} {i : Nat} {x : α} (e : xs[i]? = some x) (l : β) : (xs.take (i + 1)).foldl f l = f ((xs.take i).foldl f l) x := by
 rw [List.take_add_one, e]; simp
theorem At.cast {A : Around} {bs : List Heap} {L : Addr} {ks : List Str} {cs : List Cell} {vs : List (Option Value)} {h : Heap} {d : Addr} {φ ψ : Obj → Prop} (H : At A bs L ks ((d, φ) :: cs) vs h) (k : ∀ o, φ o → ψ o) : At A bs L ks ((d, ψ) :: cs) vs h := by
 refine H.mod (fun b o e _ => e) ⟨fun c hc => ?_, H.cells.nd⟩ fun c hc => .inl ?_
 ·rcases List.mem_cons.mp hc with rfl | hc
  ·refine H.cells.getK (.head _) fun o e p m => ?_
   exact ⟨o, e, k o p, m⟩
  ·exact H.cells.all c (.tail _ hc)
 ·rcases List.mem_cons.mp hc with rfl | hc
  ·exact ⟨_, .head _, rfl⟩
  ·exact ⟨c, .tail _ hc, rfl⟩
theorem w_newTupleN {A : Around} {E : Value → Shared → Prop} {h : Heap} {bs : List Heap} {tk : Nat} {L : Addr} {ks : List Str} {cs : List Cell} {vs : List (Option Value)} {args : List Value} {Q : Value → Shared → Prop} (H : At A bs L ks cs vs h) (hz : args.length ≤ 10000)
  (k : ∀ t h', At A bs L ks cs vs h' → Ch [] h h' → IsTup h' t args.toArray → Q (.ref t) (St s h' tk)) : wpAny (model prog w) A (newTuple args) Q E (St s h tk) := w_newTuple H hz fun h' H' c t => k _ h' H' c t
theorem w_ifj {M : Model} {A : Around} {E : Value → Shared → Prop} {α : Type} {m1 m2 : Sem α} {Q : α → Shared → Prop} {s : Shared} {b : Bool} (Q1 : α → Shared → Prop) (h1 : b = true → wpAny M A m1 Q1 E s) (h2 : b = false → wpAny M A m2 Q1 E s) (k : ∀ v s', Q1 v s' → Q v s') : if b = true then wpAny M A m1 Q E s else wpAny M A m2 Q E s :=
 w_ite (fun e => wpAny_mono (h1 e) k fun _ _ q => q) fun e => wpAny_mono (h2 e) k fun _ _ q => q
theorem w_newListG {A : Around} {E : Value → Shared → Prop} {h : Heap} {bs : List Heap} {tk : Nat} {env : Env} {L : Addr} {ks gs : List Str} {cs : List Cell} {vs : List (Option Value)} {args : List Value} {Q : Value → Shared → Prop} (H : At A bs L ks cs vs h) (F : Fn A env L ks gs) (hz : args.length ≤ 10000)
  (k : ∀ l g h', At A (g :: bs) L ks cs vs h' → Ch [] h h' → (∀ b ∈ bs, Ch [] b g) → g.IsList l args.toArray → (∀ t its, IsTup h t its → IsTup g t its) → (∀ c ∈ cs, c.1 ≠ l) → Q (.ref l) (St s h' tk)) : wpAny (model prog w) A (newList args) Q E (St s h tk) :=
 w_newList H hz fun h' H' c l n => by
  refine H'.nowK F fun g x Hg kp => ?_
  have nc : ∀ c ∈ cs, c.1 ≠ h.objs.size := fun c hc => by
   obtain ⟨o, e, _⟩ := H.cells.all c hc
   exact Nat.ne_of_lt (Heap.lt_size e)
  refine k _ g h' Hg c x ?_ (fun t its q => ?_) nc
  ·fin_once o1 fail
   obtain ⟨o, e, c1, r⟩ := l
   fin_once o2 fail
   exact ⟨o, kp _ _ e (mutO_fr (mutO_list c1)) nc, c1, r⟩
  ·fin_once o1 fail
   obtain ⟨o, e, c1, r⟩ := isTup_ch q c
   fin_once o2 fail
   refine ⟨o, kp _ _ e (isFr_tuple c1) fun d hd z => ?_, c1, r⟩
   fin_once o1 fail
   obtain ⟨o', e', _, m⟩ := H'.cells.all d hd
   fin_once o2 fail
   rw [z, e] at e'
   cases e'
   exact mutO_tup m c1
theorem g_places {h : Heap} (X : (Mine.hd.heap_1 w.params).In h) : ∃ its, h.IsList 287 its ∧ StrsAre its.toList placesL := by
 refine ⟨_, ⟨_, X 287 _ (by k_is), rfl, _, rfl⟩, ?_⟩
 repeat (first | exact .nil | refine StrsAre.cons _ _ ?_)
inductive RK (cs : List Cell) (bs : List Heap) (d : Addr) (f : Nat → List (Str × Str)) (z : Nat → Nat) (V : List (Option Value) → Prop) : Nat → List Heap → List Cell → List (Option Value) → Prop
 | mk {i : Nat} {l : List (Str × Str)} {vs : List (Option Value)} (zl : l.length ≤ z i) (el : l = f i) (v : V vs) : RK cs bs d f z V i bs (cs ++ [(d, DctS l)]) vs
inductive VK (unit : Bool) (d : Addr) : List (Option Value) → Prop
 | mk {o1 o2 o3 : Option Value} : VK unit d [some (.bool unit), some (.ref d), o1, o2, o3]
inductive VK2 (unit : Bool) (d : Addr) (mo : Str) (tm : Tok) : List (Option Value) → Prop
 | mk {o2 o3 : Option Value} : VK2 unit d mo tm [some (.bool unit), some (.ref d), some (.str mo tm), o2, o3]
section
variable {A : Around} {E : Value → Shared → Prop} {h : Heap} {tk : Nat} {Q : Value → Shared → Prop}
theorem c_kinds {unit : Bool} (C : Cx (Mine.hd.heap_1 w.params) A h 3) (hh : A.handled = none)
  (k : ∀ d h' tk' o, Ch [] h h' → h'.get? d = some o → DctS (lawK unit) o → (d == sysModules) = false → h.get? d = none → Q (.ref d) (St s h' tk')) :
  wpAny (model prog w) A (call (.ref 308) [.bool unit]) Q E (St s h tk) := by
 refine fn0c (vals := [.bool unit]) ["unit"] ["found", "module", "name", "kind"] ["_law_places", "_law_joined"] C (by k_is) (by k_is) (BindsTo.of_eq rfl) rfl (by decide +kernel) (by decide +kernel) rfl rfl rfl rfl (by decide) ?_
 intro env L h₁ tk₁ F H hc T R
 dsimp only [List.cons_append, List.nil_append, List.map] at F H
 have hh' : (A.deeper env).handled = none := hh
 fin_once g3 fail
 refine w_dict2 H T (.head _) top_lo fun d h₂ nd lo H₂ c₂ => ?_
 fin_once g3 fail
 refine ⟨[(Str.ofString "a", _), (Str.ofString "a::b", _)], _, _, _, _, _, rfl, ⟨strIs, rfl, strIs, rfl, trivial⟩, H₂, fun h₃ tk₃ H₃ _ => ?_⟩
 have nd2 : [Str.ofString "a", Str.ofString "a::b"].Nodup := by decide +kernel
 have mg : ∀ a b : Value, merged [] [(Str.ofString "a", a), (Str.ofString "a::b", b)] = [(Str.ofString "a", a), (Str.ofString "a::b", b)] := fun a b => merged_append_of_fresh [] _ nd2
 rw [mg] at H₃
 have H₃ := H₃.cast (ψ := DctS k0L) fun o D => ⟨_, D, .cons ⟨_, rfl⟩ (.cons ⟨_, rfl⟩ .nil)⟩
 obtain ⟨its, gl, sa⟩ := g_places T.k
 have sl : its.size = 3 := by
  have := sa.length
  rwa [Array.length_toList] at this
 fin_once g3 fail
 refine w_ForM (E' := No) (L := L) ["unit", "found", "module", "name", "kind"] hh' thr_no (fun _ => rfl) (.inl ⟨_, _, rfl⟩) ?_
 fin_once g3 fail
 rename At _ _ _ _ _ _ _ => H₄
 refine .mk (RK [] [h] d (fun i => (placesL.take i).foldl (kMod unit) k0L) (fun i => 2 + 6 * i) (VK unit d)) gl H₄ (.mk (by simp [k0L]) rfl .mk) (fun i bs cs vs hR => ?_) (fun it1 i v bs cs vs h₅ tk₅ hv hR H₅ Tz hTz => ?_) fun bs cs vs h₅ tk₅ hR H₅ => ?_
 ·induction hR; exact .head _
 ·induction hR
  rename_i l vsk zl el pk1
  induction pk1
  rename_i o1 o2 o3
  dsimp only [List.nil_append] at H₅
  have hi : i < its.size := (Array.getElem?_eq_some_iff.mp hv).1
  have pz : placesL.length = 3 := rfl
  obtain ⟨mo, hmo⟩ : ∃ mo, placesL[i]? = some mo := ⟨_, List.getElem?_eq_getElem (by fin_once om fail)⟩
  obtain ⟨tm, rfl⟩ := strsAre_get sa (by rw [Array.getElem?_toList]; exact hv) hmo
  have mz : mo.length ≤ 100 := by
   have : ∀ x ∈ placesL, x.length ≤ 100 := by decide +kernel
   exact this _ (List.mem_of_getElem? hmo)
  fin_once g3 fail
  rename At _ _ _ _ _ _ _ => H₆
  refine w_ForM (E' := No) (L := L) ["unit", "found", "module", "name", "kind"] hh' thr_no (fun _ => rfl) (.inr ⟨_, _, _, rfl⟩) ?_
  fin_once g3 fail
  refine w_newTupleN H₆ (by fin_once sm fail) fun a1 h₇ H₇ c₇ tq1 => ?_
  fin_once g3 fail
  refine w_ifj (fun v s' => ∃ t tk', v = Value.str (if unit then Str.ofString "unit" else Str.ofString "named") t ∧ s' = St s h₇ tk') (fun e => ?_) (fun e => ?_) fun v s' q => ?_
  ·subst e
   fin_once g3 fail
   exact ⟨_, _, rfl, rfl⟩
  ·subst e
   fin_once g3 fail
   exact ⟨_, _, rfl, rfl⟩
  obtain ⟨tu, tk', rfl, rfl⟩ := q
  fin_once g3 fail
  refine w_newTupleN H₇ (by fin_once sm fail) fun a2 h₈ H₈ c₈ tq2 => ?_
  fin_once g3 fail
  refine w_newTupleN H₈ (by fin_once sm fail) fun a3 h₉ H₉ c₉ tq3 => ?_
  fin_once g3 fail
  refine w_newTupleN H₉ (by fin_once sm fail) fun a4 ha Ha ca tq4 => ?_
  fin_once g3 fail
  refine w_newListG Ha F (by fin_once sm fail) fun l1 g1 hb Hb cb xg gl1 tg nl1 => ?_
  have t1 := tg _ _ (isTup_ch (isTup_ch (isTup_ch tq1 c₈) c₉) ca)
  have t2 := tg _ _ (isTup_ch (isTup_ch tq2 c₉) ca)
  have t3 := tg _ _ (isTup_ch tq3 ca)
  have t4 := tg _ _ tq4
  fin_once g3 fail
  have rows : ∀ (j : Nat) (v : Value), (#[Value.ref a1, Value.ref a2, Value.ref a3, Value.ref a4] : Array Value)[j]? = some v → ∃ (t : Addr) (x : Str) (tx : Tok) (y : Str) (ty : Tok), v = Value.ref t ∧ IsTup g1 t #[.str x tx, .str y ty] ∧ (rowsK unit)[j]? = some (x, y) := by
   exact arA (arc ⟨_, _, _, _, _, rfl, t1, rfl⟩ (arc ⟨_, _, _, _, _, rfl, t2, rfl⟩ (arc ⟨_, _, _, _, _, rfl, t3, rfl⟩ (arc ⟨_, _, _, _, _, rfl, t4, rfl⟩ arn))))
  refine .mk (RK [(it1, LI 287 (i + 1))] [g1, h] d (fun j => ((rowsK unit).take j).foldl (kRow mo) l) (fun j => 2 + 6 * i + j) (VK2 unit d mo tm)) gl1 Hb (.mk (l := l) (by fin_once om fail) rfl .mk) (fun i bs cs vs hR => ?_) (fun it2 j v bs cs vs hc tkc hv2 hR Hc Tz hTz => ?_) fun bs cs vs hc tkc hR Hc => ?_
  ·induction hR; exact .head _
  ·induction hR
   rename_i l' vsk zl' el' pk1
   induction pk1
   rename_i o2 o3
   dsimp only [List.cons_append, List.nil_append] at Hc el' zl'
   fin_once o1 fail
   obtain ⟨t, x, tx, y, ty, rfl, tt, er⟩ := rows j v hv2
   fin_once o2 fail
   have xz : x.length ≤ 100 := by
    have : ∀ u, ∀ x ∈ rowsK u, x.1.length ≤ 100 := by decide +kernel
    exact this _ _ (List.mem_of_getElem? er)
   have jz : j < 4 := (List.getElem?_eq_some_iff.mp er).1
   refine w_assignT2 Hc F (isTup_ch tt (Hc.ch g1 (by fin_once sm fail))) (by fin_once lk fail) (by fin_once lk fail) fun hd tkd Hd => ?_
   fin_once g3 fail
   rename At _ _ _ _ _ _ _ => He
   refine c_ljoined (He.cx T (by fin_once sm fail) R (by fin_once om fail)) (by fin_once om fail) (by fin_once om fail) fun t₁ hf tkf cf => ?_
   have Hf := He.keep cf
   fin_once g3 fail
   refine w_cset (l := l') Hf (by fin_once sm fail) (by fin_once turn fail) (by fin_once om fail) fun hg tkg Hg => ?_
   fin_once g3 fail
   refine tf_next (.mk (.mk (Nat.le_trans (upd_len _ _ _) (by fin_once om fail)) ?_ .mk) Hg)
   rw [foldl_take er, ← el']
   rfl
  ·induction hR
   rename_i l' vsk zl' el' pk1
   induction pk1
   rename_i o2 o3
   dsimp only [List.cons_append, List.nil_append] at Hc el' zl'
   rw [show (rowsK unit).take _ = rowsK unit from rfl] at el'
   have zl' : l'.length ≤ 2 + 6 * i + 4 := zl'
   fin_once g3 fail
   rename At _ _ _ _ _ _ _ => He
   refine w_ForM (E' := No) (L := L) ["unit", "found", "module", "name", "kind"] hh' thr_no (fun _ => rfl) (.inl ⟨_, _, rfl⟩) ?_
   fin_once g3 fail
   refine w_newListG He F (by fin_once sm fail) fun l2 g2 hf Hf cf xg2 gl2 tg2 nl2 => ?_
   fin_once g3 fail
   refine .mk (RK [(it1, LI 287 (i + 1))] [g2, g1, h] d (fun j => (varsK.take j).foldl (kVar mo) l') (fun j => 2 + 6 * i + 4 + j) (VK2 unit d mo tm)) gl2 Hf (.mk (l := l') (by fin_once om fail) rfl .mk) (fun i bs cs vs hR => ?_) (fun it2 j v bs cs vs hc tkc hv2 hR Hc Tr hTr => ?_) fun bs cs vs hc tkc hR Hc => ?_
   ·induction hR; exact .head _
   ·induction hR
    rename_i l₂ vsk zl₂ el₂ pk1
    induction pk1
    rename_i o2 o3
    dsimp only [List.cons_append, List.nil_append] at Hc el₂ zl₂
    have jz : j < 2 := (Array.getElem?_eq_some_iff.mp hv2).1
    obtain ⟨x, tx, rfl, er⟩ : ∃ (x : Str) (tx : Tok), v = .str x tx ∧ varsK[j]? = some x := by
     exact are (P := fun j v => ∃ (x : Str) (tx : Tok), v = .str x tx ∧ varsK[j]? = some x) (Array.getElem?_toList.trans hv2) (arc ⟨_, _, rfl, rfl⟩ (arc ⟨_, _, rfl, rfl⟩ arn))
    have xz : x.length ≤ 100 := by
     have : ∀ x ∈ varsK, x.length ≤ 100 := by decide +kernel
     exact this _ (List.mem_of_getElem? er)
    have ez : (Str.ofString "E::").length = 3 := by decide +kernel
    fin_once g3 fail
    rename At _ _ _ _ _ _ _ => Hd
    refine c_ljoined (Hd.cx T (by fin_once sm fail) R (by fin_once om fail)) (by fin_once om fail) (by rw [Str.length_append]; fin_once om fail) fun t₁ hf tkf cf => ?_
    have Hf := Hd.keep cf
    fin_once g3 fail
    refine w_cset (l := l₂) Hf (by fin_once sm fail) (by fin_once turn fail) (by fin_once om fail) fun hg tkg Hg => ?_
    fin_once g3 fail
    refine tf_next (.mk (.mk (Nat.le_trans (upd_len _ _ _) (by fin_once om fail)) ?_ .mk) Hg)
    rw [foldl_take er, ← el₂]
    rfl
   ·induction hR
    rename_i l₂ vsk zl₂ el₂ pk1
    induction pk1
    rename_i o2 o3
    dsimp only [List.cons_append, List.nil_append] at Hc el₂ zl₂
    rw [show varsK.take _ = varsK from rfl] at el₂
    have zl₂ : l₂.length ≤ 2 + 6 * i + 4 + 2 := zl₂
    fin_once g3 fail
    refine tf_next (.mk (cs := [(d, DctS l₂)]) (.mk (l := l₂) (by fin_once om fail) ?_ .mk) (Hc.drop (bs' := [h]) (fun b mb => by rw [List.mem_singleton.mp mb]; simp) ⟨h, by fin_once sm fail, C.hd⟩))
    rw [foldl_take hmo, ← el, el₂, el']
    rfl
 ·induction hR
  rename_i l vsk zl el pk1
  induction pk1
  rename_i o1 o2 o3
  dsimp only [List.nil_append] at H₅ el
  rw [sl, show placesL.take 3 = placesL from rfl] at el
  fin_once g3 fail
  refine H₅.cells.getK (.head _) fun o e p _ => ?_
  refine k _ _ _ o (H₅.ch h (by fin_once sm fail)) e (by rw [el] at p; exact p) lo ?_
  exact H₅.newC h (.head _) _ (.head _)
end
section
variable (A : Around) (env : Env) (bs : List Heap) (L : Addr) (ks : List Str) (cs : List Cell) (vs : List (Option Value))
noncomputable def EvD (e : PySem.Expr) (d : PyData) : Prop := ∀ (h : Heap) (tk : Nat) (Q E : Value → Shared → Prop), At A bs L ks cs vs h →
 (∀ v h' tk', At A bs L ks cs vs h' → Ch [] h h' → Rd h' v d → Q v (St s h' tk')) → wpAny (model prog w) A (eval e env) Q E (St s h tk)
noncomputable def EvDs (es : List PySem.Expr) (ds : List PyData) : Prop := ∀ (h : Heap) (tk : Nat) (pos : Pos) (Q : List Value → Shared → Prop) (E : Value → Shared → Prop), At A bs L ks cs vs h →
 (∀ v h' tk', At A bs L ks cs vs h' → Ch [] h h' → ReadsAll h' v ds [] → Q v (St s h' tk')) → wpAny (model prog w) A (spliced (backTo pos (starEach es env))) Q E (St s h tk)
end
section
variable {A : Around} {env : Env} {bs : List Heap} {L : Addr} {ks gs : List Str} {cs : List Cell} {vs : List (Option Value)} {K : Frag} {g : Heap}
theorem evd {e : PySem.Expr} (d : PyData) {h : Heap} {tk : Nat} {Q E : Value → Shared → Prop} (H : At A bs L ks cs vs h) (x : EvD A env bs L ks cs vs e d)
  (k : ∀ v h' tk', At A bs L ks cs vs h' → Ch [] h h' → Rd h' v d → Q v (St s h' tk')) : wpAny (model prog w) A (eval e env) Q E (St s h tk) := x h tk Q E H k
theorem evds {es : List PySem.Expr} (ds : List PyData) {h : Heap} {tk : Nat} {pos : Pos} {Q : List Value → Shared → Prop} {E : Value → Shared → Prop} (H : At A bs L ks cs vs h) (x : EvDs A env bs L ks cs vs es ds)
  (k : ∀ v h' tk', At A bs L ks cs vs h' → Ch [] h h' → ReadsAll h' v ds [] → Q v (St s h' tk')) : wpAny (model prog w) A (spliced (backTo pos (starEach es env))) Q E (St s h tk) := x h tk pos Q E H k
theorem EvDs.nil : EvDs A env bs L ks cs vs [] [] := fun h tk pos Q E H k => PyProof.Rows.args_nil (k _ _ _ H (Ch.refl _ _) .nil)
theorem EvDs.cons {e : PySem.Expr} {es : List PySem.Expr} {d : PyData} {ds : List PyData} (he : starEach (e :: es) env = (false, eval e env) :: starEach es env) (x : EvD A env bs L ks cs vs e d) (xs : EvDs A env bs L ks cs vs es ds) : EvDs A env bs L ks cs vs (e :: es) (d :: ds) :=
 fun h tk pos Q E H k => PyProof.Rows.args_cons (x _ _ _ _ H fun v h₁ tk₁ H₁ c₁ r₁ => xs _ _ _ _ _ H₁ fun v2 h₂ tk₂ H₂ c₂ r₂ => k _ _ _ H₂ (c₁.trans c₂) (.cons (as := []) (bs := []) (r₁.ch c₂) r₂)) he
omit rt0 in
theorem rd_tup {h : Heap} {t : Addr} {vs : List Value} {ds : List PyData} (ht : IsTup h t vs.toArray) (r : ReadsAll h vs ds []) : Rd h (.ref t) (.tuple ds) :=
 Reads.tuple (as := []) ht.choose_spec.1 ht.choose_spec.2.1 ht.choose_spec.2.2.choose_spec r
theorem EvD.tuple {es : List PySem.Expr} {ds : List PyData} {k : Nat} {pos : Pos} (hz : ds.length ≤ 100) (xs : EvDs A env bs L ks cs vs es ds) : EvD A env bs L ks cs vs (.Tuple es k pos) (.tuple ds) :=
 fun h tk Q E H k => PyProof.Rows.Tuple_ (xs _ _ _ _ _ H fun v h₁ tk₁ H₁ c₁ r₁ => w_newTuple H₁ (by rw [readsAll_len r₁]; fin_once om fail) fun h₂ H₂ c₂ t₂ => k _ _ _ H₂ (c₁.trans c₂) (rd_tup t₂ (readsAll_ch r₁ c₂)))
theorem EvD.str {x : Str} {k : Nat} {pos : Pos} : EvD A env bs L ks cs vs (.Constant (Const.str x) k pos) (.str x) := fun h tk Q E H k => w_str fun t tk' => k _ _ _ H (Ch.refl _ _) (Reads.str _ _)
theorem EvD.int {x : Int} {k : Nat} {pos : Pos} : EvD A env bs L ks cs vs (.Constant (Const.int x) k pos) (.int x) := fun h tk Q E H k => w_int fun t tk' => k _ _ _ H (Ch.refl _ _) (Reads.int _ _)
theorem EvD.none {k : Nat} {pos : Pos} : EvD A env bs L ks cs vs (.Constant Const.none k pos) .none := fun h tk Q E H k => w_none (k _ _ _ H (Ch.refl _ _) Reads.none)
theorem EvD.tru {k : Nat} {pos : Pos} : EvD A env bs L ks cs vs (.Constant (Const.bool true) k pos) (.bool true) := fun h tk Q E H k => w_true (k _ _ _ H (Ch.refl _ _) (Reads.bool _))
theorem EvD.name {x : Str} {v : Value} {d : PyData} {p : Pos} (F : Nv env L ks gs) (l : Lk ks vs x v) (r : Rd g v d) (mb : g ∈ bs) (hd : (x == ("__debug__" : Str)) = false) : EvD A env bs L ks cs vs (.Name x p) d :=
 fun h tk Q E H k => w_nameV H F l (k _ _ _ H (Ch.refl _ _) (r.ch (H.ch g mb))) hd
theorem EvD.nameS {x y : Str} {t : Tok} {p : Pos} (F : Nv env L ks gs) (l : Lk ks vs x (.str y t)) (hd : (x == ("__debug__" : Str)) = false) : EvD A env bs L ks cs vs (.Name x p) (.str y) :=
 fun h tk Q E H k => w_nameV H F l (k _ _ _ H (Ch.refl _ _) (Reads.str _ _)) hd
theorem EvD.cnameS {x y : Str} {t : Tok} {p : Pos} {c : Addr} (hk : env.scope.kind = .function) (V : Cv env x c) (m : (c, CellO (some (.str y t))) ∈ cs) (hd : (x == ("__debug__" : Str)) = false) : EvD A env bs L ks cs vs (.Name x p) (.str y) :=
 fun h tk Q E H k => w_cname H hk V m (k _ _ _ H (Ch.refl _ _) (Reads.str _ _)) hd
theorem EvD.cname {x : Str} {v : Value} {d : PyData} {p : Pos} {c : Addr} (hk : env.scope.kind = .function) (V : Cv env x c) (m : (c, CellO (some v)) ∈ cs) (r : Rd g v d) (mb : g ∈ bs) (hd : (x == ("__debug__" : Str)) = false) : EvD A env bs L ks cs vs (.Name x p) d :=
 fun h tk Q E H k => w_cname H hk V m (k _ _ _ H (Ch.refl _ _) (r.ch (H.ch g mb))) hd
theorem EvD.glob {x : Str} {v : Value} {d : PyData} {p : Pos} (F : Nv env L ks gs) (T : Tp K g) (mb : g ∈ bs) (hm : x ∈ gs) (e : nsIn K mainGlobals x = some (some v)) (r : Rd g v d) (hd : (x == ("__debug__" : Str)) = false) : EvD A env bs L ks cs vs (.Name x p) d :=
 fun h tk Q E H k => w_globV H F T mb hm e (k _ _ _ H (Ch.refl _ _) (r.ch (H.ch g mb))) hd
theorem EvD.ifs {x a b : Str} {c : Bool} {p p1 p2 p3 : Pos} {k1 k2 : Nat} (F : Nv env L ks gs) (l : Lk ks vs x (.bool c)) (hd : (x == ("__debug__" : Str)) = false) (hp : isTrue (.Name x p) env (eval (.Name x p) env) = (do let v ← eval (.Name x p) env; standAt (PySem.Expr.Name x p).pos; holding [v] (truthy v))) : EvD A env bs L ks cs vs (.IfExp (.Name x p) (.Constant (Const.str a) k1 p1) (.Constant (Const.str b) k2 p2) p3) (.str (if c then a else b)) :=
 fun h tk Q E H k => wpAny_IfExp (PyProof.Rows.isTrue_plain (w_nameV H F l (wpAny_truthy_bool (by
  cases c
  ·exact w_ite_f (EvD.str _ _ _ _ H k)
  ·exact w_ite_t (EvD.str _ _ _ _ H k))) hd) hp)
end
abbrev Lnk := Str × Str × List Str
noncomputable def lnkD (l : Lnk) : PyData := .tuple [.str l.1, .str l.2.1, strsD l.2.2]
noncomputable def innerL : List (Str × Str) := [(Str.ofString "", Str.ofString "a"), (Str.ofString "a", Str.ofString "b")]
noncomputable def itBase (unit : Bool) : List Itm := [.fn (Str.ofString "f"), .struct (Str.ofString "S") unit, .enum (Str.ofString "E") [Str.ofString "V", Str.ofString "W"], .trait (Str.ofString "T")]
noncomputable def usesF (mo : Str) (links : List Lnk) : List Itm := (links.filter (·.1 == mo)).map fun l => .use l.2.2 (some l.2.1)
noncomputable def itemsF (unit : Bool) (links : List Lnk) : Nat → Str → List Itm
 | 0, _ => []
 | n + 1, mo => itBase unit ++ (match at? innerL mo with | none => [] | some i => [.mod i (itemsF unit links n (J mo i))]) ++ usesF mo links
omit rt0 in
theorem itemsF_0 {unit : Bool} {links : List Lnk} {mo : Str} : itemsF unit links 0 mo = [] := rfl
omit rt0 in
theorem itemsF_s {unit : Bool} {links : List Lnk} {n : Nat} {mo : Str} : itemsF unit links (n + 1) mo = itBase unit ++ (match at? innerL mo with | none => [] | some i => [.mod i (itemsF unit links n (J mo i))]) ++ usesF mo links := rfl
omit rt0 in
theorem ds_app : ∀ a b : List Itm, Itm.ds (a ++ b) = Itm.ds a ++ Itm.ds b
 | [], b => by simp [Itm.ds]
 | x :: a, b => by simp [Itm.ds, ds_app a b]
omit rt0 in
theorem usesF_take {mo : Str} {links : List Lnk} {i : Nat} {l : Lnk} (e : links[i]? = some l) : usesF mo (links.take (i + 1)) = usesF mo (links.take i) ++ if l.1 == mo then [.use l.2.2 (some l.2.1)] else [] := by
 unfold usesF
 rw [List.take_add_one, e]
 simp only [Option.toList, List.filter_append, List.map_append]
 congr 1
 by_cases q : l.1 == mo <;> simp [q]
theorem readsAll_snoc {h : Heap} : ∀ {vs : List Value} {ds : List PyData} {v : Value} {d : PyData}, ReadsAll h vs ds [] → Rd h v d → ReadsAll h (vs ++ [v]) (ds ++ [d]) []
 | vs, [], v, d, r, x => by cases readsAll_nil r; exact .cons (as := []) (bs := []) x .nil
 | vs, d0 :: ds, v, d, r, x => by
  obtain ⟨v0, vs', rfl, r0, r1⟩ := readsAll_cons r
  exact .cons (as := []) (bs := []) r0 (readsAll_snoc r1 x)
theorem g_none {h : Heap} (X : (Mine.hd.heap_1 w.params).In h) : Rd h (.ref 286) genD := by
 refine Reads.tuple (X 286 _ (by k_is)) rfl rfl ?_
 refine ReadsAll.cons (as := []) (bs := []) ?_ (ReadsAll.cons (as := []) (bs := []) ?_ .nil)
 ·exact Reads.tuple (X _ _ (by k_is)) rfl rfl .nil
 ·exact Reads.tuple (X _ _ (by k_is)) rfl rfl .nil
section
variable {A : Around} {E : Value → Shared → Prop} {h : Heap} {tk : Nat} {bs : List Heap} {env : Env} {L : Addr} {ks gs : List Str} {cs cs' : List Cell} {vs : List (Option Value)}
theorem w_dmethC {d : Addr} {l : List (Str × Str)} {pl : Sem Bool} {Q : Value × List Value → Shared → Prop} (H : At A bs L ks cs vs h) (m : (d, DctS l) ∈ cs) (k : Q (.builtin "dict.get", [.ref d]) (St s h tk)) : wpAny (model prog w) A (getMethod (.ref d) (Str.ofString "get") pl) Q E (St s h tk) := by
 refine H.cells.getK m fun o e pk2 _ => ?_
 obtain ⟨kvs, D, _⟩ := pk2
 exact w_dmeth e D k
theorem w_dgetC {d : Addr} {l : List (Str × Str)} {x : Str} {t : Tok} {Q : Value → Shared → Prop} (H : At A bs L ks cs vs h) (m : (d, DctS l) ∈ cs) (lo : (d == sysModules) = false) (k1 : ∀ y t tk', at? l x = some y → Q (.str y t) (St s h tk')) (k2 : ∀ tk', at? l x = none → Q .none (St s h tk')) :
  wpAny (model prog w) A (call (.builtin "dict.get") [.ref d, .str x t]) Q E (St s h tk) := by
 refine H.cells.getK m fun o e pk2 _ => ?_
 obtain ⟨kvs, D, Tb⟩ := pk2
 refine w_dget1 e D lo ?_
 cases q : at? l x with
 | none => rw [Tb.none q]; exact k2 _ q
 | some y =>
  obtain ⟨v, e1, t', rfl⟩ := Tb.some q
  rw [e1]
  exact k1 y t' _ q
end
theorem w_litB {A : Around} {E : Value → Shared → Prop} {h : Heap} {tk : Nat} {bs : List Heap} {env : Env} {L : Addr} {ks : List Str} {cs : List Cell} {vs : List (Option Value)} {e : PySem.Expr} {Q : Value → Shared → Prop} (d : PyData) (H : At A bs L ks cs vs h) (x : EvD A env bs L ks cs vs e d)
  (k : ∀ v g h' tk', (∀ b ∈ bs, Ch [] b g) → At A (g :: bs) L ks cs vs h' → Rd g v d → Q v (St s h' tk')) : wpAny (model prog w) A (eval e env) Q E (St s h tk) :=
 evd d H x fun v h' tk' H' c r => by
  refine H'.base'K fun g x Hg _ kt => ?_
  exact k v g h' tk' x Hg (r.mv kt)
inductive LnkV (g : Heap) (l : Lnk) : Value → Prop
 | mk {tl : Addr} {t1 t2 : Tok} {w3 : Value} (ht : IsTup g tl #[.str l.1 t1, .str l.2.1 t2, w3]) (r3 : Rd g w3 (strsD l.2.2)) : LnkV g l (.ref tl)
theorem lnk_get {g : Heap} {links : List Lnk} {lits : Array Value} {i : Nat} {v : Value} {l : Lnk} (rl : ReadsAll g lits.toList (links.map lnkD) []) (hv : lits[i]? = some v) (hlk : links[i]? = some l) : LnkV g l v := by
 obtain ⟨v3, e3, rl3⟩ := readsAll_get rl i (lnkD l) (by rw [List.getElem?_map, hlk]; rfl)
 rw [Array.getElem?_toList, hv] at e3
 cases e3
 obtain ⟨tl, its, rfl, htl, rits⟩ := rl3.tuple
 fin_once o1 fail
 obtain ⟨w1, r1, e1, ra1, rb1⟩ := readsAll_cons rits
 fin_once o2 fail
 obtain ⟨w2, r2, rfl, ra2, rb2⟩ := readsAll_cons rb1
 obtain ⟨w3, r3, rfl, ra3, rb3⟩ := readsAll_cons rb2
 cases readsAll_nil rb3
 obtain ⟨t1, rfl⟩ := ra1.str
 obtain ⟨t2, rfl⟩ := ra2.str
 exact .mk (by rw [← Array.toArray_toList (xs := its), e1] at htl; exact htl) ra3
theorem At.two {A : Around} {g g1 h h0 : Heap} {L : Addr} {ks : List Str} {cs : List Cell} {vs : List (Option Value)} (H : At A [g, g1, h0] L ks cs vs h) (hd : HdOk A h0) : At A [g, h0] L ks cs vs h := H.drop (by fin_once sb fail) ⟨h0, by fin_once sm fail, hd⟩
theorem itemsF_len (unit : Bool) (links : List Lnk) : ∀ (n : Nat) (mo : Str), (itemsF unit links n mo).length ≤ 5 + links.length
 | 0, _ => by simp [itemsF_0]
 | n + 1, mo => by
  have h1 : (usesF mo links).length ≤ links.length := by
   unfold usesF
   rw [List.length_map]; exact List.length_filter_le _ _
  rw [itemsF_s]
  rw [List.length_append, List.length_append]
  have h2 : (itBase unit).length = 4 := rfl
  have h3 : ∀ o : Option Str, (match o with | none => [] | some i => [Itm.mod i (itemsF unit links n (J mo i))]).length ≤ 1 := by intro o; cases o <;> simp
  have := h3 (at? innerL mo)
  fin_once om fail
noncomputable def GotV (v : Value) (o : Option Str) : Prop := (v = .none ∧ o = none) ∨ ∃ y t, v = .str y t ∧ o = some y
theorem w_dgetV {A : Around} {E : Value → Shared → Prop} {h : Heap} {tk : Nat} {bs : List Heap} {L : Addr} {ks : List Str} {cs : List Cell} {vs : List (Option Value)} {d : Addr} {l : List (Str × Str)} {x : Str} {t : Tok} {Q : Value → Shared → Prop} (H : At A bs L ks cs vs h) (m : (d, DctS l) ∈ cs) (lo : (d == sysModules) = false) (k : ∀ v tk', GotV v (at? l x) → Q v (St s h tk')) :
  wpAny (model prog w) A (call (.builtin "dict.get") [.ref d, .str x t]) Q E (St s h tk) :=
 w_dgetC H m lo (fun y t tk' e => k _ tk' (.inr ⟨y, t, rfl, e⟩)) fun tk' e => k _ tk' (.inl ⟨rfl, e⟩)
noncomputable def ItemsC (unit : Bool) (links : List Lnk) (n : Nat) (mo : Str) (res : List Itm) : Prop := ∀ {A : Around} {E : Value → Shared → Prop} {h : Heap} {tk : Nat} {Q : Value → Shared → Prop} {ls : Addr} {lits : Array Value} {t : Tok},
 Cx (Mine.hd.heap_1 w.params) A h n → A.handled = none → h.IsList ls lits → ReadsAll h lits.toList (links.map lnkD) [] →
 (∀ l h' tk' its, Ch [] h h' → h'.IsList l its → ReadsAll h' its.toList (Itm.ds res) [] → Q (.ref l) (St s h' tk')) → wpAny (model prog w) A (call (.ref 322) [.str mo t, .bool unit, .ref ls]) Q E (St s h tk)
inductive PIt0 (A' : Around) (L : Addr) (unit : Bool) (its : List Itm) (mo : Str) (t : Tok) (ls lf : Addr) (v : Value) (h : Heap) : Flow → Shared → Prop
 | mk {g h' : Heap} {tk' : Nat} {ys : List Value} (H : At A' [g, h] L ["module", "unit", "links", "found", "inner", "where", "name", "names"] [(lf, PLO ys)] [some (.str mo t), some (.bool unit), some (.ref ls), some (.ref lf), some v, none, none, none] h') (rb : ReadsAll g ys (Itm.ds its) []) (yz : ys.length ≤ 5) : PIt0 A' L unit its mo t ls lf v h .next (St s h' tk')
inductive RIt (unit : Bool) (links : List Lnk) (pre : List Itm) (mo : Str) (t : Tok) (ls lf : Addr) (v : Value) (h : Heap) : Nat → List Heap → List Cell → List (Option Value) → Prop
 | mk {i : Nat} {g : Heap} {ys : List Value} {o1 o2 o3 : Option Value} (rb : ReadsAll g ys (Itm.ds (pre ++ usesF mo (links.take i))) []) (yz : ys.length ≤ 5 + i) : RIt unit links pre mo t ls lf v h i [g, h] [(lf, PLO ys)] [some (.str mo t), some (.bool unit), some (.ref ls), some (.ref lf), some v, o1, o2, o3]
inductive PIt (A' : Around) (L : Addr) (unit : Bool) (links : List Lnk) (pre : List Itm) (mo x y : Str) (t t1 t2 : Tok) (ls lf it1 : Addr) (v w3 : Value) (h : Heap) (i : Nat) : Flow → Shared → Prop
 | mk {g h' : Heap} {tk' : Nat} {ys : List Value} (H : At A' [g, h] L ["module", "unit", "links", "found", "inner", "where", "name", "names"] [(it1, LI ls (i + 1)), (lf, PLO ys)] [some (.str mo t), some (.bool unit), some (.ref ls), some (.ref lf), some v, some (.str x t1), some (.str y t2), some w3] h')
   (rb : ReadsAll g ys (Itm.ds (pre ++ usesF mo (links.take (i + 1)))) []) (yz : ys.length ≤ 5 + (i + 1)) : PIt A' L unit links pre mo x y t t1 t2 ls lf it1 v w3 h i .next (St s h' tk')
theorem c_items {unit : Bool} {links : List Lnk} {mo : Str} {n k : Nat} (lz : links.length ≤ 10) (hmz : mo.length ≤ 100) (ex : ∀ i, at? innerL mo = some i → ItemsC unit links n (J mo i) (itemsF unit links k (J mo i))) : ItemsC unit links (n + 2) mo (itemsF unit links (k + 1) mo) := by
 intro A E h tk Q ls lits t C hh hl rl kk
 refine fn0c (vals := [.str mo t, .bool unit, .ref ls]) ["module", "unit", "links"] ["found", "inner", "where", "name", "names"] ["_law_none", "tuple", "_law_items", "_law_joined"] C (by k_is) (by k_is) (BindsTo.of_eq rfl) rfl (by decide +kernel) (by decide +kernel) rfl rfl rfl rfl (by decide) ?_
 intro env L h₁ tk₁ F H hc T R
 dsimp only [List.cons_append, List.nil_append, List.map] at F H
 have hh' : (A.deeper env).handled = none := hh
 have V := F.nv
 have gn := g_none T.k
 fin_once gg fail
 refine w_litB (Itm.d (.fn (Str.ofString "f"))) H (by dsimp only [Itm.d]; repeat' fin_once ev fail) fun v1 g1 h₂ tk₂ x1 H₂ r1 => ?_
 fin_once gg fail
 refine w_newListP H₂ (by fin_once sm fail) fun lf h₃ H₃ c₃ => ?_
 fin_once gg fail
 rename At _ _ _ _ _ _ _ => H₄
 refine w_lmeth H₄ (.head _) slot_list_append type_list_append ?_
 fin_once gg fail
 refine w_litB (Itm.d (.struct (Str.ofString "S") unit)) H₄ (by dsimp only [Itm.d]; repeat' fin_once ev fail) fun v2 g2 h₅ tk₅ x2 H₅ r2 => ?_
 have r1 := r1.ch (x2 g1 (by fin_once sm fail))
 have H₅ := H₅.two C.hd
 fin_once gg fail
 refine w_append H₅ (.head _) .head (by fin_once sm fail) fun h₆ H₆ => ?_
 fin_once gg fail
 refine w_lmeth H₆ (.head _) slot_list_append type_list_append ?_
 fin_once gg fail
 refine w_litB (Itm.d (.enum (Str.ofString "E") [Str.ofString "V", Str.ofString "W"])) H₆ (by simp only [Itm.d, List.map_cons, List.map_nil]; repeat' fin_once ev fail) fun v3 g3 h₇ tk₇ x3 H₇ r3 => ?_
 have r1 := r1.ch (x3 g2 (by fin_once sm fail))
 have r2 := r2.ch (x3 g2 (by fin_once sm fail))
 have H₇ := H₇.two C.hd
 fin_once gg fail
 refine w_append H₇ (.head _) .head (by fin_once sm fail) fun h₈ H₈ => ?_
 fin_once gg fail
 refine w_lmeth H₈ (.head _) slot_list_append type_list_append ?_
 fin_once gg fail
 refine w_litB (Itm.d (.trait (Str.ofString "T"))) H₈ (by dsimp only [Itm.d]; repeat' fin_once ev fail) fun v4 g4 h₉ tk₉ x4 H₉ r4 => ?_
 have r1 := r1.ch (x4 g3 (by fin_once sm fail))
 have r2 := r2.ch (x4 g3 (by fin_once sm fail))
 have r3 := r3.ch (x4 g3 (by fin_once sm fail))
 have H₉ := H₉.two C.hd
 fin_once gg fail
 refine w_append H₉ (.head _) .head (by fin_once sm fail) fun ha Ha => ?_
 simp only [List.cons_append, List.nil_append] at Ha
 have rb : ReadsAll g4 [v1, v2, v3, v4] (Itm.ds (itBase unit)) [] := by
  dsimp only [itBase, Itm.ds]
  exact .cons (as := []) (bs := []) r1 (.cons (as := []) (bs := []) r2 (.cons (as := []) (bs := []) r3 (.cons (as := []) (bs := []) r4 .nil)))
 clear r1 r2 r3 r4
 fin_once gg fail
 refine w_dict2 Ha T (by fin_once sm fail) top_lo fun d hb nd lo Hb cb => ?_
 fin_once gg fail
 refine ⟨[(Str.ofString "", _), (Str.ofString "a", _)], _, _, _, _, _, rfl, ⟨strIs, rfl, strIs, rfl, trivial⟩, Hb, fun hc tkc Hc _ => ?_⟩
 have nd2 : [Str.ofString "", Str.ofString "a"].Nodup := by decide +kernel
 have mg : ∀ a b : Value, merged [] [(Str.ofString "", a), (Str.ofString "a", b)] = [(Str.ofString "", a), (Str.ofString "a", b)] := fun a b => merged_append_of_fresh [] _ nd2
 rw [mg] at Hc
 have Hc := Hc.cast (ψ := DctS innerL) fun o D => ⟨_, D, .cons ⟨_, rfl⟩ (.cons ⟨_, rfl⟩ .nil)⟩
 refine w_dmethC Hc (.head _) ?_
 fin_once gg fail
 refine w_dgetV Hc (.head _) lo fun v tkc' hv => ?_
 refine w_store (Hc.sub (List.sublist_cons_self _ _)) F (by fin_once lk fail) fun hd tkd Hd => ?_
 clear Hb Ha H₉ H₈ H₇ H₆ H₅ H₄ H₃ H₂ H
 fin_once nx fail
 refine w_opQ (PIt0 (A.deeper env) L unit (itBase unit ++ match at? innerL mo with | none => [] | some i => [.mod i (itemsF unit links k (J mo i))]) mo t ls lf v h) (fun X hX => ?_) (fun f s' q => ?_)
 ·rcases hv with ⟨rfl, e⟩ | ⟨y, ty, rfl, e⟩
  ·fin_once gg fail
   exact .mk Hd (by rw [e]; simpa using rb) (by fin_once sm fail)
  ·fin_once gg fail
   refine w_lmeth Hd (.head _) slot_list_append type_list_append ?_
   fin_once gg fail
   refine PyProof.Rows.Tuple_ ?_
   fin_once gg fail
   have yz : y.length ≤ 100 := by
    have : ∀ p ∈ innerL, p.2.length ≤ 100 := by decide +kernel
    exact this _ (at?_in e)
   refine c_ljoined (Hd.cx T (by fin_once sm fail) R (by fin_once om fail)) (by fin_once om fail) (by fin_once om fail) fun t₁ he tke ce => ?_
   have He := Hd.keep ce
   fin_once gg fail
   refine ex y e (He.cx T (by fin_once sm fail) R (by fin_once om fail)) hh' (isList_ch hl (He.ch h (by fin_once sm fail))) (readsAll_ch rl (He.ch h (by fin_once sm fail))) fun l2 hf tkf its cf il ra => ?_
   have Hf := He.keep cf
   have iz : its.size ≤ 100 := by
    have := readsAll_len ra
    rw [ds_len, Array.length_toList] at this
    have := itemsF_len unit links k (J mo y)
    fin_once om fail
   fin_once gg fail
   refine w_tupleOf Hf il (by fin_once om fail) fun t2 hg Hg cg tt2 => ?_
   fin_once gg fail
   refine w_newTupleN Hg (by fin_once sm fail) fun t3 hi Hi ci tt3 => ?_
   refine Hi.base'K fun g5 x5 Hj _ kt => ?_
   have r5 : Rd g5 (.ref t3) (Itm.d (.mod y (itemsF unit links k (J mo y)))) := by
    dsimp only [Itm.d]
    exact (rd_tup tt3 (.cons (as := []) (bs := []) (.str _ _) (.cons (as := []) (bs := []) (.int _ _) (.cons (as := []) (bs := []) (.str _ _) (.cons (as := []) (bs := []) ((rd_tup tt2 (readsAll_ch ra cg)).ch ci) (.cons (as := []) (bs := []) (.bool _) .nil)))))).mv kt
   have rb5 := readsAll_snoc (readsAll_ch rb (x5 g4 (by fin_once sm fail))) r5
   have Hj := Hj.two C.hd
   fin_once gg fail
   refine w_append Hj (.head _) .head (by fin_once sm fail) fun hk Hk => ?_
   fin_once gg fail
   refine .mk Hk ?_ (by fin_once sm fail)
   rw [e]
   simp only [ds_app, Itm.ds] at rb5 ⊢
   exact rb5
 clear rb
 induction q
 rename_i g5 he tke ys He rb yz
 have Ln := readsAll_len rl
 rw [List.length_map, Array.length_toList] at Ln
 obtain ⟨pre, hpre⟩ : ∃ pre, pre = itBase unit ++ match at? innerL mo with | none => [] | some i => [.mod i (itemsF unit links k (J mo i))] := ⟨_, rfl⟩
 have eF : itemsF unit links (k + 1) mo = pre ++ usesF mo links := by rw [hpre]; rfl
 rw [← hpre] at rb
 rw [eF] at kk
 clear hpre eF ex hv Hd
 fin_once gg fail
 refine w_ForM (E' := No) (L := L) ["module", "unit", "links", "found", "inner", "where", "name", "names"] hh' thr_no (fun _ => rfl) (.inr ⟨_, _, _, rfl⟩) ?_
 fin_once gg fail
 refine .mk (RIt unit links pre mo t ls lf v h) hl He (.mk (by simpa [usesF] using rb) (by fin_once om fail)) (fun i bs cs vs hR => ?_) (fun it1 i v2 bs cs vs hf tkf hv hR Hf Tz hTz => ?_) fun bs cs vs hf tkf hR Hf => ?_
 ·induction hR
  simp
 ·induction hR
  rename_i g ys o1 o2 o3 rb yz
  have hi : i < lits.size := (Array.getElem?_eq_some_iff.mp hv).1
  obtain ⟨l, hlk⟩ : ∃ l, links[i]? = some l := ⟨_, List.getElem?_eq_getElem (by fin_once om fail)⟩
  have lv := lnk_get rl hv hlk
  induction lv
  rename_i tl t1 t2 w3 htl ra3
  refine w_assignT3 Hf F (isTup_ch htl (Hf.ch h (by fin_once sm fail))) (by fin_once lk fail) (by fin_once lk fail) (by fin_once lk fail) fun hg tkg Hg => ?_
  refine w_seq ?_
  refine w_opQ (PIt (A.deeper env) L unit links pre mo l.1 l.2.1 t t1 t2 ls lf it1 v w3 h i) (fun X hX => ?_) (fun f s' q => ?_)
  ·fin_once gg fail
   refine w_ite (fun e => ?_) fun e => ?_
   ·fin_once gg fail
    refine w_lmeth Hg (by fin_once mem fail) slot_list_append type_list_append ?_
    fin_once gg fail
    refine w_litB (Itm.d (.use l.2.2 (some l.2.1))) Hg (by dsimp only [Itm.d, optD]; repeat' fin_once ev fail) fun v5 g7 hh tkh x7 Hh r7 => ?_
    have rb := readsAll_snoc (readsAll_ch rb (x7 g (by fin_once sm fail))) r7
    have Hh := Hh.two C.hd
    fin_once gg fail
    refine w_append Hh (by fin_once mem fail) (by fin_once turn fail) (by fin_once om fail) fun hi Hi => ?_
    fin_once gg fail
    refine .mk Hi ?_ (by simp; fin_once om fail)
    rw [usesF_take hlk, e, if_pos rfl, ← List.append_assoc, ds_app]
    simpa [Itm.ds] using rb
   ·fin_once gg fail
    refine .mk Hg ?_ (by fin_once om fail)
    rw [usesF_take hlk, e]
    simpa using rb
  ·induction q
   rename_i g hh tkh ys Hh rb yz
   fin_once gg fail
   exact tf_next (.mk (.mk rb yz) Hh)
 ·induction hR
  rename_i g ys o1 o2 o3 rb yz
  rw [List.take_of_length_le (by fin_once om fail)] at rb
  fin_once gg fail
  refine Hf.cells.getK (.head _) fun o e p _ => ?_
  obtain ⟨n, rfl⟩ := p
  refine kk _ _ _ ys.toArray (Hf.ch h (by fin_once sm fail)) ⟨_, e, rfl, _, rfl⟩ ?_
  exact readsAll_ch rb (Hf.ch g (by fin_once sm fail))
theorem c_lawItems {unit : Bool} {links : List Lnk} (lz : links.length ≤ 10) : ItemsC unit links 6 (Str.ofString "") (itemsF unit links 3 (Str.ofString "")) := by
 have e1 : ∀ i, at? innerL (Str.ofString "") = some i → i = Str.ofString "a" := fun i e => by
  have : at? innerL (Str.ofString "") = some (Str.ofString "a") := by decide +kernel
  rw [this] at e; cases e; rfl
 have e2 : ∀ i, at? innerL (Str.ofString "a") = some i → i = Str.ofString "b" := fun i e => by
  have : at? innerL (Str.ofString "a") = some (Str.ofString "b") := by decide +kernel
  rw [this] at e; cases e; rfl
 have e3 : at? innerL (Str.ofString "a::b") = none := by decide +kernel
 have j1 : J (Str.ofString "") (Str.ofString "a") = Str.ofString "a" := by decide +kernel
 have j2 : J (Str.ofString "a") (Str.ofString "b") = Str.ofString "a::b" := by decide +kernel
 refine @c_items _ unit links (Str.ofString "") 4 2 lz (by decide +kernel) fun i hi => ?_
 cases e1 i hi
 rw [j1]
 refine @c_items _ unit links (Str.ofString "a") 2 1 lz (by decide +kernel) fun i hi => ?_
 cases e2 i hi
 rw [j2]
 exact @c_items _ unit links (Str.ofString "a::b") 0 0 lz (by decide +kernel) fun i hi => by rw [e3] at hi; cases hi
section
variable {A : Around} {E E' : Value → Shared → Prop} {h : Heap} {tk : Nat} {bs : List Heap} {env : Env} {L : Addr} {ks : List Str} {cs : List Cell} {vs : List (Option Value)}
theorem w_addT {a b : Value} {xs ys : List PyData} {Q : Value → Shared → Prop} (H : At A bs L ks cs vs h) (ra : Rd h a (.tuple xs)) (rb : Rd h b (.tuple ys)) (hz : xs.length + ys.length ≤ 1000)
  (k : ∀ t h', At A bs L ks cs vs h' → Ch [] h h' → Rd h' (.ref t) (.tuple (xs ++ ys)) → Q (.ref t) (St s h' tk)) : wpAny (model prog w) A (binaryOp .Add a b) Q E (St s h tk) := by
 obtain ⟨t, its, rfl, ht, r1⟩ := ra.tuple
 obtain ⟨b, its2, rfl, hb, r2⟩ := rb.tuple
 have e1 := readsAll_len r1
 have e2 := readsAll_len r2
 have ra := ra
 fin_once o1 fail
 obtain ⟨⟨cls, dd, data, sl⟩, ho, hc, n, hd⟩ := id ht
 obtain ⟨⟨cls2, dd2, data2, sl2⟩, ho2, hc2, n2, hd2⟩ := id hb
 fin_once o2 fail
 simp only at hc hd hc2 hd2
 subst hc hd hc2 hd2
 by_cases hv : its.toList = []
 ·refine concat_meets ⟨_, ho, rfl⟩ ⟨_, ho2, rfl⟩ noFill_tuple_add seq_tuple_add PySem.F.slot_tuple_add PySem.F.entry_tuple_add (PySem.F.args_tuple_add_2 _ _)
   (tuple_addW0 t b its its2 n n2 dd dd2 sl sl2 (by simp [show its = #[] from Array.toList_inj.mp hv])) ⟨ho, ho2, k _ _ H (Ch.refl _ _) ?_⟩
  have : xs = [] := List.length_eq_zero_iff.mp (by rw [← e1, hv]; rfl)
  rw [this]
  exact rb
 ·by_cases hw : its2.toList = []
  ·refine concat_meets ⟨_, ho, rfl⟩ ⟨_, ho2, rfl⟩ noFill_tuple_add seq_tuple_add PySem.F.slot_tuple_add PySem.F.entry_tuple_add (PySem.F.args_tuple_add_2 _ _)
    (tuple_addW1 t b its its2 n n2 dd dd2 sl sl2 (by simpa using hv) (by simp [show its2 = #[] from Array.toList_inj.mp hw])) ⟨ho, ho2, k _ _ H (Ch.refl _ _) ?_⟩
   have : ys = [] := List.length_eq_zero_iff.mp (by rw [← e2, hw]; rfl)
   rw [this, List.append_nil]
   exact ra
  ·refine concat_meets ⟨_, ho, rfl⟩ ⟨_, ho2, rfl⟩ noFill_tuple_add seq_tuple_add PySem.F.slot_tuple_add PySem.F.entry_tuple_add (PySem.F.args_tuple_add_2 _ _)
    (tuple_addW2 t b its its2 n n2 dd dd2 sl sl2 (by simpa using hv) (by simpa using hw) (by
     rw [Array.length_toList] at e1 e2
     exact Nat.le_trans (by fin_once om fail : _ ≤ 1000) (by decide))) ⟨ho, ho2, ?_⟩
   refine k _ _ (H.keep (Ch.push ..)) (Ch.push ..) ?_
   have ht : IsTup (h.push { cls := .type "tuple", data := .seq (its ++ its2) }) h.objs.size (its.toList ++ its2.toList).toArray := ⟨_, Heap.get?_push_size _ rfl, rfl, _, by simp; rfl⟩
   refine rd_tup ht ?_
   have app : ∀ {vs : List Value} {ws : List Value} {xs ys : List PyData}, ReadsAll h vs xs [] → ReadsAll h ws ys [] → ReadsAll h (vs ++ ws) (xs ++ ys) [] := by
    intro vs ws xs
    induction xs generalizing vs with
    | nil => intro ys r r'; cases readsAll_nil r; exact r'
    | cons d xs ih =>
     intro ys r r'
     obtain ⟨v, vs', rfl, r0, r1⟩ := readsAll_cons r
     exact .cons (as := []) (bs := []) r0 (ih r1 r')
   exact readsAll_ch (app r1 r2) (Ch.push ..)
theorem w_str_int {n : Nat} {t : Tok} {Q : Value → Shared → Prop} (hn : n ≤ 10000) (k : ∀ t' tk', Q (.str (Str.ofString (toString (n : Int))) t') (St s h tk')) : wpAny (model prog w) A (call (.type "str") [.int n t]) Q E (St s h tk) :=
 PySem.P.str_of_int (by
  have : (n : Int).natAbs = n := by simp
  rw [this]
  have : n.log2 ≤ n := Nat.log2_le_self n
  by_cases q : n = 0
  ·subst q; decide
  ·have := (Nat.log2_lt q (k := 1920)).mpr (Nat.lt_of_le_of_lt hn (Nat.lt_of_lt_of_le (by decide : 10000 < 2 ^ 14) (Nat.pow_le_pow_right (by decide) (by decide))))
   exact this) (k _ _)
theorem w_range1 {n : Int} {t : Tok} {Q : Value → Shared → Prop} (H : At A bs L ks cs vs h) (k : ∀ r h' tk' u v, At A bs L ks cs vs h' → Ch [] h h' → IsRange h' r 0 n 1 u t v → Q (.ref r) (St s h' tk')) : wpAny (model prog w) A (call (.type "range") [.int n t]) Q E (St s h tk) :=
 call_range_1 (k _ _ _ _ _ (H.keep (Ch.push ..)) (Ch.push ..) (IsRange.new ..))
theorem w_iterR {r : Addr} {n : Nat} {t u v : Tok} {Q : Value → Shared → Prop} (H : At A bs L ks cs vs h) (hr : IsRange h r 0 n 1 t u v) (hn : n ≤ 10000) (k : ∀ it h', At A bs L ks ((it, RI n 0) :: cs) vs h' → Q (.ref it) (St s h' tk)) : wpAny (model prog w) A (pyIter (.ref r)) Q E (St s h tk) := by
 refine wpAny_pyIter_range (s := St s h tk) hr (small_one (by decide) (by decide) (by fin_once om fail) (by fin_once om fail)) (k _ _ (H.push ?_ rfl rfl))
 unfold RI
 rw [rangeSize_one]
 have : (if (0 : Int) < n then (n : Int) - 0 else 0) = n := by split <;> fin_once om fail
 rw [this]
 simp
inductive LpR (A : Around) (E' : Value → Shared → Prop) (L : Addr) (ks : List Str) (env : Env) (target : PySem.Expr) (body orelse : List Stmt) (Q : Flow → Shared → Prop) (R : Nat → List Heap → List Cell → List (Option Value) → Prop) : Value → Shared → Prop
 | mk {g : Heap} {r : Addr} {n : Nat} {t u v' : Tok} {bs : List Heap} {cs : List Cell} {vs : List (Option Value)} {h : Heap} {tk : Nat} (hr : IsRange h r 0 n 1 t u v') (hn : n ≤ 10000) (H : At A bs L ks cs vs h) (r0 : R 0 bs cs vs) (rg : ∀ i bs cs vs, R i bs cs vs → g ∈ bs)
  (turn : ∀ it (i : Nat) t bs cs vs h tk, i < n → R i bs cs vs → At A bs L ks ((it, RI n (i + 1)) :: cs) vs h → ∀ T' : Flow → Shared → Prop, (∀ f s', Tf (ForI A L ks it (RI n) R (i + 1)) Q f s' → T' f s') → wpAny (model prog w) A (assign target env (.int i t)) (fun _ s₃ => wpAny (model prog w) A (execs body env) T' E' s₃) E' (St s h tk))
  (done : ∀ bs cs vs h tk, R n bs cs vs → At A bs L ks cs vs h → wpAny (model prog w) A (execs orelse env) Q E' (St s h tk)) : LpR A E' L ks env target body orelse Q R (.ref r) (St s h tk)
theorem w_ForR {iter : PySem.Expr} {x : Str} {px p : Pos} {body orelse : List Stmt} {Q : Flow → Shared → Prop} (ks : List Str) (hh : A.handled = none) (R : Nat → List Heap → List Cell → List (Option Value) → Prop)
  (thr : ∀ e s', E' e s' → notedBy (model prog w) A env (fun e s' => cameBackBy (model prog w) A env E e s') e s')
  (hs : ∀ x, foldedSetIterable iter env x = pure x)
  (hx : wpAny (model prog w) A (eval iter env) (LpR A E' L ks env (.Name x px) body orelse Q R) E (St s h tk)) :
  wpAny (model prog w) A (exec (.For (.Name x px) iter body orelse p) env) Q E (St s h tk) := by
 refine w_ForI (E' := E') (L := L) (ks := ks) thr hs (wpAny_mono hx (fun v s₁ h₁ => ?_) fun _ _ q => q)
 induction h₁
 rename_i g r n t u v' bs cs vs h tk hr hn H r0 rg turn done
 refine w_iterR H hr hn fun it h₂ H₂ => ?_
 refine .mk (Itr.range hh) rg r0 H₂ (fun i v bs cs vs h tk hi hv hR H => ?_) done
 obtain ⟨t, rfl⟩ := hv
 exact turn _ i t bs cs vs h tk hi hR H
end
noncomputable def uS (n : Nat) : Str := Str.ofString "u" ++ Str.ofString (toString (n : Int))
noncomputable def segL : List Str := [Str.ofString "a", Str.ofString "b", Str.ofString "f", Str.ofString "S", Str.ofString "E", Str.ofString "T", Str.ofString "V", Str.ofString "W", uS 0, uS 1, uS 2, uS 3, uS 4, uS 5, uS 6]
structure LnkOk (i : Nat) (l : Lnk) : Prop where
 place : l.1 ∈ placesL
 name : l.2.1 = uS i
 names : ∃ rest, l.2.2 = Str.ofString "crate" :: rest ∧ rest ≠ [] ∧ rest.length ≤ 4 ∧ ∀ x ∈ rest, x ∈ segL
noncomputable def LnksOk (l : List Lnk) : Prop := ∀ i x, l[i]? = some x → LnkOk i x
noncomputable def endsL (a b c : Nat) : List Str := [Str.ofString "f", Str.ofString "S", Str.ofString "E", Str.ofString "T", Str.ofString "E::V", Str.ofString "E::W", Str.ofString "", uS a, uS b ++ Str.ofString "::f", uS c ++ Str.ofString "::V"]
noncomputable def endOk (x : Str) : Bool := decide (x.length ≤ 1000) && decide ((Txt.split x (Str.ofString "::")).length ≤ 100) && decide ((partsF x).length ≤ 2) && (partsF x).all fun y => decide (y ∈ segL)
omit rt0 in
theorem endOk_place : ∀ x ∈ placesL, endOk x = true := by decide +kernel
omit rt0 in
theorem endOk_fix : ∀ x ∈ [Str.ofString "f", Str.ofString "S", Str.ofString "E", Str.ofString "T", Str.ofString "E::V", Str.ofString "E::W", Str.ofString ""], endOk x = true := by decide +kernel
omit rt0 in
theorem endOk_u : ∀ k < 7, endOk (uS k) = true ∧ endOk (uS k ++ Str.ofString "::f") = true ∧ endOk (uS k ++ Str.ofString "::V") = true := by decide +kernel
theorem endOk_ends {a b c : Nat} (ha : a < 7) (hb : b < 7) (hc : c < 7) : ∀ x ∈ endsL a b c, endOk x = true := by
 intro x hx
 have e : endsL a b c = [Str.ofString "f", Str.ofString "S", Str.ofString "E", Str.ofString "T", Str.ofString "E::V", Str.ofString "E::W", Str.ofString ""] ++ [uS a, uS b ++ Str.ofString "::f", uS c ++ Str.ofString "::V"] := rfl
 rw [e, List.mem_append] at hx
 rcases hx with hx | hx
 ·exact endOk_fix x hx
 ·simp only [List.mem_cons, List.not_mem_nil, or_false] at hx
  rcases hx with rfl | rfl | rfl
  ·exact (endOk_u a ha).1
  ·exact (endOk_u b hb).2.1
  ·exact (endOk_u c hc).2.2
omit rt0 in
theorem endOk.out {x : Str} (h : endOk x = true) : x.length ≤ 1000 ∧ (Txt.split x (Str.ofString "::")).length ≤ 100 ∧ (partsF x).length ≤ 2 ∧ ∀ y ∈ partsF x, y ∈ segL := by
 unfold endOk at h
 simp only [Bool.and_eq_true, decide_eq_true_eq, List.all_eq_true] at h
 exact ⟨h.1.1.1, h.1.1.2, h.1.2, h.2⟩
omit rt0 in
theorem uS_len {k : Nat} (h : k < 7) : (uS k).length ≤ 10 := by
 have : ∀ k < 7, (uS k).length ≤ 10 := by decide +kernel
 exact this k h
omit rt0 in
theorem len3 {α : Type} {ys : List α} (e : ys.length = 3) : ∃ a b c, ys = [a, b, c] := by
 match ys, e with
 | [a, b, c], _ => exact ⟨a, b, c, rfl⟩
omit rt0 in
theorem Put.uniq {ks : List Str} {vs vs1 vs2 : List (Option Value)} {x : Str} {v : Value} (nd : ks.Nodup) (p : Put ks vs x v vs1) : Put ks vs x v vs2 → vs1 = vs2 := by
 induction p generalizing vs2 with
 | head =>
  intro q
  generalize e : (_ :: _ : List Str) = ks' at q nd
  cases q with
  | head => rfl
  | tail q =>
   cases e
   exact absurd q.mem (List.nodup_cons.mp nd).1
 | @tail x ks v vs vs' k o p ih =>
  intro q
  have hn := (List.nodup_cons.mp nd).1
  have hx := p.mem
  generalize e : (k :: ks : List Str) = ks' at q
  cases q with
  | head => cases e; exact absurd hx hn
  | tail q => cases e; rw [ih (List.nodup_cons.mp nd).2 q]
theorem w_LOget2 {A : Around} {E : Value → Shared → Prop} {h : Heap} {bs : List Heap} {tk : Nat} {L : Addr} {ks : List Str} {cs : List Cell} {vs : List (Option Value)} {u : Tok} {value slice : PySem.Expr} {l : Addr} {x y z : Value} {ys : List Value} {ops : List Value} {Q : Value → Shared → Prop} (H : At A bs L ks cs vs h) (m : (l, LO (z :: y :: x :: ys)) ∈ cs) (hz : (z :: y :: x :: ys).length ≤ 10000) (k : Q x (St s h tk))
  (hs : subscripted slice false (.ref l) (.int 2 u) = operate ops (getItem (.ref l) (.int 2 u))) : wpAny (model prog w) A (subscriptTail value slice (.ref l) (.int 2 u)) Q E (St s h tk) := w_LOget (i := 2) H m rfl hz k hs
noncomputable def restF (p : List Str) : List Str := if p = [] then [Str.ofString "a"] else p
section
variable {A : Around} {E : Value → Shared → Prop} {h : Heap} {tk : Nat} {Q : Value → Shared → Prop}
inductive RDr (g : Heap) (lf nn src : Addr) : Nat → List Heap → List Cell → List (Option Value) → Prop
 | mk {i : Nat} {g2 : Heap} {ys : List Value} {links : List Lnk} {o1 o2 o3 o4 o5 o6 : Option Value} (i6 : i ≤ 6) (ra : ReadsAll g2 ys (links.map lnkD) []) (zl : links.length = i) (ok : LnksOk links) : RDr g lf nn src i [g2, g] [(lf, PLO ys), (nn, CellO (some (.ref src))), (src, SrcO)] [some (.ref lf), o1, o2, o3, o4, o5, o6]
theorem c_drawn {src : Addr} (C : Cm (Mine.hd.heap_1 w.params) A h [src] 5) (hh : A.handled = none) (I : ∃ o, h.get? src = some o ∧ SrcO o)
  (k : ∀ l links h' tk' its, LnksOk links → 1 ≤ links.length → links.length ≤ 6 → Ch [src] h h' → (∃ o', h'.get? src = some o' ∧ SrcO o') → h'.IsList l its → ReadsAll h' its.toList (links.map lnkD) [] → l ≠ src → Q (.ref l) (St s h' tk')) :
  wpAny (model prog w) A (call (.ref 327) [.ref src]) Q E (St s h tk) := by
 fin_once o1 fail
 obtain ⟨⟨g, T, x, n, d, kp⟩, ff, r⟩ := C
 obtain ⟨o, ho, so⟩ := I
 fin_once o2 fail
 have fr := frs_src ho so
 refine fnC (bs := [g]) (cs := [(src, SrcO)]) [("source", .ref src)] ["links", "turn", "place", "used", "ends", "goal", "names"] ["_law_take", "_law_one", "_law_places", "_law_parts", "range", "str", "len"] (fun n => [(n, CellO (some (.ref src)))]) [none, none, none, none, none, none, none] T (.head _) (by simpa using x) ⟨fun c hc => ?_, by fin_once sm fail⟩ (by simpa using n) ff ⟨_, .head _, d⟩ (by k_is) (by k_is) r.room (BindsTo.of_eq rfl) (by decide +kernel) (by decide +kernel) (by decide +kernel) rfl rfl rfl ?_ ?_
 ·rw [List.mem_singleton.mp hc]
  exact ⟨o, ho, so, mutO_list so.1⟩
 ·intro n env hs hc
  have c1 : Cv env "source" n := ⟨by unfold Env.kindOf; rw [hs]; rfl, by rw [hc]; rfl⟩
  exact .cel c1 .head .nil
 intro nn env L h₁ tk₁ F H hc hs hcl
 dsimp only [List.cons_append, List.nil_append] at H
 have c1 : Cv env "source" nn := ⟨by unfold Env.kindOf; rw [hs]; rfl, by rw [hcl]; rfl⟩
 have hk : env.scope.kind = .function := F.kind
 have V := F.nv
 have R : Rm (A.deeper env) 4 := r.deeper (by fin_once om fail)
 have hh' : (A.deeper env).handled = none := hh
 have gd : HdOk (A.deeper env) g := d
 fin_once gg fail
 refine w_newListP H (by fin_once sm fail) fun lf h₂ H₂ c₂ => ?_
 refine w_store H₂ F (by fin_once lk fail) fun h₃ tk₃ H₃ => ?_
 fin_once o1 fail
 refine H₃.base'K fun g2 x2 H₃ _ kt2 => ?_
 obtain ⟨its, gl, sa⟩ := g_places T.k
 fin_once o2 fail
 have sl : its.size = 3 := by
  have := sa.length
  rwa [Array.length_toList] at this
 have nsrc : ∀ a o, g.get? a = some o → a ≠ src := fun a o e q => by
  rw [q, n src (.head _)] at e; cases e
 have ne287 : 287 ≠ src := by obtain ⟨o, e, _⟩ := gl; exact nsrc _ _ e
 have oneC : ∀ {bs cs vs h' tk' Q}, At (A.deeper env) bs L ["links", "turn", "place", "used", "ends", "goal", "names"] cs vs h' → g ∈ bs → (src, SrcO) ∈ cs →
   (∀ x t h'' tk'', x ∈ placesL → At (A.deeper env) bs L ["links", "turn", "place", "used", "ends", "goal", "names"] cs vs h'' → Q (.str x t) (St s h'' tk'')) → wpAny (model prog w) (A.deeper env) (call (.ref 283) [.ref src, .ref 287]) Q No (St s h' tk') := by
  intro bs cs vs h' tk' Q H' mb mc k'
  refine H'.cells.getK mc fun o₁ e₁ s₁ _ => ?_
  refine c_one (H'.cm T mb (fun a ha => ⟨(src, SrcO), mc, (List.mem_singleton.mp ha).symm⟩) R (by fin_once om fail)) ⟨o₁, e₁, s₁⟩ (isList_ch gl (H'.ch g mb)) ne287 (by fin_once om fail) (by fin_once om fail) fun i v h₃ tk₃ hv c₃ so₃ => ?_
  have hi : i < its.size := (Array.getElem?_eq_some_iff.mp hv).1
  have pz : placesL.length = 3 := rfl
  obtain ⟨mo, hmo⟩ : ∃ mo, placesL[i]? = some mo := ⟨_, List.getElem?_eq_getElem (by fin_once om fail)⟩
  obtain ⟨tm, rfl⟩ := strsAre_get sa (by rw [Array.getElem?_toList]; exact hv) hmo
  exact k' mo tm h₃ tk₃ (List.mem_of_getElem? hmo) (H'.drew mc c₃ so₃)
 fin_once nx fail
 refine w_ForR (E' := No) (L := L) ["links", "turn", "place", "used", "ends", "goal", "names"] hh' (RDr g lf nn src) thr_no (fun _ => rfl) ?_
 fin_once gg fail
 refine H₃.cells.getK (a := src) (φ := SrcO) (by fin_once sm fail) fun o₁ e₁ s₁ _ => ?_
 refine c_take (H₃.cm T (by fin_once sm fail) (fun a ha => ⟨(src, SrcO), by fin_once sm fail, (List.mem_singleton.mp ha).symm⟩) R (by fin_once om fail)) ⟨o₁, e₁, s₁⟩ (by fin_once om fail) (by fin_once om fail) fun v u h₄ tk₄ v0 v1 c₄ so₄ => ?_
 have H₄ := H₃.drew (by fin_once sm fail) c₄ so₄
 obtain ⟨m, rfl⟩ := Int.eq_ofNat_of_zero_le v0
 fin_once gg fail
 refine w_range1 H₄ fun rr h₅ tk₅ u1 u2 H₅ c₅ hr => ?_
 refine .mk (g := g) (n := 1 + m) (by simpa using hr) (by fin_once om fail) H₅ (.mk (ys := []) (links := []) (by fin_once om fail) .nil rfl fun i x e => by simp at e) (fun i bs cs vs hR => ?_) (fun it i t bs cs vs h₆ tk₆ hi hR H₆ Tz hTz => ?_) fun bs cs vs h₆ tk₆ hR H₆ => ?_
 ·induction hR
  simp
 ·induction hR
  rename_i g3 ys links o1 o2 o3 o4 o5 o6 i6 ra zl lok
  fin_once gg fail
  rename At _ _ _ _ _ _ _ => H₇
  refine H₇.opC fun CT hCT mT H₇ => ?_
  have m1 := mT (c := (src, SrcO)) (by fin_once lk fail)
  have m2 := mT (c := (nn, CellO _)) (by fin_once lk fail)
  have m3 := mT (c := (lf, PLO _)) (by fin_once lk fail)
  clear mT
  refine oneC H₇ (by fin_once sm fail) (by fin_once sm fail) fun place tp h₈ tk₈ mp H₈ => ?_
  fin_once gg fail
  rename At _ _ _ _ _ _ _ => H₉
  refine w_compS (L := L) (ks := ["links", "turn", "place", "used", "ends", "goal", "names"]) ["str", "_law_take"] (fun i ys => ys.length = i ∧ ∀ y ∈ ys, ∃ k t, k < 7 ∧ y = Value.str (uS k) t) V (by unfold swapsWith Env.blockKind Env.kindOf; rw [hs]; rfl) (cl := [("source", nn)]) (by simp [closureFor, cellOf, c1.l]) (by decide +kernel) rfl (by decide +kernel) (by decide +kernel) (by decide +kernel) (fun _ => rfl) (fun i ys h => Nat.le_of_eq h.1) ⟨rfl, by fin_once sm fail⟩ ?_
  fin_once gg fail
  refine w_range1 H₉ fun r2 ha tka u3 u4 Ha ca hr2 => ?_
  refine w_iterR (n := 3) Ha hr2 (by fin_once om fail) fun it2 hb Hb => ?_
  refine .mk (g := g) (n := 3) (Itr.range hh') (by fin_once sm fail) Hb (by fin_once om fail) (fun v => ⟨_, by fin_once lk fail⟩) (fun j v bs' C D ys2 hc2 tkc hj hv hR sub Hc V' => ?_) fun D ys2 hc2 tkc vs' hR pt Hc => ?_
  ·have x1 := V'.cv c1 hk rfl rfl
   have hk' := V'.kind
   have mb : g ∈ bs' := sub _ (by fin_once sm fail)
   rw [List.forIn_nil]
   refine wpAny_pure ?_
   rw [if_pos rfl]
   fin_once gg fail
   refine Hc.cells.getK (a := src) (φ := SrcO) (by fin_once sm fail) fun o₂ e₂ s₂ _ => ?_
   refine c_take (Hc.cm T mb (fun a ha => ⟨(src, SrcO), by fin_once sm fail, (List.mem_singleton.mp ha).symm⟩) R (by fin_once om fail)) ⟨o₂, e₂, s₂⟩ (by fin_once om fail) (by fin_once om fail) fun v2 u5 hd tkd v20 v21 cd sod => ?_
   have Hd := Hc.drew (by fin_once sm fail) cd sod
   obtain ⟨kk, rfl⟩ := Int.eq_ofNat_of_zero_le v20
   fin_once gg fail
   refine w_str_int (by fin_once om fail) fun t4 tk4 => ?_
   refine w_add_str ?_ fun t5 tk5 => ?_
   ·have := uS_len (k := kk) (by fin_once om fail)
    unfold uS at this
    rw [Str.length_append] at this
    exact len_le_line (by fin_once om fail)
   refine .mk ⟨by simp [hR.1], fun y my => ?_⟩ Hd
   rcases List.mem_append.mp my with my | my
   ·exact hR.2 y my
   ·rw [List.mem_singleton] at my
    exact ⟨kk, _, by fin_once om fail, my⟩
  ·obtain ⟨ez, ey⟩ := hR
   obtain ⟨y0, y1, y2, rfl⟩ : ∃ y0 y1 y2, ys2 = [y0, y1, y2] := by
    exact len3 ez
   obtain ⟨k0, q0, kz0, rfl⟩ := ey y0 (by fin_once sm fail)
   obtain ⟨k1, q1, kz1, rfl⟩ := ey y1 (by fin_once sm fail)
   obtain ⟨k2, q2, kz2, rfl⟩ := ey y2 (by fin_once sm fail)
   cases pt.uniq F.nd (.tail (.tail (.tail .head)))
   have z1 := uS_len kz1
   have z2 := uS_len kz2
   have zf : (Str.ofString "::f").length = 3 := by decide +kernel
   have zv : (Str.ofString "::V").length = 3 := by decide +kernel
   fin_once gg fail
   refine w_LOget2 Hc (.head _) (by fin_once sm fail) ?_ (by with_unfolding_all rfl)
   fin_once gg fail
   refine w_newListG (Hc.sub (List.sublist_cons_self _ _)) F (by fin_once sm fail) fun le g4 hd Hd cd xg4 gle tg4 nle => ?_
   fin_once gg fail
   rename At _ _ _ _ _ _ _ => He
   refine oneC He (by fin_once sm fail) (by fin_once sm fail) fun goal tg hf tkf mg Hf => ?_
   fin_once o1 fail
   obtain ⟨gz1, gz2, gz3, gz4⟩ := endOk.out (endOk_place goal mg)
   fin_once o2 fail
   fin_once gg fail
   rename At _ _ _ _ _ _ _ => Hg
   refine evd (strsD [Str.ofString "crate"]) Hg (by simp only [strsD, List.map_cons, List.map_nil]; repeat' fin_once ev fail) fun v1 hh1 tkh Hh ch rv1 => ?_
   fin_once gg fail
   refine c_parts (Hh.cx T (by fin_once sm fail) R (by fin_once om fail)) gz1 gz2 fun tp2 hi tki ci rp2 => ?_
   have Hi := Hh.keep ci
   fin_once gg fail
   refine w_addT Hi (rv1.ch ci) rp2 (by simp; fin_once om fail) fun t6 hj Hj cj r6 => ?_
   refine Hj.base'K fun g5 x5 Hj _ kt5 => ?_
   have r6 := r6.mv kt5
   fin_once gg fail
   refine Hj.cells.getK (a := src) (φ := SrcO) (by fin_once sm fail) fun o₂ e₂ s₂ _ => ?_
   refine c_one (Hj.cm T (by fin_once sm fail) (fun a ha => ⟨(src, SrcO), by fin_once sm fail, (List.mem_singleton.mp ha).symm⟩) R (by fin_once om fail)) ⟨o₂, e₂, s₂⟩ (isList_ch gle (Hj.ch g4 (by fin_once sm fail))) (fun q => nle _ (by fin_once mem fail : (src, SrcO) ∈ _) q.symm) (by fin_once sm fail) (by fin_once sm fail) fun ie v3 hk3 tkk hv3 ck sok => ?_
   have Hk := Hj.drew (by fin_once sm fail) ck sok
   obtain ⟨en, ten, rfl, men⟩ : ∃ (en : Str) (ten : Tok), v3 = .str en ten ∧ en ∈ endsL k0 k1 k2 := by
    exact ale (P := fun v => ∃ (en : Str) (ten : Tok), v = .str en ten ∧ en ∈ endsL k0 k1 k2) (arr_mem hv3) (alc ⟨_, _, rfl, .head _⟩ (alc ⟨_, _, rfl, .tail _ (.head _)⟩ (alc ⟨_, _, rfl, .tail _ (.tail _ (.head _))⟩ (alc ⟨_, _, rfl, .tail _ (.tail _ (.tail _ (.head _)))⟩ (alc ⟨_, _, rfl, .tail _ (.tail _ (.tail _ (.tail _ (.head _))))⟩ (alc ⟨_, _, rfl, .tail _ (.tail _ (.tail _ (.tail _ (.tail _ (.head _)))))⟩ (alc ⟨_, _, rfl, .tail _ (.tail _ (.tail _ (.tail _ (.tail _ (.tail _ (.head _))))))⟩ (alc ⟨_, _, rfl, .tail _ (.tail _ (.tail _ (.tail _ (.tail _ (.tail _ (.tail _ (.head _)))))))⟩ (alc ⟨_, _, rfl, .tail _ (.tail _ (.tail _ (.tail _ (.tail _ (.tail _ (.tail _ (.tail _ (.head _))))))))⟩ (alc ⟨_, _, rfl, .tail _ (.tail _ (.tail _ (.tail _ (.tail _ (.tail _ (.tail _ (.tail _ (.tail _ (.head _)))))))))⟩ aln))))))))))
   fin_once o1 fail
   obtain ⟨ez1, ez2, ez3, ez4⟩ := endOk.out (endOk_ends kz0 kz1 kz2 en men)
   fin_once o2 fail
   fin_once gg fail
   refine c_parts (Hk.cx T (by fin_once sm fail) R (by fin_once om fail)) ez1 ez2 fun tp3 hl tkl cl rp3 => ?_
   have Hl := Hk.keep cl
   fin_once gg fail
   refine w_addT Hl (r6.ch (Hl.ch g5 (by fin_once sm fail))) rp3 (by simp; fin_once om fail) fun t7 hm Hm cm r7 => ?_
   refine Hm.base'K fun g6 x6 Hm _ kt6 => ?_
   obtain ⟨pp, hpp⟩ : ∃ pp, pp = partsF goal ++ partsF en := ⟨_, rfl⟩
   have pz : pp.length ≤ 4 := by rw [hpp, List.length_append]; fin_once om fail
   have pm : ∀ y ∈ pp, y ∈ segL := fun y my => by
    rw [hpp] at my
    exact (List.mem_append.mp my).elim (gz4 y) (ez4 y)
   have r7 : Rd g6 (.ref t7) (strsD (Str.ofString "crate" :: pp)) := by
    have := r7.mv kt6
    rw [hpp]
    unfold strsD
    simpa using this
   have zu : (uS i).length ≤ 10 := uS_len (by fin_once om fail)
   fin_once gg fail
   rename At _ _ _ _ _ _ _ => Hn
   refine w_lmeth Hn (by fin_once mem fail) slot_list_append type_list_append ?_
   fin_once gg fail
   refine PyProof.Rows.Tuple_ ?_
   fin_once gg fail
   refine w_str_int (by fin_once om fail) fun t8 tk8 => ?_
   refine w_add_str ?_ fun t9 tk9 => ?_
   ·unfold uS at zu
    rw [Str.length_append] at zu
    exact len_le_line (by fin_once om fail)
   fin_once gg fail
   refine w_lenT (r7.ch (Hn.ch g6 (by fin_once sm fail))) (by simp; fin_once om fail) fun ul tkl => ?_
   fin_once gg fail
   refine w_ifj (fun v s' => ∃ h' tk', s' = St s h' tk' ∧ At (A.deeper env) [g6, g5, g4, g3, g] L ["links", "turn", "place", "used", "ends", "goal", "names"] CT [some (.ref lf), some (.int i t), some (.str place tp), some (.ref D), some (.ref le), some (.str goal tg), some (.ref t7)] h' ∧ Rd h' v (strsD (Str.ofString "crate" :: restF pp))) (fun e => ?_) (fun e => ?_) fun v s' q => ?_
   ·fin_once gg fail
    refine ⟨_, _, rfl, Hn, ?_⟩
    have : pp ≠ [] := fun q => by rw [q] at e; simp at e
    rw [restF, if_neg this]
    exact r7.ch (Hn.ch g6 (by fin_once sm fail))
   ·refine evd (strsD [Str.ofString "crate", Str.ofString "a"]) Hn (by simp only [strsD, List.map_cons, List.map_nil]; repeat' fin_once ev fail) fun v4 ho tko Ho co rv4 => ?_
    have : pp = [] := by
     have e' := of_decide_eq_false e
     simp only [List.map_cons, List.length_cons, List.length_map] at e'
     exact List.length_eq_zero_iff.mp (by fin_once om fail)
    rw [restF, if_pos this]
    exact ⟨_, _, rfl, Ho, rv4⟩
   obtain ⟨ho, tko, rfl, Ho, rv⟩ := q
   fin_once gg fail
   refine w_newTupleN Ho (by fin_once sm fail) fun t10 hp Hp cp tt => ?_
   have rl : Rd hp (.ref t10) (lnkD (place, uS i, Str.ofString "crate" :: restF pp)) := rd_tup tt (.cons (as := []) (bs := []) (.str _ _) (.cons (as := []) (bs := []) (.str _ _) (.cons (as := []) (bs := []) (rv.ch cp) .nil)))
   refine Hp.base'K fun g7 x7 Hp _ kt7 => ?_
   have rl := rl.mv kt7
   have ra := readsAll_snoc (readsAll_ch ra (x7 g3 (by fin_once sm fail))) rl
   have Hp := Hp.drop (bs' := [g7, g]) (by fin_once sb fail) ⟨g, by fin_once sm fail, gd⟩
   have yz := readsAll_len ra
   simp at yz
   fin_once gg fail
   rw [hCT] at Hp
   refine w_append Hp (by fin_once mem fail) (by fin_once turn fail) (by fin_once om fail) fun hq Hq => ?_
   fin_once gg fail
   refine tf_next (.mk (.mk (links := links ++ [(place, uS i, Str.ofString "crate" :: restF pp)]) (by fin_once om fail) (by simpa using ra) (by simp; fin_once om fail) ?_) Hq)
   intro j x hj
   rw [List.getElem?_append] at hj
   split at hj
   ·exact lok j x hj
   ·rename_i hlt
    have : j = i := by
     have := (List.getElem?_eq_some_iff.mp hj).1
     simp at this
     fin_once om fail
    subst this
    rw [zl] at hj
    simp at hj
    subst hj
    refine ⟨mp, rfl, restF pp, rfl, ?_, ?_, ?_⟩
    ·unfold restF
     split
     ·simp
     ·assumption
    ·unfold restF
     split
     ·simp
     ·exact pz
    ·unfold restF
     split
     ·intro x hx
      rw [List.mem_singleton.mp hx]
      exact .head _
     ·exact pm
 ·induction hR
  rename_i g3 ys links o1 o2 o3 o4 o5 o6 i6 ra zl lok
  fin_once gg fail
  refine H₆.cells.getK (a := lf) (by fin_once mem fail) fun ol el pl _ => ?_
  obtain ⟨no, rfl⟩ := pl
  refine H₆.cells.getK (a := src) (φ := SrcO) (by fin_once sm fail) fun o₂ e₂ s₂ _ => ?_
  have nd := H₆.cells.nd
  simp at nd
  refine k lf links _ _ ys.toArray lok (by fin_once om fail) (by fin_once om fail) (unhide (H₆.ch g (by fin_once sm fail)) kp fr) ⟨o₂, e₂, s₂⟩ ⟨_, el, rfl, _, rfl⟩ (readsAll_ch ra (H₆.ch g3 (by fin_once sm fail))) fun q => ?_
  exact nd.1.2 q
end
section
variable {A : Around} {E : Value → Shared → Prop}
theorem nextOf_tup {s : Shared} {it l : Addr} {i : Nat} {items : Array Value} {x : Value} {Q : Value → Shared → Prop} (hit : s.heap.IsTupleIter it l i)
  (hl : s.heap.IsTuple l items) (hx : items[i]? = some x)
  (hQ : ∀ h', h'.IsTupleIter it l (i + 1) → Heap.SameBut it s.heap h' → Q x { s with heap := h' }) :
  wpAny (model prog w) A (Builtin.SmallTypes.nextOf (.ref it)) Q E s := by
 fin_once o1 fail
 obtain ⟨o, ho, hc, hd⟩ := id hit
 obtain ⟨ol, hol, _, nl, hdl⟩ := hl
 fin_once o2 fail
 unfold Builtin.SmallTypes.nextOf
 refine wpAny_bind (wpAny_callSpecial?_slot (name := Str.ofString "__next__") hit.typeIs PySem.F.slot_tuple_iterator_next
  (wpAny_call_entry PySem.F.slot_tuple_iterator_next hit.typeIs PySem.F.entry_tuple_iterator_next ?_ (PySem.F.args_tuple_iterator_next_1 _)))
 show wpAny _ _ (field (.ref it) 0 >>= _) _ _ s
 refine wpAny_bind (wpAny_field ho hd (x := .ref l) rfl ?_)
 show wpAny _ _ (if (Value.ref l == Value.none) = true then _ else _) _ _ s
 rw [if_neg (show ¬ ((Value.ref l == Value.none) = true) from Bool.false_ne_true)]
 show wpAny _ _ (field (.ref it) 1 >>= _) _ _ s
 refine wpAny_bind (wpAny_field ho hd (x := .int i 0) rfl ?_)
 show wpAny _ _ (seqItems? (.ref l) >>= _) _ _ s
 refine wpAny_bind (wpAny_seqItems hol hdl ?_)
 simp only [Int.toNat_natCast, hx]
 refine wpAny_bind (wpAny_setField ho hd (by fin_once sm fail) (wpAny_pure ⟨x, rfl, wpAny_pure (hQ _ ?_ (Heap.SameBut.update ..))⟩))
 exact ⟨_, Heap.get?_update_self _ ho (Obj.isFreed_of_fields (Obj.data_mapFields hd _)), (Obj.cls_mapFields ..).trans hc, by
  rw [Obj.data_mapFields hd]; simp [rawInt]⟩
theorem nextOf_tup_end {s : Shared} {it l : Addr} {i : Nat} {items : Array Value} {Q : Value → Shared → Prop} (hh : A.handled = none)
  (hit : s.heap.IsTupleIter it l i) (hl : s.heap.IsTuple l items) (hx : items[i]? = none)
  (hE : ∀ h' e, Heap.ExtBut it s.heap h' → (∃ o, h'.get? e = some o ∧ o.cls = .type "StopIteration") → E (.ref e) { s with heap := h' }) :
  wpAny (model prog w) A (Builtin.SmallTypes.nextOf (.ref it)) Q E s := by
 fin_once o1 fail
 obtain ⟨o, ho, hc, hd⟩ := id hit
 obtain ⟨ol, hol, _, nl, hdl⟩ := hl
 fin_once o2 fail
 unfold Builtin.SmallTypes.nextOf
 refine wpAny_bind (wpAny_callSpecial?_slot (name := Str.ofString "__next__") hit.typeIs PySem.F.slot_tuple_iterator_next
  (wpAny_call_entry PySem.F.slot_tuple_iterator_next hit.typeIs PySem.F.entry_tuple_iterator_next ?_ (PySem.F.args_tuple_iterator_next_1 _)))
 show wpAny _ _ (field (.ref it) 0 >>= _) _ _ s
 refine wpAny_bind (wpAny_field ho hd (x := .ref l) rfl ?_)
 show wpAny _ _ (if (Value.ref l == Value.none) = true then _ else _) _ _ s
 rw [if_neg (show ¬ ((Value.ref l == Value.none) = true) from Bool.false_ne_true)]
 show wpAny _ _ (field (.ref it) 1 >>= _) _ _ s
 refine wpAny_bind (wpAny_field ho hd (x := .int i 0) rfl ?_)
 show wpAny _ _ (seqItems? (.ref l) >>= _) _ _ s
 refine wpAny_bind (wpAny_seqItems hol hdl ?_)
 simp only [Int.toNat_natCast, hx]
 refine wpAny_bind (wpAny_rule (wpAny_bind (wpAny_setField ho hd (by fin_once sm fail) ?_)))
 show wpAny _ _ (newExc (.type "StopIteration") [] >>= _) _ _ _
 refine wpAny_bind ?_
 simp only [newExc, newTuple]
 refine wpAny_bind (wpAny_newObj_type ?_ (by size_fits))
 refine wpAny_bind (m := firstArgMember _ _) (wpAny_of_eq (a := Value.none) (by first | rfl | (simp only [firstArgMember]; rfl)) ?_)
 refine wpAny_newObj_type ?_ (by size_fits)
 unfold raiseNew
 refine wpAny_bind (wpAny_handled ?_)
 first | rw [show A.in1.handled = none from hh] | rw [hh]
 refine wpAny_bind (wpAny_pure (wpAny_throw ?_))
 exact hE _ _ (((Heap.SameBut.update ..).extBut.push _).push _) ⟨_, Heap.get?_push_size _ rfl, rfl⟩
end
theorem draws_tup {A : Around} (hh : A.handled = none) (it l : Addr) (hne : l ≠ it) (items : Array Value) :
  Draws prog w A it [it, l] items.size (fun i v => items[i]? = some v) (fun i h => h.IsTupleIter it l i ∧ h.IsTuple l items) where
 live := fun _ _ st => let ⟨o, ho, _⟩ := st.1; ⟨o, ho⟩
 frame := fun _ _ _ st hk => ⟨let ⟨o, ho, r⟩ := st.1; ⟨o, hk it (by fin_once sm fail) o ho, r⟩, let ⟨o, ho, r⟩ := st.2; ⟨o, hk l (by fin_once sm fail) o ho, r⟩⟩
 item := fun i s Q E hi st hQ => by
  refine nextOf_tup st.1 st.2 (x := items[i]) (by simp [hi]) fun h' hit' hs' => ?_
  exact hQ _ h' s.toks (by simp [hi]) ⟨hit', st.2.extBut hs'.extBut hne⟩ hs'
 done := fun s Q E st hE => nextOf_tup_end hh st.1 st.2 (by fin_once sm fail) hE
omit rt0 in
theorem ap1 {α β : Type} {M : Model} {A : Around} {f : β → Sem α} {b : β} {Q : α → Shared → Prop} {E : Value → Shared → Prop} {s : Shared} (k : ∀ b, wpAny M A (f b) Q E s) : wpAny M A (f b) Q E s := k b
open AutoSeq1 (wpAny_loadPart') in
omit rt0 in
theorem meets_enum_tup (l : Addr) (items : Array Value) (n : Nat) (dct : Option Addr) (sl : Array (Option Value)) :
  Meets (Builtin.«enumerate.__new__» ⟨[.type "enumerate", .ref l], []⟩) (fun _ R s => s.heap.get? l = some { cls := .type "tuple", dict := dct, data := .seq items n, slots := sl } ∧
   R (.ok (.ret (.ref (s.heap.push { cls := .type "tuple_iterator", data := .fields #[.ref l, .int 0 0] }).objs.size)))
    { s with heap := (s.heap.push { cls := .type "tuple_iterator", data := .fields #[.ref l, .int 0 0] }).push { cls := .type "enumerate", data := .fields #[.none, .bool false, .ref s.heap.objs.size, rawInt 0, .none, .none] } }) :=
 .of_wp fun prog w A R s h => by
  fin_once o1 fail
  obtain ⟨hp, g, d, tk, os⟩ := s; obtain ⟨hl, h⟩ := h
  fin_once o2 fail
  have hsub := sub_enumerate
  have hL : Heap.IsTuple (Shared.heap ⟨hp, g, d, tk, os⟩) l items := ⟨_, hl, rfl, n, rfl⟩
  wp_walk using wpAny_loadPart' hl
  refine wpAny_stack_any fun st => wpAny_pure ?_
  refine ap1 fun b => ?_
  cases b
  ·wp_walk using wpAny_loadPart' hl, wpAny_pyIter_tuple hL
   exact ⟨_, rfl, h⟩
  ·wp_walk using wpAny_loadPart' hl, wpAny_pyIter_tuple hL
   exact ⟨_, rfl, h⟩
noncomputable def EnO (it : Addr) (i : Nat) (o : Obj) : Prop := ∃ old, o = { cls := .type "enumerate", dict := none, data := .fields #[.none, .bool false, .ref it, rawInt i, .none, old], slots := #[] }
omit rt0 in
theorem EnO.mut {it : Addr} {i : Nat} {o : Obj} (h : EnO it i o) : mutO o = true := by obtain ⟨old, rfl⟩ := h; rfl
omit rt0 in
theorem TI.mut {l : Addr} {i : Nat} {o : Obj} (h : TI l i o) : mutO o = true := by unfold mutO; rw [h.1]; rfl
section
variable {A : Around} {E E' : Value → Shared → Prop} {h : Heap} {tk : Nat} {bs : List Heap} {env : Env} {L : Addr} {ks : List Str} {cs : List Cell} {vs : List (Option Value)}
theorem w_enum {t : Addr} {its : Array Value} {Q : Value → Shared → Prop} (H : At A bs L ks cs vs h) (ht : IsTup h t its)
  (k : ∀ e it h', At A bs L ks ((e, EnO it 0) :: (it, TI t 0) :: cs) vs h' → Ch [] h h' → Q (.ref e) (St s h' tk)) : wpAny (model prog w) A (call (.type "enumerate") [.ref t]) Q E (St s h tk) := by
 fin_once o1 fail
 obtain ⟨⟨c, dct, dt, sl⟩, hl, hc, n, hd⟩ := ht
 fin_once o2 fail
 replace hc : c = .type "tuple" := hc
 replace hd : dt = .seq its n := hd
 subst hc hd
 refine callType_new PySem.F.called_enumerate (by decide) (PySem.F.typeCall_enumerate_1 _) (PySem.F.newCall_enumerate_1 _) (fun obj => PySem.F.args_object_init_2 obj _) PySem.F.entry_enumerate_new
  (meets_enum_tup t its n dct sl) ⟨hl, ?_⟩
 have H1 := H.push (o := { cls := .type "tuple_iterator", data := .fields #[.ref t, .int 0 0] }) (φ := TI t 0) ⟨rfl, rfl⟩ rfl rfl
 have H2 := H1.push (o := { cls := .type "enumerate", data := .fields #[.none, .bool false, .ref h.objs.size, rawInt 0, .none, .none] }) (φ := EnO h.objs.size 0) ⟨_, rfl⟩ rfl rfl
 refine ⟨?_, k _ _ _ H2 ((Ch.push ..).trans (Ch.push ..))⟩
 exact ⟨_, Heap.get?_push_size _ rfl, rfl⟩
theorem At.kept2 {h' : Heap} {a b : Addr} {φ ψ φ' ψ' : Obj → Prop} (H : At A bs L ks ((a, φ) :: (b, ψ) :: cs) vs h) (mu : ∀ o, φ' o → mutO o = true) (mu' : ∀ o, ψ' o → mutO o = true) (x : ∃ o, h'.get? a = some o ∧ φ' o) (y : ∃ o, h'.get? b = some o ∧ ψ' o) (kp : ∀ c o, c ≠ a → c ≠ b → h.get? c = some o → h'.get? c = some o) : At A bs L ks ((a, φ') :: (b, ψ') :: cs) vs h' := by
 have nd := H.cells.nd
 refine H.mod (fun c o e n => kp c o (fun q => n _ (.head _) q.symm) (fun q => n _ (.tail _ (.head _)) q.symm) e) ⟨fun c hc => ?_, nd⟩ fun c hc => .inl ?_
 ·rcases List.mem_cons.mp hc with rfl | hc
  ·obtain ⟨o, e, p⟩ := x
   exact ⟨o, e, p, mu o p⟩
  ·rcases List.mem_cons.mp hc with rfl | hc
   ·obtain ⟨o, e, p⟩ := y
    exact ⟨o, e, p, mu' o p⟩
   ·fin_once o1 fail
    obtain ⟨o, e, p, m⟩ := H.cells.all c (.tail _ (.tail _ hc))
    fin_once o2 fail
    rw [List.map_cons, List.map_cons, List.nodup_cons, List.nodup_cons] at nd
    refine ⟨o, kp _ _ (fun q => ?_) (fun q => ?_) e, p, m⟩
    ·exact nd.1 (.tail _ (List.mem_map.mpr ⟨c, hc, q⟩))
    ·exact nd.2.1 (List.mem_map.mpr ⟨c, hc, q⟩)
 ·rcases List.mem_cons.mp hc with rfl | hc
  ·exact ⟨_, .head _, rfl⟩
  ·rcases List.mem_cons.mp hc with rfl | hc
   ·exact ⟨_, .tail _ (.head _), rfl⟩
   ·exact ⟨c, .tail _ (.tail _ hc), rfl⟩
inductive ForE (A : Around) (L : Addr) (ks : List Str) (e it t : Addr) (R : Nat → List Heap → List Cell → List (Option Value) → Prop) (i : Nat) : Shared → Prop
 | mk {bs : List Heap} {cs : List Cell} {vs : List (Option Value)} {h : Heap} {tk : Nat} (r : R i bs cs vs) (H : At A bs L ks ((e, EnO it i) :: (it, TI t i) :: cs) vs h) : ForE A L ks e it t R i (St s h tk)
inductive LpE (A : Around) (E' : Value → Shared → Prop) (L : Addr) (ks : List Str) (env : Env) (target : PySem.Expr) (body orelse : List Stmt) (Q : Flow → Shared → Prop) : Value → Shared → Prop
 | mk {e it t : Addr} {g : Heap} {its : Array Value} {bs : List Heap} {cs : List Cell} {vs : List (Option Value)} {h : Heap} {tk : Nat} (R : Nat → List Heap → List Cell → List (Option Value) → Prop) (ht : IsTup g t its) (H : At A bs L ks ((e, EnO it 0) :: (it, TI t 0) :: cs) vs h) (r : R 0 bs cs vs) (rg : ∀ i bs cs vs, R i bs cs vs → g ∈ bs)
  (turn : ∀ i v T tt bs cs vs h tk, its[i]? = some v → R i bs cs vs → At A bs L ks ((e, EnO it (i + 1)) :: (it, TI t (i + 1)) :: cs) vs h → IsTup h T #[.int (i : Nat) tt, v] → ∀ T' : Flow → Shared → Prop, (∀ f s', Tf (ForE A L ks e it t R (i + 1)) Q f s' → T' f s') → wpAny (model prog w) A (assign target env (.ref T)) (fun _ s₃ => wpAny (model prog w) A (execs body env) T' E' s₃) E' (St s h tk))
  (done : ∀ bs cs vs h tk, R its.size bs cs vs → At A bs L ks cs vs h → wpAny (model prog w) A (execs orelse env) Q E' (St s h tk)) : LpE A E' L ks env target body orelse Q (.ref e) (St s h tk)
theorem w_ForE {iter : PySem.Expr} {elts : List PySem.Expr} {kk : Nat} {tp p : Pos} {body orelse : List Stmt} {Q : Flow → Shared → Prop} (ks : List Str) (hh : A.handled = none)
  (thr : ∀ e s', E' e s' → notedBy (model prog w) A env (fun e s' => cameBackBy (model prog w) A env E e s') e s')
  (hs : ∀ x, foldedSetIterable iter env x = pure x)
  (hx : wpAny (model prog w) A (eval iter env) (LpE A E' L ks env (.Tuple elts kk tp) body orelse Q) E (St s h tk)) :
  wpAny (model prog w) A (exec (.For (.Tuple elts kk tp) iter body orelse p) env) Q E (St s h tk) := by
 refine wpAny_For (wpAny_mono hx (fun v s₁ h₁ => ?_) fun _ _ q => q) hs
 induction h₁
 rename_i e it t g its bs cs vs h tk R ht H r0 rg turn done
 refine H.cells.getK (.head _) fun oe ee pk2 _ => ?_
 obtain ⟨old, rfl⟩ := pk2
 refine wpAny_pyIter_enum (s := St s h tk) (i := 0) ee ?_
 have nd := H.cells.nd
 simp only [List.map_cons, List.nodup_cons, List.mem_cons, not_or] at nd
 have hei : e ≠ it := nd.1.1
 have D : ∀ nt : t ≠ it, Draws prog w A.in1 it [it, t] its.size (fun i v => its[i]? = some v) (fun i h => h.IsTupleIter it t i ∧ h.IsTuple t its) := fun nt => draws_tup (A := A.in1) hh it t nt its
 refine codeAny_forLoop_any (fun m s' => ∃ i, m = its.size - i ∧ i ≤ its.size ∧ ForE A L ks e it t R i s') (fun m s' hI => ?_) (its.size - 0) ⟨0, rfl, Nat.zero_le _, .mk r0 H⟩
 obtain ⟨i, rfl, hi, hF⟩ := hI
 induction hF
 rename_i bs cs vs h tk r H
 refine H.cells.getK (.head _) fun oe ee pk2 _ => ?_
 obtain ⟨old, rfl⟩ := pk2
 refine H.cells.getK (.tail _ (.head _)) fun oi ei pi mi => ?_
 have ht' : IsTup h t its := isTup_ch ht (H.ch g (rg _ _ _ _ r))
 have nt : t ≠ it := fun q => by
  fin_once o1 fail
  obtain ⟨o, e1, c, _⟩ := ht'
  fin_once o2 fail
  rw [q, ei] at e1
  cases e1
  exact mutO_tup mi c
 have nte : t ≠ e := fun q => by
  fin_once o1 fail
  obtain ⟨o, e1, c, _⟩ := ht'
  fin_once o2 fail
  rw [q, ee] at e1
  cases e1
  have c : Value.type "enumerate" = Value.type "tuple" := c
  exact absurd c (by decide)
 have hef : e ∉ [it, t] := by simp [hei, nte.symm]
 have mE : ∀ T : Addr, ∀ o : Obj, (∃ x, o = { cls := .type "enumerate", dict := none, data := .fields #[rawInt T, .bool false, .ref it, rawInt ((i : Int) + 1), .none, x], slots := #[] }) → mutO o = true := fun T o q => by obtain ⟨x, rfl⟩ := q; rfl
 by_cases hlt : i < its.size
 ·refine wpAny_pyNext_enum_itemD (s := St s h tk) (D nt) ee ⟨⟨oi, ei, pi⟩, ht'⟩ hlt hei hef fun x h₁ tk₁ hx heo hst hT hsz hk => ?_
  have H₁ := H.kept2 (φ' := fun o => ∃ x, o = { cls := .type "enumerate", dict := none, data := .fields #[rawInt h.objs.size, .bool false, .ref it, rawInt ((i : Int) + 1), .none, x], slots := #[] }) (ψ' := TI t (i + 1)) (mE _) (fun o => TI.mut) ⟨_, heo, _, rfl⟩ hst.1 (fun c o a b => hk c o a b)
  refine wpAny_letOwnedTupleGo_enum (s := St s h₁ (tk₁ + 1)) heo fun h₂ he₂ hs₂ => ?_
  have H₂ := H₁.kept2 (φ' := EnO it (i + 1)) (ψ' := TI t (i + 1)) (fun o => EnO.mut) (fun o => TI.mut) ⟨_, he₂, x, rfl⟩ (by
   obtain ⟨o, e1, p1⟩ := hst.1
   exact ⟨o, (hs₂.2 _ hei.symm).trans e1, p1⟩) (fun c o a b e1 => (hs₂.2 c a).trans e1)
  have nT : h.objs.size ≠ e := Nat.ne_of_gt (Heap.lt_size ee)
  refine wpAny_mono (turn i x h.objs.size tk₁ bs cs vs h₂ _ hx r H₂ ⟨_, (hs₂.2 _ nT).trans hT, rfl, _, rfl⟩ _ fun _ _ q => q) (fun _ s₃ h₃ => wpAny_mono h₃ (fun f s₄ h₄ => ?_) thr) thr
  cases f with
  | next => exact ⟨its.size - (i + 1), by fin_once om fail, i + 1, rfl, hlt, h₄⟩
  | cont => exact ⟨its.size - (i + 1), by fin_once om fail, i + 1, rfl, hlt, h₄⟩
  | brk => exact h₄
  | ret v => exact h₄
 ·obtain rfl : i = its.size := by fin_once om fail
  refine wpAny_pyNext_enum_endD (s := St s h tk) (D nt) ee ⟨⟨oi, ei, pi⟩, ht'⟩ fun h₁ hx => ?_
  have H₁ : At A bs L ks cs vs h₁ := by
   have Hs := H.swap.lost (h' := h₁) fun b o n e1 => hx b o n e1
   exact Hs.sub (List.sublist_cons_self _ _)
  exact wpAny_mono (done bs cs vs h₁ tk r H₁) (fun _ _ q => q) thr
end
section
variable {A : Around} {E : Value → Shared → Prop}
theorem sliceApplied_upto2 {s : Shared} {sl : Addr} {n : Nat} {u : Tok} {Q : Int × Int × Nat → Shared → Prop} (hs : s.heap.IsSliceOf sl .none (.int 2 u) .none) (ha : 2 ≤ n) (h : Q (0, 1, 2) s) :
  wpAny (model prog w) A (Builtin.Slice.sliceApplied (.ref sl) (pure (n : Int))) Q E s := by
 fin_once o1 fail
 obtain ⟨os, hos, hcs, hds⟩ := id hs
 fin_once o2 fail
 unfold Builtin.Slice.sliceApplied Builtin.Slice.sliceFields
 refine wpAny_bind (wpAny_bind (wpAny_field hos hds (x := .none) rfl (wpAny_bind (wpAny_field hos hds (x := .int 2 u) rfl (wpAny_bind (wpAny_field hos hds (x := .none) rfl (wpAny_pure ?_)))))))
 refine wpAny_bind (slicePart_none ?_)
 show wpAny _ _ (if ((1 : Int) == 0) = true then _ else _) _ _ s
 rw [if_neg (by decide)]
 refine wpAny_bind (slicePart_none (wpAny_bind (slicePart_int (wpAny_bind (wpAny_pure ?_)))))
 show wpAny _ _ (match Builtin.Slice.sliceAdjust none (some (2 : Int)) 1 (n : Int) with | (lo, hi) => pure (lo, (1 : Int), Builtin.Slice.slicePlaces lo hi 1)) _ _ s
 have e1 : Builtin.Slice.sliceAdjust none (some (2 : Int)) 1 (n : Int) = (0, 2) := by
  unfold Builtin.Slice.sliceAdjust
  have h1 : ¬ ((1 : Int) < 0) := by fin_once om fail
  have h2 : ¬ ((2 : Int) < 0) := by fin_once om fail
  simp only [h1, h2, if_false]
  congr 1
  fin_once om fail
 rw [e1]
 exact wpAny_pure h
theorem getItem_tuple_upto2 {s : Shared} {t sl : Addr} {a b c : Value} {items : Array Value} {u : Tok} {Q : Value → Shared → Prop} (ht : IsTup s.heap t #[a, b, c]) (hs : s.heap.IsSliceOf sl .none (.int 2 u) .none)
  (h : Q (.ref s.heap.objs.size) { s with heap := s.heap.push { cls := .type "tuple", data := .seq #[a, b] } }) : wpAny (model prog w) A (getItem (.ref t) (.ref sl)) Q E s := by
 fin_once o1 fail
 obtain ⟨os, hos, hcs, hds⟩ := id hs
 fin_once o2 fail
 have hTs : s.TypeIs (.ref sl) "slice" := ⟨os, hos, hcs⟩
 unfold getItem
 try with_reducible refine wpAny_holding ?_
 first | refine wpAny_bind (wpAny_pure ?_) | skip
 refine wpAny_bind (wpAny_sequenceKey ht.typeIs (by decide) ?_)
 refine wpAny_bind (wpAny_callSpecial?_slot (name := Str.ofString "__getitem__") ht.typeIs slot_tuple_getitem
  (wpAny_call_entry slot_tuple_getitem ht.typeIs entry_tuple_getitem ?_ (args_tuple_getitem _ _)))
 show wpAny _ _ (Builtin.Tuple.tupleItemsOf (.ref t) >>= _) _ _ s
 refine wpAny_bind (tupleItemsOf_ ht ?_)
 refine wpAny_bind (wpAny_typeOf hTs ?_)
 rw [if_pos (by decide)]
 refine wpAny_bind (sliceApplied_upto2 (n := (#[a, b, c] : Array Value).size) hs (by show 2 ≤ 3; decide) ?_)
 show wpAny _ _ (if ((0 : Int) == 0 && (1 : Int) == 1 && (2 : Nat) == (3 : Nat)) = true then _ else _) _ _ s
 rw [if_neg (by decide)]
 show wpAny _ _ (Builtin.Tuple.tupleExact _ >>= _) _ _ s
 have hd : sizeOk (.seq (#[a, b] : Array Value)) := by show (2 : Nat) ≤ sizeLine; decide
 first
  | exact wpAny_bind (m := Builtin.Tuple.tupleExact _) (wpAny_newObj_type (wpAny_pure ⟨_, rfl, wpAny_pure h⟩) hd)
  | exact wpAny_bind (m := Builtin.Tuple.tupleExact _) (wpAny_newObj_type (wpAny_bind (wpAny_pure (wpAny_pure ⟨_, rfl, wpAny_pure h⟩))) hd)
  | exact wpAny_bind (wpAny_bind (m := Builtin.Tuple.tupleExact _) (wpAny_newObj_type (wpAny_pure (wpAny_pure ⟨_, rfl, wpAny_pure h⟩)) hd))
  | exact wpAny_bind (wpAny_bind (m := Builtin.Tuple.tupleExact _) (wpAny_newObj_type (wpAny_pure ⟨_, rfl, wpAny_pure h⟩) hd))
variable {h : Heap} {tk : Nat} {bs : List Heap} {env : Env} {L : Addr} {ks : List Str} {cs : List Cell} {vs : List (Option Value)}
theorem w_from1 {value slice : PySem.Expr} {t : Addr} {d : PyData} {ds : List PyData} {k : Nat} {p p2 : Pos} {Q : Value → Shared → Prop} (H : At A bs L ks cs vs h) (r : Rd h (.ref t) (.tuple (d :: ds))) (hz : ds.length ≤ 1000)
  (kk : ∀ t' h' tk', At A bs L ks cs vs h' → Ch [] h h' → Rd h' (.ref t') (.tuple ds) → Q (.ref t') (St s h' tk'))
  (hs : ∀ sl, subscripted slice false (.ref t) (.ref sl) = operate [.ref sl, .ref t] (getItem (.ref t) (.ref sl))) :
  wpAny (model prog w) A (eval (.Slice (some (.Constant (Const.int 1) k p)) none none p2) env) (fun i s₂ => wpAny (model prog w) A (subscriptTail value slice (.ref t) i) Q E s₂) E (St s h tk) := by
 fin_once o1 fail
 obtain ⟨t', its, q, ht, ra⟩ := r.tuple
 fin_once o2 fail
 cases q
 fin_once o1 fail
 obtain ⟨v0, vs0, e0, r0, ra0⟩ := readsAll_cons ra
 fin_once o2 fail
 have e1 := readsAll_len ra0
 refine wpAny_Slice ?_
 rw [evalPart_some, evalPart_none]
 refine w_int fun u tk₁ => wpAny_pure (wpAny_pure ?_)
 have H₁ := H.keep (Ch.push [] h { cls := .type "slice", data := .fields #[.int 1 u, .none, .none] })
 have c₁ := Ch.push [] h { cls := .type "slice", data := .fields #[.int 1 u, .none, .none] }
 have ht' := isTup_ch ht c₁
 have hsz : its.size ≤ sizeLine := by
  have : its.toList.length = ds.length + 1 := by rw [e0]; simp [e1]
  rw [Array.length_toList] at this
  exact Nat.le_trans (by fin_once om fail : _ ≤ 1001) (by decide)
 refine tail_any (s := St s _ tk₁) ht'.typeIs slot_tuple_getitem.lookup (getItem_tuple_from (a := 1) ht' (Heap.IsSliceOf.new ..) (Nat.le_refl _) (by
  have : its.toList.length = ds.length + 1 := by rw [e0]; simp [e1]
  rw [Array.length_toList] at this
  fin_once om fail) ?_ hsz) (hs _)
 have H₂ := H₁.keep (Ch.push [] _ { cls := .type "tuple", data := .seq (its.toList.drop 1).toArray })
 have c₂ := Ch.push [] (h.push { cls := .type "slice", data := .fields #[.int 1 u, .none, .none] }) { cls := .type "tuple", data := .seq (its.toList.drop 1).toArray }
 refine kk _ _ _ H₂ (c₁.trans c₂) ?_
 refine rd_tup (vs := vs0) ⟨_, Heap.get?_push_size _ rfl, rfl, 0, ?_⟩ (readsAll_ch ra0 (c₁.trans c₂))
 show Data.seq (its.toList.drop 1).toArray 0 = _
 rw [e0]
 rfl
theorem w_upto2 {value slice : PySem.Expr} {t : Addr} {d1 d2 d3 : PyData} {k : Nat} {p p2 : Pos} {Q : Value → Shared → Prop} (H : At A bs L ks cs vs h) (r : Rd h (.ref t) (.tuple [d1, d2, d3]))
  (kk : ∀ t' h' tk', At A bs L ks cs vs h' → Ch [] h h' → Rd h' (.ref t') (.tuple [d1, d2]) → Q (.ref t') (St s h' tk'))
  (hs : ∀ sl, subscripted slice false (.ref t) (.ref sl) = operate [.ref sl, .ref t] (getItem (.ref t) (.ref sl))) :
  wpAny (model prog w) A (eval (.Slice none (some (.Constant (Const.int 2) k p)) none p2) env) (fun i s₂ => wpAny (model prog w) A (subscriptTail value slice (.ref t) i) Q E s₂) E (St s h tk) := by
 fin_once o1 fail
 obtain ⟨t', its, q, ht, ra⟩ := r.tuple
 fin_once o2 fail
 cases q
 fin_once o1 fail
 obtain ⟨v0, vs0, e0, r0, ra0⟩ := readsAll_cons ra
 fin_once o2 fail
 obtain ⟨v1, vs1, rfl, r1, ra1⟩ := readsAll_cons ra0
 obtain ⟨v2, vs2, rfl, r2, ra2⟩ := readsAll_cons ra1
 cases readsAll_nil ra2
 have ht : IsTup h t #[v0, v1, v2] := by rw [← Array.toArray_toList (xs := its), e0] at ht; exact ht
 refine wpAny_Slice ?_
 rw [evalPart_some, evalPart_none]
 refine wpAny_pure (w_int fun u tk₁ => wpAny_pure ?_)
 have H₁ := H.keep (Ch.push [] h { cls := .type "slice", data := .fields #[.none, .int 2 u, .none] })
 have c₁ := Ch.push [] h { cls := .type "slice", data := .fields #[.none, .int 2 u, .none] }
 have ht' := isTup_ch ht c₁
 refine tail_any (s := St s _ tk₁) ht'.typeIs slot_tuple_getitem.lookup (getItem_tuple_upto2 (items := #[]) ht' (Heap.IsSliceOf.new ..) ?_) (hs _)
 have H₂ := H₁.keep (Ch.push [] _ { cls := .type "tuple", data := .seq #[v0, v1] })
 have c₂ := Ch.push [] (h.push { cls := .type "slice", data := .fields #[.none, .int 2 u, .none] }) { cls := .type "tuple", data := .seq #[v0, v1] }
 refine kk _ _ _ H₂ (c₁.trans c₂) ?_
 exact rd_tup (vs := [v0, v1]) ⟨_, Heap.get?_push_size _ rfl, rfl, _, rfl⟩ (.cons (as := []) (bs := []) (r0.ch (c₁.trans c₂)) (.cons (as := []) (bs := []) (r1.ch (c₁.trans c₂)) .nil))
theorem w_ne_none_str {x : Str} {t : Tok} {Q : Value → Shared → Prop} (k : Q (.bool true) (St s h tk)) : wpAny (model prog w) A (compareOp .NotEq .none (.str x t)) Q E (St s h tk) := PySem.EqNone.ne_none_str k
end
omit rt0 in
theorem rd_got {h : Heap} {v : Value} {o : Option Str} (g : GotV v o) : Rd h v (optD o) := by
 rcases g with ⟨rfl, rfl⟩ | ⟨y, t, rfl, rfl⟩
 ·exact Reads.none
 ·exact Reads.str _ _
noncomputable def kOf (K : List (Str × Str)) (p : Str) : Str := (at? K p).getD (Str.ofString "mod")
noncomputable def inSp (K : List (Str × Str)) (p want : Str) : Bool := match at? K p with | none => false | some k => decide (want ∈ spacesF k)
noncomputable def wantF (sp : Str) (r : List Str) : Str := if r = [] then sp else Str.ofString "type"
noncomputable def gStep (K : List (Str × Str)) (links : List Lnk) (rec : Lnk → Str → Option Str) (here x w : Str) : Option Str :=
 if kOf K here = Str.ofString "enum" then (if at? K (J here x) = some (Str.ofString "variant") then some (J here x) else none)
 else if kOf K here ≠ Str.ofString "mod" then none
 else if inSp K (J here x) w = true then some (J here x)
 else (links.find? (fun l => decide (l.1 = here) && decide (l.2.1 = x))).bind fun l => rec l w
inductive GS (K : List (Str × Str)) (links : List Lnk) (rec : Lnk → Str → Option Str) (here x w : Str) : Str → Prop where
 | v (a : kOf K here = Str.ofString "enum") (b : at? K (J here x) = some (Str.ofString "variant")) : GS K links rec here x w (J here x)
 | s (a : ¬ kOf K here = Str.ofString "enum") (b : kOf K here = Str.ofString "mod") (c : inSp K (J here x) w = true) : GS K links rec here x w (J here x)
 | u {l : Lnk} {h : Str} (a : ¬ kOf K here = Str.ofString "enum") (b : kOf K here = Str.ofString "mod") (c : ¬ inSp K (J here x) w = true) (f : links.find? (fun l => decide (l.1 = here) && decide (l.2.1 = x)) = some l) (e : rec l w = some h) : GS K links rec here x w h
omit rt0 in
theorem GS.of {K : List (Str × Str)} {links : List Lnk} {rec : Lnk → Str → Option Str} {here x w h : Str} (e : gStep K links rec here x w = some h) : GS K links rec here x w h := by
 unfold gStep at e
 by_cases e1 : kOf K here = Str.ofString "enum"
 ·rw [if_pos e1] at e
  by_cases e2 : at? K (J here x) = some (Str.ofString "variant")
  ·rw [if_pos e2] at e
   cases e
   exact .v e1 e2
  ·rw [if_neg e2] at e; cases e
 ·rw [if_neg e1] at e
  by_cases e2 : kOf K here = Str.ofString "mod"
  ·rw [if_neg (not_not_intro e2)] at e
   by_cases e3 : inSp K (J here x) w = true
   ·rw [if_pos e3] at e
    cases e
    exact .s e1 e2 e3
   ·rw [if_neg e3] at e
    obtain ⟨l, f, e⟩ := Option.bind_eq_some_iff.mp e
    exact .u e1 e2 e3 f e
  ·rw [if_pos e2] at e; cases e
omit rt0 in
theorem GS.eq {K : List (Str × Str)} {links : List Lnk} {rec : Lnk → Str → Option Str} {here x w h : Str} (q : GS K links rec here x w h) : gStep K links rec here x w = some h := by
 unfold gStep
 induction q with
 | v a b => rw [if_pos a, if_pos b]
 | s a b c => rw [if_neg a, if_neg (not_not_intro b), if_pos c]
 | u a b c f e => rw [if_neg a, if_neg (not_not_intro b), if_neg c, f]; exact e
noncomputable def gLoop (K : List (Str × Str)) (links : List Lnk) (rec : Lnk → Str → Option Str) (space : Str) : Str → List Str → Option Str
 | here, [] => if space = Str.ofString "value" ∧ kOf K here = Str.ofString "mod" then none else some here
 | here, x :: r => (gStep K links rec here x (wantF space r)).bind fun h => gLoop K links rec space h r
noncomputable def eLoop (K : List (Str × Str)) (links : List Lnk) (rec : List Str → Str → Option Str) : Str → Str → List Str → Option Str := gLoop K links fun l s => rec l.2.2.tail s
section
variable {K : List (Str × Str)} {links : List Lnk} {rec : Lnk → Str → Option Str}
omit rt0
theorem gLoop_n {space here : Str} : gLoop K links rec space here [] = if space = Str.ofString "value" ∧ kOf K here = Str.ofString "mod" then none else some here := rfl
theorem gLoop_c {space here x : Str} {r : List Str} : gLoop K links rec space here (x :: r) = (gStep K links rec here x (wantF space r)).bind fun h => gLoop K links rec space h r := rfl
theorem gLoop_s {space here x h a : Str} {r : List Str} (q : GS K links rec here x (wantF space r) a) (e : gLoop K links rec space a r = some h) : gLoop K links rec space here (x :: r) = some h := by
 rw [gLoop_c, q.eq]; exact e
theorem gLoop_o {space here x h : Str} {r : List Str} (e : gLoop K links rec space here (x :: r) = some h) : ∃ a, GS K links rec here x (wantF space r) a ∧ gLoop K links rec space a r = some h :=
 (Option.bind_eq_some_iff.mp e).imp fun _ q => ⟨.of q.1, q.2⟩
end
noncomputable def endF (K : List (Str × Str)) (links : List Lnk) : Nat → List Str → Str → Option Str
 | 0, ns, sp => eLoop K links (fun _ _ => none) sp (Str.ofString "") ns
 | n + 1, ns, sp => eLoop K links (endF K links n) sp (Str.ofString "") ns
noncomputable def recF (K : List (Str × Str)) (links : List Lnk) : Nat → List Str → Str → Option Str
 | 0 => fun _ _ => none
 | n + 1 => endF K links n
omit rt0 in
theorem endF_eq (K : List (Str × Str)) (links : List Lnk) (n : Nat) (ns : List Str) (sp : Str) : endF K links n ns sp = eLoop K links (recF K links n) sp (Str.ofString "") ns := by
 cases n <;> rfl
noncomputable def Sg (x : Str) : Prop := x.length ≤ 100 ∧ PyData.strOk x = true
structure KOk (K : List (Str × Str)) : Prop where
 p : ∀ p k, at? K p = some k → Sg p ∧ Sg k
 z : K.length ≤ 1000
structure LkOk (links : List Lnk) : Prop where
 z : links.length ≤ 10
 s : ∀ l ∈ links, Sg l.1 ∧ Sg l.2.1 ∧ (∃ x r, l.2.2 = x :: r) ∧ l.2.2.length ≤ 20 ∧ ∀ x ∈ l.2.2, Sg x
omit rt0 in
theorem Sg.e : Sg (Str.ofString "") := ⟨by decide +kernel, by decide +kernel⟩
omit rt0 in
theorem Sg.ty : Sg (Str.ofString "type") := ⟨by decide +kernel, by decide +kernel⟩
omit rt0 in
theorem in_sp {K : List (Str × Str)} {p w : Str} (q : inSp K p w = true) : ∃ k, at? K p = some k ∧ w ∈ spacesF k := by
 unfold inSp at q
 split at q
 ·cases q
 ·rename_i k hk
  exact ⟨k, hk, of_decide_eq_true q⟩
theorem eLoop_sg {K : List (Str × Str)} {links : List Lnk} {rec : List Str → Str → Option Str} {sp : Str} (O : KOk K) (hr : ∀ ns sp h, rec ns sp = some h → Sg h) (ns : List Str) : ∀ (here h : Str), Sg here → eLoop K links rec sp here ns = some h → Sg h := by
 induction ns with
 | nil =>
  intro here h s e
  rw [eLoop, gLoop_n] at e
  split at e
  ·cases e
  ·cases e; exact s
 | cons x r ih =>
  intro here h s e
  obtain ⟨a, q, e⟩ := gLoop_o e
  refine ih a h ?_ e
  induction q with
  | v _ b => exact (O.p _ _ b).1
  | s _ _ c => exact (O.p _ _ (in_sp c).choose_spec.1).1
  | u _ _ _ _ q => exact hr _ _ _ q
theorem endF_sg {K : List (Str × Str)} {links : List Lnk} (O : KOk K) : ∀ (n : Nat) (ns : List Str) (sp h : Str), endF K links n ns sp = some h → Sg h
 | 0, ns, sp, h, e => eLoop_sg O (fun _ _ _ q => by cases q) ns _ h Sg.e e
 | n + 1, ns, sp, h, e => eLoop_sg O (fun ns sp h q => endF_sg O n ns sp h q) ns _ h Sg.e e
section
variable {A : Around} {E : Value → Shared → Prop} {g h : Heap} {bs : List Heap} {tk : Nat} {L : Addr} {ks : List Str} {cs : List Cell} {vs : List (Option Value)} {P : Addr → Prop} {d : Addr} {K : List (Str × Str)}
theorem w_dgetD {x y : Str} {t u : Tok} {Q : Value → Shared → Prop} (D : DctP P g d IsS K) (H : At A bs L ks cs vs h) (mb : g ∈ bs) (k : ∀ t' tk', Q (.str ((at? K x).getD y) t') (St s h tk')) :
  wpAny (model prog w) A (call (.builtin "dict.get") [.ref d, .str x t, .str y u]) Q E (St s h tk) := by
 fin_once o1 fail
 obtain ⟨o, kvs, _, lo, e, D, T⟩ := D
 fin_once o2 fail
 refine w_dget2 ((H.ch g mb).same _ _ e (by fin_once sm fail) (mutO_fr D.mut)) D lo ?_
 cases q : at? K x with
 | none =>
  rw [T.none q]
  rw [q] at k
  exact k u _
 | some a =>
  obtain ⟨v, q', t', rfl⟩ := T.some q
  rw [q']
  rw [q] at k
  exact k t' _
theorem w_dgetBV {x : Str} {t : Tok} {Q : Value → Shared → Prop} (D : DctP P g d IsS K) (H : At A bs L ks cs vs h) (mb : g ∈ bs) (k : ∀ v tk', GotV v (at? K x) → Q v (St s h tk')) :
  wpAny (model prog w) A (call (.builtin "dict.get") [.ref d, .str x t]) Q E (St s h tk) :=
 w_dgetB D H mb (fun a v tk' e ⟨t, r⟩ => k _ tk' (.inr ⟨a, t, r, e⟩)) fun tk' e => k _ tk' (.inl ⟨rfl, e⟩)
theorem w_eq_nil {l b : Addr} {its : Array Value} {Q : Value → Shared → Prop} (hl : h.IsList l its) (hb : h.IsList b #[]) (hu : A.units + 10 < cLine) (k : Q (.bool (decide (its.size = 0))) (St s h tk)) : wpAny (model prog w) A (compareOp .Eq (.ref l) (.ref b)) Q E (St s h tk) := by
 by_cases e : its.size = 0
 ·obtain rfl : its = #[] := Array.eq_empty_of_size_eq_zero e
  fin_once o1 fail
  obtain ⟨o, e1, e2, n, e3⟩ := hl
  obtain ⟨o', f1, f2, n', f3⟩ := hb
  fin_once o2 fail
  refine w_eq (Reads.list (as := []) e1 e2 e3 .nil) (Reads.list (as := []) f1 f2 f3 .nil) (by decide) (by decide) ?_ (by rw [decide_eq_true (by fin_once sm fail)] at k; exact k)
  have : PyData.depth (.list []) = 1 := rfl
  rw [this]; fin_once om fail
 ·rw [decide_eq_false e] at k
  exact PySem.SeqAt.RcAt.lists_lengths (s := St s h tk) hl hb (by simpa using e) (by fin_once om fail) prog w E Q k
end
omit rt0 in
theorem eqv_two {a b c d : Str} : PyData.eqv (.tuple [.str a, .str b]) (.tuple [.str c, .str d]) = (decide (a = c) && decide (b = d)) := by
 show ((a == c) && ((b == d) && true)) = _
 rw [Bool.and_true]
 have e : ∀ u v : Str, (u == v) = decide (u = v) := fun u v => by
  by_cases q : u = v
  ·subst q; simp
  ·rw [beq_eq_false_iff_ne.mpr q, decide_eq_false q]
 rw [e, e]
noncomputable def EndC (P : Addr → Prop) (K : List (Str × Str)) (links : List Lnk) (d ls : Addr) (n : Nat) : Prop := ∀ {A : Around} {E : Value → Shared → Prop} {h : Heap} {tk : Nat} {Q : Value → Shared → Prop} {lits : Array Value} {v : Value} {ns : List Str} {sp : Str} {ts tn : Tok},
 Cx (Mine.hd.heap_1 w.params) A h (2 * n + 3) → A.handled = none → DctP P h d IsS K → h.IsList ls lits → ReadsAll h lits.toList (links.map lnkD) [] → Rd h v (strsD ns) → ns.length ≤ 100 → (∀ x ∈ ns, Sg x) → Sg sp →
 (∀ v h' tk', Ch [] h h' → GotV v (endF K links n ns sp) → Q v (St s h' tk')) → wpAny (model prog w) A (call (.ref 332) [.ref d, .ref ls, v, .str sp ts, .int n tn]) Q E (St s h tk)
inductive REn (K : List (Str × Str)) (links : List Lnk) (d ls tns nn : Addr) (sp : Str) (ts tn : Tok) (n : Nat) (ns : List Str) (h : Heap) : Nat → List Heap → List Cell → List (Option Value) → Prop
 | mk {i : Nat} {here : Str} {th : Tok} {o1 o2 o3 o4 o5 : Option Value} (sg : Sg here) (inv : eLoop K links (recF K links n) sp here (ns.drop i) = endF K links n ns sp) : REn K links d ls tns nn sp ts tn n ns h i [h] [(nn + 2, CellO o1), (nn + 1, CellO o2), (nn, CellO (some (.str here th)))] [some (.ref d), some (.ref ls), some (.ref tns), some (.str sp ts), some (.int n tn), o3, o4, o5]
inductive PEn (A' : Around) (L e it d ls tns nn : Addr) (sp here x want : Str) (ts tn th tx tt : Tok) (n i : Nat) (o1 o4 o5 : Option Value) (h : Heap) : Value → Shared → Prop
 | mk {wl : Addr} {g1 h' : Heap} {tk' : Nat} {tw : Tok} (H : At A' [g1, h] L ["kinds", "links", "names", "space", "steps", "at", "path", "some"] [(e, EnO it (i + 1)), (it, TI tns (i + 1)), (nn + 2, CellO o1), (nn + 1, CellO (some (.str x tx))), (nn, CellO (some (.str here th)))] [some (.ref d), some (.ref ls), some (.ref tns), some (.str sp ts), some (.int n tn), some (.int i tt), o4, o5] h') (gl : g1.IsList wl #[.str want tw]) :
   PEn A' L e it d ls tns nn sp here x want ts tn th tx tt n i o1 o4 o5 h (.ref wl) (St s h' tk')
theorem c_end {P : Addr → Prop} {K : List (Str × Str)} {links : List Lnk} {d ls : Addr} (O : KOk K) (LO' : LkOk links) {n : Nat} (ih : ∀ m, n = m + 1 → EndC P K links d ls m) : EndC P K links d ls n := by
 intro A E h tk Q lits v ns sp ts tn C hh Dk hl rl rv nz nsg spg k
 obtain ⟨tns, its, rfl, hti, rits⟩ := rv.tuple
 refine fnC (bs := [h]) (cs := []) [("kinds", .ref d), ("links", .ref ls), ("names", .ref tns), ("space", .str sp ts), ("steps", .int n tn)] ["kinds", "links", "names", "space", "steps", "at", "path", "some"] ["_law_joined", "_law_spaces", "_law_end", "enumerate", "len"] (fun n => [(n + 2, CellO none), (n + 1, CellO none), (n, CellO none)]) [some (.ref d), some (.ref ls), some (.ref tns), some (.str sp ts), some (.int n tn), none, none, none] C.t (.head _) (by simp [Ch.refl]) Cells.nil (by fin_once sm fail) C.ff ⟨_, .head _, C.hd⟩ (by k_is) (by k_is) C.r.room (BindsTo.of_eq rfl) (by decide +kernel) (by decide +kernel) (by decide +kernel) rfl rfl rfl ?_ ?_
 ·intro n env hs hc
  have lo : ∀ x ∈ ["kinds", "links", "names", "space", "steps"], env.kindOf x = some .local := by
   intro x hx
   unfold Env.kindOf
   rw [hs]
   revert x
   decide +kernel
  exact .loc (lo _ (by fin_once sm fail)) (.head) (.loc (lo _ (by fin_once sm fail)) (.tail .head) (.loc (lo _ (by fin_once sm fail)) (.tail (.tail .head)) (.loc (lo _ (by fin_once sm fail)) (.tail (.tail (.tail .head))) (.loc (lo _ (by fin_once sm fail)) (.tail (.tail (.tail (.tail .head)))) .nil))))
 intro nn env L h₁ tk₁ F H hc hs hcl
 dsimp only [List.cons_append, List.nil_append] at H
 have c1 : Cv env "here" nn := ⟨by unfold Env.kindOf; rw [hs]; rfl, by rw [hcl]; rfl⟩
 have c2 : Cv env "name" (nn + 1) := ⟨by unfold Env.kindOf; rw [hs]; rfl, by rw [hcl]; rfl⟩
 have c3 : Cv env "wanted" (nn + 2) := ⟨by unfold Env.kindOf; rw [hs]; rfl, by rw [hcl]; rfl⟩
 have hk : env.scope.kind = .function := F.kind
 have V := F.nv
 have T := C.t
 have R : Rm (A.deeper env) (2 * n + 2) := C.r.deeper (by fin_once om fail)
 have hh' : (A.deeper env).handled = none := hh
 fin_once gg fail
 rename At _ _ _ _ _ _ _ => H0
 have lz : its.size = ns.length := by rw [← Array.length_toList, readsAll_len rits, List.length_map]
 refine w_ForE (E' := No) (L := L) ["kinds", "links", "names", "space", "steps", "at", "path", "some"] hh' thr_no (fun _ => rfl) ?_
 fin_once gg fail
 refine w_enum H0 (isTup_ch hti (H0.ch h (by fin_once sm fail))) fun e it h₂ H₂ c₂ => ?_
 fin_once gg fail
 refine .mk (REn K links d ls tns nn sp ts tn n ns h) hti H₂ (.mk Sg.e (by rw [endF_eq]; rfl)) (fun i bs cs vs hR => ?_) (fun i v TA tt bs cs vs h₃ tk₃ hv hR H₃ hT Tz hTz => ?_) fun bs cs vs h₃ tk₃ hR H₃ => ?_
 ·induction hR; simp
 ·induction hR
  rename_i here th o1 o2 o3 o4 o5 sgh inv
  have hi : i < its.size := (Array.getElem?_eq_some_iff.mp hv).1
  obtain ⟨x, hx⟩ : ∃ x, ns[i]? = some x := ⟨_, List.getElem?_eq_getElem (by fin_once om fail)⟩
  obtain ⟨tx, rfl⟩ := strsAre_get (strsAre_of rits) (by rw [Array.getElem?_toList]; exact hv) hx
  have sgx : Sg x := nsg x (List.mem_of_getElem? hx)
  obtain ⟨rr, hrr⟩ : ∃ rr, rr = ns.drop (i + 1) := ⟨_, rfl⟩
  have hdrop : ns.drop i = x :: rr := by
   rw [hrr, List.drop_eq_getElem_cons (by fin_once om fail)]
   rw [List.getElem?_eq_getElem (by fin_once om fail)] at hx
   cases hx; rfl
  rw [hdrop] at inv
  refine w_assignT H₃ hT rfl rfl fun h₄ H₄ _ => wpAny_assignInOrder_more (w_assign H₄ F (by fin_once lk fail) fun h₅ tk₅ H₅ => wpAny_assignInOrder_more (w_cassign H₅ hk c2 (by fin_once turn fail) fun h₆ H₆ => wpAny_assignInOrder_none ?_))
  refine w_seq ?_
  fin_once gg fail
  refine w_lenT (rv.ch (H₆.ch h (by fin_once sm fail))) (by simp; fin_once om fail) fun u2 tk₆ => ?_
  fin_once gg fail
  obtain ⟨want, hwant⟩ : ∃ want, want = wantF sp rr := ⟨_, rfl⟩
  have sgw : Sg want := by
   rw [hwant]; unfold wantF
   split
   ·exact spg
   ·exact Sg.ty
  refine w_ifj (PEn (A.deeper env) L e it d ls tns nn sp here x want ts tn th tx tt n i o1 o4 o5 h) (fun eq => ?_) (fun eq => ?_) fun v s' q => ?_
  ·fin_once gg fail
   refine w_newListG H₆ F (by fin_once sm fail) fun wl g1 h₇ H₇ _ _ gl _ _ => ?_
   refine .mk (tw := ts) H₇ ?_
   have : rr = [] := by
    rw [hrr]
    simp at eq
    exact List.drop_of_length_le (by fin_once om fail)
   rw [hwant, this]
   exact gl
  ·fin_once gg fail
   refine w_newListG H₆ F (by fin_once sm fail) fun wl g1 h₇ H₇ _ _ gl _ _ => ?_
   have : rr ≠ [] := by
    rw [hrr]
    simp at eq
    intro q
    rw [List.drop_eq_nil_iff] at q
    fin_once om fail
   have hw : Str.ofString "type" = want := by rw [hwant, wantF, if_neg this]
   rw [hw] at gl
   exact .mk H₇ gl
  induction q
  rename_i wl g1 h₇ tk₇ tw H₇ gwl
  fin_once gg fail
  rename At _ _ _ _ _ _ _ => H₈
  refine c_ljoined (H₈.cx T (by fin_once sm fail) R (by fin_once om fail)) (by have := sgh.1; fin_once om fail) (by have := sgx.1; fin_once om fail) fun tp h₉ tk₉ c₉ => ?_
  have H₉ := H₈.keep c₉
  obtain ⟨path, hpath⟩ : ∃ path, path = J here x := ⟨_, rfl⟩
  rw [← hpath]
  fin_once gg fail
  rename At _ _ _ _ _ _ _ => Ha
  clear H₉ H₈ H₇ H₆ H₅ H₄ H₃ H₂ H0 H
  have unroll := inv
  rw [eLoop, gLoop_c, gStep, ← hpath, ← hwant] at unroll
  have unroll := unroll
  refine w_dgetD Dk Ha (by fin_once sm fail) fun t1 tk₁₁ => ?_
  rw [show (at? K here).getD (Str.ofString "mod") = kOf K here from rfl]
  have stay : ∀ {bs' here' th' o1' o2' o4' o5' h' tk'}, At (A.deeper env) bs' L ["kinds", "links", "names", "space", "steps", "at", "path", "some"] [(e, EnO it (i + 1)), (it, TI tns (i + 1)), (nn + 2, CellO o1'), (nn + 1, CellO o2'), (nn, CellO (some (.str here' th')))] [some (.ref d), some (.ref ls), some (.ref tns), some (.str sp ts), some (.int n tn), some (.int i tt), o4', o5'] h' → h ∈ bs' → Sg here' → eLoop K links (recF K links n) sp here' rr = endF K links n ns sp →
    ForE (A.deeper env) L ["kinds", "links", "names", "space", "steps", "at", "path", "some"] e it tns (REn K links d ls tns nn sp ts tn n ns h) (i + 1) (St s h' tk') := fun H' mb sg e1 =>
   .mk (.mk sg (by rw [← hrr]; exact e1)) (H'.drop (fun b hb => by rw [List.mem_singleton.mp hb]; exact mb) ⟨h, .head _, C.hd⟩)
  have quit : ∀ {h' tk'}, Ch [] h h' → endF K links n ns sp = none → Q .none (St s h' tk') := fun c e1 => k _ _ _ c (.inl ⟨rfl, e1⟩)
  fin_once gg fail
  refine w_ite (fun e1 => ?_) fun e1 => ?_
  ·have e1 : kOf K here = Str.ofString "enum" := by simpa using e1
   rw [if_pos e1] at unroll
   have unroll := unroll
   fin_once gg fail
   refine w_dgetBV Dk Ha (by fin_once sm fail) fun v3 tk₁₂ hv3 => ?_
   rcases hv3 with ⟨rfl, ev⟩ | ⟨y, ty, rfl, ev⟩
   ·fin_once gg fail
    refine w_ne_none_str ?_
    fin_once gg fail
    rw [ev, if_neg (by fin_once sm fail)] at unroll
    exact quit (Ha.ch h (by fin_once sm fail)) unroll.symm
   ·fin_once gg fail
    refine w_ite (fun e2 => ?_) fun e2 => ?_
    ·have e2 : ¬ y = Str.ofString "variant" := by simpa using e2
     rw [ev, if_neg (by simpa using e2)] at unroll
     fin_once gg fail
     exact quit (Ha.ch h (by fin_once sm fail)) unroll.symm
    ·have e2 : y = Str.ofString "variant" := by simpa using e2
     rw [ev, e2, if_pos rfl] at unroll
     fin_once gg fail
     rename At _ _ _ _ _ _ _ => Hb
     exact tf_next (stay Hb (by fin_once sm fail) (O.p _ _ ev).1 unroll)
  ·have e1 : ¬ kOf K here = Str.ofString "enum" := by simpa using e1
   rw [if_neg e1] at unroll
   have unroll := unroll
   fin_once gg fail
   refine w_dgetD Dk Ha (by fin_once sm fail) fun t2 tk₁₂ => ?_
   rw [show (at? K here).getD (Str.ofString "mod") = kOf K here from rfl]
   fin_once gg fail
   refine w_ite (fun e2 => ?_) fun e2 => ?_
   ·have e2 : kOf K here ≠ Str.ofString "mod" := by simpa using e2
    rw [if_pos e2] at unroll
    fin_once gg fail
    exact quit (Ha.ch h (by fin_once sm fail)) unroll.symm
   ·have e2 : kOf K here = Str.ofString "mod" := by simpa using e2
    rw [if_neg (by simpa using e2)] at unroll
    have unroll := unroll
    refine w_seq (wpAny_If ?_)
    refine w_opQ (fun b s' => b = inSp K path want ∧ ∃ h' tk', s' = St s h' tk' ∧ At (A.deeper env) [g1, h] L ["kinds", "links", "names", "space", "steps", "at", "path", "some"] [(e, EnO it (i + 1)), (it, TI tns (i + 1)), (nn + 2, CellO (some (.ref wl))), (nn + 1, CellO (some (.str x tx))), (nn, CellO (some (.str here th)))] [some (.ref d), some (.ref ls), some (.ref tns), some (.str sp ts), some (.int n tn), some (.int i tt), some (.str path tp), o5] h') (fun X hX => ?_) (fun b s' q => ?_)
    ·refine Ha.opC fun CT hCT mT Ha => ?_
     have m2 := mT (c := (nn + 2, CellO _)) (by fin_once lk fail)
     clear mT
     refine Ha.opE fun VT hVT lv Ha => ?_
     have v0 := lv (x := "kinds") (by fin_once lk fail)
     have v1 := lv (x := "path") (by fin_once lk fail)
     clear lv
     fin_once gg fail
     refine w_dinB Dk Ha (by fin_once sm fail) fun tk₁₃ => ?_
     fin_once gg fail
     refine w_ite (fun e3 => ?_) fun e3 => ?_
     ·obtain ⟨kk, hkk⟩ := Option.isSome_iff_exists.mp e3
      fin_once gg fail
      have spz : ∀ kk y, y ∈ spacesF kk → PyData.strOk y = true := by
       intro kk y hy
       have l1 : ∀ y ∈ bothL, PyData.strOk y = true := by decide +kernel
       have l2 : ∀ y ∈ valueL, PyData.strOk y = true := by decide +kernel
       have l3 : ∀ y ∈ typeL, PyData.strOk y = true := by decide +kernel
       unfold spacesF at hy
       split at hy
       ·exact l1 y hy
       ·split at hy
        ·exact l2 y hy
        ·exact l3 y hy
      have spl : ∀ kk, (spacesF kk).length ≤ 2 := by
       intro kk
       unfold spacesF
       split
       ·decide
       ·split <;> decide
      refine w_comp (L := L) (ks := ["kinds", "links", "names", "space", "steps", "at", "path", "some"]) [] (fun i ys => ys.length ≤ i ∧ decide (ys ≠ []) = ((spacesF kk).take i).any fun y => decide (want = y)) V (cl := [("wanted", nn + 2)]) (by simp [closureFor, cellOf, c3.l]) (by decide +kernel) rfl (by decide +kernel) (by decide +kernel) rfl (fun _ => rfl) (fun i ys h => h.1) ⟨Nat.le_refl _, by fin_once sm fail⟩ ?_
      fin_once gg fail
      refine w_ditemB Dk Ha (by fin_once sm fail) hkk (fun v4 tk₁₄ rv4 => ?_) (by with_unfolding_all rfl)
      obtain ⟨tk4, rfl⟩ := rv4
      fin_once gg fail
      refine c_spaces (Ha.cx T (by fin_once sm fail) R (by fin_once om fail)) (O.p _ _ hkk).2.2 fun sl hb tkb sits cb sil ssa => ?_
      refine (Ha.keep cb).nowK F fun g2 xg2 Hb kp2 => ?_
      have nsl : ∀ c ∈ CT, c.1 ≠ sl := fun c hc q => by
       fin_once o1 fail
       obtain ⟨o, eo, po, _⟩ := (Ha.keep cb).cells.all c hc
       obtain ⟨o', eo', co', _⟩ := sil
       fin_once o2 fail
       rw [q, eo'] at eo
       cases eo
       rw [hCT] at hc
       simp only [List.mem_cons, List.not_mem_nil, or_false] at hc
       rcases hc with rfl | rfl | rfl | rfl | rfl
       ·obtain ⟨old, rfl⟩ := po
        exact absurd (show Value.type "enumerate" = Value.type "list" from co') (by decide)
       ·rw [po.1] at co'; exact absurd co' (by decide)
       ·rw [po.1] at co'; exact absurd co' (by decide)
       ·rw [po.1] at co'; exact absurd co' (by decide)
       ·rw [po.1] at co'; exact absurd co' (by decide)
      have gsl : g2.IsList sl sits := by
       fin_once o1 fail
       obtain ⟨o, e, c, r⟩ := sil
       fin_once o2 fail
       exact ⟨o, kp2 _ _ e (mutO_fr (mutO_list c)) nsl, c, r⟩
      refine wpAny_pyIter_list (s := St s hb tkb) sil ?_
      have ne : sl ≠ hb.objs.size := by obtain ⟨o, e, _⟩ := sil; exact Nat.ne_of_lt (Heap.lt_size e)
      have sz : sits.size = (spacesF kk).length := by have := ssa.length; rwa [Array.length_toList] at this
      refine .mk (Itr.list hh' ne gsl (fun i v s Q E st q => own_name q)) (.head _) (Hb.push ⟨rfl, rfl⟩ rfl rfl) (by have := spl kk; fin_once om fail) (fun j v5 bs' C' D ys hc tkc hj hv5 hR sub Hc V' => ?_) fun D ys hc tkc hR Hc => ?_
      ·have x3 := V'.cv c3 hk rfl rfl
       have hk' := V'.kind
       refine wpAny_tests_one ?_
       obtain ⟨y, hy⟩ : ∃ y, (spacesF kk)[j]? = some y := ⟨_, List.getElem?_eq_getElem (by fin_once om fail)⟩
       obtain ⟨t5, rfl⟩ := strsAre_get ssa (by rw [Array.getElem?_toList]; exact hv5) hy
       fin_once gg fail
       have gw := isList_ch gwl (Hc.ch g1 (sub _ (by fin_once sm fail)))
       refine w_inL (xs := [.str want]) (Reads.list (as := []) gw.choose_spec.1 gw.choose_spec.2.1 gw.choose_spec.2.2.choose_spec (.cons (as := []) (bs := []) (.str _ _) .nil)) (.str _ _) (by simp [PyData.canLayAll0, PyData.canLay0, sgw.2]) (spz kk y (List.mem_of_getElem? hy)) ?_ ?_
       ·exact R.un1 rfl
       rw [show ([PyData.str want].any fun z => PyData.eqv z (.str y)) = decide (want = y) from by
        show ((want == y) || false) = _
        by_cases q : want = y
        ·subst q; simp
        ·rw [beq_eq_false_iff_ne.mpr q, decide_eq_false q]; rfl]
       have tkq : ((spacesF kk).take (j + 1)).any (fun y => decide (want = y)) = (((spacesF kk).take j).any (fun y => decide (want = y)) || decide (want = y)) := by
        rw [List.take_add_one, hy, List.any_append]
        simp
       fin_once gg fail
       refine w_ite (fun e4 => ?_) fun e4 => ?_
       ·fin_once gg fail
        refine .mk ⟨by simp; exact hR.1, ?_⟩ Hc
        rw [tkq, e4, Bool.or_true]
        simp
       ·refine .mk ⟨by have := hR.1; fin_once om fail, ?_⟩ Hc
        rw [tkq, e4, Bool.or_false]
        exact hR.2
      ·fin_once gg fail
       refine w_newList Hc (by fin_once sm fail) fun hd Hd cd l₃ _ => ?_
       refine Hd.cells.getK (a := D) (φ := LO ys) (.head _) fun o ed1 pk2 _ => ?_
       obtain ⟨ed2, n2, ed3⟩ := pk2
       refine w_ne_nil ⟨o, ed1, ed2, n2, ed3⟩ l₃ (R.un0 rfl) ?_
       have ek : decide (ys.toArray.size ≠ 0) = inSp K path want := by
        have := hR.2
        rw [sz, List.take_length] at this
        unfold inSp
        rw [hkk]
        show decide (ys.toArray.size ≠ 0) = decide (want ∈ spacesF kk)
        rw [List.size_toArray]
        have e7 : decide (ys.length ≠ 0) = decide (ys ≠ []) := by congr 1; simp
        rw [e7, this]
        rw [Bool.eq_iff_iff]
        simp
       rw [ek]
       have Hd := (Hd.sub (List.sublist_cons_self _ _)).drop (bs' := [g1, h]) (fun b hb => .tail _ hb) ⟨h, by fin_once sm fail, C.hd⟩
       rw [hCT, hVT] at Hd
       have Hd := Hd
       fin_once gg fail
       refine w_ite (fun e5 => ?_) fun e5 => ?_
       ·fin_once gg fail
        exact hX _ _ ⟨e5.symm, _, _, rfl, Hd⟩
       ·fin_once gg fail
        exact hX _ _ ⟨e5.symm, _, _, rfl, Hd⟩
     ·fin_once gg fail
      rw [hCT, hVT] at Ha
      refine hX _ _ ⟨?_, _, _, rfl, Ha⟩
      unfold inSp
      cases q : at? K path with
      | none => rfl
      | some kk => rw [q] at e3; cases e3
    ·obtain ⟨rfl, hb, tkb, rfl, Hb⟩ := q
     refine w_ite (fun e3 => ?_) fun e3 => ?_
     ·rw [if_pos e3] at unroll
      fin_once gg fail
      rename At _ _ _ _ _ _ _ => Hc
      refine tf_next (stay Hc (by fin_once sm fail) ?_ unroll)
      unfold inSp at e3
      split at e3
      ·cases e3
      ·rename_i kk hkk
       exact (O.p _ _ hkk).1
     ·rw [if_neg (by rw [e3]; simp)] at unroll
      have unroll := unroll
      obtain ⟨pr, hpr⟩ : ∃ pr : Lnk → Bool, pr = fun l => decide (l.1 = here) && decide (l.2.1 = x) := ⟨_, rfl⟩
      rw [← hpr] at unroll
      have unroll := unroll
      have llz : lits.size = links.length := by
       have := readsAll_len rl
       rwa [List.length_map, Array.length_toList] at this
      have lkz := LO'.z
      fin_once gg fail
      refine w_compS (L := L) (ks := ["kinds", "links", "names", "space", "steps", "at", "path", "some"]) [] (fun i ys => ys.length ≤ i ∧ ReadsAll h ys (((links.take i).filter pr).map lnkD) []) V (by unfold swapsWith Env.blockKind Env.kindOf; rw [hs]; rfl) (cl := [("name", nn + 1), ("here", nn)]) (by simp [closureFor, cellOf, c1.l, c2.l]) (by decide +kernel) rfl (by decide +kernel) (by decide +kernel) rfl (fun _ => rfl) (fun i ys h => h.1) ⟨Nat.le_refl _, .nil⟩ ?_
      fin_once gg fail
      have hlb := isList_ch hl (Hb.ch h (by fin_once sm fail))
      refine wpAny_pyIter_list (s := St s hb _) hlb ?_
      have ne : ls ≠ hb.objs.size := by obtain ⟨o, e, _⟩ := hlb; exact Nat.ne_of_lt (Heap.lt_size e)
      refine .mk (Itr.list hh' ne hl (fun i v s Q E st q => own_name q)) (by fin_once sm fail) (Hb.push ⟨rfl, rfl⟩ rfl rfl) (by fin_once om fail) (fun v => ⟨_, by fin_once lk fail⟩) (fun j v5 bs' C' D ys hc tkc hj hv5 hR sub Hc V' => ?_) fun D ys hc tkc vs' hR pt Hc => ?_
      ·have x1 := V'.cv c1 hk rfl rfl
       have x2 := V'.cv c2 hk rfl rfl
       have hk' := V'.kind
       have mh : h ∈ bs' := sub _ (by fin_once sm fail)
       refine wpAny_tests_one ?_
       obtain ⟨l, hlk⟩ : ∃ l, links[j]? = some l := ⟨_, List.getElem?_eq_getElem (by fin_once om fail)⟩
       obtain ⟨v6, e6, rl6⟩ := readsAll_get rl j (lnkD l) (by rw [List.getElem?_map, hlk]; rfl)
       rw [Array.getElem?_toList, hv5] at e6
       cases e6
       obtain ⟨sl1, sl2, _⟩ := LO'.s l (List.mem_of_getElem? hlk)
       obtain ⟨tl, lit, rfl, _, _⟩ := rl6.tuple
       fin_once gg fail
       refine w_upto2 Hc (rl6.ch (Hc.ch h mh)) (fun t2 hd tkd Hd cd r2 => ?_) (fun _ => by with_unfolding_all rfl)
       refine evd (.tuple [.str here, .str x]) Hd (by repeat' fin_once ev fail) fun v7 he tke He ce r7 => ?_
       refine w_eq (r2.ch ce) r7 (by simp [PyData.canLay0, PyData.canLayAll0, sl1.2, sl2.2]) (by simp [PyData.canLay0, PyData.canLayAll0, sgh.2, sgx.2]) ?_ ?_
       ·exact R.un2 rfl
       rw [eqv_two]
       fin_once gg fail
       have pl : (decide (l.1 = here) && decide (l.2.1 = x)) = pr l := by rw [hpr]
       rw [pl]
       have tkf : ((links.take (j + 1)).filter pr).map lnkD = ((links.take j).filter pr).map lnkD ++ if pr l = true then [lnkD l] else [] := by
        rw [List.take_add_one, hlk, List.filter_append, List.map_append]
        congr 1
        by_cases q : pr l = true <;> simp [q]
       refine w_ite (fun e4 => ?_) fun e4 => ?_
       ·fin_once gg fail
        refine .mk ⟨by simp; exact hR.1, ?_⟩ He
        rw [tkf, if_pos e4]
        exact readsAll_snoc hR.2 rl6
       ·refine .mk ⟨by have := hR.1; fin_once om fail, ?_⟩ He
        rw [tkf, if_neg (by rw [e4]; simp), List.append_nil]
        exact hR.2
      ·cases pt.uniq F.nd (.tail (.tail (.tail (.tail (.tail (.tail (.tail .head)))))))
       rw [llz, List.take_length] at hR
       obtain ⟨hRz, hR⟩ := hR
       have hfind : links.find? pr = (links.filter pr).head? := List.head?_filter.symm ▸ rfl
       rw [hfind] at unroll
       have unroll := unroll
       fin_once gg fail
       refine w_newList Hc (by fin_once sm fail) fun hd Hd cd l₃ _ => ?_
       refine Hd.cells.getK (a := D) (φ := LO ys) (.head _) fun o ed1 pk2 _ => ?_
       obtain ⟨ed2, n2, ed3⟩ := pk2
       refine w_eq_nil ⟨o, ed1, ed2, n2, ed3⟩ l₃ (R.un0 rfl) ?_
       rw [List.size_toArray]
       fin_once gg fail
       have lyl := readsAll_len hR
       rw [List.length_map] at lyl
       refine w_ite (fun e5 => ?_) fun e5 => ?_
       ·have e5 := of_decide_eq_true e5
        have : links.filter pr = [] := List.length_eq_zero_iff.mp (by fin_once om fail)
        rw [this] at unroll
        fin_once gg fail
        exact quit (Hd.ch h (by fin_once sm fail)) unroll.symm
       ·have e5 := of_decide_eq_false e5
        obtain ⟨l0, fr, hfil⟩ : ∃ l0 fr, links.filter pr = l0 :: fr := by
         cases q : links.filter pr with
         | nil => rw [q] at lyl; exact absurd lyl (by simpa using e5)
         | cons a b => exact ⟨a, b, rfl⟩
        rw [hfil] at unroll hR
        have hR := hR
        rw [List.map_cons] at hR
        obtain ⟨y0, ys', rfl, r0, r1⟩ := readsAll_cons hR
        have unroll : (recF K links n l0.2.2.tail want).bind (fun h => eLoop K links (recF K links n) sp h rr) = endF K links n ns sp := unroll
        fin_once gg fail
        refine w_ite (fun e6 => ?_) fun e6 => ?_
        ·have e6 : n = 0 := by have := beq_iff_eq.mp e6; fin_once om fail
         rw [show recF K links n = fun _ _ => none by rw [e6]; rfl] at unroll
         fin_once gg fail
         exact quit (Hd.ch h (by fin_once sm fail)) unroll.symm
        ·have e6 : n ≠ 0 := by intro q; rw [q] at e6; simp at e6
         obtain ⟨m, em⟩ := Nat.exists_eq_succ_of_ne_zero e6
         have hm0 : l0 ∈ links := (List.mem_filter.mp (hfil ▸ List.mem_cons_self : l0 ∈ links.filter pr)).1
         fin_once o1 fail
         obtain ⟨_, _, ⟨x0, r0', hx0⟩, z0, sg0⟩ := LO'.s l0 hm0
         fin_once o2 fail
         fin_once gg fail
         obtain ⟨ty0, _, rfl, _, _⟩ := r0.tuple
         have yz : ys'.length + 1 ≤ 10000 := by
          simp only [List.length_cons] at hRz
          fin_once om fail
         refine w_LOget0 Hd (List.mem_cons_self) yz ?_ (by with_unfolding_all rfl)
         fin_once gg fail
         refine w_nth 2 (r0.ch (Hd.ch h (by fin_once sm fail))) rfl (by fin_once sm fail) (fun v8 rv8 => ?_) (by with_unfolding_all rfl)
         obtain ⟨t8, _, rfl, _, _⟩ := rv8.tuple
         fin_once gg fail
         refine w_from1 (d := .str x0) (ds := r0'.map .str) Hd (by rw [hx0] at rv8; exact rv8) (by rw [hx0] at z0; simp at z0 ⊢; fin_once om fail) (fun t9 he tke He ce r9 => ?_) (fun _ => by with_unfolding_all rfl)
         refine He.base'K fun g3 x3 He _ kt3 => ?_
         have r9 := r9.mv kt3
         fin_once gg fail
         refine w_Lget (i := 0) (isList_ch gwl (He.ch g1 (by fin_once sm fail))) (by rfl) (by fin_once sm fail) ?_ (by with_unfolding_all rfl)
         fin_once gg fail
         rename_i tsub _
         rw [show ((n : Nat) : Int) - 1 = (m : Int) from by rw [em]; simp]
         have unroll : (endF K links m r0' want).bind (fun h => eLoop K links (recF K links n) sp h rr) = endF K links n ns sp := by
          rw [hx0] at unroll
          rw [← show recF K links n = endF K links m by rw [em]; rfl]
          exact unroll
         have sgr : ∀ z ∈ r0', Sg z := fun z mz => sg0 z (by rw [hx0]; exact .tail _ mz)
         have rz : r0'.length ≤ 20 := by rw [hx0] at z0; simp at z0; fin_once om fail
         refine ih m em (He.cx T (by fin_once sm fail) R (by fin_once om fail)) hh' (Dk.tr (He.ch h (by fin_once sm fail)).tr fun _ _ q => q) (isList_ch hl (He.ch h (by fin_once sm fail))) (readsAll_ch rl (He.ch h (by fin_once sm fail))) (r9.ch (He.ch g3 (by fin_once sm fail))) (by fin_once om fail) sgr sgw fun v9 hf tkf cf gv => ?_
         have Hf := He.keep cf
         rcases gv with ⟨rfl, ev⟩ | ⟨y, ty, rfl, ev⟩
         ·rw [ev] at unroll
          fin_once gg fail
          rename At _ _ _ _ _ _ _ => Hg
          exact quit (Hg.ch h (by fin_once sm fail)) unroll.symm
         ·rw [ev] at unroll
          fin_once gg fail
          rename At _ _ _ _ _ _ _ => Hg
          exact tf_next (stay (Hg.sub (List.sublist_cons_self _ _)) (by fin_once sm fail) (endF_sg O m _ _ _ ev) unroll)
 ·induction hR
  rename_i here th o1 o2 o3 o4 o5 sgh inv
  rw [lz, List.drop_length, eLoop, gLoop_n] at inv
  fin_once gg fail
  refine w_ite (fun e1 => ?_) fun e1 => ?_
  ·have e1 : sp = Str.ofString "value" := by simpa using e1
   fin_once gg fail
   refine w_dgetD Dk H₃ (by fin_once sm fail) fun t1 tk₁₁ => ?_
   rw [show (at? K here).getD (Str.ofString "mod") = kOf K here from rfl]
   fin_once gg fail
   refine w_ite (fun e2 => ?_) fun e2 => ?_
   ·have e2 : kOf K here = Str.ofString "mod" := by simpa using e2
    rw [if_pos ⟨e1, e2⟩] at inv
    fin_once gg fail
    exact k _ _ _ (H₃.ch h (by fin_once sm fail)) (.inl ⟨rfl, inv.symm⟩)
   ·have e2 : ¬ kOf K here = Str.ofString "mod" := by simpa using e2
    rw [if_neg (fun q => e2 q.2)] at inv
    fin_once gg fail
    exact k _ _ _ (H₃.ch h (by fin_once sm fail)) (.inr ⟨_, _, rfl, inv.symm⟩)
  ·have e1 : ¬ sp = Str.ofString "value" := by simpa using e1
   rw [if_neg (fun q => e1 q.1)] at inv
   fin_once gg fail
   exact k _ _ _ (H₃.ch h (by fin_once sm fail)) (.inr ⟨_, _, rfl, inv.symm⟩)
theorem c_endAll {P : Addr → Prop} {K : List (Str × Str)} {links : List Lnk} {d ls : Addr} (O : KOk K) (LO' : LkOk links) : ∀ n, EndC P K links d ls n := by
 intro n
 induction n with
 | zero => exact @c_end _ P K links d ls O LO' 0 (by intro m q; cases q)
 | succ n ih => exact @c_end _ P K links d ls O LO' (n + 1) (by intro m q; cases q; exact @ih)
section
omit rt0
section
variable {K : List (Str × Str)} {links : List Lnk}
theorem endG (n : Nat) (ns : List Str) (sp : Str) : endF K links n ns sp = gLoop K links (fun l s => recF K links n l.2.2.tail s) sp (Str.ofString "") ns := by
 rw [endF_eq]; rfl
theorem find_in {p : Lnk → Bool} {l : Lnk} (h : links.find? p = some l) : l ∈ links := List.mem_of_find?_eq_some h
theorem GS.mono {rec rec' : Lnk → Str → Option Str} (k : ∀ l s h, l ∈ links → rec l s = some h → rec' l s = some h) {here x w h : Str} (q : GS K links rec here x w h) : GS K links rec' here x w h := by
 induction q with
 | v a b => exact .v a b
 | s a b c => exact .s a b c
 | u a b c f e => exact .u a b c f (k _ _ _ (find_in f) e)
theorem gMono {rec rec' : Lnk → Str → Option Str} {sp : Str} (k : ∀ l s h, l ∈ links → rec l s = some h → rec' l s = some h) (ns : List Str) : ∀ (here h : Str), gLoop K links rec sp here ns = some h → gLoop K links rec' sp here ns = some h := by
 induction ns with
 | nil => exact fun _ _ e => e
 | cons x r ih => exact fun here h e => (gLoop_o e).elim fun a q => gLoop_s (q.1.mono k) (ih a h q.2)
theorem eUp : ∀ (n : Nat) (ns : List Str) (sp h : Str), endF K links n ns sp = some h → endF K links (n + 1) ns sp = some h
 | 0, ns, sp, h, e => by
  rw [endG] at e ⊢
  exact gMono (fun l s h _ q => by cases q) ns _ h e
 | n + 1, ns, sp, h, e => by
  rw [endG] at e ⊢
  exact gMono (fun l s h _ q => eUp n _ s h q) ns _ h e
theorem eLe {n m : Nat} (le : n ≤ m) {ns : List Str} {sp h : Str} (e : endF K links n ns sp = some h) : endF K links m ns sp = some h := by
 induction le with
 | refl => exact e
 | step _ ih => exact eUp _ _ _ _ ih
theorem eDet {n m : Nat} {ns : List Str} {sp a b : Str} (e : endF K links n ns sp = some a) (e' : endF K links m ns sp = some b) : a = b := by
 have e := eLe (Nat.le_max_left n m) e
 have e' := eLe (Nat.le_max_right n m) e'
 rw [e] at e'
 exact Option.some.inj e'
noncomputable def Dj (K : List (Str × Str)) (links : List Lnk) : Prop := ∀ l ∈ links, at? K (J l.1 l.2.1) = none
theorem GS.sp {rec rec' : Lnk → Str → Option Str} (dj : Dj K links) (det : ∀ l s a b, rec l s = some a → rec' l s = some b → a = b) {w w' : Str} (ih : ∀ l a b, rec l w = some a → rec' l w' = some b → ∃ c, rec l w' = some c) {here x a b : Str} (q : GS K links rec here x w a) (p : GS K links rec' here x w' b) : GS K links rec here x w' b := by
 induction p with
 | v a b => exact .v a b
 | s a b c => exact .s a b c
 | @u l h c1 c2 c3 f e =>
  have t := List.find?_some f
  rw [Bool.and_eq_true, decide_eq_true_eq, decide_eq_true_eq] at t
  have dn := dj l (find_in f)
  rw [t.1, t.2] at dn
  induction q with
  | v a _ => exact absurd a c1
  | s _ _ c =>
   unfold inSp at c
   rw [dn] at c
   cases c
  | @u l1 a1 _ _ _ f1 e1 =>
   rw [f] at f1
   cases f1
   obtain ⟨d, e2⟩ := ih _ _ _ e1 e
   exact .u c1 c2 c3 f (by rw [e2, det _ _ _ _ e2 e])
theorem gSp {rec rec' : Lnk → Str → Option Str} {sp sp' : Str} (dj : Dj K links) (det : ∀ l s a b, rec l s = some a → rec' l s = some b → a = b) (ih : ∀ l a b, rec l sp = some a → rec' l sp' = some b → ∃ c, rec l sp' = some c) (ns : List Str) : ∀ (here a b : Str), gLoop K links rec sp here ns = some a → gLoop K links rec' sp' here ns = some b → ∃ c, gLoop K links rec sp' here ns = some c := by
 induction ns with
 | nil => exact fun _ _ b _ e' => ⟨b, e'⟩
 | cons x r hi =>
  intro here a b e e'
  obtain ⟨a1, q, e⟩ := gLoop_o e
  obtain ⟨b1, q', e'⟩ := gLoop_o e'
  by_cases hr : r = []
  ·rw [hr] at q q' e'
   rw [hr]
   exact ⟨b, gLoop_s (q.sp dj det ih q') e'⟩
  ·rw [show ∀ s, wantF s r = Str.ofString "type" from fun s => if_neg hr] at q q'
   have t := q.sp dj det (fun l a b p _ => ⟨a, p⟩) q'
   have u := q.eq
   rw [t.eq] at u
   cases u
   obtain ⟨c, e⟩ := hi _ a b e e'
   exact ⟨c, gLoop_s (by rw [show ∀ s, wantF s r = Str.ofString "type" from fun s => if_neg hr]; exact t) e⟩
theorem eSp (dj : Dj K links) : ∀ (n m : Nat) (ns : List Str) (sp sp' a b : Str), endF K links n ns sp = some a → endF K links m ns sp' = some b → ∃ c, endF K links n ns sp' = some c
 | 0, m, ns, sp, sp', a, b, e, e' => by
  rw [endG] at e e' ⊢
  exact gSp dj (fun l s a b q => by cases q) (fun l a b q => by cases q) ns _ a b e e'
 | n + 1, 0, ns, sp, sp', a, b, e, e' => ⟨b, eLe (Nat.zero_le _) e'⟩
 | n + 1, m + 1, ns, sp, sp', a, b, e, e' => by
  rw [endG] at e e' ⊢
  exact gSp (rec := fun l s => endF K links n l.2.2.tail s) (rec' := fun l s => endF K links m l.2.2.tail s) (sp := sp) dj (fun l s a b q q' => eDet q q') (fun l a b q q' => eSp dj n m _ _ _ a b q q') ns _ a b e e'
noncomputable def wF (K : List (Str × Str)) (links : List Lnk) : Nat → List (Str × Str) → List Str → Str → Option Str
 | 0, _, ns, sp => gLoop K links (fun _ _ => none) sp (Str.ofString "") ns
 | n + 1, seen, ns, sp => gLoop K links (fun l s => if (l.1, l.2.1) ∈ seen then none else wF K links n (seen ++ [(l.1, l.2.1)]) l.2.2.tail s) sp (Str.ofString "") ns
theorem wF_0 {seen : List (Str × Str)} {ns : List Str} {sp : Str} : wF K links 0 seen ns sp = gLoop K links (fun _ _ => none) sp (Str.ofString "") ns := rfl
theorem wF_s {n : Nat} {seen : List (Str × Str)} {ns : List Str} {sp : Str} : wF K links (n + 1) seen ns sp = gLoop K links (fun l s => if (l.1, l.2.1) ∈ seen then none else wF K links n (seen ++ [(l.1, l.2.1)]) l.2.2.tail s) sp (Str.ofString "") ns := rfl
noncomputable def leftF (links : List Lnk) (seen : List (Str × Str)) : Nat := (links.filter fun l => decide ((l.1, l.2.1) ∉ seen)).length
theorem left_lt {seen : List (Str × Str)} {l : Lnk} (m : l ∈ links) (ns : (l.1, l.2.1) ∉ seen) : leftF links (seen ++ [(l.1, l.2.1)]) < leftF links seen := by
 unfold leftF
 have e : (links.filter fun l' => decide ((l'.1, l'.2.1) ∉ seen ++ [(l.1, l.2.1)])) = (links.filter fun l => decide ((l.1, l.2.1) ∉ seen)).filter fun l' => decide ((l'.1, l'.2.1) ∉ [(l.1, l.2.1)]) := by
  rw [List.filter_filter]
  congr 1
  funext l'
  rw [← Bool.decide_and]
  congr 1
  rw [List.mem_append, not_or]
  exact propext ⟨fun h => ⟨h.2, h.1⟩, fun h => ⟨h.2, h.1⟩⟩
 rw [e]
 refine Nat.lt_of_le_of_ne (List.length_filter_le _ _) fun q => ?_
 have := List.length_filter_eq_length_iff.mp q l (List.mem_filter.mpr ⟨m, decide_eq_true ns⟩)
 simp at this
theorem wE : ∀ (n : Nat) (seen : List (Str × Str)) (ns : List Str) (sp h : Str) (k : Nat), leftF links seen ≤ k → wF K links n seen ns sp = some h → endF K links k ns sp = some h
 | 0, seen, ns, sp, h, k, _, e => by
  rw [endG]
  exact gMono (fun l s h _ q => by cases q) ns _ h e
 | n + 1, seen, ns, sp, h, k, le, e => by
  rw [endG]
  refine gMono (fun l s h m q => ?_) ns _ h e
  split at q
  ·cases q
  ·rename_i nm
   have lt := left_lt m nm
   obtain ⟨k', rfl⟩ : ∃ k', k = k' + 1 := ⟨k - 1, by fin_once om fail⟩
   exact wE n _ _ s h k' (by fin_once om fail) q
theorem eW (dj : Dj K links) (uq : ∀ l ∈ links, ∀ l' ∈ links, (l.1, l.2.1) = (l'.1, l'.2.1) → l = l') : ∀ (N n : Nat) (seen : List (Str × Str)) (ns : List Str) (sp h : Str), n ≤ N → endF K links n ns sp = some h → (∀ l ∈ links, (l.1, l.2.1) ∈ seen → ∀ m < n, ∀ s, endF K links m l.2.2.tail s = none) → wF K links N seen ns sp = some h
 | 0, n, seen, ns, sp, h, le, e, _ => by
  obtain rfl : n = 0 := by fin_once om fail
  rw [endG] at e
  exact e
 | N + 1, 0, seen, ns, sp, h, le, e, inv => by
  rw [endG] at e
  exact gMono (fun l s h _ q => by cases q) ns _ h e
 | N + 1, n + 1, seen, ns, sp, h, le, e, inv => by
  rw [endG] at e
  refine gMono (fun l s h m q => ?_) ns _ h e
  have q : endF K links n l.2.2.tail s = some h := q
  rw [if_neg fun ms => by
   have := inv l m ms n (Nat.lt_succ_self n) s
   rw [q] at this
   cases this]
  have least : ∀ n h, endF K links n l.2.2.tail s = some h → ∃ n' ≤ n, endF K links n' l.2.2.tail s = some h ∧ ∀ m < n', endF K links m l.2.2.tail s = none := by
   intro n
   induction n with
   | zero => intro h q; exact ⟨0, Nat.le_refl _, q, fun m hm => absurd hm (Nat.not_lt_zero _)⟩
   | succ n ih =>
    intro h q
    cases q' : endF K links n l.2.2.tail s with
    | none =>
     refine ⟨n + 1, Nat.le_refl _, q, fun m hm => ?_⟩
     cases q'' : endF K links m l.2.2.tail s with
     | none => rfl
     | some b => rw [eLe (by fin_once om fail : m ≤ n) q''] at q'; cases q'
    | some b =>
     obtain rfl := eDet q' q
     fin_once o1 fail
     obtain ⟨n', a1, a2, a3⟩ := ih _ q'
     fin_once o2 fail
     exact ⟨n', by fin_once om fail, a2, a3⟩
  fin_once o1 fail
  obtain ⟨n', a1, a2, a3⟩ := least n h q
  fin_once o2 fail
  refine eW dj uq N n' _ _ s h (by fin_once om fail) a2 fun l' m' ms k hk s' => ?_
  rcases List.mem_append.mp ms with ms | ms
  ·exact inv l' m' ms k (by fin_once om fail) s'
  ·rw [List.mem_singleton] at ms
   obtain rfl := uq _ m' _ m ms
   cases q' : endF K links k l'.2.2.tail s' with
   | none => rfl
   | some b =>
    obtain ⟨c, hc⟩ := eSp dj k n' _ s' s b h q' a2
    rw [a3 k hk] at hc
    cases hc
theorem wEq (dj : Dj K links) (uq : ∀ l ∈ links, ∀ l' ∈ links, (l.1, l.2.1) = (l'.1, l'.2.1) → l = l') (hz : links.length ≤ 7) (ns : List Str) (sp : Str) : wF K links 30 [] ns sp = endF K links 7 ns sp := by
 cases q : endF K links 7 ns sp with
 | some h => exact eW dj uq 30 7 [] ns sp h (by fin_once om fail) q (fun l m q => by simp at q)
 | none =>
  cases q' : wF K links 30 [] ns sp with
  | none => rfl
  | some h =>
   have := wE 30 [] ns sp h 7 (Nat.le_trans (List.length_filter_le _ _) hz) q'
   rw [q] at this
   cases this
end
end
section
omit rt0
abbrev S_ (s : String) : Str := Str.ofString s
noncomputable def kB (mo : Str) : List (Str × Str) := [(J mo (S_ "f"), S_ "fn"), (J mo (S_ "S"), S_ "struct"), (J mo (S_ "E"), S_ "enum"), (J (J mo (S_ "E")) (S_ "V"), S_ "variant"), (J (J mo (S_ "E")) (S_ "W"), S_ "variant"), (J mo (S_ "T"), S_ "trait")]
noncomputable def pB (mo : Str) : List (Str × Bool) := [(J mo (S_ "f"), true), (J mo (S_ "S"), true), (J mo (S_ "E"), true), (J mo (S_ "T"), true)]
noncomputable def tbL (unit : Bool) (mo : Str) (ex : List (Str × Str)) (U : List (Str × List Str)) : Tb := ⟨[(S_ "S", J mo (S_ "S")), (S_ "E", J mo (S_ "E")), (S_ "T", J mo (S_ "T"))] ++ ex, [(S_ "f", J mo (S_ "f"))] ++ (if unit then [(S_ "S", J mo (S_ "S"))] else []), U⟩
noncomputable def exA : List (Str × Str) := [(S_ "a", S_ "a")]
noncomputable def exB : List (Str × Str) := [(S_ "b", S_ "a::b")]
noncomputable def tb0 : Tb := ⟨[], [], []⟩
noncomputable def kA : List (Str × Str) := (S_ "", S_ "mod") :: kB (S_ "") ++ [(S_ "a", S_ "mod")]
noncomputable def pA : List (Str × Bool) := (S_ "", true) :: pB (S_ "") ++ [(S_ "a", true)]
noncomputable def kA2 : List (Str × Str) := kA ++ kB (S_ "a") ++ [(S_ "a::b", S_ "mod")]
noncomputable def pA2 : List (Str × Bool) := pA ++ pB (S_ "a") ++ [(S_ "a::b", true)]
noncomputable def kC : List (Str × Str) := kA2 ++ kB (S_ "a::b")
noncomputable def pC : List (Str × Bool) := pA2 ++ pB (S_ "a::b")
noncomputable def mdA (unit : Bool) (U : List (Str × List Str)) : Md := ⟨kA, pA, [(S_ "", tbL unit (S_ "") exA U), (S_ "a", tb0)]⟩
noncomputable def mdB (unit : Bool) (U U1 : List (Str × List Str)) : Md := ⟨kA2, pA2, [(S_ "", tbL unit (S_ "") exA U), (S_ "a", tbL unit (S_ "a") exB U1), (S_ "a::b", tb0)]⟩
noncomputable def mdC (unit : Bool) (U U1 U2 : List (Str × List Str)) : Md := ⟨kC, pC, [(S_ "", tbL unit (S_ "") exA U), (S_ "a", tbL unit (S_ "a") exB U1), (S_ "a::b", tbL unit (S_ "a::b") [] U2)]⟩
theorem inA (unit : Bool) (X : List Itm) : innerF (S_ "") (itBase unit ++ [.mod (S_ "a") X]) md0 [] = some (mdA unit [], [(S_ "a", X)]) := by
 cases unit <;> with_unfolding_all rfl
theorem inB (unit : Bool) (U : List (Str × List Str)) (X : List Itm) : innerF (S_ "a") (itBase unit ++ [.mod (S_ "b") X]) (mdA unit U) [] = some (mdB unit U [], [(S_ "a::b", X)]) := by
 cases unit <;> with_unfolding_all rfl
theorem inC (unit : Bool) (U U1 : List (Str × List Str)) : innerF (S_ "a::b") (itBase unit) (mdB unit U U1) [] = some (mdC unit U U1 [], []) := by
 cases unit <;> with_unfolding_all rfl
theorem innerF_app (mo : Str) : ∀ (a b : List Itm) (m : Md) (l : Wl), innerF mo (a ++ b) m l = (innerF mo a m l).bind fun p => innerF mo b p.1 p.2
 | [], b, m, l => rfl
 | i :: a, b, m, l => by
  rw [List.cons_append, innerF_c, innerF_c]
  cases enterF m mo i with
  | none => rfl
  | some m' => exact innerF_app mo a b m' _
theorem setTab_const (l : List (Str × Tb)) (mo : Str) (f : Tb → Tb) (c : Tb) : setTab (setTab l mo f) mo (fun _ => c) = setTab l mo (fun _ => c) := by
 unfold setTab
 rw [List.map_map]
 refine List.map_congr_left fun p _ => ?_
 show (p.1, if p.1 = mo then c else if p.1 = mo then f p.2 else p.2) = _
 by_cases e : p.1 = mo
 ·rw [if_pos e, if_pos e]
 ·rw [if_neg e, if_neg e, if_neg e]
theorem setTab_self {l : List (Str × Tb)} {mo : Str} {tb : Tb} (hu : ∀ p ∈ l, p.1 = mo → p.2 = tb) : setTab l mo (fun _ => tb) = l := by
 unfold setTab
 conv => rhs; rw [← List.map_id l]
 refine List.map_congr_left fun p hp => ?_
 by_cases e : p.1 = mo
 ·rw [if_pos e, ← hu p hp e]; rfl
 ·rw [if_neg e]; rfl
noncomputable def uL (ls : List Lnk) : List (Str × List Str) := ls.map fun l => (l.2.1, l.2.2)
theorem innerU {mo : Str} {wl : Wl} : ∀ (ls : List Lnk) (m : Md) (tb : Tb), at? m.tabs mo = some tb → (∀ p ∈ m.tabs, p.1 = mo → p.2 = tb) → (∀ l ∈ ls, l.2.1 ∉ waysL ∧ at? tb.types l.2.1 = none ∧ at? tb.values l.2.1 = none ∧ at? tb.uses l.2.1 = none) → (ls.map (·.2.1)).Nodup →
  innerF mo (ls.map fun l => .use l.2.2 (some l.2.1)) m wl = some ({ m with tabs := setTab m.tabs mo fun _ => { tb with uses := tb.uses ++ uL ls } }, wl)
 | [], m, tb, e, hu, _, _ => by
  show some (m, wl) = _
  rw [show uL [] = [] from rfl, List.append_nil, setTab_self hu]
 | l :: ls, m, tb, e, hu, ok, nd => by
  rw [List.map_cons, List.nodup_cons] at nd
  fin_once o1 fail
  obtain ⟨o1, o2, o3, o4⟩ := ok l (.head _)
  fin_once o2 fail
  rw [List.map_cons, innerF_c]
  have tk : takenF tb l.2.1 [Str.ofString "type", Str.ofString "value"] = false := by
   unfold takenF
   rw [o4]
   simp only [List.any_cons, List.any_nil]
   have t1 : tb.space (Str.ofString "type") = tb.types := if_pos rfl
   have t2 : tb.space (Str.ofString "value") = tb.values := if_neg (by decide +kernel)
   rw [t1, t2, o2, o3]
   rfl
  have eu : upd tb.uses l.2.1 l.2.2 = tb.uses ++ [(l.2.1, l.2.2)] := by
   unfold upd
   rw [o4]
   rfl
  have st : enterF m mo (.use l.2.2 (some l.2.1)) = some { m with tabs := setTab m.tabs mo fun _ => { tb with uses := tb.uses ++ [(l.2.1, l.2.2)] } } := by
   show useF m mo l.2.1 l.2.2 = _
   unfold useF
   rw [e]
   dsimp only
   rw [if_neg (by rw [tk]; exact fun q => q.elim o1 nofun)]
   congr 2
   unfold setTab
   refine List.map_congr_left fun p hp => ?_
   by_cases q : p.1 = mo
   ·rw [if_pos q, if_pos q, hu p hp q]
    dsimp only
    rw [eu]
   ·rw [if_neg q, if_neg q]
  rw [st]
  dsimp only
  rw [show subs mo (.use l.2.2 (some l.2.1)) = [] from rfl, List.append_nil]
  have ih := innerU (mo := mo) (wl := wl) ls { m with tabs := setTab m.tabs mo fun _ => { tb with uses := tb.uses ++ [(l.2.1, l.2.2)] } } { tb with uses := tb.uses ++ [(l.2.1, l.2.2)] } (by
   rw [at?_setTab, e]
   show some (if mo = mo then _ else _) = _
   rw [if_pos rfl]) (fun p hp q => by
   unfold setTab at hp
   obtain ⟨p', hp', rfl⟩ := List.mem_map.mp hp
   exact if_pos q) (fun l' ml' => by
   fin_once o1 fail
   obtain ⟨p1, p2, p3, p4⟩ := ok l' (.tail _ ml')
   fin_once o2 fail
   refine ⟨p1, p2, p3, ?_⟩
   dsimp only
   rw [at?_append, p4]
   show (none : Option (List Str)).or (if l.2.1 = l'.2.1 then some l.2.2 else none) = none
   rw [if_neg fun q => nd.1 (List.mem_map.mpr ⟨l', ml', q.symm⟩)]
   rfl) nd.2
  rw [ih]
  dsimp only
  rw [setTab_const]
  congr 4
  unfold uL
  rw [List.map_cons, List.append_assoc]
  rfl
noncomputable def usL (mo : Str) (links : List Lnk) : List (Str × List Str) := uL (links.filter (·.1 == mo))
theorem uS_ok : ∀ k < 7, uS k ∉ waysL ∧ uS k ∉ preL ∧ uS k ≠ Str.ofString "super" ∧ (uS k).length ≤ 40 ∧ PyData.strOk (uS k) = true ∧ ∀ u, (at? (tbL u (S_ "") exA []).types (uS k) = none ∧ at? (tbL u (S_ "") exA []).values (uS k) = none) ∧ (at? (tbL u (S_ "a") exB []).types (uS k) = none ∧ at? (tbL u (S_ "a") exB []).values (uS k) = none) ∧ at? (tbL u (S_ "a::b") [] []).types (uS k) = none ∧ at? (tbL u (S_ "a::b") [] []).values (uS k) = none := by decide +kernel
theorem uS_inj : ∀ i < 7, ∀ j < 7, uS i = uS j → i = j := by decide +kernel
theorem lnk_name {links : List Lnk} (ok : LnksOk links) (hz : links.length ≤ 6) {l : Lnk} (m : l ∈ links) : ∃ i < 7, links[i]? = some l ∧ l.2.1 = uS i := by
 obtain ⟨i, hi, rfl⟩ := List.getElem_of_mem m
 exact ⟨i, by fin_once om fail, List.getElem?_eq_getElem hi, (ok i _ (List.getElem?_eq_getElem hi)).name⟩
theorem lnk_nd {links : List Lnk} (ok : LnksOk links) (hz : links.length ≤ 6) : (links.map (·.2.1)).Nodup := by
 rw [List.nodup_iff_pairwise_ne, List.pairwise_iff_getElem]
 intro i j hi hj lt e
 rw [List.length_map] at hi hj
 rw [List.getElem_map, List.getElem_map, (ok i _ (List.getElem?_eq_getElem hi)).name, (ok j _ (List.getElem?_eq_getElem hj)).name] at e
 have := uS_inj i (by fin_once om fail) j (by fin_once om fail) e
 fin_once om fail
theorem build_eq {unit : Bool} {links : List Lnk} (ok : LnksOk links) (hz : links.length ≤ 6) : buildF (itemsF unit links 3 (Str.ofString "")) = some (mdC unit (usL (S_ "") links) (usL (S_ "a") links) (usL (S_ "a::b") links)) := by
 have ok' : ∀ (tb : Tb) (mo : Str), tb.uses = [] → (∀ k < 7, at? tb.types (uS k) = none ∧ at? tb.values (uS k) = none) → ∀ l ∈ links.filter (·.1 == mo), l.2.1 ∉ waysL ∧ at? tb.types l.2.1 = none ∧ at? tb.values l.2.1 = none ∧ at? tb.uses l.2.1 = none := fun tb mo e k l ml => by
  fin_once o1 fail
  obtain ⟨i, i7, _, en⟩ := lnk_name ok hz (List.mem_filter.mp ml).1
  fin_once o2 fail
  rw [en, e]
  exact ⟨(uS_ok i i7).1, (k i i7).1, (k i i7).2, rfl⟩
 have nd' : ∀ mo : Str, ((links.filter (·.1 == mo)).map (·.2.1)).Nodup := fun mo => (lnk_nd ok hz).sublist (List.filter_sublist.map _)
 have e1 : at? innerL (Str.ofString "") = some (S_ "a") := by decide +kernel
 have e2 : at? innerL (Str.ofString "a") = some (S_ "b") := by decide +kernel
 have e3 : at? innerL (Str.ofString "a::b") = none := by decide +kernel
 have j1 : J (S_ "") (S_ "a") = S_ "a" := by decide +kernel
 have j2 : J (S_ "a") (S_ "b") = S_ "a::b" := by decide +kernel
 have i0 : itemsF unit links 3 (Str.ofString "") = (itBase unit ++ [.mod (S_ "a") (itemsF unit links 2 (S_ "a"))]) ++ usesF (S_ "") links := by
  rw [itemsF_s, e1]
  show (itBase unit ++ [.mod (S_ "a") (itemsF unit links 2 (J (S_ "") (S_ "a")))]) ++ usesF (S_ "") links = _
  rw [j1]
 have i1 : itemsF unit links 2 (Str.ofString "a") = (itBase unit ++ [.mod (S_ "b") (itemsF unit links 1 (S_ "a::b"))]) ++ usesF (S_ "a") links := by
  rw [itemsF_s, e2]
  show (itBase unit ++ [.mod (S_ "b") (itemsF unit links 1 (J (S_ "a") (S_ "b")))]) ++ usesF (S_ "a") links = _
  rw [j2]
 have i2 : itemsF unit links 1 (Str.ofString "a::b") = itBase unit ++ usesF (S_ "a::b") links := by
  rw [itemsF_s, e3]
  simp
 have n1 : S_ "" ≠ S_ "a" := by decide +kernel
 have n2 : S_ "a::b" ≠ S_ "a" := by decide +kernel
 have n3 : S_ "" ≠ S_ "a::b" := by decide +kernel
 have n4 : S_ "a" ≠ S_ "a::b" := by decide +kernel
 have mcU : ∀ mo, Itm.mcs (usesF mo links) = 0 := by
  intro mo
  unfold usesF
  induction links.filter (·.1 == mo) with
  | nil => rfl
  | cons l ls ih => rw [List.map_cons, Itm.mcs, ih]; rfl
 have mcA : ∀ a b : List Itm, Itm.mcs (a ++ b) = Itm.mcs a + Itm.mcs b := by
  intro a b
  induction a with
  | nil => simp [Itm.mcs]
  | cons x a ih => rw [List.cons_append, Itm.mcs, Itm.mcs, ih, Nat.add_assoc]
 have mcB : Itm.mcs (itBase unit) = 0 := by cases unit <;> rfl
 have mc : 1 + Itm.mcs (itemsF unit links 3 (Str.ofString "")) = 3 := by
  have one : ∀ n X, Itm.mcs [Itm.mod n X] = 1 + Itm.mcs X := fun n X => by simp [Itm.mcs, Itm.mc]
  rw [i0, mcA, mcA, mcB, mcU, one, i1, mcA, mcA, mcB, mcU, one, i2, mcA, mcB, mcU]
 unfold buildF
 rw [mc]
 show (innerF (Str.ofString "") (itemsF unit links 3 (Str.ofString "")) md0 []).bind _ = _
 rw [i0, innerF_app, inA]
 show (innerF (S_ "") (usesF (S_ "") links) (mdA unit []) [(S_ "a", _)]).bind _ = _
 rw [usesF, innerU _ _ (tbL unit (S_ "") exA []) rfl (by
  intro p hp q
  simp only [mdA, List.mem_cons, List.not_mem_nil, or_false] at hp
  rcases hp with rfl | rfl
  ·rfl
  ·exact absurd q (by decide +kernel)) (ok' _ _ rfl fun k hk => ((uS_ok k hk).2.2.2.2.2 unit).1) (nd' _)]
 show (innerF (S_ "a") (itemsF unit links 2 (S_ "a")) (mdA unit (usL (S_ "") links)) []).bind _ = _
 rw [i1, innerF_app, inB]
 show (innerF (S_ "a") (usesF (S_ "a") links) (mdB unit (usL (S_ "") links) []) [(S_ "a::b", _)]).bind _ = _
 rw [usesF, innerU _ _ (tbL unit (S_ "a") exB []) rfl (by
  intro p hp q
  simp only [mdB, List.mem_cons, List.not_mem_nil, or_false] at hp
  rcases hp with rfl | rfl | rfl
  ·exact absurd q n1
  ·rfl
  ·exact absurd q n2) (ok' _ _ rfl fun k hk => ((uS_ok k hk).2.2.2.2.2 unit).2.1) (nd' _)]
 show (innerF (S_ "a::b") (itemsF unit links 1 (S_ "a::b")) (mdB unit (usL (S_ "") links) (usL (S_ "a") links)) []).bind _ = _
 rw [i2, innerF_app, inC]
 show (innerF (S_ "a::b") (usesF (S_ "a::b") links) (mdC unit (usL (S_ "") links) (usL (S_ "a") links) []) []).bind _ = _
 rw [usesF, innerU _ _ (tbL unit (S_ "a::b") [] []) rfl (by
  intro p hp q
  simp only [mdC, List.mem_cons, List.not_mem_nil, or_false] at hp
  rcases hp with rfl | rfl | rfl
  ·exact absurd q n3
  ·exact absurd q n4
  ·rfl) (ok' _ _ rfl fun k hk => ((uS_ok k hk).2.2.2.2.2 unit).2.2) (nd' _)]
 rfl
end
section
omit rt0
structure Cor (m : Md) (K : List (Str × Str)) (links : List Lnk) (seg : List Str) : Prop where
 k : ∀ p k, at? m.kinds p = some k → (kOf K p = Str.ofString "enum" ↔ k = Str.ofString "enum") ∧ (kOf K p = Str.ofString "mod" ↔ k = Str.ofString "mod")
 v : ∀ p, at? m.kinds p = some (Str.ofString "variant") ↔ at? K p = some (Str.ofString "variant")
 s : ∀ p sp, inSp K p sp = true → (at? m.kinds p).isSome = true
 t : ∀ p, at? m.kinds p = some (Str.ofString "mod") → ∃ tb, at? m.tabs p = some tb ∧ ∀ x ∈ seg, (∀ sp ∈ bothL, at? (tb.space sp) x = if inSp K (J p x) sp = true then some (J p x) else none) ∧ at? tb.uses x = (links.find? fun l => decide (l.1 = p) && decide (l.2.1 = x)).map (·.2.2)
 l : ∀ l ∈ links, ∃ r, l.2.2 = Str.ofString "crate" :: r ∧ ∀ x ∈ r, x ∈ seg
 r : at? m.kinds (Str.ofString "") = some (Str.ofString "mod")
section
variable {m : Md} {K : List (Str × Str)} {links : List Lnk} {seg : List Str}
theorem Cor.want (C : Cor m K links seg) {sp : Str} {r : List Str} (h : sp ∈ bothL) : wantF sp r ∈ bothL := by
 unfold wantF
 split
 ·exact h
 ·exact .head _
theorem loopF_b {m : Md} {fol : Str → Str → List Str → Str → Option Str} {sp here y : Str} {r : List Str} : loopF m fol sp here (y :: r) = ((lookF m fol here y (wantF sp r)).bind id).bind fun p => loopF m fol sp p r := by
 rw [loopF_cons, wantF]
 cases lookF m fol here y (if r = [] then sp else Str.ofString "type") with
 | none => rfl
 | some o => cases o <;> rfl
theorem Cor.step (C : Cor m K links seg) {fol : Str → Str → List Str → Str → Option Str} {rec : Lnk → Str → Option Str} {here x w : Str} (hf : ∀ l ∈ links, fol l.1 l.2.1 l.2.2 w = rec l w ∧ ∀ h, rec l w = some h → (at? m.kinds h).isSome = true) (hw : w ∈ bothL) (hk : (at? m.kinds here).isSome = true) (hx : x ∈ seg) : (lookF m fol here x w).bind id = gStep K links rec here x w ∧ ∀ h, gStep K links rec here x w = some h → (at? m.kinds h).isSome = true := by
 obtain ⟨k, ek⟩ := Option.isSome_iff_exists.mp hk
 obtain ⟨c1, c2⟩ := C.k here k ek
 unfold lookF gStep
 rw [ek]
 dsimp only
 by_cases e1 : k = Str.ofString "enum"
 ·rw [if_pos e1, if_pos (c1.mpr e1)]
  by_cases e2 : at? K (J here x) = some (Str.ofString "variant")
  ·rw [if_pos e2, if_pos ((C.v _).mpr e2)]
   exact ⟨rfl, fun h q => by cases q; rw [(C.v _).mpr e2]; rfl⟩
  ·rw [if_neg e2, if_neg fun q => e2 ((C.v _).mp q)]
   exact ⟨rfl, fun h q => by cases q⟩
 ·rw [if_neg e1, if_neg fun q => e1 (c1.mp q)]
  by_cases e2 : k = Str.ofString "mod"
  ·rw [if_neg (not_not_intro e2), if_neg (not_not_intro (c2.mpr e2))]
   rw [e2] at ek
   fin_once o1 fail
   obtain ⟨tb, et, ht⟩ := C.t here ek
   obtain ⟨t1, t2⟩ := ht x hx
   fin_once o2 fail
   rw [et]
   dsimp only
   rw [t1 _ hw]
   by_cases e3 : inSp K (J here x) w = true
   ·rw [if_pos e3, if_pos e3]
    exact ⟨rfl, fun h q => by cases q; exact C.s _ _ e3⟩
   ·rw [if_neg e3, if_neg e3]
    dsimp only
    rw [t2]
    cases hl : links.find? (fun l => decide (l.1 = here) && decide (l.2.1 = x)) with
    | none => exact ⟨rfl, fun h q => by cases q⟩
    | some l =>
     have q := List.find?_some hl
     rw [Bool.and_eq_true, decide_eq_true_eq, decide_eq_true_eq] at q
     obtain ⟨f1, f2⟩ := hf l (find_in hl)
     dsimp only [Option.map, Option.bind]
     rw [← q.1, ← q.2, f1]
     exact ⟨by cases rec l w <;> rfl, f2⟩
  ·rw [if_pos e2, if_pos fun q => e2 (c2.mp q)]
   exact ⟨rfl, fun h q => by cases q⟩
theorem Cor.loop (C : Cor m K links seg) {fol : Str → Str → List Str → Str → Option Str} {rec : Lnk → Str → Option Str} (hf : ∀ l ∈ links, ∀ s ∈ bothL, fol l.1 l.2.1 l.2.2 s = rec l s ∧ ∀ h, rec l s = some h → (at? m.kinds h).isSome = true) {sp : Str} (hs : sp ∈ bothL) (ns : List Str) : ∀ (here : Str), (at? m.kinds here).isSome = true → (∀ x ∈ ns, x ∈ seg) → loopF m fol sp here ns = gLoop K links rec sp here ns ∧ ∀ h, gLoop K links rec sp here ns = some h → (at? m.kinds h).isSome = true := by
 induction ns with
 | nil =>
  intro here hk _
  obtain ⟨k, ek⟩ := Option.isSome_iff_exists.mp hk
  have ck := (C.k here k ek).2
  have e : (isMod m here = true) ↔ kOf K here = Str.ofString "mod" := by
   unfold isMod
   rw [ek, ck]
   show ((some k == some (Str.ofString "mod")) = true) ↔ _
   rw [beq_iff_eq]
   exact ⟨fun q => Option.some.inj q, fun q => by rw [q]⟩
  rw [loopF_nil, gLoop_n]
  constructor
  ·simp only [e]
  ·intro h q
   split at q
   ·cases q
   ·cases q; exact hk
 | cons x r ih =>
  intro here hk hx
  obtain ⟨s1, s2⟩ := C.step (rec := rec) (fun l ml => hf l ml _ (C.want (r := r) hs)) (C.want hs) hk (hx x (.head _))
  rw [loopF_b, gLoop_c, s1]
  cases q : gStep K links rec here x (wantF sp r) with
  | none => exact ⟨rfl, fun h q => by cases q⟩
  | some h => exact ih h (s2 h q) fun y hy => hx y (.tail _ hy)
theorem start_crate (mo : Str) (r : List Str) : startF mo (Str.ofString "crate" :: r) = (Str.ofString "", r) := by
 rw [startF, if_pos rfl]
theorem Cor.walk (C : Cor m K links seg) : ∀ (n : Nat) (mo : Str) (ns : List Str) (sp : Str) (seen : List (Str × Str)), sp ∈ bothL → (∀ x ∈ ns, x ∈ seg) → walkF m n mo (Str.ofString "crate" :: ns) sp seen = wF K links n seen ns sp ∧ ∀ h, wF K links n seen ns sp = some h → (at? m.kinds h).isSome = true
 | 0, mo, ns, sp, seen, hs, hx => by
  rw [walkF_eq, start_crate, wF_0]
  exact C.loop (fun l ml s ms => ⟨rfl, fun h q => by cases q⟩) hs ns _ (by rw [C.r]; rfl) hx
 | n + 1, mo, ns, sp, seen, hs, hx => by
  rw [walkF_eq, start_crate, wF_s]
  refine C.loop (fun l ml s ms => ?_) hs ns _ (by rw [C.r]; rfl) hx
  obtain ⟨r, er, hr⟩ := C.l l ml
  rw [followF]
  have er' : l.2.2.tail = r := by rw [er]; rfl
  split
  ·exact ⟨rfl, fun h q => by cases q⟩
  ·obtain ⟨w1, w2⟩ := C.walk n l.1 r s (seen ++ [(l.1, l.2.1)]) ms hr
   rw [er', er]
   exact ⟨w1, w2⟩
theorem Cor.find (C : Cor m K links seg) (dj : Dj K links) (uq : ∀ l ∈ links, ∀ l' ∈ links, (l.1, l.2.1) = (l'.1, l'.2.1) → l = l') (hz : links.length ≤ 7) (mo : Str) {ns : List Str} {sp : Str} (hs : sp ∈ bothL) (hx : ∀ x ∈ ns, x ∈ seg) : findF m mo (Str.ofString "crate" :: ns) sp = endF K links 7 ns sp := by
 rw [← wEq dj uq hz]
 exact (C.walk 30 mo ns sp [] hs hx).1
end
end
section
omit rt0
noncomputable def pathF (l : Lnk) : List Str := partsF (J l.1 l.2.1)
structure Plain (unit : Bool) (links : List Lnk) (m : Md) : Prop where
 b : buildF (itemsF unit links 3 (Str.ofString "")) = some m
 oks : Itm.oksAt (Str.ofString "") (itemsF unit links 3 (Str.ofString ""))
 ics : Itm.ics (itemsF unit links 3 (Str.ofString "")) ≤ 200
 wf : Wf m
 chk : ChkOk m
 pl : ∀ p ∈ placesL, Pa p ∧ (at? m.kinds p).isSome = true
 kok : KOk (lawK unit)
 lok : LkOk links
 seg : ∀ l ∈ links, Nm l.2.1 ∧ l.2.1 ∉ waysL ∧ l.2.1 ∉ preL ∧ l.2.1 ≠ Str.ofString "super" ∧ (J l.1 l.2.1).length ≤ 1000 ∧ (Txt.split (J l.1 l.2.1) (Str.ofString "::")).length ≤ 100 ∧ (pathF l).length ≤ 10 ∧ ∀ x ∈ pathF l, Nm x ∧ Sg x
 f1 : ∀ l ∈ links, ∀ sp ∈ bothL, ∀ p ∈ placesL, findF m p (Str.ofString "crate" :: pathF l) sp = endF (lawK unit) links 7 (pathF l) sp
 f2 : ∀ l ∈ links, ∀ sp ∈ bothL, findF m l.1 [l.2.1] sp = endF (lawK unit) links 7 (pathF l) sp ∧ findF m l.1 [Str.ofString "self", l.2.1] sp = endF (lawK unit) links 7 (pathF l) sp
 f3 : ∀ l ∈ links, ∀ more ∈ [Str.ofString "f", Str.ofString "V", Str.ofString "E"], findF m (Str.ofString "") (Str.ofString "crate" :: (pathF l ++ [more])) (Str.ofString "value") = endF (lawK unit) links 7 (pathF l ++ [more]) (Str.ofString "value")
 bad : badM m ↔ ∃ l ∈ links, endF (lawK unit) links 7 (pathF l) (Str.ofString "type") = none ∧ endF (lawK unit) links 7 (pathF l) (Str.ofString "value") = none
section
variable {m : Md} {K : List (Str × Str)} {links : List Lnk} {seg : List Str}
theorem gEnd {rec : Lnk → Str → Option Str} {sp : Str} (ns : List Str) : ∀ (here h : Str), gLoop K links rec sp here ns = some h → ¬ (sp = Str.ofString "value" ∧ kOf K h = Str.ofString "mod") := by
 induction ns with
 | nil =>
  intro here h e
  rw [gLoop_n] at e
  split at e
  ·cases e
  ·cases e; assumption
 | cons x r ih => exact fun here h e => (gLoop_o e).elim fun a q => ih a h q.2
theorem wEnd {n : Nat} {seen : List (Str × Str)} {ns : List Str} {sp h : Str} (e : wF K links n seen ns sp = some h) : ¬ (sp = Str.ofString "value" ∧ kOf K h = Str.ofString "mod") := by
 cases n <;> exact gEnd _ _ _ e
theorem Cor.own (C : Cor m K links seg) (dj : Dj K links) (uq : ∀ l ∈ links, ∀ l' ∈ links, (l.1, l.2.1) = (l'.1, l'.2.1) → l = l') {l : Lnk} (ml : l ∈ links) (hm : kOf K l.1 = Str.ofString "mod") {sp : Str} (hs : sp ∈ bothL) : gLoop K links (fun l s => if (l.1, l.2.1) ∈ [] then none else wF K links 29 ([] ++ [(l.1, l.2.1)]) l.2.2.tail s) sp l.1 [l.2.1] = followF m [] 30 l.1 l.2.1 l.2.2 sp := by
 obtain ⟨r, er, hr⟩ := C.l l ml
 have fe : links.find? (fun l' => decide (l'.1 = l.1) && decide (l'.2.1 = l.2.1)) = some l := by
  cases q : links.find? (fun l' => decide (l'.1 = l.1) && decide (l'.2.1 = l.2.1)) with
  | none => exact absurd (List.find?_eq_none.mp q l ml) (by fin_once sm fail)
  | some l' =>
   have h := List.find?_some q
   rw [Bool.and_eq_true, decide_eq_true_eq, decide_eq_true_eq] at h
   rw [uq l' (find_in q) l ml (by rw [h.1, h.2])]
 have ne : ¬ Str.ofString "mod" = Str.ofString "enum" := by decide +kernel
 rw [gLoop_c, gStep, hm, if_neg ne, if_neg (not_not_intro rfl), if_neg (by unfold inSp; rw [dj l ml]; exact nofun), fe]
 have er' : l.2.2.tail = r := by rw [er]; rfl
 obtain ⟨w1, w2⟩ := C.walk 29 l.1 r sp ([] ++ [(l.1, l.2.1)]) hs hr
 show Option.bind (if (l.1, l.2.1) ∈ [] then none else wF K links 29 ([] ++ [(l.1, l.2.1)]) l.2.2.tail (wantF sp [])) _ = _
 rw [followF, if_neg (by fin_once sm fail), if_neg (by fin_once sm fail), er', er, w1, show wantF sp [] = sp from rfl]
 cases q : wF K links 29 ([] ++ [(l.1, l.2.1)]) r sp with
 | none => rfl
 | some h =>
  show (if sp = Str.ofString "value" ∧ kOf K h = Str.ofString "mod" then none else some h) = some h
  rw [if_neg (wEnd q)]
theorem Cor.path (C : Cor m K links seg) (dj : Dj K links) (uq : ∀ l ∈ links, ∀ l' ∈ links, (l.1, l.2.1) = (l'.1, l'.2.1) → l = l') (hz : links.length ≤ 7) {l : Lnk} (ml : l ∈ links) (hm : kOf K l.1 = Str.ofString "mod") {pre : List Str} (hp : ∀ rec sp, gLoop K links rec sp (Str.ofString "") (pre ++ [l.2.1]) = gLoop K links rec sp l.1 [l.2.1]) {sp : Str} (hs : sp ∈ bothL) : endF K links 7 (pre ++ [l.2.1]) sp = followF m [] 30 l.1 l.2.1 l.2.2 sp := by
 rw [← wEq dj uq hz, wF_s, hp]
 exact C.own dj uq ml hm hs
theorem Cor.here (C : Cor m K links seg) (dj : Dj K links) (uq : ∀ l ∈ links, ∀ l' ∈ links, (l.1, l.2.1) = (l'.1, l'.2.1) → l = l') {l : Lnk} (ml : l ∈ links) (hk : at? m.kinds l.1 = some (Str.ofString "mod")) (hx : l.2.1 ∈ seg) (hw : l.2.1 ∉ waysL) {sp : Str} (hs : sp ∈ bothL) : findF m l.1 [l.2.1] sp = followF m [] 30 l.1 l.2.1 l.2.2 sp ∧ findF m l.1 [Str.ofString "self", l.2.1] sp = followF m [] 30 l.1 l.2.1 l.2.2 sp := by
 have n1 : l.2.1 ≠ Str.ofString "crate" := fun q => hw (by rw [q]; exact .head _)
 have n2 : l.2.1 ≠ Str.ofString "self" := fun q => hw (by rw [q]; exact .tail _ (.head _))
 have n3 : Str.ofString "self" ≠ Str.ofString "crate" := by decide +kernel
 have key : loopF m (followF m [] 30) sp l.1 [l.2.1] = followF m [] 30 l.1 l.2.1 l.2.2 sp := by
  rw [← C.own dj uq ml (((C.k _ _ hk).2).mpr rfl) hs]
  refine (C.loop (fun l ml s ms => ?_) hs [l.2.1] l.1 (by rw [hk]; rfl) (by simpa using hx)).1
  obtain ⟨r, er, hr⟩ := C.l l ml
  have er' : l.2.2.tail = r := by rw [er]; rfl
  rw [followF, if_neg (by fin_once sm fail), if_neg (by fin_once sm fail), er', er]
  exact C.walk 29 l.1 r s _ ms hr
 unfold findF
 rw [walkF_eq, walkF_eq, startF, startF, if_neg n1, if_neg n2, if_neg n3, if_pos rfl]
 exact ⟨key, key⟩
end
theorem f_kinds : ∀ u : Bool, ∀ q ∈ kC, (kOf (lawK u) q.1 = S_ "enum" ↔ q.2 = S_ "enum") ∧ (kOf (lawK u) q.1 = S_ "mod" ↔ q.2 = S_ "mod") ∧ (q.2 = S_ "variant" → at? (lawK u) q.1 = some (S_ "variant")) ∧ (q.2 = S_ "mod" → q.1 ∈ placesL) ∧ (q.1.length ≤ 200 ∧ PyData.strOk q.1 = true) := by decide +kernel
theorem f_law : ∀ u : Bool, ∀ q ∈ lawK u, (q.2 = S_ "variant" → at? kC q.1 = some (S_ "variant")) ∧ (at? kC q.1).isSome = true ∧ (q.1.length ≤ 100 ∧ PyData.strOk q.1 = true) ∧ (q.2.length ≤ 100 ∧ PyData.strOk q.2 = true) := by decide +kernel
theorem f_len : ∀ u : Bool, (lawK u).length ≤ 1000 := by decide +kernel
theorem f_look : ∀ u : Bool, ∀ x ∈ segL, ∀ sp ∈ bothL, at? ((tbL u (S_ "") exA []).space sp) x = (if inSp (lawK u) (J (S_ "") x) sp = true then some (J (S_ "") x) else none) ∧ at? ((tbL u (S_ "a") exB []).space sp) x = (if inSp (lawK u) (J (S_ "a") x) sp = true then some (J (S_ "a") x) else none) ∧ at? ((tbL u (S_ "a::b") [] []).space sp) x = (if inSp (lawK u) (J (S_ "a::b") x) sp = true then some (J (S_ "a::b") x) else none) := by decide +kernel
theorem f_pubs : ∀ u : Bool, ∀ tb ∈ [tbL u (S_ "") exA [], tbL u (S_ "a") exB [], tbL u (S_ "a::b") [] []], (∀ q ∈ tb.types, at? pC q.2 = some true ∧ (at? kC q.2).isSome = true) ∧ ∀ q ∈ tb.values, at? pC q.2 = some true ∧ (at? kC q.2).isSome = true := by decide +kernel
theorem f_dj : ∀ u : Bool, ∀ p ∈ placesL, ∀ k < 7, at? (lawK u) (J p (uS k)) = none := by decide +kernel
theorem f_place : ∀ u : Bool, ∀ p ∈ placesL, at? kC p = some (S_ "mod") ∧ kOf (lawK u) p = S_ "mod" ∧ (p.length ≤ 40 ∧ PyData.strOk p = true) := by decide +kernel
theorem f_path : ∀ p ∈ placesL, ∀ k < 7, partsF (J p (uS k)) = partsF p ++ [uS k] ∧ (J p (uS k)).length ≤ 1000 ∧ (Txt.split (J p (uS k)) (Str.ofString "::")).length ≤ 100 ∧ (partsF (J p (uS k))).length ≤ 10 ∧ uS k ∈ segL ∧ ∀ x ∈ partsF (J p (uS k)), x ∈ segL := by decide +kernel
theorem f_seg : ∀ x ∈ segL, (x.length ≤ 40 ∧ PyData.strOk x = true) := by decide +kernel
theorem f_crate : (Str.ofString "crate").length ≤ 40 ∧ PyData.strOk (Str.ofString "crate") = true := by decide +kernel
theorem f_in : ∀ u : Bool, inSp (lawK u) (J (S_ "") (S_ "a")) (S_ "type") = true ∧ inSp (lawK u) (J (S_ "a") (S_ "b")) (S_ "type") = true ∧ J (S_ "") (S_ "a") = S_ "a" ∧ J (S_ "a") (S_ "b") = S_ "a::b" ∧ partsF (S_ "") = [] ∧ partsF (S_ "a") = [S_ "a"] ∧ partsF (S_ "a::b") = [S_ "a", S_ "b"] ∧ S_ "mod" ≠ S_ "enum" := by decide +kernel
noncomputable def mdU (unit : Bool) (links : List Lnk) : Md := mdC unit (usL (S_ "") links) (usL (S_ "a") links) (usL (S_ "a::b") links)
theorem at_usL (mo x : Str) : ∀ links : List Lnk, at? (usL mo links) x = (links.find? fun l => decide (l.1 = mo) && decide (l.2.1 = x)).map (·.2.2)
 | [] => rfl
 | l :: ls => by
  have ih := at_usL mo x ls
  unfold usL uL at ih ⊢
  rw [List.find?_cons]
  by_cases e : l.1 = mo
  ·rw [List.filter_cons_of_pos (by simpa using e), List.map_cons]
   show (if l.2.1 = x then some l.2.2 else at? _ x) = _
   by_cases e2 : l.2.1 = x
   ·rw [if_pos e2, decide_eq_true e, decide_eq_true e2]; rfl
   ·rw [if_neg e2, decide_eq_true e, decide_eq_false e2]; exact ih
  ·rw [List.filter_cons_of_neg (by simpa using e), decide_eq_false e]
   exact ih
theorem usL_in {mo : Str} {links : List Lnk} {x : Str} {ns : List Str} (e : at? (usL mo links) x = some ns) : ∃ l ∈ links, l.1 = mo ∧ l.2.1 = x ∧ l.2.2 = ns := by
 rw [at_usL, Option.map_eq_some_iff] at e
 obtain ⟨l, e1, e2⟩ := e
 have q := List.find?_some e1
 rw [Bool.and_eq_true, decide_eq_true_eq, decide_eq_true_eq] at q
 exact ⟨l, find_in e1, q.1, q.2, e2⟩
theorem tabs_in {unit : Bool} {links : List Lnk} {o : Str} {tb : Tb} (e : at? (mdU unit links).tabs o = some tb) : o ∈ placesL ∧ (∃ ex ∈ [tbL unit (S_ "") exA [], tbL unit (S_ "a") exB [], tbL unit (S_ "a::b") [] []], tb.types = ex.types ∧ tb.values = ex.values) ∧ tb.uses = usL o links := by
 have := at?_in e
 simp only [mdU, mdC, List.mem_cons, List.not_mem_nil, or_false] at this
 rcases this with h | h | h <;> cases h
 ·exact ⟨by simp [placesL], ⟨_, .head _, rfl, rfl⟩, rfl⟩
 ·exact ⟨by simp [placesL], ⟨_, .tail _ (.head _), rfl, rfl⟩, rfl⟩
 ·exact ⟨by simp [placesL], ⟨_, .tail _ (.tail _ (.head _)), rfl, rfl⟩, rfl⟩
theorem lnk_uq {links : List Lnk} (ok : LnksOk links) (hz : links.length ≤ 6) : ∀ l ∈ links, ∀ l' ∈ links, (l.1, l.2.1) = (l'.1, l'.2.1) → l = l' := fun l ml l' ml' e => by
 fin_once o1 fail
 obtain ⟨i, hi, e1, e2⟩ := lnk_name ok hz ml
 obtain ⟨j, hj, f1, f2⟩ := lnk_name ok hz ml'
 fin_once o2 fail
 have : l.2.1 = l'.2.1 := (Prod.mk.inj e).2
 rw [e2, f2] at this
 have := uS_inj i hi j hj this
 subst this
 rw [e1] at f1
 exact Option.some.inj f1
theorem lnk_ok {links : List Lnk} (ok : LnksOk links) {l : Lnk} (m : l ∈ links) : ∃ i, LnkOk i l := by
 obtain ⟨i, hi, rfl⟩ := List.getElem_of_mem m
 exact ⟨i, ok i _ (List.getElem?_eq_getElem hi)⟩
theorem cor {unit : Bool} {links : List Lnk} (ok : LnksOk links) (hz : links.length ≤ 6) : Cor (mdU unit links) (lawK unit) links segL := by
 refine ⟨fun p k e => ?_, fun p => ⟨fun e => (f_kinds unit _ (at?_in e)).2.2.1 rfl, fun e => (f_law unit _ (at?_in e)).1 rfl⟩, fun p sp e => ?_, fun p e => ?_, fun l ml => ?_, rfl⟩
 ·exact ⟨(f_kinds unit _ (at?_in e)).1, (f_kinds unit _ (at?_in e)).2.1⟩
 ·unfold inSp at e
  split at e
  ·cases e
  ·rename_i k hk
   exact (f_law unit _ (at?_in hk)).2.1
 ·have hp := (f_kinds unit _ (at?_in e)).2.2.2.1 rfl
  simp only [placesL, List.mem_cons, List.not_mem_nil, or_false] at hp
  rcases hp with hp | hp | hp
  ·cases hp
   exact ⟨_, rfl, fun x hx => ⟨fun sp hs => (f_look unit x hx sp hs).1, at_usL _ _ _⟩⟩
  ·cases hp
   exact ⟨_, rfl, fun x hx => ⟨fun sp hs => (f_look unit x hx sp hs).2.1, at_usL _ _ _⟩⟩
  ·cases hp
   exact ⟨_, rfl, fun x hx => ⟨fun sp hs => (f_look unit x hx sp hs).2.2, at_usL _ _ _⟩⟩
 ·obtain ⟨i, h⟩ := lnk_ok ok ml
  fin_once o1 fail
  obtain ⟨r, e, _, _, hr⟩ := h.names
  fin_once o2 fail
  exact ⟨r, e, hr⟩
theorem lnk_names {links : List Lnk} (ok : LnksOk links) {l : Lnk} (m : l ∈ links) : NamesOk l.2.2 ∧ ∀ x ∈ l.2.2, Nm x := by
 fin_once o1 fail
 obtain ⟨i, h⟩ := lnk_ok ok m
 obtain ⟨r, e, n1, n2, hr⟩ := h.names
 fin_once o2 fail
 have nm : ∀ x ∈ l.2.2, Nm x := fun x hx => by
  rw [e] at hx
  rcases List.mem_cons.mp hx with rfl | hx
  ·exact f_crate
  ·exact f_seg x (hr x hx)
 exact ⟨⟨by rw [e]; exact nofun, by rw [e, List.length_cons]; fin_once om fail, nm, .inl ⟨r, e⟩⟩, nm⟩
theorem wf {unit : Bool} {links : List Lnk} (ok : LnksOk links) : Wf (mdU unit links) := by
 refine ⟨rfl, fun p k e => (f_kinds unit _ (at?_in e)).2.2.2.2, fun p e => ?_, fun o tb e sp n p ep => ?_, fun o tb e n ns en => ?_⟩
 ·have hp := (f_kinds unit _ (at?_in e)).2.2.2.1 rfl
  simp only [placesL, List.mem_cons, List.not_mem_nil, or_false] at hp
  rcases hp with hp | hp | hp <;> (cases hp; rfl)
 ·fin_once o1 fail
  obtain ⟨_, ⟨ex, hex, t1, t2⟩, _⟩ := tabs_in e
  fin_once o2 fail
  obtain ⟨f1, f2⟩ := f_pubs unit ex hex
  unfold Tb.space at ep
  split at ep
  ·rw [t1] at ep
   exact f1 _ (at?_in ep)
  ·rw [t2] at ep
   exact f2 _ (at?_in ep)
 ·obtain ⟨_, _, t3⟩ := tabs_in e
  rw [t3] at en
  obtain ⟨l, ml, _, _, rfl⟩ := usL_in en
  exact (lnk_names ok ml).1
theorem nm_sg {x : Str} (h : Nm x) : Sg x := ⟨Nat.le_trans h.1 (by decide), h.2⟩
theorem plain {unit : Bool} {links : List Lnk} (ok : LnksOk links) (hz : links.length ≤ 6) : ∃ m, Plain unit links m := by
 have C := cor (unit := unit) ok hz
 have uq := lnk_uq ok hz
 have pk : ∀ l ∈ links, l.1 ∈ placesL ∧ ∃ k < 7, l.2.1 = uS k := fun l ml => by
  fin_once o1 fail
  obtain ⟨i, hi, e, en⟩ := lnk_name ok hz ml
  fin_once o2 fail
  exact ⟨(ok i l e).place, i, hi, en⟩
 have dj : Dj (lawK unit) links := fun l ml => by
  fin_once o1 fail
  obtain ⟨p, k, hk, e⟩ := pk l ml
  fin_once o2 fail
  rw [e]
  exact f_dj unit _ p k hk
 have pre : ∀ l ∈ links, ∀ rec sp, gLoop (lawK unit) links rec sp (Str.ofString "") (partsF l.1 ++ [l.2.1]) = gLoop (lawK unit) links rec sp l.1 [l.2.1] := fun l ml rec sp => by
  fin_once o1 fail
  obtain ⟨hp, _⟩ := pk l ml
  obtain ⟨i1, i2, j1, j2, p0, p1, p2, ne⟩ := f_in unit
  fin_once o2 fail
  have wt : ∀ x y : Str, wantF sp (x :: [y]) = S_ "type" := fun x y => if_neg (by fin_once sm fail)
  have wt1 : ∀ x : Str, wantF sp [x] = S_ "type" := fun x => if_neg (by fin_once sm fail)
  have step : ∀ (here x : Str) (r : List Str), r ≠ [] → kOf (lawK unit) here = S_ "mod" → inSp (lawK unit) (J here x) (S_ "type") = true → gLoop (lawK unit) links rec sp here (x :: r) = gLoop (lawK unit) links rec sp (J here x) r := fun here x r hr hk hi => by
   rw [gLoop_c, show wantF sp r = S_ "type" from if_neg hr, GS.eq (.s (by rw [hk]; exact ne) hk hi)]
   rfl
  simp only [placesL, List.mem_cons, List.not_mem_nil, or_false] at hp
  rcases hp with hp | hp | hp
  ·rw [hp]
   show gLoop _ _ _ _ _ (partsF (S_ "") ++ _) = _
   rw [p0]; rfl
  ·rw [hp]
   show gLoop _ _ _ _ (S_ "") (partsF (S_ "a") ++ _) = gLoop _ _ _ _ (S_ "a") _
   rw [p1, List.cons_append, step _ _ _ (by fin_once sm fail) (f_place unit (S_ "") (by simp [placesL])).2.1 i1, j1]
   rfl
  ·rw [hp]
   show gLoop _ _ _ _ (S_ "") (partsF (S_ "a::b") ++ _) = gLoop _ _ _ _ (S_ "a::b") _
   rw [p2, List.cons_append, List.cons_append, step _ _ _ (by fin_once sm fail) (f_place unit (S_ "") (by simp [placesL])).2.1 i1, j1, step _ _ _ (by fin_once sm fail) (f_place unit (S_ "a") (by simp [placesL])).2.1 i2, j2]
   rfl
 have pth : ∀ l ∈ links, pathF l = partsF l.1 ++ [l.2.1] := fun l ml => by
  fin_once o1 fail
  obtain ⟨hp, k, hk, e⟩ := pk l ml
  fin_once o2 fail
  unfold pathF
  rw [e]
  exact (f_path _ hp k hk).1
 have psg : ∀ l ∈ links, ∀ x ∈ pathF l, x ∈ segL := fun l ml => by
  fin_once o1 fail
  obtain ⟨hp, k, hk, e⟩ := pk l ml
  fin_once o2 fail
  unfold pathF
  rw [e]
  exact (f_path _ hp k hk).2.2.2.2.2
 have own : ∀ l ∈ links, ∀ sp ∈ bothL, endF (lawK unit) links 7 (pathF l) sp = followF (mdU unit links) [] 30 l.1 l.2.1 l.2.2 sp := fun l ml sp hs => by
  rw [pth l ml]
  exact C.path dj uq (by fin_once om fail) ml (f_place unit _ (pk l ml).1).2.1 (pre l ml) hs
 refine ⟨mdU unit links, build_eq ok hz, ?_, ?_, wf ok, ⟨(by decide : 3 < 64), fun p hp => ?_, fun p tb e => ?_⟩, fun p hp => ?_, ⟨fun p k e => ?_, f_len unit⟩, ⟨by fin_once om fail, fun l ml => ?_⟩, fun l ml => ?_, fun l ml sp hs p _ => ?_, fun l ml sp hs => ?_, fun l ml more hm => ?_, ?_⟩
 ·-- oks
  have okA : ∀ (mo : Str) (a b : List Itm), Itm.oksAt mo a → Itm.oksAt mo b → Itm.oksAt mo (a ++ b) := by
   intro mo a b
   induction a with
   | nil => exact fun _ h => h
   | cons x a ih => intro h h2; rw [Itm.oksAt] at h; rw [List.cons_append, Itm.oksAt]; exact ⟨h.1, ih h.2 h2⟩
  have okU : ∀ mo q, Itm.oksAt mo (usesF q links) := by
   intro mo q
   unfold usesF
   have : ∀ ls : List Lnk, (∀ l ∈ ls, l ∈ links) → Itm.oksAt mo (ls.map fun l => .use l.2.2 (some l.2.1)) := by
    intro ls
    induction ls with
    | nil => intro _; simp [Itm.oksAt]
    | cons l ls ih =>
     intro h
     have N := (lnk_names ok (h l (.head _))).1
     fin_once o1 fail
     obtain ⟨_, k, hk, e⟩ := pk l (h l (.head _))
     obtain ⟨_, _, _, u4, u5, _⟩ := uS_ok k hk
     fin_once o2 fail
     rw [List.map_cons, Itm.oksAt, Itm.okAt]
     refine ⟨⟨N.ne, N.len, ?_, ?_⟩, ih fun l ml => h l (.tail _ ml)⟩
     ·show l.2.1.length ≤ 100
      rw [e]; fin_once om fail
     ·show PyData.strOk l.2.1 = true
      rw [e]; exact u5
   exact this _ fun l ml => (List.mem_filter.mp ml).1
  have okB : ∀ mo, Itm.oksAt mo (itBase unit) := by
   intro mo
   have z : (Str.ofString "f").length ≤ 100 ∧ (Str.ofString "S").length ≤ 100 ∧ (Str.ofString "E").length ≤ 100 ∧ (Str.ofString "T").length ≤ 100 ∧ ∀ v ∈ [Str.ofString "V", Str.ofString "W"], v.length ≤ 100 := by decide +kernel
   unfold itBase
   simp only [Itm.oksAt, Itm.okAt, ItmOk]
   exact ⟨z.1, z.2.1, ⟨z.2.2.1, by decide, z.2.2.2.2⟩, z.2.2.2.1, trivial⟩
  have z : (Str.ofString "a").length ≤ 100 ∧ (Str.ofString "b").length ≤ 100 ∧ (J (Str.ofString "") (Str.ofString "a")).length ≤ 200 ∧ (J (J (Str.ofString "") (Str.ofString "a")) (Str.ofString "b")).length ≤ 200 ∧ at? innerL (Str.ofString "") = some (Str.ofString "a") ∧ at? innerL (J (Str.ofString "") (Str.ofString "a")) = some (Str.ofString "b") ∧ at? innerL (J (J (Str.ofString "") (Str.ofString "a")) (Str.ofString "b")) = none := by decide +kernel
  fin_once o1 fail
  obtain ⟨z1, z2, z3, z4, z5, z6, z7⟩ := z
  fin_once o2 fail
  rw [itemsF_s, z5]
  refine okA _ _ _ (okA _ _ _ (okB _) ?_) (okU _ _)
  simp only [Itm.oksAt, Itm.okAt]
  refine ⟨⟨z1, z3, ?_⟩, trivial⟩
  rw [itemsF_s, z6]
  refine okA _ _ _ (okA _ _ _ (okB _) ?_) (okU _ _)
  simp only [Itm.oksAt, Itm.okAt]
  refine ⟨⟨z2, z4, ?_⟩, trivial⟩
  rw [itemsF_s, z7]
  exact okA _ _ _ (okA _ _ _ (okB _) (by simp [Itm.oksAt])) (okU _ _)
 ·-- ics
  have icA : ∀ a b : List Itm, Itm.ics (a ++ b) = Itm.ics a + Itm.ics b := by
   intro a b
   induction a with
   | nil => simp [Itm.ics]
   | cons x a ih => rw [List.cons_append, Itm.ics, Itm.ics, ih, Nat.add_assoc]
  have icU : ∀ q, Itm.ics (usesF q links) ≤ 6 := by
   intro q
   have : ∀ ls : List Lnk, Itm.ics (ls.map fun l => .use l.2.2 (some l.2.1)) = ls.length := by
    intro ls
    induction ls with
    | nil => simp [Itm.ics]
    | cons l ls ih => rw [List.map_cons, Itm.ics, ih, show Itm.ic (.use l.2.2 (some l.2.1)) = 1 by simp [Itm.ic], List.length_cons]; fin_once om fail
   unfold usesF
   rw [this]
   exact Nat.le_trans (List.length_filter_le _ _) hz
  have icB : Itm.ics (itBase unit) = 4 := by simp [itBase, Itm.ics, Itm.ic]
  have icO : ∀ n X, Itm.ics [Itm.mod n X] = 1 + Itm.ics X := fun n X => by simp [Itm.ics, Itm.ic]
  have all : ∀ n mo, Itm.ics (itemsF unit links n mo) ≤ 11 * n := by
   intro n
   induction n with
   | zero => intro mo; simp [itemsF_0, Itm.ics]
   | succ n ih =>
    intro mo
    rw [itemsF_s, icA, icA, icB]
    have u := icU mo
    cases at? innerL mo with
    | none => simp [Itm.ics]; fin_once om fail
    | some i =>
     have := ih (J mo i)
     simp only [icO]
     fin_once om fail
  have := all 3 (Str.ofString "")
  fin_once om fail
 ·have h : p.2.uses.length ≤ links.length := by
   have ul : ∀ mo, (usL mo links).length ≤ links.length := fun mo => by
    unfold usL uL
    rw [List.length_map]
    exact List.length_filter_le _ _
   simp only [mdU, mdC, List.mem_cons, List.not_mem_nil, or_false] at hp
   rcases hp with rfl | rfl | rfl <;> exact ul _
  fin_once om fail
 ·obtain ⟨t1, _, t3⟩ := tabs_in e
  obtain ⟨p1, _, p2⟩ := f_place unit p t1
  refine ⟨by rw [show at? (mdU unit links).kinds p = _ from p1]; rfl, ⟨by fin_once om fail, p2.2⟩, fun n ns en => ?_⟩
  rw [t3] at en
  obtain ⟨l, ml, _, rfl, _⟩ := usL_in en
  fin_once o1 fail
  obtain ⟨_, k, hk, e⟩ := pk l ml
  obtain ⟨_, _, _, u4, u5, _⟩ := uS_ok k hk
  fin_once o2 fail
  rw [e]
  exact ⟨u4, u5⟩
 ·obtain ⟨p1, _, p2⟩ := f_place unit p hp
  exact ⟨⟨by fin_once om fail, p2.2⟩, by rw [show at? (mdU unit links).kinds p = _ from p1]; rfl⟩
 ·exact (f_law unit _ (at?_in e)).2.2
 ·obtain ⟨N, nm⟩ := lnk_names ok ml
  fin_once o1 fail
  obtain ⟨hp, k, hk, e⟩ := pk l ml
  obtain ⟨_, _, _, u4, u5, _⟩ := uS_ok k hk
  obtain ⟨_, _, p2⟩ := f_place unit _ hp
  obtain ⟨i, h⟩ := lnk_ok ok ml
  obtain ⟨r, er, _⟩ := h.names
  fin_once o2 fail
  exact ⟨⟨by fin_once om fail, p2.2⟩, by rw [e]; exact ⟨by fin_once om fail, u5⟩, ⟨_, r, er⟩, N.len, fun x hx => nm_sg (nm x hx)⟩
 ·fin_once o1 fail
  obtain ⟨hp, k, hk, e⟩ := pk l ml
  fin_once o2 fail
  fin_once o1 fail
  obtain ⟨u1, u2, u3, u4, u5, _⟩ := uS_ok k hk
  obtain ⟨_, q2, q3, q4, _, q6⟩ := f_path _ hp k hk
  fin_once o2 fail
  have ps := psg l ml
  unfold pathF at ps ⊢
  rw [e] at ps ⊢
  exact ⟨⟨u4, u5⟩, u1, u2, u3, q2, q3, q4, fun x hx => ⟨f_seg x (ps x hx), nm_sg (f_seg x (ps x hx))⟩⟩
 ·exact C.find dj uq (by fin_once om fail) p hs (psg l ml)
 ·fin_once o1 fail
  obtain ⟨hp, k, hk, e⟩ := pk l ml
  fin_once o2 fail
  rw [own l ml sp hs]
  exact C.here dj uq ml (f_place unit _ hp).1 (by rw [e]; exact (f_path _ hp k hk).2.2.2.2.1) (by rw [e]; exact (uS_ok k hk).1) hs
 ·refine C.find dj uq (by fin_once om fail) _ (by simp [bothL]) fun x hx => ?_
  rcases List.mem_append.mp hx with hx | hx
  ·exact psg l ml x hx
  ·rw [List.mem_singleton.mp hx]
   simp only [List.mem_cons, List.not_mem_nil, or_false] at hm
   rcases hm with rfl | rfl | rfl <;> simp [segL]
 ·constructor
  ·rintro ⟨mo, tb, name, ns, e1, e2, b1, b2⟩
   obtain ⟨_, _, t3⟩ := tabs_in e1
   rw [t3] at e2
   obtain ⟨l, ml, rfl, rfl, rfl⟩ := usL_in e2
   exact ⟨l, ml, by rw [own l ml _ (by simp [bothL])]; exact b1, by rw [own l ml _ (by simp [bothL])]; exact b2⟩
  ·rintro ⟨l, ml, b1, b2⟩
   rw [own l ml _ (by simp [bothL])] at b1 b2
   fin_once o1 fail
   obtain ⟨tb, e1, ht⟩ := C.t l.1 (f_place unit _ (pk l ml).1).1
   obtain ⟨hp, k, hk, e⟩ := pk l ml
   fin_once o2 fail
   refine ⟨l.1, tb, l.2.1, l.2.2, e1, ?_, b1, b2⟩
   rw [(ht l.2.1 (by rw [e]; exact (f_path _ hp k hk).2.2.2.2.1)).2]
   cases q : links.find? (fun l' => decide (l'.1 = l.1) && decide (l'.2.1 = l.2.1)) with
   | none => exact absurd (List.find?_eq_none.mp q l ml) (by fin_once sm fail)
   | some l' =>
    have h := List.find?_some q
    rw [Bool.and_eq_true, decide_eq_true_eq, decide_eq_true_eq] at h
    rw [uq l' (find_in q) l ml (by rw [h.1, h.2])]
    rfl
end
theorem At.now2 {A : Around} {bs : List Heap} {env : Env} {L : Addr} {ks gs : List Str} {cs : List Cell} {vs : List (Option Value)} {h : Heap} (H : At A bs L ks cs vs h) (F : Fn A env L ks gs) : ∃ g, (∀ b ∈ bs, Ch [] b g) ∧ At A (g :: bs) L ks cs vs h ∧ (∀ b o, h.get? b = some o → isFr b o = false → (∀ c ∈ cs, c.1 ≠ b) → g.get? b = some o) ∧ (∀ b o, h.get? b = some o → isT o → g.get? b = some o) := by
 refine H.nowK F fun g x Hg kp => ?_
 refine ⟨g, x, Hg, kp, fun b o e t => kp b o e (isFr_tuple t.1) fun c hc q => ?_⟩
 fin_once o1 fail
 obtain ⟨o', e', _, m⟩ := H.cells.all c hc
 fin_once o2 fail
 rw [q, e] at e'
 cases e'
 exact mutO_tup m t.1
theorem At.now2K {A : Around} {bs : List Heap} {env : Env} {L : Addr} {ks gs : List Str} {cs : List Cell} {vs : List (Option Value)} {h : Heap} {G : Prop} (H : At A bs L ks cs vs h) (F : Fn A env L ks gs) (k : ∀ g, (∀ b ∈ bs, Ch [] b g) → (At A (g :: bs) L ks cs vs h) → (∀ b o, h.get? b = some o → isFr b o = false → (∀ c ∈ cs, c.1 ≠ b) → g.get? b = some o) → (∀ b o, h.get? b = some o → isT o → g.get? b = some o) → G) : G := by
 obtain ⟨g, x1, x2, x3, x4⟩ := H.now2 F
 exact k g x1 x2 x3 x4
theorem At.ne_new {A : Around} {bs : List Heap} {L : Addr} {ks : List Str} {cs : List Cell} {vs : List (Option Value)} {h : Heap} {a : Addr} (H : At A bs L ks cs vs h) (n : h.get? a = none) : ∀ c ∈ cs, c.1 ≠ a := fun c hc q => by
 obtain ⟨o, e, _⟩ := H.cells.all c hc
 rw [q, n] at e
 cases e
section
variable {A : Around} {E E' : Value → Shared → Prop} {h g : Heap} {bs : List Heap} {tk : Nat} {env : Env} {L it : Addr} {ks : List Str} {cs : List Cell} {vs : List (Option Value)} {target : PySem.Expr}
end
omit rt0 in
theorem rd_told {h : Heap} {v : Value} {o : Option Str} (t : ToldV v o) : Rd h v (optD o) := by
 rcases t with ⟨rfl, rfl⟩ | ⟨x, t, rfl, rfl⟩
 ·exact Reads.none
 ·exact Reads.str _ _
omit rt0 in
theorem canLay_opt {o : Option Str} (k : ∀ x, o = some x → PyData.strOk x = true) : (optD o).canLay0 = true := by
 cases o with
 | none => rfl
 | some x => exact k x rfl
omit rt0 in
theorem eqv_opt (a b : Option Str) : PyData.eqv (optD a) (optD b) = decide (a = b) := by
 cases a <;> cases b
 ·rfl
 ·rfl
 ·rfl
 ·rename_i x y
  show (x == y) = _
  by_cases q : x = y
  ·subst q; simp
  ·rw [beq_eq_false_iff_ne.mpr q, decide_eq_false fun z => q (Option.some.inj z)]
theorem eqv_l2 (a b c d : Option Str) : PyData.eqv (.list [optD a, optD b]) (.list [optD c, optD d]) = decide (a = c ∧ b = d) := by
 show (PyData.eqv (optD a) (optD c) && (PyData.eqv (optD b) (optD d) && true)) = _
 rw [Bool.and_true, eqv_opt, eqv_opt]
 exact (Bool.decide_and _ _).symm
omit rt0 in
theorem depth_opt (o : Option Str) : (optD o).depth = 0 := by cases o <;> rfl
omit rt0 in
theorem depth_l2 (a b : Option Str) : (PyData.list [optD a, optD b]).depth = 1 := by cases a <;> cases b <;> rfl
section
variable {A : Around} {E : Value → Shared → Prop} {h : Heap} {tk : Nat} {Q : Value → Shared → Prop}
inductive RR1 (lostP : Lnk → Bool) (links : List Lnk) (unit : Bool) (src dk ll lf nn xm : Addr) (g3 g : Heap) : Nat → List Heap → List Cell → List (Option Value) → Prop
 | mk {i : Nat} {ys : List Value} {o1 o2 o3 o4 o5 o6 o7 o8 : Option Value} (yz : ys.length ≤ i) (ye : decide (ys ≠ []) = (links.take i).any lostP) : RR1 lostP links unit src dk ll lf nn xm g3 g i [g3, g] [(lf, PLO ys), (nn + 2, CellO o1), (nn + 1, CellO o2), (nn, CellO (some (.ref xm))), (src, SrcO)] [some (.ref src), some (.bool unit), some (.ref dk), some (.ref ll), some (.ref lf), o3, o4, o5, o6, o7, o8]
inductive RR2 (links : List Lnk) (l : Lnk) (unit : Bool) (src dk ll lf nn xm lfo it1 tp : Addr) (t1 t2 : Tok) (w3 : Value) (o8 : Option Value) (ys : List Value) (i : Nat) (g5 g4 g3 g : Heap) : Nat → List Heap → List Cell → List (Option Value) → Prop
 | mk {j : Nat} {fs : List Value} {o9 o10 : Option Value} (rfs : ReadsAll g fs ((bothL.take j).map fun sp => optD (endF (lawK unit) links 7 (pathF l) sp)) []) : RR2 links l unit src dk ll lf nn xm lfo it1 tp t1 t2 w3 o8 ys i g5 g4 g3 g j [g5, g4, g3, g] [(lfo, PLO fs), (it1, LI ll (i + 1)), (lf, PLO ys), (nn + 2, CellO o9), (nn + 1, CellO (some (.str l.1 t1))), (nn, CellO (some (.ref xm))), (src, SrcO)] [some (.ref src), some (.bool unit), some (.ref dk), some (.ref ll), some (.ref lf), some (.str l.2.1 t2), some w3, some (.ref tp), some (.ref lfo), o10, o8]
inductive RR3 (l : Lnk) (unit : Bool) (src dk ll lf nn xm lfo it1 tp : Addr) (t1 t2 : Tok) (w3 : Value) (o9 : Option Value) (fs ys : List Value) (i : Nat) (g5 g4 g3 g : Heap) : Nat → List Heap → List Cell → List (Option Value) → Prop
 | mk {j : Nat} {o11 o12 : Option Value} : RR3 l unit src dk ll lf nn xm lfo it1 tp t1 t2 w3 o9 fs ys i g5 g4 g3 g j [g5, g4, g3, g] [(lfo, PLO fs), (it1, LI ll (i + 1)), (lf, PLO ys), (nn + 2, CellO o9), (nn + 1, CellO (some (.str l.1 t1))), (nn, CellO (some (.ref xm))), (src, SrcO)] [some (.ref src), some (.bool unit), some (.ref dk), some (.ref ll), some (.ref lf), some (.str l.2.1 t2), some w3, some (.ref tp), some (.ref lfo), o11, o12]
theorem c_right {src : Addr} {unit : Bool} (C : Cm (Mine.hd.heap_1 w.params) A h [src] 135) (hh : A.handled = none) (I : ∃ o, h.get? src = some o ∧ SrcO o) (PL : ∀ links, LnksOk links → 1 ≤ links.length → links.length ≤ 6 → ∃ m, Plain unit links m)
  (k : ∀ h' tk', Ch [src] h h' → (∃ o', h'.get? src = some o' ∧ SrcO o') → Q (.bool true) (St s h' tk')) :
  wpAny (model prog w) A (call (.ref 344) [.ref src, .bool unit]) Q E (St s h tk) := by
 fin_once o1 fail
 obtain ⟨⟨g, T, x, n, d, kp⟩, ff, r⟩ := C
 obtain ⟨o, ho, so⟩ := I
 fin_once o2 fail
 have fr := frs_src ho so
 refine fnC (bs := [g]) (cs := [(src, SrcO)]) [("source", .ref src), ("unit", .bool unit)] ["source", "unit", "kinds", "links", "lost", "name", "names", "path", "found", "due", "more"] ["_law_kinds", "_law_drawn", "Modules", "_law_items", "_law_parts", "_law_joined", "_law_end", "_law_told", "_law_one", "_law_places", "NameFault"] (fun n => [(n + 2, CellO none), (n + 1, CellO none), (n, CellO none)]) [some (.ref src), some (.bool unit), none, none, none, none, none, none, none, none, none] T (.head _) (by simpa using x) ⟨fun c hc => ?_, by fin_once sm fail⟩ (by simpa using n) ff ⟨_, .head _, d⟩ (by k_is) (by k_is) r.room (BindsTo.of_eq rfl) (by decide +kernel) (by decide +kernel) (by decide +kernel) rfl rfl rfl ?_ ?_
 ·rw [List.mem_singleton.mp hc]
  exact ⟨o, ho, so, mutO_list so.1⟩
 ·intro n env hs hc
  have lo : ∀ x ∈ ["source", "unit"], env.kindOf x = some .local := by
   intro x hx
   unfold Env.kindOf
   rw [hs]
   revert x
   decide +kernel
  exact .loc (lo _ (by fin_once sm fail)) (.head) (.loc (lo _ (by fin_once sm fail)) (.tail .head) .nil)
 intro nn env L h₁ tk₁ F H hc hs hcl
 dsimp only [List.cons_append, List.nil_append] at H
 have hcl' : ∃ a b c, env.cells = [(a, nn + 2), (b, nn + 1), (c, nn)] := ⟨_, _, _, by rw [hcl]; rfl⟩
 have c1 : Cv env "modules" nn := ⟨by unfold Env.kindOf; rw [hs]; rfl, by rw [hcl]; rfl⟩
 have c2 : Cv env "place" (nn + 1) := ⟨by unfold Env.kindOf; rw [hs]; rfl, by rw [hcl]; rfl⟩
 have c3 : Cv env "space" (nn + 2) := ⟨by unfold Env.kindOf; rw [hs]; rfl, by rw [hcl]; rfl⟩
 have hk : env.scope.kind = .function := F.kind
 have V := F.nv
 have R : Rm (A.deeper env) 134 := r.deeper (by fin_once om fail)
 have hh' : (A.deeper env).handled = none := hh
 have gd : HdOk (A.deeper env) g := d
 fin_once gg fail
 refine PyProof.Rows.Tuple_ ?_
 fin_once gg fail
 refine c_kinds (H.cx T (by fin_once sm fail) R (by fin_once om fail)) hh' fun dk h₂ tk₂ ok c₂ ek Dk lok nk => ?_
 have nk' := H.ne_new nk
 refine (H.keep c₂).now2K F fun g1 x1 H₂ kp1 kt1 => ?_
 have Dk : DctP (· = dk) g1 dk IsS (lawK unit) := by
  obtain ⟨kvs, D, Tb⟩ := Dk
  exact ⟨ok, kvs, rfl, lok, kp1 _ _ ek (mutO_fr D.mut) nk', D, Tb⟩
 fin_once gg fail
 refine H₂.cells.getK (a := src) (φ := SrcO) (by fin_once sm fail) fun o₁ e₁ s₁ _ => ?_
 refine c_drawn (H₂.cm T (by fin_once sm fail) (fun a ha => ⟨(src, SrcO), by fin_once sm fail, (List.mem_singleton.mp ha).symm⟩) R (by fin_once om fail)) hh' ⟨o₁, e₁, s₁⟩ fun ll links h₃ tk₃ lits lok1 lz1 lz6 c₃ so₃ il ra nls => ?_
 have H₃ := H₂.drew (by fin_once sm fail) c₃ so₃
 obtain ⟨m, PM⟩ := PL links lok1 lz1 lz6
 have ncell : ∀ {h' : Heap} {l : Addr} {its : Array Value} {cs : List Cell}, Cells h' cs → h'.IsList l its → (∀ c ∈ cs, (∀ o, c.2 o → o.cls ≠ .type "list") ∨ c.1 ≠ l) → ∀ c ∈ cs, c.1 ≠ l := fun CC hl k c hc q => by
  fin_once o1 fail
  obtain ⟨o, eo, po, _⟩ := CC.all c hc
  obtain ⟨o', eo', co', _⟩ := hl
  fin_once o2 fail
  rw [q, eo'] at eo
  cases eo
  exact (k c hc).elim (fun k => k _ po co') fun k => k q
 have cellN : ∀ v o, CellO v o → o.cls ≠ .type "list" := fun v o po q => by rw [po.1] at q; exact absurd q (by decide)
 refine H₃.now2K F fun g2 x2 H₃ kp2 kt2 => ?_
 have gl : g2.IsList ll lits := by
  fin_once o1 fail
  obtain ⟨o, e, c, r⟩ := id il
  fin_once o2 fail
  refine ⟨o, kp2 _ _ e (mutO_fr (mutO_list c)) (ncell H₃.cells il fun c hc => ?_), c, r⟩
  simp only [List.mem_cons, List.not_mem_nil, or_false] at hc
  rcases hc with rfl | rfl | rfl | rfl
  ·exact .inl (cellN _)
  ·exact .inl (cellN _)
  ·exact .inl (cellN _)
  ·exact .inr nls.symm
 have ga := readsAll_mv ra fun b o e t => kt2 b o e (t.resolve_right (by fin_once sm fail))
 have Dk := Dk.tr (x2 g1 (by fin_once sm fail)).tr fun _ _ q => q
 fin_once gg fail
 refine w_newTupleN H₃ (by fin_once sm fail) fun tq h₄ H₄ c₄ tt4 => ?_
 fin_once gg fail
 refine w_unpack2 H₄ F tt4 (by fin_once lk fail) (by fin_once lk fail) fun h₅ tk₅ H₅ => ?_
 fin_once gg fail
 refine PyProof.Rows.Assign_Tuple ?_ ?_ ?_
 rotate_left
 ·rfl
 ·exact swp (l := [(_, _), (_, _)]) [("modules", .cell), ("lost", .local)] F.kind (all2 c1.k (F.lo "lost" (by fin_once sm fail))) (by with_unfolding_all rfl)
 refine PyProof.Rows.Tuple_ ?_
 fin_once gg fail
 rename At _ _ _ _ _ _ _ => H₆
 refine c_lawItems (unit := unit) (links := links) (by fin_once om fail) (H₆.cx T (by fin_once sm fail) R (by fin_once om fail)) hh' (isList_ch gl (H₆.ch g2 (by fin_once sm fail))) (readsAll_ch ga (H₆.ch g2 (by fin_once sm fail))) fun li h₇ tk₇ iits c₇ ili rai => ?_
 have H₇ := H₆.keep c₇
 fin_once gg fail
 refine c_modules (H₇.cx T (by fin_once sm fail) R (by fin_once om fail)) hh' ili rai PM.oks PM.ics (fun xm h₈ tk₈ Fo nm dk' dp dt dg di m' em c₈ MX OF NF => ?_) (fun e s' q => by rw [PM.b] at q; cases q)
 obtain rfl : m = m' := by rw [PM.b] at em; cases em; rfl
 have Md := MX.md
 refine (H₇.keep c₈).now2K F fun g3 x3 H₈ kp3 kt3 => ?_
 have Md : MdAt (inF Fo) g3 xm m := Md.tr fun b o e pb f => by
  rcases pb with pb | pb
  ·obtain ⟨rr, hr⟩ := pb
   exact kp3 _ _ e f (H₇.ne_new (NF _ hr))
  ·exact kt3 _ _ e pb
 have Dk := Dk.tr (x3 g2 (by fin_once sm fail)).tr fun _ _ q => q
 have gl := isList_ch gl (x3 g2 (by fin_once sm fail))
 have ga := readsAll_ch ga (x3 g2 (by fin_once sm fail))
 have H₈ := H₈.drop (bs' := [g3, g]) (by fin_once sb fail) ⟨g, by fin_once sm fail, gd⟩
 fin_once gg fail
 refine w_newListP H₈ (by fin_once sm fail) fun lf h₉ H₉ c₉ => ?_
 fin_once gg fail
 refine w_newTupleN H₉ (by fin_once sm fail) fun tq2 ha Ha ca tta => ?_
 fin_once gg fail
 refine w_assignT Ha tta rfl rfl fun hb Hb _ => wpAny_assignInOrder_more (w_cassign Hb hk c1 (by fin_once turn fail) fun hc' Hc => wpAny_assignInOrder_more (w_assign Hc F (by fin_once lk fail) fun hd tkd Hd => wpAny_assignInOrder_none ?_))
 clear H₃ H₄ H₆ H₇ H₈ H₉ Ha Hb Hc H₂ H
 have lostE : ∃ lostP : Lnk → Bool, lostP = fun l => (endF (lawK unit) links 7 (pathF l) (Str.ofString "type")).isNone && (endF (lawK unit) links 7 (pathF l) (Str.ofString "value")).isNone := ⟨_, rfl⟩
 obtain ⟨lostP, hlost⟩ := lostE
 have Ln := readsAll_len ga
 rw [List.length_map, Array.length_toList] at Ln
 obtain ⟨pits, pgl, psa⟩ := g_places T.k
 have ne287 : 287 ≠ src := by
  obtain ⟨o, e, _⟩ := pgl
  exact fun q => by rw [q, n src (.head _)] at e; cases e
 have oneC : ∀ {bs cs vs h' tk' Q}, At (A.deeper env) bs L ["source", "unit", "kinds", "links", "lost", "name", "names", "path", "found", "due", "more"] cs vs h' → g ∈ bs → (src, SrcO) ∈ cs →
   (∀ x t h'' tk'', x ∈ placesL → At (A.deeper env) bs L ["source", "unit", "kinds", "links", "lost", "name", "names", "path", "found", "due", "more"] cs vs h'' → Ch [src] h' h'' → Q (.str x t) (St s h'' tk'')) → wpAny (model prog w) (A.deeper env) (call (.ref 283) [.ref src, .ref 287]) Q No (St s h' tk') := by
  intro bs cs vs h' tk' Q H' mb mc k'
  have sl : pits.size = 3 := by
   have := psa.length
   rwa [Array.length_toList] at this
  refine H'.cells.getK mc fun o₁ e₁ s₁ _ => ?_
  refine c_one (H'.cm T mb (fun a ha => ⟨(src, SrcO), mc, (List.mem_singleton.mp ha).symm⟩) R (by fin_once om fail)) ⟨o₁, e₁, s₁⟩ (isList_ch pgl (H'.ch g mb)) ne287 (by fin_once om fail) (by fin_once om fail) fun i v h₃ tk₃ hv c₃ so₃ => ?_
  have hi : i < pits.size := (Array.getElem?_eq_some_iff.mp hv).1
  have pz : placesL.length = 3 := rfl
  obtain ⟨mo, hmo⟩ : ∃ mo, placesL[i]? = some mo := ⟨_, List.getElem?_eq_getElem (by fin_once om fail)⟩
  obtain ⟨tm, rfl⟩ := strsAre_get psa (by rw [Array.getElem?_toList]; exact hv) hmo
  exact k' mo tm h₃ tk₃ (List.mem_of_getElem? hmo) (H'.drew mc c₃ so₃) c₃
 have gxd := Md
 have nmself : Nm (Str.ofString "self") := by unfold Nm; decide +kernel
 have lk_place : ∀ l ∈ links, l.1 ∈ placesL := fun l ml => by
  obtain ⟨i, h⟩ := lnk_ok lok1 ml
  exact h.place
 fin_once nx fail
 refine w_ForM (E' := No) (L := L) ["source", "unit", "kinds", "links", "lost", "name", "names", "path", "found", "due", "more"] hh' thr_no (fun _ => rfl) (.inr ⟨_, _, _, rfl⟩) ?_
 fin_once gg fail
 refine .mk (RR1 lostP links unit src dk ll lf nn xm g3 g) gl Hd (.mk (ys := []) (Nat.le_refl _) (by fin_once sm fail)) (fun i bs cs vs hR => ?_) (fun it1 i v bs cs vs h₁ tk₁ hv hR H₁ Q1 hQ1 => ?_) fun bs cs vs h₁ tk₁ hR H₁ => ?_
 ·induction hR; simp
 ·induction hR
  rename_i ys o1 o2 o3 o4 o5 o6 o7 o8 yz ye
  have hi : i < lits.size := (Array.getElem?_eq_some_iff.mp hv).1
  obtain ⟨l, hlk⟩ : ∃ l, links[i]? = some l := ⟨_, List.getElem?_eq_getElem (by fin_once om fail)⟩
  have ml : l ∈ links := List.mem_of_getElem? hlk
  have lv := lnk_get ga hv hlk
  induction lv
  rename_i tl t1 t2 w3 htl ra3
  fin_once o1 fail
  obtain ⟨⟨sz1, sz2⟩, nw, npre, nsup, jz, jsp, pz, psg⟩ := PM.seg l ml
  fin_once o2 fail
  have plz : l.1.length ≤ 100 := (PM.lok.s l ml).1.1
  refine w_assignT H₁ (isTup_ch htl (H₁.ch g3 (by fin_once sm fail))) rfl rfl fun h₂ H₂ _ => wpAny_assignInOrder_more (w_cassign H₂ hk c2 (by fin_once turn fail) fun h₃ H₃ => wpAny_assignInOrder_more (w_assign H₃ F (by fin_once lk fail) fun h₄ tk₄ H₄ => wpAny_assignInOrder_more (w_assign H₄ F (by fin_once lk fail) fun h₅ tk₅ H₅ => wpAny_assignInOrder_none ?_)))
  refine w_seq ?_
  fin_once gg fail
  refine c_ljoined (H₅.cx T (by fin_once sm fail) R (by fin_once om fail)) (by fin_once om fail) (by fin_once om fail) fun t₃ h₆ tk₆ cc₆ => ?_
  have H₆ := H₅.keep cc₆
  fin_once gg fail
  refine c_parts (H₆.cx T (by fin_once sm fail) R (by fin_once om fail)) jz jsp fun tp h₇ tk₇ cc₇ rp => ?_
  refine (H₆.keep cc₇).base'K fun g4 x4 H₇ _ kt4 => ?_
  have rp : Rd g4 (.ref tp) (strsD (pathF l)) := rp.mv kt4
  have Dk4 := Dk.tr (x4 g3 (by fin_once sm fail)).tr fun _ _ q => q
  fin_once gg fail
  rename At _ _ _ _ _ _ _ => H₈
  refine w_newListP H₈ (by fin_once sm fail) fun lfo h₉ H₉ c₉ => ?_
  fin_once gg fail
  rename At _ _ _ _ _ _ _ => Ha
  clear H₁ H₂ H₃ H₄ H₅ H₆ H₇ H₈ H₉
  refine w_ForM (E' := No) (L := L) ["source", "unit", "kinds", "links", "lost", "name", "names", "path", "found", "due", "more"] hh' thr_no (fun _ => rfl) (.inl ⟨_, _, rfl⟩) ?_
  fin_once gg fail
  refine w_newListG Ha F (by fin_once sm fail) fun l2 g5 hb Hb cb xg5 gl2 tg5 nl2 => ?_
  refine .mk (RR2 links l unit src dk ll lf nn xm lfo it1 tp t1 t2 w3 o8 ys i g5 g4 g3 g) gl2 Hb (.mk (fs := []) .nil) (fun j bs cs vs hR => ?_) (fun it2 j v bs cs vs h₁ tk₁ hv2 hR H₁ Q2 hQ2 => ?_) fun bs cs vs h₁ tk₁ hR H₁ => ?_
  ·induction hR; simp
  ·induction hR
   rename_i fs o9 o10 rfs
   have jz : j < 2 := (Array.getElem?_eq_some_iff.mp hv2).1
   obtain ⟨sp, tsp, rfl, er, ms⟩ : ∃ (x : Str) (tx : Tok), v = .str x tx ∧ bothL[j]? = some x ∧ x ∈ bothL := by
    exact are (P := fun j v => ∃ (x : Str) (tx : Tok), v = .str x tx ∧ bothL[j]? = some x ∧ x ∈ bothL) (Array.getElem?_toList.trans hv2) (arc ⟨_, _, rfl, rfl, .head _⟩ (arc ⟨_, _, rfl, rfl, .tail _ (.head _)⟩ arn))
   have sgsp : Sg sp ∧ Nm sp := by
    have : ∀ x ∈ bothL, (x.length ≤ 100 ∧ PyData.strOk x = true) ∧ x.length ≤ 40 ∧ PyData.strOk x = true := by decide +kernel
    exact this sp ms
   fin_once gg fail
   rename At _ _ _ _ _ _ _ => H₂
   refine H₂.opC2 fun CT hCT mT H₂ => ?_
   have m0 := mT (c := (nn + 2, CellO _)) (by fin_once lk fail)
   have m1 := mT (c := (nn + 1, CellO _)) (by fin_once lk fail)
   have m2 := mT (c := (nn, CellO _)) (by fin_once lk fail)
   have m3 := mT (c := (src, SrcO)) (by fin_once lk fail)
   clear mT
   obtain ⟨due, hdue⟩ : ∃ due, due = endF (lawK unit) links 7 (pathF l) sp := ⟨_, rfl⟩
   refine c_endAll PM.kok PM.lok 7 (H₂.cx T (by fin_once sm fail) R (by fin_once om fail)) hh' (Dk4.tr (H₂.ch g4 (by fin_once sm fail)).tr fun _ _ q => q) (isList_ch gl (H₂.ch g3 (by fin_once sm fail))) (readsAll_ch ga (H₂.ch g3 (by fin_once sm fail))) (rp.ch (H₂.ch g4 (by fin_once sm fail))) (by fin_once om fail) (fun x hx => (psg x hx).2) sgsp.1 fun vd h₃ tk₃ c₃ gv => ?_
   rw [← hdue] at gv
   have H₃ := H₂.keep c₃
   fin_once gg fail
   rename At _ _ _ _ _ _ _ => H₄
   refine H₄.opE fun VT hVT lv H₄ => ?_
   have e0 := lv (x := "source") (by fin_once lk fail)
   have e1 := lv (x := "name") (by fin_once lk fail)
   have e2 := lv (x := "names") (by fin_once lk fail)
   have e3 := lv (x := "path") (by fin_once lk fail)
   have e4 := lv (x := "found") (by fin_once lk fail)
   have e5 := lv (x := "due") (by fin_once lk fail)
   clear lv
   refine w_lmeth H₄ (by fin_once mem fail) slot_list_append type_list_append ?_
   fin_once gg fail
   have fz : fs.length ≤ 10 := by
    have := readsAll_len rfs
    rw [List.length_map, List.length_take] at this
    fin_once om fail
   refine w_append H₄ (by fin_once mem fail) (by fin_once turn fail) (by fin_once om fail) fun h₅ H₅ => ?_
   fin_once gg fail
   have nmc : Nm (Str.ofString "crate") := f_crate
   refine oneC H₅ (by fin_once sm fail) (by fin_once sm fail) fun p1 tp1 h₆ tk₆ mp1 H₆ _ => ?_
   obtain ⟨pa1, pk1⟩ := PM.pl p1 mp1
   fin_once gg fail
   refine evd (strsD [Str.ofString "crate"]) H₆ (by simp only [strsD, List.map_cons, List.map_nil]; repeat' fin_once ev fail) fun v1 h₇ tk₇ H₇ c₇ rv1 => ?_
   fin_once gg fail
   refine w_addT H₇ rv1 (rp.ch (H₇.ch g4 (by fin_once sm fail))) (by simp; fin_once om fail) fun t6 h₈ H₈ c₈ r6 => ?_
   fin_once gg fail
   refine c_told (ns := Str.ofString "crate" :: pathF l) PM.wf (H₈.cx T (by fin_once sm fail) R (by fin_once om fail)) hh' (Md.tr (H₈.ch g3 (by fin_once sm fail)).tr) (by unfold strsD; simpa using r6) ⟨by fin_once sm fail, by simp; fin_once om fail, fun x hx => ?_, .inl ⟨_, rfl⟩⟩ pa1 pk1 sgsp.2 fun v4 h₉ tk₉ c₉ tv => ?_
   ·rcases List.mem_cons.mp hx with rfl | hx
    ·exact nmc
    ·exact (psg x hx).1
   rw [PM.f1 l ml sp ms p1 mp1, ← hdue] at tv
   have H₉ := H₈.keep c₉
   fin_once gg fail
   have sgd : ∀ x, due = some x → PyData.strOk x = true := fun x hx => (endF_sg PM.kok 7 _ _ _ (hdue.symm.trans hx)).2
   refine w_ne (rd_told tv) (rd_got gv) (canLay_opt sgd) (canLay_opt sgd) (by rw [depth_opt]; exact R.un2 rfl) ?_
   rw [eqv_opt, decide_eq_true rfl]
   fin_once gg fail
   clear H₂ H₃ H₄ H₅ H₆ H₇ H₈
   have f2 := PM.f2 l ml sp ms
   have kp1 : (at? m.kinds l.1).isSome = true := (PM.pl l.1 ((lk_place l ml))).2
   have pal : Pa l.1 := (PM.pl l.1 ((lk_place l ml))).1
   refine w_comp (L := L) (ks := ["source", "unit", "kinds", "links", "lost", "name", "names", "path", "found", "due", "more"]) ["_law_told"] (fun j ys => ys.length ≤ j ∧ ReadsAll g ys ((List.replicate j due).map optD) []) V (cl := [("space", nn + 2), ("place", nn + 1), ("modules", nn)]) (by simp [closureFor, cellOf, c1.l, c2.l, c3.l]) (by decide +kernel) rfl (by decide +kernel) (by decide +kernel) (by decide +kernel) (fun _ => rfl) (fun i ys h => h.1) ⟨Nat.le_refl _, .nil⟩ ?_
   fin_once gg fail
   refine evd (strsD [l.2.1]) H₉ (by simp only [strsD, List.map_cons, List.map_nil]; repeat' fin_once ev fail) fun v5 ha tka Ha ca rv5 => ?_
   fin_once gg fail
   refine evd (strsD [Str.ofString "self", l.2.1]) Ha (by simp only [strsD, List.map_cons, List.map_nil]; repeat' fin_once ev fail) fun v6 hb2 tkb Hb2 cb2 rv6 => ?_
   refine Hb2.base'K fun g6 x6 Hb2 _ kt6 => ?_
   have rv5 := (rv5.ch cb2).mv kt6
   have rv6 := rv6.mv kt6
   fin_once gg fail
   refine w_newListG Hb2 F (by fin_once sm fail) fun l3 g7 hc2 Hc2 cc2 xg7 gl3 tg7 nl3 => ?_
   have hlb := isList_ch gl3 (Hc2.ch g7 (by fin_once sm fail))
   refine wpAny_pyIter_list (s := St s hc2 _) hlb ?_
   have ne3 : l3 ≠ hc2.objs.size := by obtain ⟨o, e, _⟩ := hlb; exact Nat.ne_of_lt (Heap.lt_size e)
   have rv5 := rv5.ch (xg7 g6 (by fin_once sm fail))
   have rv6 := rv6.ch (xg7 g6 (by fin_once sm fail))
   refine .mk (n := 2) (Itr.list hh' ne3 gl3 (fun i v s Q E st q => own_name q)) (by fin_once sm fail) (Hc2.push ⟨rfl, rfl⟩ rfl rfl) (by fin_once om fail) (fun j2 v7 bs' C' D ys2 hc tkc hj2 hv7 hR2 sub Hc V' => ?_) fun D ys2 hc tkc hR2 Hc => ?_
   ·have x1 := V'.cv c1 hk rfl rfl
    have x2 := V'.cv c2 hk rfl rfl
    have x3 := V'.cv c3 hk rfl rfl
    have hk' := V'.kind
    have mg : g ∈ bs' := sub _ (by fin_once sm fail)
    have mg7 : g7 ∈ bs' := sub _ (by fin_once sm fail)
    have mg3 : g3 ∈ bs' := sub _ (by fin_once sm fail)
    rw [List.forIn_nil]
    refine wpAny_pure ?_
    rw [if_pos rfl]
    fin_once gg fail
    have fin2 : ∀ vt hd tkd, Ch [] hc hd → ToldV vt due → ElD (A.deeper env) bs' C' hc2.objs.size D (Str.ofString "way") v7 (LI l3 (j2 + 1)) _ ys2 (fun ys => ys.length ≤ j2 + 1 ∧ ReadsAll g ys ((List.replicate (j2 + 1) due).map optD) []) vt (St s hd tkd) := fun vt hd tkd cd tv => by
     refine .mk ⟨by simp; exact hR2.1, ?_⟩ (Hc.keep cd)
     rw [List.replicate_succ', List.map_append]
     exact readsAll_snoc hR2.2 (rd_told tv)
    rcases j2 with _ | _ | j2
    ·simp at hv7
     subst hv7
     refine c_told (ns := [l.2.1]) PM.wf (Hc.cx T mg R (by fin_once om fail)) hh' (Md.tr (Hc.ch g3 mg3).tr) (rv5.ch (Hc.ch g7 mg7)) ⟨by fin_once sm fail, by fin_once sm fail, fun x hx => ?_, .inr (.inr ⟨_, _, rfl, nw, npre⟩)⟩ pal kp1 sgsp.2 fun vt hd tkd cd tv => ?_
     ·rw [List.mem_singleton.mp hx]; exact ⟨sz1, sz2⟩
     ·rw [f2.1, ← hdue] at tv
      exact fin2 _ _ _ cd tv
    ·simp at hv7
     subst hv7
     refine c_told (ns := [Str.ofString "self", l.2.1]) PM.wf (Hc.cx T mg R (by fin_once om fail)) hh' (Md.tr (Hc.ch g3 mg3).tr) (rv6.ch (Hc.ch g7 mg7)) ⟨by fin_once sm fail, by fin_once sm fail, fun x hx => ?_, .inr (.inl ⟨_, _, rfl, nsup⟩)⟩ pal kp1 sgsp.2 fun vt hd tkd cd tv => ?_
     ·simp only [List.mem_cons, List.not_mem_nil, or_false] at hx
      rcases hx with rfl | rfl
      ·exact nmself
      ·exact ⟨sz1, sz2⟩
     ·rw [f2.2, ← hdue] at tv
      exact fin2 _ _ _ cd tv
    ·fin_once om fail
   ·fin_once gg fail
    refine w_newList Hc (by fin_once sm fail) fun hd Hd cd l₃ _ => ?_
    refine Hd.cells.getK (a := D) (φ := LO ys2) (.head _) fun o ed1 pk2 _ => ?_
    obtain ⟨ed2, n2, ed3⟩ := pk2
    refine w_ne (da := .list [optD due, optD due]) (db := .list [optD due, optD due]) (Reads.list (as := []) ed1 ed2 ed3 (readsAll_ch (by simpa using hR2.2) (Hd.ch g (by fin_once sm fail)))) (Reads.list (as := []) l₃.choose_spec.1 l₃.choose_spec.2.1 l₃.choose_spec.2.2.choose_spec (.cons (as := []) (bs := []) (rd_got gv) (.cons (as := []) (bs := []) (rd_got gv) .nil))) (by simp [PyData.canLay0, PyData.canLayAll0, canLay_opt sgd]) (by simp [PyData.canLay0, PyData.canLayAll0, canLay_opt sgd]) (by rw [depth_l2 due due]; exact R.un2 rfl) ?_
    rw [eqv_l2, decide_eq_true ⟨rfl, rfl⟩]
    fin_once gg fail
    rw [hCT, hVT] at Hd
    refine tf_next (.mk (.mk ?_) ((Hd.sub (List.sublist_cons_self _ _)).drop (by fin_once sb fail) ⟨g, by fin_once sm fail, gd⟩))
    rw [List.take_add_one, er, List.map_append]
    refine readsAll_snoc rfs ?_
    have := rd_got (h := g) gv
    rw [hdue] at this
    exact this
  ·induction hR
   rename_i fs o9 o10 rfs
   have H₁ := H₁.drop (bs' := [g4, g3, g]) (by fin_once sb fail) ⟨g, by fin_once sm fail, gd⟩
   fin_once gg fail
   refine w_ForM (E' := No) (L := L) ["source", "unit", "kinds", "links", "lost", "name", "names", "path", "found", "due", "more"] hh' thr_no (fun _ => rfl) (.inl ⟨_, _, rfl⟩) ?_
   fin_once gg fail
   refine w_newListG H₁ F (by fin_once sm fail) fun l5 g5 hb Hb cb xg5 gl5 tg5 nl5 => ?_
   refine .mk (RR3 l unit src dk ll lf nn xm lfo it1 tp t1 t2 w3 o9 fs ys i g5 g4 g3 g) gl5 Hb .mk (fun j bs cs vs hR => ?_) (fun it2 j v bs cs vs h₁ tk₁ hv2 hR H₁ Q2 hQ2 => ?_) fun bs cs vs h₁ tk₁ hR H₁ => ?_
   ·induction hR; simp
   ·induction hR
    rename_i o11 o12
    obtain ⟨mo, tmo, rfl, mm⟩ : ∃ (x : Str) (tx : Tok), v = .str x tx ∧ x ∈ [Str.ofString "f", Str.ofString "V", Str.ofString "E"] := by
     exact ale (P := fun v => ∃ (x : Str) (tx : Tok), v = .str x tx ∧ x ∈ [Str.ofString "f", Str.ofString "V", Str.ofString "E"]) (arr_mem hv2) (alc ⟨_, _, rfl, .head _⟩ (alc ⟨_, _, rfl, .tail _ (.head _)⟩ (alc ⟨_, _, rfl, .tail _ (.tail _ (.head _))⟩ aln)))
    have sgm : Sg mo ∧ Nm mo := by
     have : ∀ x ∈ [Str.ofString "f", Str.ofString "V", Str.ofString "E"], (x.length ≤ 100 ∧ PyData.strOk x = true) ∧ x.length ≤ 40 ∧ PyData.strOk x = true := by decide +kernel
     exact this mo mm
    fin_once gg fail
    rename At _ _ _ _ _ _ _ => H₂
    refine H₂.opC1 fun CT hCT mT H₂ => ?_
    have m2 := mT (c := (nn, CellO _)) (by fin_once lk fail)
    clear mT
    have sgv : Sg (Str.ofString "value") ∧ Nm (Str.ofString "value") := by unfold Sg Nm; decide +kernel
    obtain ⟨due, hdue⟩ : ∃ due, due = endF (lawK unit) links 7 (pathF l ++ [mo]) (Str.ofString "value") := ⟨_, rfl⟩
    refine evd (strsD [mo]) H₂ (by simp only [strsD, List.map_cons, List.map_nil]; repeat' fin_once ev fail) fun v1 h₃ tk₃ H₃ c₃ rv1 => ?_
    fin_once gg fail
    refine w_addT H₃ (rp.ch (H₃.ch g4 (by fin_once sm fail))) rv1 (by simp; fin_once om fail) fun t6 h₄ H₄ c₄ r6 => ?_
    fin_once gg fail
    refine c_endAll (ns := pathF l ++ [mo]) PM.kok PM.lok 7 (H₄.cx T (by fin_once sm fail) R (by fin_once om fail)) hh' (Dk4.tr (H₄.ch g4 (by fin_once sm fail)).tr fun _ _ q => q) (isList_ch gl (H₄.ch g3 (by fin_once sm fail))) (readsAll_ch ga (H₄.ch g3 (by fin_once sm fail))) (by unfold strsD; simpa using r6) (by simp; fin_once om fail) (fun x hx => ?_) sgv.1 fun vd h₅ tk₅ c₅ gv => ?_
    ·rcases List.mem_append.mp hx with hx | hx
     ·exact (psg x hx).2
     ·rw [List.mem_singleton.mp hx]; exact sgm.1
    rw [← hdue] at gv
    have H₅ := H₄.keep c₅
    fin_once gg fail
    rename At _ _ _ _ _ _ _ => H₆
    refine H₆.opE fun VT hVT lv H₆ => ?_
    have e0 := lv (x := "source") (by fin_once lk fail)
    have e1 := lv (x := "name") (by fin_once lk fail)
    have e2 := lv (x := "names") (by fin_once lk fail)
    have e3 := lv (x := "path") (by fin_once lk fail)
    have e4 := lv (x := "found") (by fin_once lk fail)
    have e5 := lv (x := "due") (by fin_once lk fail)
    have e6 := lv (x := "more") (by fin_once lk fail)
    clear lv
    refine evd (strsD [Str.ofString "crate"]) H₆ (by simp only [strsD, List.map_cons, List.map_nil]; repeat' fin_once ev fail) fun v2 h₇ tk₇ H₇ c₇ rv2 => ?_
    fin_once gg fail
    refine w_addT H₇ rv2 (rp.ch (H₇.ch g4 (by fin_once sm fail))) (by simp; fin_once om fail) fun t7 h₈ H₈ c₈ r7 => ?_
    refine evd (strsD [mo]) H₈ (by simp only [strsD, List.map_cons, List.map_nil]; repeat' fin_once ev fail) fun v3 h₉ tk₉ H₉ c₉ rv3 => ?_
    fin_once gg fail
    refine w_addT H₉ (r7.ch c₉) rv3 (by simp; fin_once om fail) fun t8 ha Ha ca r8 => ?_
    fin_once gg fail
    obtain ⟨pa1, pk1⟩ := PM.pl (Str.ofString "") (.head _)
    refine c_told (ns := Str.ofString "crate" :: (pathF l ++ [mo])) PM.wf (Ha.cx T (by fin_once sm fail) R (by fin_once om fail)) hh' (Md.tr (Ha.ch g3 (by fin_once sm fail)).tr) (by unfold strsD; simpa using r8) ⟨by fin_once sm fail, by simp; fin_once om fail, fun x hx => ?_, .inl ⟨_, rfl⟩⟩ pa1 pk1 sgv.2 fun v4 hb2 tkb cb2 tv => ?_
    ·rcases List.mem_cons.mp hx with rfl | hx
     ·exact f_crate
     ·rcases List.mem_append.mp hx with hx | hx
      ·exact (psg x hx).1
      ·rw [List.mem_singleton.mp hx]; exact sgm.2
    rw [PM.f3 l ml mo mm, ← hdue] at tv
    have Hb2 := Ha.keep cb2
    fin_once gg fail
    have sgd : ∀ x, due = some x → PyData.strOk x = true := fun x hx => (endF_sg PM.kok 7 _ _ _ (hdue.symm.trans hx)).2
    refine w_ne (rd_told tv) (rd_got gv) (canLay_opt sgd) (canLay_opt sgd) (by rw [depth_opt]; exact R.un2 rfl) ?_
    rw [eqv_opt, decide_eq_true rfl]
    fin_once gg fail
    rw [hCT, hVT] at Hb2
    exact tf_next (.mk .mk Hb2)
   ·induction hR
    rename_i o11 o12
    fin_once gg fail
    obtain ⟨e1, he1⟩ : ∃ e, e = endF (lawK unit) links 7 (pathF l) (Str.ofString "type") := ⟨_, rfl⟩
    obtain ⟨e2, he2⟩ : ∃ e, e = endF (lawK unit) links 7 (pathF l) (Str.ofString "value") := ⟨_, rfl⟩
    have rf2 : ReadsAll g fs [optD e1, optD e2] [] := by rw [he1, he2]; exact rfs
    have lp : lostP l = decide (e1 = none ∧ e2 = none) := by
     rw [hlost]
     dsimp only
     rw [← he1, ← he2]
     cases e1 <;> cases e2 <;> rfl
    have sgd : ∀ (o : Option Str) sp, o = endF (lawK unit) links 7 (pathF l) sp → ∀ x, o = some x → PyData.strOk x = true := fun o sp ho x hx => (endF_sg PM.kok 7 _ _ _ (ho.symm.trans hx)).2
    refine w_newList H₁ (by fin_once sm fail) fun hd Hd cd l₃ _ => ?_
    refine Hd.cells.getK (a := lfo) (φ := PLO fs) (.head _) fun o ed1 pk2 _ => ?_
    obtain ⟨n2, rfl⟩ := pk2
    refine w_eq (da := .list [optD e1, optD e2]) (db := .list [optD none, optD none]) (Reads.list (as := []) ed1 rfl rfl (readsAll_ch (by simpa using rf2) (Hd.ch g (by fin_once sm fail)))) (Reads.list (as := []) l₃.choose_spec.1 l₃.choose_spec.2.1 l₃.choose_spec.2.2.choose_spec (.cons (as := []) (bs := []) .none (.cons (as := []) (bs := []) .none .nil))) (by simp [PyData.canLay0, PyData.canLayAll0, canLay_opt (sgd _ _ he1), canLay_opt (sgd _ _ he2)]) (by rfl) (by rw [depth_l2 e1 e2]; exact R.un2 rfl) ?_
    rw [eqv_l2, ← lp]
    have tka : (links.take (i + 1)).any lostP = ((links.take i).any lostP || lostP l) := by
     rw [List.take_add_one, hlk, List.any_append]
     simp
    fin_once gg fail
    refine w_ite (fun eq => ?_) fun eq => ?_
    ·fin_once gg fail
     refine w_lmeth Hd (by fin_once mem fail) slot_list_append type_list_append ?_
     fin_once gg fail
     refine w_append Hd (by fin_once mem fail) (by fin_once turn fail) (by fin_once om fail) fun he He => ?_
     fin_once gg fail
     refine tf_next (.mk (.mk ?_ ?_) ((He.sub (List.sublist_cons_self _ _)).drop (by fin_once sb fail) ⟨g, by fin_once sm fail, gd⟩))
     ·simp; fin_once om fail
     ·rw [tka, eq, Bool.or_true]; simp
    ·fin_once gg fail
     refine tf_next (.mk (.mk ?_ ?_) ((Hd.sub (List.sublist_cons_self _ _)).drop (by fin_once sb fail) ⟨g, by fin_once sm fail, gd⟩))
     ·fin_once om fail
     ·rw [tka, eq, Bool.or_false]; exact ye
 ·induction hR
  rename_i ys o1 o2 o3 o4 o5 o6 o7 o8 yz ye
  have anyl : decide (ys ≠ []) = true ↔ badM m := by
   rw [ye, Ln, List.take_length, List.any_eq_true, PM.bad, hlost]
   simp only [Bool.and_eq_true, Option.isNone_iff_eq_none]
  have fin : ∀ {A' bs cs h'} tk', At A' bs L ["source", "unit", "kinds", "links", "lost", "name", "names", "path", "found", "due", "more"] cs [some (.ref src), some (.bool unit), some (.ref dk), some (.ref ll), some (.ref lf), o3, o4, o5, o6, o7, o8] h' → g ∈ bs → (src, SrcO) ∈ cs → Q (.bool true) (St s h' tk') := fun tk' H' mb mc => by
   refine H'.cells.getK mc fun o₂ e₂ s₂ _ => ?_
   exact k _ _ (unhide (H'.ch g mb) kp fr) ⟨o₂, e₂, s₂⟩
  refine w_nil (opaq (by assumption) (w_nx (w_seq ?_)))
  refine w_TryX (N := badM m) (nf := 52) (E' := No) H₁ F T (by fin_once sm fail) (by fin_once sm fail) f_glob (fun h' X => f_cls X) f_base (by decide) ?_ (fun a => no_through) fun nb a h₂ tk₂ H₂ => ?_
  ·have I' := (Md.tr (H₁.ch g3 (by fin_once sm fail)).tr)
   fin_once o1 fail
   obtain ⟨_, _, _, _, _, Ix, _⟩ := id I'
   fin_once o2 fail
   have I2 := Ix.ins
   refine w_seq ?_
   fin_once gg fail
   refine w_get_meth I2 H₁ T (by fin_once sm fail) m_checked_uses (fun q => by rw [← List.contains_iff_mem] at q; cases q) ?_
   fin_once gg fail
   refine c_checked (H₁.cx T (by fin_once sm fail) R (by fin_once om fail)) hh' I' PM.wf PM.chk (fun h₂ tk₂ c₂ nb => ?_) fun e s' nb rr => ⟨nb, rr.escX H₁.ff⟩
   have H₂ := H₁.keep c₂
   have yt : ys = [] := by
    have := (not_congr anyl).mpr nb
    simpa using this
   subst yt
   fin_once gg fail
   refine w_newList H₂ (by fin_once sm fail) fun hd Hd cd l₃ _ => ?_
   refine Hd.cells.getK (a := lf) (φ := PLO []) (by fin_once mem fail) fun o ed1 pk2 _ => ?_
   obtain ⟨n2, rfl⟩ := pk2
   refine w_eq_nil (its := #[]) ⟨_, ed1, rfl, _, rfl⟩ l₃ (R.un0 rfl) ?_
   fin_once gg fail
   exact fin _ Hd (by fin_once sm fail) (by fin_once sm fail)
  ·have yt := anyl.mpr nb
   have bl : (lf, PLO ys) ∈ [(lf, PLO ys), (nn + 2, CellO o1), (nn + 1, CellO o2), (nn, CellO (some (.ref xm))), (src, SrcO)] := by simp
   refine H₂.cells.getK bl fun ol el pk2 _ => ?_
   obtain ⟨nl2, rfl⟩ := pk2
   fin_once gg fail
   refine wpAny_Name (wpAny_loadName_local F.kind (F.lo _ (by fin_once sm fail)) (by rw [F.loc]; exact H₂.ns) (Lk.fm (by fin_once lk fail) F.nd) ?_) (by decide)
   fin_once gg fail
   refine wpAny_newObj_type ?_
   refine w_ne_nil (its := ys.toArray) ⟨_, Heap.get?_push_of_some _ el, rfl, _, rfl⟩ ⟨_, Heap.get?_push_size _ rfl, rfl, _, rfl⟩ (Nat.lt_of_le_of_lt (Nat.add_le_add_left (by decide : 10 ≤ 8 * 134 + 100) _) (by have := R.un; rw [Nat.add_assoc] at this; exact this)) ?_
   have : decide (ys.toArray.size ≠ 0) = true := by
    have := of_decide_eq_true yt
    simpa using this
   rw [this]
   fin_once gg fail
   exact fin _ (H₂.keep (Ch.push ..)) (by fin_once sm fail) (by fin_once sm fail)
end
noncomputable def cS (n : Nat) : Str := Str.ofString "c" ++ Str.ofString (toString (n : Int))
noncomputable def nextS (many t : Nat) : Str := if t + 1 = many then Str.ofString "f" else cS (t + 1)
noncomputable def chainU (many t : Nat) : Itm := .use [Str.ofString "crate", nextS many t] (some (cS t))
noncomputable def chainF (many : Nat) : List Itm := .fn (Str.ofString "f") :: (List.range many).map (chainU many)
noncomputable def nmB (x : Str) : Bool := decide (x.length ≤ 40) && PyData.strOk x
noncomputable def usB (ns : List Str) : Bool := decide (ns.length ≤ 20) && ns.all nmB && decide (ns.head? = some (Str.ofString "crate"))
noncomputable def tbB (m : Md) (tb : Tb) : Bool := (tb.types ++ tb.values).all (fun q => decide (at? m.pubs q.2 = some true) && (at? m.kinds q.2).isSome) && tb.uses.all fun u => usB u.2
noncomputable def wfB (m : Md) : Bool := decide (at? m.kinds (Str.ofString "") = some (Str.ofString "mod")) && m.kinds.all (fun q => decide (q.1.length ≤ 200) && PyData.strOk q.1 && (decide (q.2 ≠ Str.ofString "mod") || (at? m.tabs q.1).isSome)) && m.tabs.all fun p => tbB m p.2
omit rt0 in
theorem nm_of {x : Str} (h : nmB x = true) : Nm x := by
 unfold nmB at h
 rw [Bool.and_eq_true, decide_eq_true_eq] at h
 exact h
theorem wf_of {m : Md} (h : wfB m = true) : Wf m := by
 unfold wfB at h
 simp only [Bool.and_eq_true, decide_eq_true_eq, List.all_eq_true, Bool.or_eq_true] at h
 obtain ⟨⟨h1, h2⟩, h3⟩ := h
 refine ⟨h1, fun p k e => (h2 _ (at?_in e)).1, fun p e => ?_, fun o tb e sp n p ep => ?_, fun o tb e n ns en => ?_⟩
 ·exact (h2 _ (at?_in e)).2.resolve_left fun q => q rfl
 ·have t := h3 _ (at?_in e)
  unfold tbB at t
  simp only [Bool.and_eq_true, decide_eq_true_eq, List.all_eq_true] at t
  refine t.1 (n, p) ?_
  unfold Tb.space at ep
  split at ep
  ·exact List.mem_append_left _ (at?_in ep)
  ·exact List.mem_append_right _ (at?_in ep)
 ·have t := h3 _ (at?_in e)
  unfold tbB at t
  simp only [Bool.and_eq_true, List.all_eq_true] at t
  have u := t.2 (n, ns) (at?_in en)
  unfold usB at u
  simp only [Bool.and_eq_true, decide_eq_true_eq, List.all_eq_true] at u
  obtain ⟨⟨u1, u2⟩, u3⟩ := u
  cases ns with
  | nil => cases u3
  | cons x r =>
   cases u3
   exact ⟨by fin_once sm fail, u1, fun x hx => nm_of (u2 x hx), .inl ⟨r, rfl⟩⟩
noncomputable def manyL : List Nat := [1, 2, 28, 29, 30, 31, 32]
omit rt0 in
theorem chain_facts : ∀ k ∈ manyL, (buildF (chainF k)).map (fun m => (wfB m, findF m (Str.ofString "") [Str.ofString "crate", cS 0] (Str.ofString "value"))) = some (true, if k ≤ 30 then some (Str.ofString "f") else none) := by decide +kernel
omit rt0 in
theorem cS_ok : ∀ t < 40, (cS t).length ≤ 40 ∧ PyData.strOk (cS t) = true := by decide +kernel
omit rt0 in
theorem oks_all {mo : Str} : ∀ {l : List Itm}, (∀ i ∈ l, Itm.okAt mo i) → Itm.oksAt mo l
 | [], _ => by simp [Itm.oksAt]
 | i :: r, h => by rw [Itm.oksAt]; exact ⟨h i (.head _), oks_all fun j hj => h j (.tail _ hj)⟩
theorem chain_oks {k : Nat} (hk : k ≤ 32) (mo : Str) : Itm.oksAt mo (chainF k) ∧ Itm.ics (chainF k) ≤ 200 := by
 have zf : (Str.ofString "f").length ≤ 100 := by decide +kernel
 constructor
 ·refine oks_all fun i hi => ?_
  rcases List.mem_cons.mp hi with rfl | hi
  ·rw [Itm.okAt]; exact zf
  ·obtain ⟨t, ht, rfl⟩ := List.mem_map.mp hi
   have := List.mem_range.mp ht
   obtain ⟨z1, z2⟩ := cS_ok t (by fin_once om fail)
   unfold chainU
   rw [Itm.okAt]
   refine ⟨by fin_once sm fail, by fin_once sm fail, ?_, z2⟩
   show (cS t).length ≤ 100
   fin_once om fail
 ·have : ∀ l : List Nat, Itm.ics (l.map (chainU k)) = l.length := by
   intro l
   induction l with
   | nil => simp [Itm.ics]
   | cons a l ih => rw [List.map_cons, Itm.ics, ih, show Itm.ic (chainU k a) = 1 by simp [chainU, Itm.ic], List.length_cons]; fin_once om fail
  rw [chainF, Itm.ics, this, List.length_range, show Itm.ic (.fn (Str.ofString "f")) = 1 by simp [Itm.ic]]
  fin_once om fail
omit rt0 in
theorem mem_many : ∀ k ∈ manyL, 1 ≤ k ∧ k ≤ 32 := by decide
section
variable {A : Around} {E : Value → Shared → Prop} {h : Heap} {tk : Nat} {Q : Value → Shared → Prop}
inductive RCh (many : Nat) (tm : Tok) (lf : Addr) (h : Heap) : Nat → List Heap → List Cell → List (Option Value) → Prop
 | mk {i : Nat} {g2 : Heap} {ys : List Value} {o1 : Option Value} (le : i ≤ many) (ra : ReadsAll g2 ys (Itm.ds (.fn (Str.ofString "f") :: (List.range i).map (chainU many))) []) : RCh many tm lf h i [g2, h] [(lf, PLO ys)] [some (.int many tm), some (.ref lf), o1]
theorem c_chain {many : Nat} {tm : Tok} (C : Cx (Mine.hd.heap_1 w.params) A h 140) (hh : A.handled = none) (hm : many ∈ manyL)
  (k : ∀ h' tk', Ch [] h h' → Q (.bool (decide (many ≤ 30))) (St s h' tk')) :
  wpAny (model prog w) A (call (.ref 351) [.int many tm]) Q E (St s h tk) := by
 obtain ⟨m1, m2⟩ := mem_many many hm
 refine fn0c (vals := [.int many tm]) ["many"] ["items", "turn"] ["_law_none", "range", "str", "_law_told", "Modules"] C (by k_is) (by k_is) (BindsTo.of_eq rfl) rfl (by decide +kernel) (by decide +kernel) rfl rfl rfl rfl (by decide) ?_
 intro env L h₁ tk₁ F H hc T R
 dsimp only [List.cons_append, List.nil_append, List.map] at F H
 have hh' : (A.deeper env).handled = none := hh
 have V := F.nv
 have gn := g_none T.k
 fin_once gg fail
 refine w_litB (Itm.d (.fn (Str.ofString "f"))) H (by dsimp only [Itm.d]; repeat' fin_once ev fail) fun v1 g1 h₂ tk₂ x1 H₂ r1 => ?_
 fin_once gg fail
 refine w_newListP H₂ (by fin_once sm fail) fun lf h₃ H₃ c₃ => ?_
 fin_once gg fail
 rename At _ _ _ _ _ _ _ => H₄
 refine w_ForR (E' := No) (L := L) ["many", "items", "turn"] hh' (RCh many tm lf h) thr_no (fun _ => rfl) ?_
 fin_once gg fail
 refine w_range1 H₄ fun rr h₅ tk₅ u1 u2 H₅ c₅ hr => ?_
 refine .mk (g := h) hr (by fin_once om fail) H₅ (.mk (by fin_once om fail) (by simp only [List.range_zero, List.map_nil, Itm.ds]; exact .cons (as := []) (bs := []) r1 .nil)) (fun i bs cs vs hR => ?_) (fun it i t bs cs vs h₆ tk₆ hi hR H₆ Tz hTz => ?_) fun bs cs vs h₆ tk₆ hR H₆ => ?_
 ·induction hR
  simp
 ·induction hR
  rename_i g2 ys o1 i6 ra
  fin_once gg fail
  clear H₆
  rename At _ _ _ _ _ _ _ => H₆
  rename_i h6 tk6
  have zn : (nextS many i).length ≤ 40 := by
   unfold nextS
   split
   ·exact (by decide +kernel : (Str.ofString "f").length ≤ 40)
   ·exact (cS_ok _ (by fin_once om fail)).1
  have zc1 := (cS_ok (i + 1) (by fin_once om fail)).1
  have zc0 := (cS_ok i (by fin_once om fail)).1
  refine w_lmeth H₆ (by fin_once mem fail) slot_list_append type_list_append ?_
  fin_once gg fail
  refine PyProof.Rows.Tuple_ ?_
  fin_once gg fail
  refine PyProof.Rows.Tuple_ ?_
  fin_once gg fail
  refine w_ifj (fun v s' => ∃ t tk', v = Value.str (nextS many i) t ∧ s' = St s h6 tk') (fun e => ?_) (fun e => ?_) fun v s' q => ?_
  ·have e : i + 1 = many := by have := beq_iff_eq.mp e; fin_once om fail
   have en : nextS many i = Str.ofString "f" := if_pos e
   rw [en]
   fin_once gg fail
   exact ⟨_, _, rfl, rfl⟩
  ·have e : ¬ i + 1 = many := by have := (beq_eq_false_iff_ne.mp e); fin_once om fail
   have en : nextS many i = cS (i + 1) := if_neg e
   rw [en]
   fin_once gg fail
   refine w_str_int (n := i + 1) (by fin_once om fail) fun t4 tk4 => ?_
   refine w_add_str ?_ fun t5 tk5 => ?_
   ·unfold cS at zc1
    rw [Str.length_append] at zc1
    exact len_le_line (by fin_once om fail)
   exact ⟨_, _, rfl, rfl⟩
  obtain ⟨tn, tk', rfl, rfl⟩ := q
  fin_once gg fail
  refine w_newTupleN H₆ (by fin_once sm fail) fun t1 h₇ H₇ c₇ tt1 => ?_
  fin_once gg fail
  refine w_str_int (n := i) (by fin_once om fail) fun t4 tk4 => ?_
  refine w_add_str ?_ fun t5 tk5 => ?_
  ·unfold cS at zc0
   rw [Str.length_append] at zc0
   exact len_le_line (by fin_once om fail)
  fin_once gg fail
  refine w_newTupleN H₇ (by fin_once sm fail) fun t2 h₈ H₈ c₈ tt2 => ?_
  have r2 : Rd h₈ (.ref t2) (Itm.d (chainU many i)) := by
   dsimp only [chainU, Itm.d, optD]
   exact rd_tup tt2 (.cons (as := []) (bs := []) (.str _ _) (.cons (as := []) (bs := []) (.int _ _) (.cons (as := []) (bs := []) ((rd_tup tt1 (.cons (as := []) (bs := []) (.str _ _) (.cons (as := []) (bs := []) (.str _ _) .nil))).ch c₈) (.cons (as := []) (bs := []) (.str _ _) (.cons (as := []) (bs := []) (.bool _) .nil)))))
  refine H₈.base'K fun g5 x5 H₈ _ kt => ?_
  have r2 := r2.mv kt
  have H₈ := H₈.two C.hd
  have yz := readsAll_len ra
  rw [Itm.ds, List.length_cons, ds_len, List.length_map, List.length_range] at yz
  fin_once gg fail
  refine w_append H₈ (by fin_once mem fail) (by fin_once turn fail) (by fin_once om fail) fun h₉ H₉ => ?_
  fin_once gg fail
  refine tf_next (.mk (.mk (by fin_once om fail) ?_) H₉)
  rw [List.range_succ, List.map_append, ← List.cons_append, ds_app]
  exact readsAll_snoc (readsAll_ch ra (x5 g2 (by fin_once sm fail))) r2
 ·induction hR
  rename_i g2 ys o1 i6 ra
  fin_once gg fail
  refine H₆.cells.getK (a := lf) (by fin_once mem fail) fun o e pk2 _ => ?_
  obtain ⟨n2, rfl⟩ := pk2
  fin_once o1 fail
  obtain ⟨ok1, ok2⟩ := chain_oks m2 (Str.ofString "")
  have cf := chain_facts many hm
  obtain ⟨m, em, ef⟩ := Option.map_eq_some_iff.mp cf
  obtain ⟨ew, ef⟩ := Prod.mk.inj ef
  fin_once o2 fail
  have W := wf_of ew
  refine c_modules (items := chainF many) (its := ys.toArray) (H₆.cx T (by fin_once sm fail) R (by fin_once om fail)) hh' ⟨_, e, rfl, _, rfl⟩ (readsAll_ch ra (H₆.ch g2 (by fin_once sm fail))) ok1 ok2 (fun xm h₈ tk₈ Fo nm dk' dp dt dg di m' em' c₈ MX OF NF => ?_) (fun e s' q => by rw [em] at q; cases q)
  obtain rfl : m = m' := by rw [em] at em'; cases em'; rfl
  have Md := MX.md
  have H₈ := H₆.keep c₈
  fin_once gg fail
  refine evd (strsD [Str.ofString "crate", cS 0]) H₈ (by simp only [strsD, List.map_cons, List.map_nil, show cS 0 = Str.ofString "c0" from by decide +kernel]; repeat' fin_once ev fail) fun v2 h₉ tk₉ H₉ c₉ rv2 => ?_
  fin_once gg fail
  refine c_told (ns := [Str.ofString "crate", cS 0]) W (H₉.cx T (by fin_once sm fail) R (by fin_once om fail)) hh' (Md.tr c₉.tr) rv2 ⟨by fin_once sm fail, by fin_once sm fail, fun x hx => ?_, .inl ⟨_, rfl⟩⟩ (by unfold Pa; decide +kernel) (by rw [W.root]; rfl) (by unfold Nm; decide +kernel) fun v4 hb2 tkb cb2 tv => ?_
  ·have : ∀ x ∈ [Str.ofString "crate", cS 0], x.length ≤ 40 ∧ PyData.strOk x = true := by decide +kernel
   exact this x hx
  rw [ef] at tv
  have Hb := H₉.keep cb2
  fin_once gg fail
  have fok : PyData.strOk (Str.ofString "f") = true := by decide +kernel
  refine w_eq (db := optD (some (Str.ofString "f"))) (rd_told tv) (Reads.str _ _) (canLay_opt fun x hx => by split at hx <;> cases hx; exact fok) fok (by rw [depth_opt]; exact R.un2 rfl) ?_
  rw [eqv_opt]
  have : decide ((if many ≤ 30 then some (Str.ofString "f") else none) = some (Str.ofString "f")) = decide (many ≤ 30) := by
   by_cases q : many ≤ 30
   ·rw [if_pos q, decide_eq_true rfl, decide_eq_true q]
   ·rw [if_neg q, decide_eq_false nofun, decide_eq_false q]
  rw [this]
  fin_once gg fail
  exact k _ _ (Hb.ch h (by fin_once sm fail))
theorem c_refused {l : Addr} {items : List Itm} {its : Array Value} (C : Cx (Mine.hd.heap_1 w.params) A h 16) (hh : A.handled = none) (hl : h.IsList l its) (rits : ReadsAll h its.toList (Itm.ds items) []) (ok : Itm.oksAt (Str.ofString "") items) (iz : Itm.ics items ≤ 200)
  (k : ∀ h' tk', Ch [] h h' → Q (.bool (buildF items).isNone) (St s h' tk')) :
  wpAny (model prog w) A (call (.ref 363) [.ref l]) Q E (St s h tk) := by
 refine fn0c (vals := [.ref l]) ["items"] [] ["Modules", "NameFault"] C (by k_is) (by k_is) (BindsTo.of_eq rfl) rfl (by decide +kernel) (by decide +kernel) rfl rfl rfl rfl (by decide) ?_
 intro env L h₁ tk₁ F H hc T R
 dsimp only [List.cons_append, List.nil_append, List.map] at F H
 refine w_seq ?_
 refine w_Try (N := buildF items = none) (E' := No) (nf := 52) H F T (.head _) hh (by fin_once sm fail) f_glob (fun h' X => f_cls X) f_base (by decide) ?_ (fun a => no_through) fun n a g' h' tk' y1 H' c' y2 => ?_
 ·refine w_seq ?_
  fin_once gg fail
  refine c_modules (H.cx T (by fin_once sm fail) R (by fin_once om fail)) hh (isList_ch hl hc) (readsAll_ch rits hc) ok iz (fun xm h₈ tk₈ Fo nm dk' dp dt dg di m' em' c₈ MX OF NF => ?_) (fun e s' q rr => ⟨q, rr.esc0 H.ff⟩)
  have H₈ := H.keep c₈
  rw [em'] at k
  fin_once gg fail
  exact k _ _ (hc.trans c₈)
 ·rw [n] at k
  fin_once gg fail
  exact k _ _ (hc.trans c')
end
section
variable {A : Around} {E : Value → Shared → Prop} {h : Heap} {bs : List Heap} {tk : Nat} {env : Env} {L : Addr} {ks : List Str} {cs cs' : List Cell} {vs : List (Option Value)} {Q : Value → Shared → Prop} {a b : Int} {t u : Tok}
theorem w_max2n (hh : A.handled = none) (H : At A bs L ks cs vs h) (k : ∀ m t h' tk', (m = a ∨ m = b) → a ≤ m → b ≤ m → At A bs L ks cs vs h' → Ch [] h h' → Q (.int m t) (St s h' tk')) : wpAny (model prog w) A (call (.builtin "max") [.int a t, .int b u]) Q E (St s h tk) :=
 w_max2 hh H fun v h' tk' H' c => by
  by_cases q : b > a
  ·rw [if_pos q]; exact k b v h' tk' (.inr rfl) (by fin_once om fail) (by fin_once om fail) H' c
  ·rw [if_neg q]; exact k a v h' tk' (.inl rfl) (by fin_once om fail) (by fin_once om fail) H' c
theorem w_pow1018 (k : ∀ t' tk', Q (.int (10 ^ 18) t') (St s h tk')) : wpAny (model prog w) A (binaryOp .Pow (.int 10 t) (.int 18 u)) Q E (St s h tk) := by
 refine PySem.AutoIntOps.pow_4 (by decide) (by decide) (by decide) (by decide) (by decide +kernel) ?_
 exact k _ _
theorem c_pool {l : Addr} {its : Array Value} {ns : List Int} {t : Tok} (C : Cx (Mine.hd.heap_1 w.params) A h 2) (hh : A.handled = none) (hl : h.IsList l its) (hI : IntsAre its.toList ns) (hz : its.size ≤ 1000)
  (k : ∀ src h' tk' o, Ch [] h h' → h.get? src = none → h'.get? src = some o → SrcO o → Q (.ref src) (St s h' tk')) :
  wpAny (model prog w) A (call (.ref 269) [.ref l, .int 0 t]) Q E (St s h tk) := by
 refine fn0c (vals := [.ref l, .int 0 t]) ["script", "k"] ["cell", "big", "mixed"] ["len", "max", "int"] C (by k_is) (by k_is) (BindsTo.of_eq rfl) rfl (by decide +kernel) (by decide +kernel) rfl rfl rfl rfl (by decide) ?_
 intro env L h₁ tk₁ F H hc T R
 dsimp only [List.cons_append, List.nil_append, List.map] at F H
 have hh' : (A.deeper env).handled = none := hh
 fin_once gg fail
 rename At _ _ _ _ _ _ _ => H₂
 refine w_len_list (isList_ch hl (H₂.ch h (by fin_once sm fail))) (by fin_once om fail) fun u tk₂ => ?_
 fin_once gg fail
 rename_i h2 _
 refine w_ifj (fun f s' => f = .next ∧ ∃ c t' h' tk', s' = St s h' tk' ∧ At (A.deeper env) [h] L ["script", "k", "cell", "big", "mixed"] [] [some (.ref l), some (.int 0 t), some (.int c t'), none, none] h') (fun e => ?_) (fun e => ?_) fun f s' q => ?_
 ·have e := of_decide_eq_true e
  obtain ⟨n0, hn0⟩ : ∃ n, ns[0]? = some n := by
   have := hI.length
   rw [Array.length_toList] at this
   exact ⟨_, List.getElem?_eq_getElem (by fin_once om fail)⟩
  obtain ⟨t0, g0⟩ := hI.get 0 n0 hn0
  rw [Array.getElem?_toList] at g0
  fin_once gg fail
  refine w_Lget (i := 0) (isList_ch hl (H₂.ch h (by fin_once sm fail))) g0 (by fin_once om fail) ?_ (by with_unfolding_all rfl)
  fin_once gg fail
  rename At _ _ _ _ _ _ _ => H₃
  exact ⟨rfl, _, _, _, _, rfl, H₃⟩
 ·fin_once gg fail
  exact ⟨rfl, _, _, _, _, rfl, H₂⟩
 fin_once o1 fail
 obtain ⟨rfl, c, tc, h₃, tk₃, rfl, H₃⟩ := q
 fin_once o2 fail
 clear H₂
 fin_once gg fail
 refine w_max2n hh' H₃ fun m tm h₄ tk₄ hm m1 m2 H₄ c₄ => ?_
 have m0 : 0 ≤ m := by fin_once om fail
 fin_once gg fail
 refine w_pow1018 fun t5 tk5 => ?_
 fin_once gg fail
 rename At _ _ _ _ _ _ _ => H₅
 refine w_newListP H₅ (by fin_once sm fail) fun src h₆ H₆ c₆ => ?_
 fin_once gg fail
 refine H₆.cells.getK (.head _) fun o eo pk2 _ => ?_
 obtain ⟨n, rfl⟩ := pk2
 refine k _ _ _ _ (H₆.ch h (by fin_once sm fail)) (H₆.newC h (by fin_once sm fail) _ (.head _)) eo ⟨rfl, n, _, _, _, _, rfl, ?_, Int.fmod_nonneg_of_pos _ (by fin_once om fail), Int.fmod_lt_of_pos _ (by fin_once om fail)⟩
 split <;> fin_once om fail
end
theorem w_rev {A : Around} {E : Value → Shared → Prop} {h : Heap} {bs : List Heap} {tk : Nat} {env : Env} {L : Addr} {ks : List Str} {cs : List Cell} {vs : List (Option Value)} {value slice : PySem.Expr} {l : Addr} {its : Array Value} {k : Nat} {p p2 p3 : Pos} {ops : Addr → List Value} {Q : Value → Shared → Prop} (H : At A bs L ks cs vs h) (hl : h.IsList l its) (hz : its.size ≤ 1000)
  (kk : ∀ l' h' tk', At A bs L ks cs vs h' → Ch [] h h' → h'.IsList l' its.toList.reverse.toArray → Q (.ref l') (St s h' tk'))
  (hs : ∀ sl, subscripted slice false (.ref l) (.ref sl) = operate (ops sl) (getItem (.ref l) (.ref sl))) :
  wpAny (model prog w) A (eval (.Slice none none (some (.UnaryOp .USub (.Constant (Const.int 1) k p) p3)) p2) env) (fun i s₂ => wpAny (model prog w) A (subscriptTail value slice (.ref l) i) Q E s₂) E (St s h tk) := by
 refine wpAny_Slice ?_
 rw [evalPart_some, evalPart_none]
 refine wpAny_pure (wpAny_pure (PyProof.Rows.UnaryOp_ (w_int fun u tk₁ => w_neg_int fun u2 tk₂ => ?_)))
 have H₁ := H.keep (Ch.push [] h { cls := .type "slice", data := .fields #[.none, .none, .int (-1) u2] })
 have c₁ := Ch.push [] h { cls := .type "slice", data := .fields #[.none, .none, .int (-1) u2] }
 have hl' := isList_ch hl c₁
 refine tail_any (s := St s _ tk₂) hl'.typeIs slot_list_getitem.lookup (wpAny_getItem_list_slice (lo := none) (hi := none) (st := some (-1)) hl' (Heap.IsSliceOf.new ..) .none .none (.int _ _) (by decide) ?_ (Nat.le_trans hz (by decide))) (hs _)
 rw [krv_pick]
 exact kk _ _ _ (H₁.keep (Ch.push ..)) (c₁.trans (Ch.push ..)) ⟨_, Heap.get?_push_size _ rfl, rfl, _, rfl⟩
structure PairOk (p : List Itm × Bool) : Prop where
 o1 : Itm.oksAt (Str.ofString "") p.1
 z1 : Itm.ics p.1 ≤ 200
 b1 : (buildF p.1).isNone = p.2
 o2 : Itm.oksAt (Str.ofString "") p.1.reverse
 z2 : Itm.ics p.1.reverse ≤ 200
 b2 : (buildF p.1.reverse).isNone = p.2
inductive PrAt (h0 h : Heap) : Value → Prop
 | mk {p : List Itm × Bool} {t il : Addr} {its : Array Value} (po : PairOk p) (n : h0.get? il = none) (tt : IsTup h t #[.ref il, .bool p.2]) (li : h.IsList il its) (r : ReadsAll h its.toList (Itm.ds p.1) []) (z : its.size ≤ 10) : PrAt h0 h (.ref t)
theorem ds_rev : ∀ l : List Itm, (Itm.ds l).reverse = Itm.ds l.reverse
 | [] => by simp [Itm.ds]
 | i :: r => by rw [Itm.ds, List.reverse_cons, List.reverse_cons, ds_app, ds_rev r]; simp [Itm.ds]
theorem readsAll_rev {h : Heap} : ∀ {ds : List PyData} {vs : List Value}, ReadsAll h vs ds [] → ReadsAll h vs.reverse ds.reverse []
 | [], vs, r => by cases readsAll_nil r; exact .nil
 | d :: ds, vs, r => by
  obtain ⟨v, vs', rfl, r0, r1⟩ := readsAll_cons r
  rw [List.reverse_cons, List.reverse_cons]
  exact readsAll_snoc (readsAll_rev r1) r0
section
variable {A : Around} {E : Value → Shared → Prop} {h g : Heap} {bs : List Heap} {tk : Nat} {env : Env} {L it l : Addr} {ks gs gs' ks' : List Str} {cs : List Cell} {vs : List (Option Value)}
abbrev PrN (h h' : Heap) (v : Value) : Prop := PrAt h h' v
theorem PrAt.ch {h0 g g' : Heap} {v : Value} (x : PrAt h0 g v) (c : Ch [] g g') : PrAt h0 g' v := by
 induction x
 rename_i p t il its po n i j r z
 exact .mk po n (isTup_ch i c) (isList_ch j c) (readsAll_ch r c) z
end
section
variable {A : Around} {R : Result → Shared → Prop}
omit rt0 in
theorem compTurn_two0 (elt t1 i1 t2 i2 : PySem.Expr) (scope : Scope) (pos : Pos) (it acc : Value) (env : Env) :
  compTurn (.ListComp elt [⟨t1, i1, [], 0⟩, ⟨t2, i2, [], 0⟩] scope pos) 0 it acc env = (do
   standAt i1.pos
   match ← pyNext it with
   | none => pure (.done .next)
   | some v =>
    letOwnedTupleGo t1 it v
    assign t1 env v
    let x ← eval i2 env
    standAt i2.pos
    let x ← foldedSetIterable i2 env x
    let _ ← runOwn (.compStart (.ListComp elt [⟨t1, i1, [], 0⟩, ⟨t2, i2, [], 0⟩] scope pos) 1 (← holding [x] (pyIter x)) acc env) env
    again (.compLoop (.ListComp elt [⟨t1, i1, [], 0⟩, ⟨t2, i2, [], 0⟩] scope pos) 0 it acc env)) := by rfl
omit rt0 in
theorem compTurn_two1 (elt t1 i1 t2 i2 : PySem.Expr) (scope : Scope) (pos : Pos) (it acc : Value) (env : Env) :
  compTurn (.ListComp elt [⟨t1, i1, [], 0⟩, ⟨t2, i2, [], 0⟩] scope pos) 1 it acc env = (do
   standAt i2.pos
   match ← pyNext it with
   | none => pure (.done .next)
   | some v =>
    letOwnedTupleGo t2 it v
    assign t2 env v
    (do let _ ← call (.builtin "list.append") [acc, ← eval elt env])
    again (.compLoop (.ListComp elt [⟨t1, i1, [], 0⟩, ⟨t2, i2, [], 0⟩] scope pos) 1 it acc env)) := by rfl
theorem loop_two1 {s : Shared} {elt t1 i1 i2 : PySem.Expr} {y : Str} {py : Pos} {scope : Scope} {pos : Pos} {it acc : Value} {env : Env} (I : Nat → Shared → Prop)
  (turn : ∀ n s, I n s → wpAny (model prog w) A (pyNext it) (fun r s₁ => match r with
   | none => R (.ok .next) s₁
   | some v => wpAny (model prog w) A (assign (.Name y py) env v) (fun _ s₂ => wpAny (model prog w) A (eval elt env) (fun x s₃ =>
     wpAny (model prog w) A (call (.builtin "list.append") [acc, x]) (fun _ s₄ => ∃ m, m < n ∧ I m s₄) No s₃) No s₂) No s₁) No s)
  (n : Nat) (h : I n s) : codeAny (model prog w) A (.compLoop (.ListComp elt [⟨t1, i1, [], 0⟩, ⟨.Name y py, i2, [], 0⟩] scope pos) 1 it acc env) R s := by
 refine codeAny_loop rfl I (fun n s hI => ?_) n h
 show wpAny _ A ((compTurn (.ListComp elt [⟨t1, i1, [], 0⟩, ⟨.Name y py, i2, [], 0⟩] scope pos) 1 it acc env).onRaise (fun x => do noteFrame x env; theTreesLotGoes x)) _ _ s
 refine wpAny_noted ?_
 rw [compTurn_two1]
 refine wpAny_bind (wpAny_standAt (wpAny_bind (wpAny_mono (turn n s hI) (fun r s₁ h₁ => ?_) fun _ _ q => q.elim)))
 cases r with
 | none => exact wpAny_pure h₁
 | some v =>
  refine wpAny_bind (wpAny_of_eq (a := ()) rfl ?_)
  refine wpAny_bind (wpAny_mono h₁ (fun _ s₂ h₂ => ?_) fun _ _ q => q.elim)
  exact wpAny_bind (wpAny_bind (wpAny_mono h₂ (fun x s₄ h₄ => wpAny_bind (wpAny_mono h₄ (fun _ s₅ h₅ => wpAny_pure (wpAny_pure ⟨rfl, h₅⟩)) fun _ _ q => q.elim)) fun _ _ q => q.elim))
theorem loop_two0 {s : Shared} {elt i1 i2 : PySem.Expr} {x y : Str} {px py : Pos} {scope : Scope} {pos : Pos} {it acc : Value} {env : Env} (I : Nat → Shared → Prop) (hf : ∀ v, foldedSetIterable i2 env v = pure v)
  (turn : ∀ n s, I n s → wpAny (model prog w) A (pyNext it) (fun r s₁ => match r with
   | none => R (.ok .next) s₁
   | some v => wpAny (model prog w) A (assign (.Name x px) env v) (fun _ s₂ => wpAny (model prog w) A (eval i2 env) (fun xv s₃ => wpAny (model prog w) A (pyIter xv) (fun iv s₄ =>
     codeAny (model prog w) A (.compStart (.ListComp elt [⟨.Name x px, i1, [], 0⟩, ⟨.Name y py, i2, [], 0⟩] scope pos) 1 iv acc env) (fun r s₅ => r = .ok .next ∧ ∃ m, m < n ∧ I m s₅) s₄) No s₃) No s₂) No s₁) No s)
  (n : Nat) (h : I n s) : codeAny (model prog w) A (.compLoop (.ListComp elt [⟨.Name x px, i1, [], 0⟩, ⟨.Name y py, i2, [], 0⟩] scope pos) 0 it acc env) R s := by
 refine codeAny_loop rfl I (fun n s hI => ?_) n h
 show wpAny _ A ((compTurn (.ListComp elt [⟨.Name x px, i1, [], 0⟩, ⟨.Name y py, i2, [], 0⟩] scope pos) 0 it acc env).onRaise (fun x => do noteFrame x env; theTreesLotGoes x)) _ _ s
 refine wpAny_noted ?_
 rw [compTurn_two0]
 refine wpAny_bind (wpAny_standAt (wpAny_bind (wpAny_mono (turn n s hI) (fun r s₁ h₁ => ?_) fun _ _ q => q.elim)))
 cases r with
 | none => exact wpAny_pure h₁
 | some v =>
  refine wpAny_bind (wpAny_of_eq (a := ()) rfl ?_)
  refine wpAny_bind (wpAny_mono h₁ (fun _ s₂ h₂ => ?_) fun _ _ q => q.elim)
  refine wpAny_bind (wpAny_mono h₂ (fun xv s₃ h₃ => ?_) fun _ _ q => q.elim)
  refine wpAny_bind (wpAny_standAt ?_)
  rw [hf]
  refine wpAny_bind (wpAny_pure (wpAny_bind (wpAny_holding (wpAny_mono h₃ (fun iv s₄ h₄ => ?_) fun _ _ q => q.elim))))
  refine wpAny_bind (wpAny_runOwn (codeAny_mono h₄ fun r s₅ q => ?_))
  obtain ⟨rfl, q⟩ := q
  exact wpAny_pure ⟨rfl, q⟩
theorem start_two1 {s : Shared} {elt t1 i1 t2 i2 : PySem.Expr} {scope : Scope} {pos : Pos} {it acc : Value} {env : Env}
  (h0 : codeAny (model prog w) A (.compLoop (.ListComp elt [⟨t1, i1, [], 0⟩, ⟨t2, i2, [], 0⟩] scope pos) 1 it acc env) R s)
  (h : wpAny (model prog w) A (pyIter it) (fun it' s' => codeAny (model prog w) A (.compLoop (.ListComp elt [⟨t1, i1, [], 0⟩, ⟨t2, i2, [], 0⟩] scope pos) 1 it' acc env) R s') No s) :
  codeAny (model prog w) A (.compStart (.ListComp elt [⟨t1, i1, [], 0⟩, ⟨t2, i2, [], 0⟩] scope pos) 1 it acc env) R s := by
 refine codeAny_of_tree ?_
 show wpAny _ _ ((compStart (.ListComp elt [⟨t1, i1, [], 0⟩, ⟨t2, i2, [], 0⟩] scope pos) 1 it acc env).onRaise (fun x => do noteFrame x env; standAt theWindowsPlace)) _ _ s
 refine wpAny_notedAt ?_
 unfold compStart
 show wpAny _ _ (ask >>= _) _ _ s
 refine wpAny_bind (wpAny_askSetting (wpAny_ite ?_))
 split
 ·first
   | exact wpAny_bind (wpAny_pure (wpAny_pure (And.intro rfl h0)))
   | exact wpAny_pure (And.intro rfl h0)
 ·first
   | exact wpAny_bind (wpAny_rule (wpAny_bind (wpAny_standAt (wpAny_bind (wpAny_mono h (fun it' s' h' => wpAny_pure (And.intro rfl h')) fun _ _ x => x.elim)))))
   | (refine wpAny_bind (wpAny_rule ?_); show wpAny _ _ (standAt i2.pos >>= _) _ _ s; exact wpAny_bind (wpAny_standAt (wpAny_bind (wpAny_mono h (fun it' s' h' => wpAny_pure (And.intro rfl h')) fun _ _ x => x.elim))))
end
section
variable {A : Around} {E : Value → Shared → Prop} {h h0 g : Heap} {bs : List Heap} {tk : Nat} {env : Env} {L it l : Addr} {ks gs gs' : List Str} {cs : List Cell} {vs : List (Option Value)}
theorem PrN.at {A : Around} {bs : List Heap} {C : Addr} {ks' : List Str} {cs : List Cell} {vs : List (Option Value)} {h h' g4 : Heap} {v : Value} (x : PrN h h' v) (H : At A bs C ks' cs vs h) (m0 : h0 ∈ bs) (k : ∀ b o, h'.get? b = some o → b ≠ C → (∀ c ∈ cs, c.1 ≠ b) → g4.get? b = some o) (kt : ∀ b o, h'.get? b = some o → isT o → g4.get? b = some o) : PrAt h0 g4 v := by
 induction x
 rename_i p t il its a n i j r z
 refine PrAt.mk (il := il) a ?_ ?_ ?_ (readsAll_mv r fun b o e tt => kt b o e (tt.resolve_right (by fin_once sm fail))) z
 ·exact (H.ch h0 m0).nn n
 ·fin_once o1 fail
  obtain ⟨o, e, c, r⟩ := i
  fin_once o2 fail
  exact ⟨o, kt _ _ e ⟨c, _, r⟩, c, r⟩
 ·fin_once o1 fail
  obtain ⟨o, e, c, r⟩ := j
  fin_once o2 fail
  obtain ⟨oC, eC⟩ := H.frL
  exact ⟨o, k _ _ e (fun q => by rw [q, eC] at n; cases n) (H.ne_new n), c, r⟩
inductive I2o (A : Around) (h0 g0 : Heap) (bs : List Heap) (C it D l : Addr) (x y : Str) (cs : List Cell) (n n2 : Nat) : Nat → Shared → Prop
 | mk {i : Nat} {vC1 vC2 : Option Value} {ys : List Value} {g1 h' : Heap} {tk' : Nat} (hi : i ≤ n) (zy : ys.length ≤ i * n2) (py : ∀ v ∈ ys, PrAt h0 g1 v) (H : At A (g1 :: g0 :: bs) C [x, y] ((it, LI l i) :: (D, LO ys) :: cs) [vC1, vC2] h') : I2o A h0 g0 bs C it D l x y cs n n2 (n - i) (St s h' tk')
inductive I2i (A : Around) (h0 g0 g2 : Heap) (bs : List Heap) (C it it2 D l l2 : Addr) (x y : Str) (v : Value) (cs : List Cell) (i n2 : Nat) : Nat → Shared → Prop
 | mk {j : Nat} {vC2 : Option Value} {ys : List Value} {g3 h' : Heap} {tk' : Nat} (hj : j ≤ n2) (zy : ys.length ≤ i * n2 + j) (py : ∀ v ∈ ys, PrAt h0 g3 v) (H : At A (g3 :: g2 :: g0 :: bs) C [x, y] ((it2, LI l2 j) :: (it, LI l (i + 1)) :: (D, LO ys) :: cs) [some v, vC2] h') : I2i A h0 g0 g2 bs C it it2 D l l2 x y v cs i n2 (n2 - j) (St s h' tk')
inductive I2e (A : Around) (h0 g0 : Heap) (bs : List Heap) (C it D l : Addr) (x y : Str) (cs : List Cell) (n n2 i : Nat) : Result → Shared → Prop
 | mk {s' : Shared} {m : Nat} (lt : m < n - i) (h : I2o A h0 g0 bs C it D l x y cs n n2 m s') : I2e A h0 g0 bs C it D l x y cs n n2 i (.ok .next) s'
inductive I1o (A : Around) (h0 g0 : Heap) (bs : List Heap) (C it D l : Addr) (x : Str) (cs : List Cell) (n : Nat) : Nat → Shared → Prop
 | mk {i : Nat} {vC1 : Option Value} {ys : List Value} {g1 h' : Heap} {tk' : Nat} (hi : i ≤ n) (zy : ys.length ≤ i) (py : ∀ v ∈ ys, PrAt h0 g1 v) (H : At A (g1 :: g0 :: bs) C [x] ((it, LI l i) :: (D, LO ys) :: cs) [vC1] h') : I1o A h0 g0 bs C it D l x cs n (n - i) (St s h' tk')
theorem comp2 {elt i1 i2 : PySem.Expr} {x y : Str} {px py : Pos} {scope : Scope} {cl : List (Str × Addr)} {pos : Pos} {RR : Value → Addr → Result → Shared → Prop} {items its2 : Array Value} (gs' : List Str) (hh : A.handled = none) (nel : l ≠ it) (F : Nv env L ks gs) (H : At A bs L ks ((it, LI l 0) :: cs) vs h) (mb : g ∈ bs) (gl : g.IsList l items) (m0 : h0 ∈ bs)
  (hcell : ∀ y ∈ scope.names, y.2 ≠ .cell) (hkind : scope.kind = .function) (nd : [x, y].Nodup) (hlo : ([x, y].all fun y => scope.names.lookup y == some .local) = true) (hgl : (gs'.all fun y => scope.names.lookup y == some .globalImplicit) = true) (hf' : ∀ C v, foldedSetIterable i2 (compEnvC scope cl C env) v = pure v) (z1 : items.size ≤ 90) (z2 : its2.size ≤ 100)
  (ev2 : ∀ bs' C cs' vx vy h tk Q, At A bs' C [x, y] cs' [some vx, vy] h → (∀ b ∈ bs, b ∈ bs') → (∀ c ∈ cs, c ∈ cs') → Nv (compEnvC scope cl C env) C [x, y] gs' → (∀ l2 g2 h' tk', At A (g2 :: bs') C [x, y] cs' [some vx, vy] h' → g2.IsList l2 its2 → Q (.ref l2) (St s h' tk')) → wpAny (model prog w) A (eval i2 (compEnvC scope cl C env)) Q No (St s h tk))
  (el : ∀ (i j : Nat) bs' C cs' vx vy h tk Q, items[i]? = some vx → its2[j]? = some vy → At A bs' C [x, y] cs' [some vx, some vy] h → (∀ b ∈ bs, b ∈ bs') → Nv (compEnvC scope cl C env) C [x, y] gs' → (∀ yv h' tk', At A bs' C [x, y] cs' [some vx, some vy] h' → Ch [] h h' → PrN h h' yv → Q yv (St s h' tk')) → wpAny (model prog w) A (eval elt (compEnvC scope cl C env)) Q No (St s h tk))
  (done : ∀ D C ys g1 h' tk', ys.length ≤ items.size * its2.size → (∀ v ∈ ys, PrAt h0 g1 v) → Ch [] g1 h' → (∀ c ∈ (D, LO ys) :: cs, g1.get? c.1 = none) → At A bs L ks ((D, LO ys) :: cs) vs h' → Off A bs L ((D, LO ys) :: cs) C → (∃ m, h'.Ns C m) → RR (.ref D) C (.ok .next) (St s h' tk')) :
  wpAny (model prog w) A (newList []) (fun acc s₃ => wpAny (model prog w) A (newFunctionEnv scope env.globals cl [] env.qual none .none (some env)) (fun cenv s₄ =>
   codeAny (model prog w) A (.compStart (.ListComp elt [⟨.Name x px, i1, [], 0⟩, ⟨.Name y py, i2, [], 0⟩] scope pos) 0 (.ref it) acc { cenv with scope := relabel scope env }) (RR acc cenv.locals) s₄) E s₃) E (St s h tk) := by
 refine comp_setup [x, y] gs' F H hcell hkind nd hlo hgl fun g0 D C h₂ tk₂ H₂ V back => ?_
 have W : Itr A (.Name x px) g it items.size (fun i v => items[i]? = some v) (LI l) := Itr.list hh nel gl fun i v s Q E st q => own_name q
 have zz : ∀ i, i ≤ items.size → i * its2.size ≤ 9900 := fun i hi => Nat.le_trans (Nat.mul_le_mul (Nat.le_trans hi z1) z2) (by decide)
 have lp : codeAny (model prog w) A (.compLoop (.ListComp elt [⟨.Name x px, i1, [], 0⟩, ⟨.Name y py, i2, [], 0⟩] scope pos) 0 (.ref it) (.ref D) (compEnvC scope cl C env)) (RR (.ref D) C) (St s h₂ tk₂) := by
  have hdB : ∀ g4 : Heap, ∃ g ∈ g4 :: g0 :: bs, HdOk A g := fun g4 => by
   obtain ⟨gd, md, dd⟩ := H₂.hd
   exact ⟨gd, .tail _ md, dd⟩
  refine loop_two0 (I2o A h0 g0 bs C it D l x y cs items.size its2.size) (hf' C) (fun k s' hI => ?_) (items.size - 0) (.mk (g1 := g0) (Nat.zero_le _) (by fin_once sm fail) (by fin_once sm fail) (H₂.drop (by fin_once sb fail) (hdB g0)))
  induction hI
  rename_i i vC1 vC2 ys g1 h' tk' hi zy py1 H'
  by_cases hlt : i < items.size
  ·refine H'.next W (by simp [mb]) hlt fun v h₄ tk₄ pv H₄ => ?_
   refine w_assignV H₄ V Put.head fun h₅ tk₅ H₅ => ?_
   refine ev2 _ _ _ _ _ _ _ _ H₅ (fun b m => by simp [m]) (fun c m => by simp [m]) V fun l2 g2 h₆ tk₆ H₆ gl2 => ?_
   have hl2 := isList_ch gl2 (H₆.ch g2 (by fin_once sm fail))
   refine wpAny_pyIter_list (s := St s h₆ tk₆) hl2 ?_
   have ne2 : l2 ≠ h₆.objs.size := by obtain ⟨o, e, _⟩ := hl2; exact Nat.ne_of_lt (Heap.lt_size e)
   have H₇ := H₆.push (o := { cls := .type "list_iterator", data := .fields #[.ref l2, .int 0 0] }) (φ := LI l2 0) ⟨rfl, rfl⟩ rfl rfl
   generalize h₆.objs.size = it2 at H₇ ne2 ⊢
   generalize h₆.push { cls := .type "list_iterator", data := .fields #[.ref l2, .int 0 0] } = h₇ at H₇ ⊢
   have W2 : Itr A (.Name y py) g2 it2 its2.size (fun i v => its2[i]? = some v) (LI l2) := Itr.list hh ne2 gl2 fun i v s Q E st q => own_name q
   have hdC : ∀ g4 : Heap, ∃ g ∈ g4 :: g2 :: g0 :: bs, HdOk A g := fun g4 => by
    obtain ⟨gd, md, dd⟩ := H₂.hd
    exact ⟨gd, .tail _ (.tail _ md), dd⟩
   have lp2 : codeAny (model prog w) A (.compLoop (.ListComp elt [⟨.Name x px, i1, [], 0⟩, ⟨.Name y py, i2, [], 0⟩] scope pos) 1 (.ref it2) (.ref D) (compEnvC scope cl C env)) (I2e A h0 g0 bs C it D l x y cs items.size its2.size i) (St s h₇ tk₆) := by
    refine loop_two1 (I2i A h0 g0 g2 bs C it it2 D l l2 x y v cs i its2.size) (fun k s' hI => ?_) (its2.size - 0) (.mk (g3 := g1) (Nat.zero_le _) (by fin_once om fail) py1 (H₇.drop (by fin_once sb fail) (hdC g1)))
    ·induction hI
     rename_i j vC2' ys' g3 h₈ tk₈ hj zy' py' H₈
     by_cases hjt : j < its2.size
     ·refine H₈.next W2 (by fin_once sm fail) hjt fun u h₉ tk₉ pu H₉ => ?_
      refine w_assignV H₉ V (.tail .head) fun ha tka Ha => ?_
      refine el i j _ _ _ _ _ _ _ _ pv pu Ha (fun b m => by simp [m]) V fun yv hb tkb Hb cb pn => ?_
      fin_once o1 fail
      refine Hb.base'K fun g4 x4 Hb k4 kt4 => ?_
      have zi := zz i hi
      refine Hb.cells.getK (a := D) (φ := LO ys') (by fin_once sm fail) fun o e pk2 _ => ?_
      obtain ⟨c, m, d⟩ := pk2
      fin_once o2 fail
      refine wpAny_list_append (s := St s hb tkb) ⟨o, e, c, m, d⟩ (fun hc hl hs => ?_) (by rw [List.size_toArray]; exact Nat.le_trans (by fin_once om fail : ys'.length ≤ 10000) (by decide))
      fin_once o1 fail
      obtain ⟨o', e', c', m', d'⟩ := hl
      fin_once o2 fail
      refine ⟨its2.size - (j + 1), by fin_once om fail, .mk (g3 := g4) (vC2 := some u) (ys := ys' ++ [yv]) hjt (by rw [List.length_append, List.length_singleton]; fin_once om fail) (fun v' mv => ?_) ?_⟩
      ·rcases List.mem_append.mp mv with mv | mv
       ·exact (py' v' mv).ch (x4 g3 (by fin_once sm fail))
       ·rw [List.mem_singleton.mp mv]
        exact pn.at Ha (by simp [m0]) k4 kt4
      ·have Hd := Hb.turn' (cs' := (it2, LI l2 (j + 1)) :: (it, LI l (i + 1)) :: (D, LO (ys' ++ [yv])) :: cs) (.tail (.tail .head)) hs e' ⟨c', m', by rw [d']; simp⟩ (mutO_list c')
       exact Hd.drop (by fin_once sb fail) (hdC g4)
     ·obtain rfl : j = its2.size := by fin_once om fail
      refine H₈.nexts W2 (by fin_once sm fail) fun h₉ tk₉ H₉ => ?_
      exact .mk (by fin_once om fail) (.mk (i := i + 1) (g1 := g3) hlt (by rw [Nat.succ_mul]; fin_once om fail) py' (H₉.drop (by fin_once sb fail) (hdB g3)))
   refine H₇.cells.getK (a := it2) (φ := LI l2 0) (.head _) fun o e p _ => ?_
   refine codeAny_mono (start_two1 lp2 (wpAny_pyIter_listiter ⟨o, e, p.1, p.2⟩ lp2)) fun r s₅ q => ?_
   obtain ⟨lt, h⟩ := q
   exact ⟨rfl, _, lt, h⟩
  ·obtain rfl : i = items.size := by fin_once om fail
   refine H'.nexts W (by simp [mb]) fun h₄ tk₄ H₄ => ?_
   have H₅ : At A (g0 :: bs) C [x, y] ((D, LO ys) :: cs) [vC1, vC2] h₄ := H₄.drop (by fin_once sb fail) H₂.hd
   obtain ⟨H₆, O₆⟩ := back ys _ _ H₅
   have zi := zz items.size (Nat.le_refl _)
   exact done D C ys g1 h₄ tk₄ zy py1 (H₄.ch g1 (by fin_once sm fail)) (H₄.newC g1 (by fin_once sm fail)) H₆ O₆ ⟨_, H₄.ns⟩
 refine H₂.cells.getK (a := it) (φ := LI l 0) (.head _) fun o e p _ => ?_
 exact codeAny_compStart_list lp (wpAny_pyIter_listiter ⟨o, e, p.1, p.2⟩ lp)
end
section
variable {A : Around} {E : Value → Shared → Prop} {h h0 g : Heap} {bs : List Heap} {tk : Nat} {env : Env} {L it l : Addr} {ks gs gs' : List Str} {cs : List Cell} {vs : List (Option Value)}
theorem comp1 {elt i1 : PySem.Expr} {x : Str} {px : Pos} {scope : Scope} {cl : List (Str × Addr)} {pos : Pos} {RR : Value → Addr → Result → Shared → Prop} {items : Array Value} (gs' : List Str) (hh : A.handled = none) (nel : l ≠ it) (F : Nv env L ks gs) (H : At A bs L ks ((it, LI l 0) :: cs) vs h) (mb : g ∈ bs) (gl : g.IsList l items) (m0 : h0 ∈ bs)
  (hcell : ∀ y ∈ scope.names, y.2 ≠ .cell) (hkind : scope.kind = .function) (nd : [x].Nodup) (hlo : ([x].all fun y => scope.names.lookup y == some .local) = true) (hgl : (gs'.all fun y => scope.names.lookup y == some .globalImplicit) = true) (z1 : items.size ≤ 1000)
  (el : ∀ (i : Nat) bs' C cs' vx h tk Q, items[i]? = some vx → At A bs' C [x] cs' [some vx] h → (∀ b ∈ bs, b ∈ bs') → Nv (compEnvC scope cl C env) C [x] gs' → (∀ yv h' tk', At A bs' C [x] cs' [some vx] h' → Ch [] h h' → PrN h h' yv → Q yv (St s h' tk')) → wpAny (model prog w) A (eval elt (compEnvC scope cl C env)) Q No (St s h tk))
  (done : ∀ D C ys g1 h' tk', ys.length ≤ items.size → (∀ v ∈ ys, PrAt h0 g1 v) → Ch [] g1 h' → (∀ c ∈ (D, LO ys) :: cs, g1.get? c.1 = none) → At A bs L ks ((D, LO ys) :: cs) vs h' → Off A bs L ((D, LO ys) :: cs) C → (∃ m, h'.Ns C m) → RR (.ref D) C (.ok .next) (St s h' tk')) :
  wpAny (model prog w) A (newList []) (fun acc s₃ => wpAny (model prog w) A (newFunctionEnv scope env.globals cl [] env.qual none .none (some env)) (fun cenv s₄ =>
   codeAny (model prog w) A (.compStart (.ListComp elt [⟨.Name x px, i1, [], 0⟩] scope pos) 0 (.ref it) acc { cenv with scope := relabel scope env }) (RR acc cenv.locals) s₄) E s₃) E (St s h tk) := by
 refine comp_setup [x] gs' F H hcell hkind nd hlo hgl fun g0 D C h₂ tk₂ H₂ V back => ?_
 have W : Itr A (.Name x px) g it items.size (fun i v => items[i]? = some v) (LI l) := Itr.list hh nel gl fun i v s Q E st q => own_name q
 have hdB : ∀ g4 : Heap, ∃ g ∈ g4 :: g0 :: bs, HdOk A g := fun g4 => by
  obtain ⟨gd, md, dd⟩ := H₂.hd
  exact ⟨gd, .tail _ md, dd⟩
 have lp : codeAny (model prog w) A (.compLoop (.ListComp elt [⟨.Name x px, i1, [], 0⟩] scope pos) 0 (.ref it) (.ref D) (compEnvC scope cl C env)) (RR (.ref D) C) (St s h₂ tk₂) := by
  refine codeAny_compLoop_tests (I1o A h0 g0 bs C it D l x cs items.size) (fun k s' hI => ?_) (items.size - 0) (.mk (g1 := g0) (Nat.zero_le _) (by fin_once sm fail) (by fin_once sm fail) (H₂.drop (by fin_once sb fail) (hdB g0)))
  induction hI
  rename_i i vC1 ys g1 h' tk' hi zy py1 H'
  by_cases hlt : i < items.size
  ·refine H'.next W (by simp [mb]) hlt fun v h₄ tk₄ pv H₄ => ?_
   refine w_assignV H₄ V Put.head fun h₅ tk₅ H₅ => ?_
   refine wpAny_tests_nil ?_
   rw [if_pos rfl]
   refine wpAny_mono (E := No) (Q := fun yv s₆ => ∃ hb tkb, s₆ = St s hb tkb ∧ At A (g1 :: g0 :: bs) C [x] ((it, LI l (i + 1)) :: (D, LO ys) :: cs) [some v] hb ∧ PrN h₅ hb yv) (el i _ _ _ _ _ _ _ pv H₅ (fun b m => by simp [m]) V fun yv hb tkb Hb cb pn => ⟨hb, tkb, rfl, Hb, pn⟩) (fun yv s₆ q => ?_) fun _ _ q => q.elim
   obtain ⟨hb, tkb, rfl, Hb, pn⟩ := q
   fin_once o1 fail
   refine Hb.base'K fun g4 x4 Hb k4 kt4 => ?_
   refine Hb.cells.getK (a := D) (φ := LO ys) (by fin_once sm fail) fun o e pk2 _ => ?_
   obtain ⟨c, m, d⟩ := pk2
   fin_once o2 fail
   refine wpAny_list_append (s := St s hb tkb) ⟨o, e, c, m, d⟩ (fun hc hl hs => ?_) (by rw [List.size_toArray]; exact Nat.le_trans (by fin_once om fail : ys.length ≤ 10000) (by decide))
   fin_once o1 fail
   obtain ⟨o', e', c', m', d'⟩ := hl
   fin_once o2 fail
   refine ⟨items.size - (i + 1), by fin_once om fail, .mk (g1 := g4) (vC1 := some v) (ys := ys ++ [yv]) hlt (by rw [List.length_append, List.length_singleton]; fin_once om fail) (fun v' mv => ?_) ?_⟩
   ·rcases List.mem_append.mp mv with mv | mv
    ·exact (py1 v' mv).ch (x4 g1 (by fin_once sm fail))
    ·rw [List.mem_singleton.mp mv]
     exact pn.at H₅ (by simp [m0]) k4 kt4
   ·have Hd := Hb.turn' (cs' := (it, LI l (i + 1)) :: (D, LO (ys ++ [yv])) :: cs) (.tail .head) hs e' ⟨c', m', by rw [d']; simp⟩ (mutO_list c')
    exact Hd.drop (by fin_once sb fail) (hdB g4)
  ·obtain rfl : i = items.size := by fin_once om fail
   refine H'.nexts W (by simp [mb]) fun h₄ tk₄ H₄ => ?_
   have H₅ : At A (g0 :: bs) C [x] ((D, LO ys) :: cs) [vC1] h₄ := H₄.drop (by fin_once sb fail) H₂.hd
   obtain ⟨H₆, O₆⟩ := back ys _ _ H₅
   exact done D C ys g1 h₄ tk₄ zy py1 (H₄.ch g1 (by fin_once sm fail)) (H₄.newC g1 (by fin_once sm fail)) H₆ O₆ ⟨_, H₄.ns⟩
 refine H₂.cells.getK (a := it) (φ := LI l 0) (.head _) fun o e p _ => ?_
 exact codeAny_compStart_list lp (wpAny_pyIter_listiter ⟨o, e, p.1, p.2⟩ lp)
end
section
variable {A : Around} {E : Value → Shared → Prop} {h h0 g : Heap} {bs : List Heap} {tk : Nat} {env : Env} {L it l C : Addr} {ks gs gs' : List Str} {cs : List Cell} {vs : List (Option Value)}
theorem At.baseC (H : At A bs L ks cs vs h) (O : Off A bs L cs C) : ∃ g, At A (g :: bs) L ks cs vs h ∧ Off A (g :: bs) L cs C ∧ (∀ b o, h.get? b = some o → b ≠ C → b ≠ L → (∀ c ∈ cs, c.1 ≠ b) → g.get? b = some o) := by
 refine ⟨hideAll h (C :: L :: cs.map (·.1)), ⟨fun g m => ?_, fun g m => ?_, fun g m c hc => ?_, H.ns, H.neL, H.cells, H.ff, ?_⟩, ⟨fun g m => ?_, O.l, O.c, O.f⟩, fun b o e nC nL nc => hideAll_get _ e fun q => ?_⟩
 ·rcases List.mem_cons.mp m with rfl | m
  ·exact Ch.of_keeps fun b o e => of_hideAll _ e
  ·exact H.ch g m
 ·rcases List.mem_cons.mp m with rfl | m
  ·exact hideAll_none _ (.tail _ (.head _))
  ·exact H.newL g m
 ·rcases List.mem_cons.mp m with rfl | m
  ·exact hideAll_none _ (.tail _ (.tail _ (List.mem_map_of_mem (f := (·.1)) hc)))
  ·exact H.newC g m c hc
 ·obtain ⟨g, m, x⟩ := H.hd
  exact ⟨g, .tail _ m, x⟩
 ·rcases List.mem_cons.mp m with rfl | m
  ·exact hideAll_none _ (.head _)
  ·exact O.b g m
 ·rcases List.mem_cons.mp q with q | q
  ·exact nC q
  ·rcases List.mem_cons.mp q with q | q
   ·exact nL q
   ·obtain ⟨c, hc, e⟩ := List.mem_map.mp q
    exact nc c hc e
theorem PrAt.base {g1 g5 h' : Heap} {v : Value} {mC mL : Str → Option Value} (x : PrAt h0 g1 v) (c : Ch [] g1 h') (n : ∀ c ∈ cs, g1.get? c.1 = none) (nsC : h'.Ns C mC) (nsL : h'.Ns L mL) (mu : ∀ c ∈ cs, ∃ o, h'.get? c.1 = some o ∧ mutO o = true) (k : ∀ b o, h'.get? b = some o → b ≠ C → b ≠ L → (∀ c ∈ cs, c.1 ≠ b) → g5.get? b = some o) : PrAt h0 g5 v := by
 have seqN : ∀ {a : Addr} {m : Str → Option Value} {b : Addr} {o : Obj} {its : Array Value} {n : Nat}, h'.Ns a m → h'.get? b = some o → o.data = .seq its n → b ≠ a := fun hn e d q => by
  fin_once o1 fail
  obtain ⟨o', es, ep, e', d', _⟩ := hn
  fin_once o2 fail
  rw [q, e'] at e
  cases e
  rw [d] at d'
  cases d'
 have tq : ∀ b o, g1.get? b = some o → isT o → g5.get? b = some o := fun b o e t => by
  fin_once o1 fail
  obtain ⟨c1, vs, n1, d⟩ := t
  fin_once o2 fail
  have e' := c.same b o e (by fin_once sm fail) (isFr_tuple c1)
  refine k b o e' (seqN nsC e' d) (seqN nsL e' d) fun cc hc q => ?_
  obtain ⟨o', e2, m2⟩ := mu cc hc
  rw [q, e'] at e2
  cases e2
  exact mutO_tup m2 c1
 induction x
 rename_i p t il its a nn i j r z
 refine .mk a nn ?_ ?_ (readsAll_mv r fun b o e t => tq b o e (t.resolve_right (by fin_once sm fail))) z
 ·fin_once o1 fail
  obtain ⟨o, e, c1, r⟩ := i
  fin_once o2 fail
  exact ⟨o, tq _ _ e ⟨c1, _, r⟩, c1, r⟩
 ·fin_once o1 fail
  obtain ⟨o, e, c1, n1, d⟩ := j
  fin_once o2 fail
  have e' := c.same _ o e (by fin_once sm fail) (mutO_fr (mutO_list c1))
  exact ⟨o, k _ _ e' (seqN nsC e' d) (seqN nsL e' d) fun cc hc q => (by
   have := n cc hc
   rw [q, e] at this
   cases this), c1, n1, d⟩
inductive Cp2 (A : Around) (L : Addr) (ks : List Str) (env : Env) (h0 : Heap) (elt i2 : PySem.Expr) (x y z : Str) (scope : Scope) (cl : List (Str × Addr)) (gs' : List Str) (Q : Flow → Shared → Prop) : Value → Shared → Prop
 | mk {l : Addr} {g : Heap} {items its2 : Array Value} {bs : List Heap} {cs : List Cell} {vs : List (Option Value)} {h : Heap} {tk : Nat} (H : At A bs L ks cs vs h) (mb : g ∈ bs) (gl : g.IsList l items) (m0 : h0 ∈ bs) (z1 : items.size ≤ 90) (z2 : its2.size ≤ 100) (hp : ∀ v, ∃ vs', Put ks vs z v vs')
  (ev2 : ∀ bs' C cs' vx vy h tk Q, At A bs' C [x, y] cs' [some vx, vy] h → (∀ b ∈ bs, b ∈ bs') → (∀ c ∈ cs, c ∈ cs') → Nv (compEnvC scope cl C env) C [x, y] gs' → (∀ l2 g2 h' tk', At A (g2 :: bs') C [x, y] cs' [some vx, vy] h' → g2.IsList l2 its2 → Q (.ref l2) (St s h' tk')) → wpAny (model prog w) A (eval i2 (compEnvC scope cl C env)) Q No (St s h tk))
  (el : ∀ (i j : Nat) bs' C cs' vx vy h tk Q, items[i]? = some vx → its2[j]? = some vy → At A bs' C [x, y] cs' [some vx, some vy] h → (∀ b ∈ bs, b ∈ bs') → Nv (compEnvC scope cl C env) C [x, y] gs' → (∀ yv h' tk', At A bs' C [x, y] cs' [some vx, some vy] h' → Ch [] h h' → PrN h h' yv → Q yv (St s h' tk')) → wpAny (model prog w) A (eval elt (compEnvC scope cl C env)) Q No (St s h tk))
  (done : ∀ D ys g5 h tk vs', ys.length ≤ items.size * its2.size → (∀ v ∈ ys, PrAt h0 g5 v) → Put ks vs z (.ref D) vs' → At A (g5 :: bs) L ks ((D, LO ys) :: cs) vs' h → Q .next (St s h tk)) : Cp2 A L ks env h0 elt i2 x y z scope cl gs' Q (.ref l) (St s h tk)
inductive Cp1 (A : Around) (L : Addr) (ks : List Str) (env : Env) (h0 : Heap) (elt : PySem.Expr) (x : Str) (scope : Scope) (cl : List (Str × Addr)) (gs' : List Str) (Q : Value → Shared → Prop) : Value → Shared → Prop
 | mk {l : Addr} {g : Heap} {items : Array Value} {bs : List Heap} {cs : List Cell} {vs : List (Option Value)} {h : Heap} {tk : Nat} (H : At A bs L ks cs vs h) (mb : g ∈ bs) (gl : g.IsList l items) (m0 : h0 ∈ bs) (z1 : items.size ≤ 90)
  (el : ∀ (i : Nat) bs' C cs' vx h tk Q, items[i]? = some vx → At A bs' C [x] cs' [some vx] h → (∀ b ∈ bs, b ∈ bs') → Nv (compEnvC scope cl C env) C [x] gs' → (∀ yv h' tk', At A bs' C [x] cs' [some vx] h' → Ch [] h h' → PrN h h' yv → Q yv (St s h' tk')) → wpAny (model prog w) A (eval elt (compEnvC scope cl C env)) Q No (St s h tk))
  (done : ∀ D ys g5 h tk, ys.length ≤ items.size → (∀ v ∈ ys, PrAt h0 g5 v) → At A (g5 :: bs) L ks ((D, LO ys) :: cs) vs h → Q (.ref D) (St s h tk)) : Cp1 A L ks env h0 elt x scope cl gs' Q (.ref l) (St s h tk)
theorem w_comp2S {elt i1 i2 : PySem.Expr} {x y z : Str} {px py pz : Pos} {scope : Scope} {cl : List (Str × Addr)} {pos spos : Pos} {Q : Flow → Shared → Prop} (gs' : List Str) (hh : A.handled = none)
  (F : Nv env L ks gs) (hsw : swapsWith (.ListComp elt [⟨.Name x px, i1, [], 0⟩, ⟨.Name y py, i2, [], 0⟩] scope pos) (some (.Name z pz)) spos.line env = pure true) (hclos : closureFor scope env = pure cl) (hcell : ∀ y ∈ scope.names, y.2 ≠ .cell) (hkind : scope.kind = .function) (hnames : ∀ x ∈ scope.names, x.2 = .local → scope.names.lookup x.1 = some .local) (nd : [x, y].Nodup) (hlo : ([x, y].all fun y => scope.names.lookup y == some .local) = true) (hgl : (gs'.all fun y => scope.names.lookup y == some .globalImplicit) = true)
  (hs : ∀ x, foldedSetIterable i1 env x = pure x) (hf' : ∀ C v, foldedSetIterable i2 (compEnvC scope cl C env) v = pure v)
  (hw : wpAny (model prog w) A (eval i1 env) (Cp2 A L ks env h0 elt i2 x y z scope cl gs' Q) E (St s h tk)) :
  wpAny (model prog w) A (exec (.Assign [.Name z pz] (.ListComp elt [⟨.Name x px, i1, [], 0⟩, ⟨.Name y py, i2, [], 0⟩] scope pos) spos) env) Q E (St s h tk) := by
 rw [exec_Assign_Name_used _ _ _ _ hsw]
 refine wpAny_bind (wpAny_standAt (wpAny_bind ?_))
 show wpAny _ A (do let _ ← comprehension (.ListComp elt [⟨.Name x px, i1, [], 0⟩, ⟨.Name y py, i2, [], 0⟩] scope pos) scope env _ (newList []) false (eval i1 env) (some (assign (.Name z pz) env))) _ _ (St s h tk)
 refine wpAny_bind (wpAny_mono (wpAny_comprehension_free (use := some (assign (.Name z pz) env)) (Q := fun _ s' => Q .next s') rfl hs hclos hkind hnames
  (wpAny_mono hw (fun xv s₁ h₁ => ?_) fun _ _ e => e)) (fun _ s' hq => wpAny_pure (wpAny_pure hq)) fun _ _ e => e)
 induction h₁
 rename_i l g items its2 bs cs vs h tk H mb gl m0 z1 z2 hp ev2 el done
 have hl := isList_ch gl (H.ch g mb)
 refine wpAny_pyIter_list (s := St s h tk) hl ?_
 have ne : l ≠ h.objs.size := by obtain ⟨o, e, _⟩ := hl; exact Nat.ne_of_lt (Heap.lt_size e)
 refine comp2 (RR := fun acc C => compPost (model prog w) A E (some (assign (.Name z pz) env)) (fun _ s' => Q .next s') acc C) gs' hh ne F (H.push ⟨rfl, rfl⟩ rfl rfl) mb gl m0 hcell hkind nd hlo hgl hf' z1 z2 (fun bs' C cs' vx vy h tk Q a b c d e => ev2 bs' C cs' vx vy h tk Q a b c d e) el fun D C ys g1 h' tk' zy py c1 n1 H' O hns => ?_
 fin_once o1 fail
 obtain ⟨m, hns⟩ := hns
 obtain ⟨g5, H5, O5, k5⟩ := H'.baseC O
 obtain ⟨vs', p⟩ := hp (.ref D)
 fin_once o2 fail
 show wpAny _ A (assign (.Name z pz) env (.ref D)) _ _ _
 refine wpAny_assign_Name (wpAny_storeNameC (s := St s h' tk') (F.lo z p.mem) (by rw [F.loc]; exact H'.ns) (fun h₂ hn₂ hs₂ => ?_) (by rw [F.kind]; rfl))
 rw [F.loc] at hn₂ hs₂
 refine ⟨m, hns.sameBut hs₂.1 O.l, fun h₃ hs₃ => done D ys g5 h₃ _ vs' zy (fun v mv => (py v mv).base c1 n1 hns H'.ns (fun c hc => ?_) k5) p ((H5.store F.nd p hn₂ hs₂).off O5 hs₃)⟩
 fin_once o1 fail
 obtain ⟨o, e, _, m⟩ := H'.cells.all c hc
 fin_once o2 fail
 exact ⟨o, e, m⟩
theorem w_comp1V {elt i1 : PySem.Expr} {x : Str} {px : Pos} {scope : Scope} {cl : List (Str × Addr)} {pos : Pos} {Q : Value → Shared → Prop} (gs' : List Str) (hh : A.handled = none)
  (F : Nv env L ks gs) (hclos : closureFor scope env = pure cl) (hcell : ∀ y ∈ scope.names, y.2 ≠ .cell) (hkind : scope.kind = .function) (hnames : ∀ x ∈ scope.names, x.2 = .local → scope.names.lookup x.1 = some .local) (nd : [x].Nodup) (hlo : ([x].all fun y => scope.names.lookup y == some .local) = true) (hgl : (gs'.all fun y => scope.names.lookup y == some .globalImplicit) = true)
  (hs : ∀ x, foldedSetIterable i1 env x = pure x)
  (hw : wpAny (model prog w) A (eval i1 env) (Cp1 A L ks env h0 elt x scope cl gs' Q) E (St s h tk)) :
  wpAny (model prog w) A (eval (.ListComp elt [⟨.Name x px, i1, [], 0⟩] scope pos) env) Q E (St s h tk) := by
 rw [eval_ListComp]
 refine wpAny_comprehension_free (use := none) rfl hs hclos hkind hnames (wpAny_mono hw (fun xv s₁ h₁ => ?_) fun _ _ e => e)
 induction h₁
 rename_i l g items bs cs vs h tk H mb gl m0 z1 el done
 have hl := isList_ch gl (H.ch g mb)
 refine wpAny_pyIter_list (s := St s h tk) hl ?_
 have ne : l ≠ h.objs.size := by obtain ⟨o, e, _⟩ := hl; exact Nat.ne_of_lt (Heap.lt_size e)
 refine comp1 (RR := fun acc C => compPost (model prog w) A E none Q acc C) gs' hh ne F (H.push ⟨rfl, rfl⟩ rfl rfl) mb gl m0 hcell hkind nd hlo hgl (by fin_once om fail) el fun D C ys g1 h' tk' zy py c1 n1 H' O hns => ?_
 fin_once o1 fail
 obtain ⟨m, hns⟩ := hns
 obtain ⟨g5, H5, O5, k5⟩ := H'.baseC O
 fin_once o2 fail
 refine ⟨m, hns, fun h'' hs'' => done D ys g5 h'' tk' zy (fun v mv => (py v mv).base c1 n1 hns H'.ns (fun c hc => ?_) k5) (H5.off O5 hs'')⟩
 fin_once o1 fail
 obtain ⟨o, e, _, m⟩ := H'.cells.all c hc
 fin_once o2 fail
 exact ⟨o, e, m⟩
end
section
variable {A : Around} {E : Value → Shared → Prop}
theorem sliceApplied_upto4 {s : Shared} {sl : Addr} {n : Nat} {u : Tok} {Q : Int × Int × Nat → Shared → Prop} (hs : s.heap.IsSliceOf sl .none (.int 4 u) .none) (ha : 4 ≤ n) (h : Q (0, 1, 4) s) :
  wpAny (model prog w) A (Builtin.Slice.sliceApplied (.ref sl) (pure (n : Int))) Q E s := by
 fin_once o1 fail
 obtain ⟨os, hos, hcs, hds⟩ := id hs
 fin_once o2 fail
 unfold Builtin.Slice.sliceApplied Builtin.Slice.sliceFields
 refine wpAny_bind (wpAny_bind (wpAny_field hos hds (x := .none) rfl (wpAny_bind (wpAny_field hos hds (x := .int 4 u) rfl (wpAny_bind (wpAny_field hos hds (x := .none) rfl (wpAny_pure ?_)))))))
 refine wpAny_bind (slicePart_none ?_)
 show wpAny _ _ (if ((1 : Int) == 0) = true then _ else _) _ _ s
 rw [if_neg (by decide)]
 refine wpAny_bind (slicePart_none (wpAny_bind (slicePart_int (wpAny_bind (wpAny_pure ?_)))))
 show wpAny _ _ (match Builtin.Slice.sliceAdjust none (some (4 : Int)) 1 (n : Int) with | (lo, hi) => pure (lo, (1 : Int), Builtin.Slice.slicePlaces lo hi 1)) _ _ s
 have e1 : Builtin.Slice.sliceAdjust none (some (4 : Int)) 1 (n : Int) = (0, 4) := by
  unfold Builtin.Slice.sliceAdjust
  have h1 : ¬ ((1 : Int) < 0) := by fin_once om fail
  have h2 : ¬ ((4 : Int) < 0) := by fin_once om fail
  simp only [h1, h2, if_false]
  congr 1
  fin_once om fail
 rw [e1]
 exact wpAny_pure h
theorem getItem_tuple_upto4 {s : Shared} {t sl : Addr} {a b c d e f : Value} {u : Tok} {Q : Value → Shared → Prop} (ht : IsTup s.heap t #[a, b, c, d, e, f]) (hs : s.heap.IsSliceOf sl .none (.int 4 u) .none)
  (h : Q (.ref s.heap.objs.size) { s with heap := s.heap.push { cls := .type "tuple", data := .seq #[a, b, c, d] } }) : wpAny (model prog w) A (getItem (.ref t) (.ref sl)) Q E s := by
 fin_once o1 fail
 obtain ⟨os, hos, hcs, hds⟩ := id hs
 fin_once o2 fail
 have hTs : s.TypeIs (.ref sl) "slice" := ⟨os, hos, hcs⟩
 unfold getItem
 try with_reducible refine wpAny_holding ?_
 first | refine wpAny_bind (wpAny_pure ?_) | skip
 refine wpAny_bind (wpAny_sequenceKey ht.typeIs (by decide) ?_)
 refine wpAny_bind (wpAny_callSpecial?_slot (name := Str.ofString "__getitem__") ht.typeIs slot_tuple_getitem
  (wpAny_call_entry slot_tuple_getitem ht.typeIs entry_tuple_getitem ?_ (args_tuple_getitem _ _)))
 show wpAny _ _ (Builtin.Tuple.tupleItemsOf (.ref t) >>= _) _ _ s
 refine wpAny_bind (tupleItemsOf_ ht ?_)
 refine wpAny_bind (wpAny_typeOf hTs ?_)
 rw [if_pos (by decide)]
 refine wpAny_bind (sliceApplied_upto4 (n := (#[a, b, c, d, e, f] : Array Value).size) hs (by show 4 ≤ 6; decide) ?_)
 show wpAny _ _ (if ((0 : Int) == 0 && (1 : Int) == 1 && (4 : Nat) == (6 : Nat)) = true then _ else _) _ _ s
 rw [if_neg (by decide)]
 show wpAny _ _ (Builtin.Tuple.tupleExact _ >>= _) _ _ s
 have hd : sizeOk (.seq (#[a, b, c, d] : Array Value)) := by show (4 : Nat) ≤ sizeLine; decide
 first
  | exact wpAny_bind (m := Builtin.Tuple.tupleExact _) (wpAny_newObj_type (wpAny_pure ⟨_, rfl, wpAny_pure h⟩) hd)
  | exact wpAny_bind (m := Builtin.Tuple.tupleExact _) (wpAny_newObj_type (wpAny_bind (wpAny_pure (wpAny_pure ⟨_, rfl, wpAny_pure h⟩))) hd)
  | exact wpAny_bind (wpAny_bind (m := Builtin.Tuple.tupleExact _) (wpAny_newObj_type (wpAny_pure (wpAny_pure ⟨_, rfl, wpAny_pure h⟩)) hd))
  | exact wpAny_bind (wpAny_bind (m := Builtin.Tuple.tupleExact _) (wpAny_newObj_type (wpAny_pure ⟨_, rfl, wpAny_pure h⟩) hd))
variable {h : Heap} {tk : Nat} {bs : List Heap} {env : Env} {L : Addr} {ks : List Str} {cs : List Cell} {vs : List (Option Value)}
theorem rd_items {h : Heap} {t : Addr} {ds : List PyData} (r : Rd h (.ref t) (.tuple ds)) : ∃ l, IsTup h t l.toArray ∧ ReadsAll h l ds [] := by
 fin_once o1 fail
 obtain ⟨t', its, q, ht, ra⟩ := r.tuple
 fin_once o2 fail
 cases q
 exact ⟨its.toList, by simpa using ht, ra⟩
theorem w_from5 {value slice : PySem.Expr} {t : Addr} {d1 d2 d3 d4 d5 d6 : PyData} {k : Nat} {p p2 : Pos} {Q : Value → Shared → Prop} (H : At A bs L ks cs vs h) (r : Rd h (.ref t) (.tuple [d1, d2, d3, d4, d5, d6]))
  (kk : ∀ t' h' tk', At A bs L ks cs vs h' → Ch [] h h' → Rd h' (.ref t') (.tuple [d6]) → Q (.ref t') (St s h' tk'))
  (hs : ∀ sl, subscripted slice false (.ref t) (.ref sl) = operate [.ref sl, .ref t] (getItem (.ref t) (.ref sl))) :
  wpAny (model prog w) A (eval (.Slice (some (.Constant (Const.int 5) k p)) none none p2) env) (fun i s₂ => wpAny (model prog w) A (subscriptTail value slice (.ref t) i) Q E s₂) E (St s h tk) := by
 obtain ⟨l, ht, ra⟩ := rd_items r
 obtain ⟨v1, l1, rfl, r1, ra⟩ := readsAll_cons ra
 obtain ⟨v2, l2, rfl, r2, ra⟩ := readsAll_cons ra
 obtain ⟨v3, l3, rfl, r3, ra⟩ := readsAll_cons ra
 obtain ⟨v4, l4, rfl, r4, ra⟩ := readsAll_cons ra
 obtain ⟨v5, l5, rfl, r5, ra⟩ := readsAll_cons ra
 obtain ⟨v6, l6, rfl, r6, ra⟩ := readsAll_cons ra
 cases readsAll_nil ra
 refine wpAny_Slice ?_
 rw [evalPart_some, evalPart_none]
 refine w_int fun u tk₁ => wpAny_pure (wpAny_pure ?_)
 have H₁ := H.keep (Ch.push [] h { cls := .type "slice", data := .fields #[.int 5 u, .none, .none] })
 have c₁ := Ch.push [] h { cls := .type "slice", data := .fields #[.int 5 u, .none, .none] }
 have ht' := isTup_ch ht c₁
 refine tail_any (s := St s _ tk₁) ht'.typeIs slot_tuple_getitem.lookup (getItem_tuple_from (a := 5) ht' (Heap.IsSliceOf.new ..) (by decide) (by fin_once sm fail) ?_ (by show 6 ≤ sizeLine; decide)) (hs _)
 have c₂ := Ch.push [] (h.push { cls := .type "slice", data := .fields #[.int 5 u, .none, .none] }) { cls := .type "tuple", data := .seq #[v6] }
 refine kk _ _ _ (H₁.keep c₂) (c₁.trans c₂) ?_
 exact rd_tup (vs := [v6]) ⟨_, Heap.get?_push_size _ rfl, rfl, 0, rfl⟩ (.cons (as := []) (bs := []) (r6.ch (c₁.trans c₂)) .nil)
theorem w_upto4 {value slice : PySem.Expr} {t : Addr} {d1 d2 d3 d4 d5 d6 : PyData} {k : Nat} {p p2 : Pos} {Q : Value → Shared → Prop} (H : At A bs L ks cs vs h) (r : Rd h (.ref t) (.tuple [d1, d2, d3, d4, d5, d6]))
  (kk : ∀ t' h' tk', At A bs L ks cs vs h' → Ch [] h h' → Rd h' (.ref t') (.tuple [d1, d2, d3, d4]) → Q (.ref t') (St s h' tk'))
  (hs : ∀ sl, subscripted slice false (.ref t) (.ref sl) = operate [.ref sl, .ref t] (getItem (.ref t) (.ref sl))) :
  wpAny (model prog w) A (eval (.Slice none (some (.Constant (Const.int 4) k p)) none p2) env) (fun i s₂ => wpAny (model prog w) A (subscriptTail value slice (.ref t) i) Q E s₂) E (St s h tk) := by
 obtain ⟨l, ht, ra⟩ := rd_items r
 obtain ⟨v1, l1, rfl, r1, ra⟩ := readsAll_cons ra
 obtain ⟨v2, l2, rfl, r2, ra⟩ := readsAll_cons ra
 obtain ⟨v3, l3, rfl, r3, ra⟩ := readsAll_cons ra
 obtain ⟨v4, l4, rfl, r4, ra⟩ := readsAll_cons ra
 obtain ⟨v5, l5, rfl, r5, ra⟩ := readsAll_cons ra
 obtain ⟨v6, l6, rfl, r6, ra⟩ := readsAll_cons ra
 cases readsAll_nil ra
 refine wpAny_Slice ?_
 rw [evalPart_some, evalPart_none]
 refine wpAny_pure (w_int fun u tk₁ => wpAny_pure ?_)
 have H₁ := H.keep (Ch.push [] h { cls := .type "slice", data := .fields #[.none, .int 4 u, .none] })
 have c₁ := Ch.push [] h { cls := .type "slice", data := .fields #[.none, .int 4 u, .none] }
 have ht' := isTup_ch ht c₁
 refine tail_any (s := St s _ tk₁) ht'.typeIs slot_tuple_getitem.lookup (getItem_tuple_upto4 ht' (Heap.IsSliceOf.new ..) ?_) (hs _)
 have c₂ := Ch.push [] (h.push { cls := .type "slice", data := .fields #[.none, .int 4 u, .none] }) { cls := .type "tuple", data := .seq #[v1, v2, v3, v4] }
 have c := c₁.trans c₂
 refine kk _ _ _ (H₁.keep c₂) c ?_
 exact rd_tup (vs := [v1, v2, v3, v4]) ⟨_, Heap.get?_push_size _ rfl, rfl, _, rfl⟩ (.cons (as := []) (bs := []) (r1.ch c) (.cons (as := []) (bs := []) (r2.ch c) (.cons (as := []) (bs := []) (r3.ch c) (.cons (as := []) (bs := []) (r4.ch c) .nil))))
theorem w_pairD {e : PySem.Expr} {Q : Value → Shared → Prop} (d1 d2 : PyData) (H : At A bs L ks cs vs h) (x : EvD A env bs L ks cs vs e (.tuple [d1, d2]))
  (k : ∀ t a b g h' tk', (∀ b ∈ bs, Ch [] b g) → At A (g :: bs) L ks cs vs h' → IsTup g t #[a, b] → Rd g a d1 → Rd g b d2 → Q (.ref t) (St s h' tk')) : wpAny (model prog w) A (eval e env) Q E (St s h tk) :=
 w_litB (.tuple [d1, d2]) H x fun v g h' tk' y H' r => by
  obtain ⟨t, its, rfl, ht, ra⟩ := r.tuple
  fin_once o1 fail
  obtain ⟨a, l1, e1, r1, ra⟩ := readsAll_cons ra
  fin_once o2 fail
  obtain ⟨b, l2, rfl, r2, ra⟩ := readsAll_cons ra
  cases readsAll_nil ra
  have ht : IsTup g t #[a, b] := by rw [← Array.toArray_toList (xs := its), e1] at ht; exact ht
  exact k t a b g h' tk' y H' ht r1 r2
end
noncomputable def xS : Str := Str.ofString "x"
noncomputable def firstsL : List Itm := [.fn (Str.ofString "x"), .struct (Str.ofString "x") true, .struct (Str.ofString "x") false, .trait (Str.ofString "x"), .enum (Str.ofString "x") [Str.ofString "V"], .mod (Str.ofString "x") [], .const (Str.ofString "x"), .use [Str.ofString "crate", Str.ofString "y"] (some (Str.ofString "x"))]
noncomputable def secondsL : List Itm := [.fn (Str.ofString "x"), .struct (Str.ofString "x") true, .use [Str.ofString "crate", Str.ofString "y"] (some (Str.ofString "x")), .use [Str.ofString "crate", Str.ofString "y", Str.ofString "x"] none]
noncomputable def othersL : List (List Itm × Bool) := [([.struct (Str.ofString "x") false, .const (Str.ofString "x")], true), ([.trait (Str.ofString "x"), .mod (Str.ofString "x") []], true), ([.enum (Str.ofString "z") [Str.ofString "V", Str.ofString "V"]], true)]
noncomputable def singlesL : List Itm := [.fn (Str.ofString "x"), .enum (Str.ofString "x") [Str.ofString "V"], .use [Str.ofString "crate", Str.ofString "y", Str.ofString "x"] none, .enum (Str.ofString "z") [Str.ofString "V"]]
omit rt0 in
theorem pairs_f : ∀ a ∈ firstsL, ∀ b ∈ secondsL, (buildF [a, b]).isNone = true ∧ (buildF [b, a]).isNone = true := by decide +kernel
omit rt0 in
theorem others_f : ∀ p ∈ othersL, (buildF p.1).isNone = p.2 ∧ (buildF p.1.reverse).isNone = p.2 := by decide +kernel
omit rt0 in
theorem singles_f : ∀ a ∈ singlesL, (buildF [a]).isNone = false := by decide +kernel
noncomputable def okB : Itm → Bool
 | .use ns al => decide (ns ≠ []) && decide (ns.length ≤ 20) && decide ((useN ns al).length ≤ 100) && PyData.strOk (useN ns al)
 | .enum n vs => decide (n.length ≤ 100) && decide (vs.length ≤ 10) && vs.all fun v => decide (v.length ≤ 100)
 | .mod n [] => decide (n.length ≤ 100) && decide ((J (Str.ofString "") n).length ≤ 200)
 | .mod _ _ => false
 | .fn n | .const n | .struct n _ | .trait n => decide (n.length ≤ 100)
omit rt0 in
theorem okB_ok {i : Itm} (h : okB i = true) : Itm.okAt (Str.ofString "") i ∧ Itm.ic i ≤ 1 := by
 match i with
 | .use ns al =>
  simp only [okB, Bool.and_eq_true, decide_eq_true_eq] at h
  exact ⟨by rw [Itm.okAt]; exact ⟨h.1.1.1, h.1.1.2, h.1.2, h.2⟩, by simp [Itm.ic]⟩
 | .enum n vs =>
  simp only [okB, Bool.and_eq_true, decide_eq_true_eq, List.all_eq_true] at h
  exact ⟨by rw [Itm.okAt]; exact ⟨h.1.1, h.1.2, h.2⟩, by simp [Itm.ic]⟩
 | .mod n [] =>
  simp only [okB, Bool.and_eq_true, decide_eq_true_eq] at h
  exact ⟨by rw [Itm.okAt]; exact ⟨h.1, h.2, by simp [Itm.oksAt]⟩, by simp [Itm.ic, Itm.ics]⟩
 | .mod n (i :: r) => cases h
 | .fn n => exact ⟨by rw [Itm.okAt]; exact of_decide_eq_true (p := n.length ≤ 100) h, by simp [Itm.ic]⟩
 | .const n => exact ⟨by rw [Itm.okAt]; exact of_decide_eq_true (p := n.length ≤ 100) h, by simp [Itm.ic]⟩
 | .struct n u => exact ⟨by rw [Itm.okAt]; exact of_decide_eq_true (p := n.length ≤ 100) h, by simp [Itm.ic]⟩
 | .trait n => exact ⟨by rw [Itm.okAt]; exact of_decide_eq_true (p := n.length ≤ 100) h, by simp [Itm.ic]⟩
omit rt0 in
theorem okB_all : (∀ a ∈ firstsL, okB a = true) ∧ (∀ a ∈ secondsL, okB a = true) ∧ (∀ p ∈ othersL, ∀ a ∈ p.1, okB a = true) ∧ (∀ a ∈ singlesL, okB a = true) ∧ (∀ p ∈ othersL, p.1.length ≤ 2) := by decide +kernel
theorem pairOk {l : List Itm} {b : Bool} (h : ∀ i ∈ l, okB i = true) (z : l.length ≤ 2) (b1 : (buildF l).isNone = b) (b2 : (buildF l.reverse).isNone = b) : PairOk (l, b) := by
 have ic : ∀ l : List Itm, (∀ i ∈ l, okB i = true) → Itm.ics l ≤ l.length := by
  intro l
  induction l with
  | nil => intro _; simp [Itm.ics]
  | cons i r ih =>
   intro h
   rw [Itm.ics, List.length_cons]
   have := (okB_ok (h i (.head _))).2
   have := ih fun j hj => h j (.tail _ hj)
   fin_once om fail
 have hr : ∀ i ∈ l.reverse, okB i = true := fun i hi => h i (List.mem_reverse.mp hi)
 have z1 := ic l h
 have z2 := ic l.reverse hr
 rw [List.length_reverse] at z2
 exact ⟨oks_all fun i hi => (okB_ok (h i hi)).1, by show Itm.ics l ≤ 200; fin_once om fail, b1, oks_all fun i hi => (okB_ok (hr i hi)).1, by show Itm.ics l.reverse ≤ 200; fin_once om fail, b2⟩
section
variable {A : Around} {E : Value → Shared → Prop} {h : Heap} {tk : Nat} {Q : Value → Shared → Prop}
theorem w_ne_bool {a b : Bool} {Q : Value → Shared → Prop} (hu : A.units + 10 < cLine) (k : Q (.bool (a != b)) (St s h tk)) : wpAny (model prog w) A (compareOp .NotEq (.bool a) (.bool b)) Q E (St s h tk) := by
 refine w_ne (Reads.bool a) (Reads.bool b) rfl rfl (by show A.units + 0 < cLine; fin_once om fail) ?_
 have : (!PyData.eqv (.bool a) (.bool b)) = (a != b) := by cases a <;> cases b <;> rfl
 rw [this]
 exact k
noncomputable def PairsC : Prop := ∀ {A : Around} {E : Value → Shared → Prop} {h : Heap} {tk : Nat} {Q : Value → Shared → Prop}, Cx (Mine.hd.heap_1 w.params) A h 5 → A.handled = none →
 (∀ (l : Addr) (h' : Heap) (tk' : Nat) (its : Array Value), Ch [] h h' → h.get? l = none → h'.IsList l its → 0 < its.size → its.size ≤ 1000 → (∀ (i : Nat) (v : Value), its[i]? = some v → PrAt h h' v) → Q (.ref l) (St s h' tk')) → wpAny (model prog w) A (call (.ref 356) []) Q E (St s h tk)
theorem otherOk (p : List Itm × Bool) (hp : p ∈ othersL) : PairOk p := pairOk (l := p.1) (b := p.2) (okB_all.2.2.1 p hp) (okB_all.2.2.2.2 p hp) (others_f p hp).1 (others_f p hp).2
theorem none_ch {h h1 : Heap} (c : Ch [] h h1) {a : Addr} (n : h1.get? a = none) : h.get? a = none := by
 cases q : h.get? a with
 | none => rfl
 | some o =>
  obtain ⟨sl, z⟩ := c.some q (by fin_once sm fail)
  rw [n] at z; cases z
theorem c_pairs : PairsC := by
 intro A E h tk Q C hh k
 refine fnC (bs := [h]) (cs := []) [] ["named", "trait", "enum", "mod", "const", "twice", "firsts", "found"] ["_law_none"] (fun n => [(n + 3, CellO none), (n + 2, CellO none), (n + 1, CellO none), (n, CellO none)]) [none, none, none, none, none, none, none, none] C.t (.head _) (by simp [Ch.refl]) Cells.nil (by fin_once sm fail) C.ff ⟨_, .head _, C.hd⟩ (by k_is) (by k_is) C.r.room (BindsTo.of_eq rfl) (by decide +kernel) (by decide +kernel) (by decide +kernel) rfl rfl rfl (fun n env hs hc => .nil) ?_
 intro nn env L h₁ tk₁ F H hc hs hcl
 replace H := (List.append_nil _ ▸ H :)
 have c1 : Cv env "fn" nn := ⟨by unfold Env.kindOf; rw [hs]; rfl, by rw [hcl]; rfl⟩
 have c2 : Cv env "unit" (nn + 1) := ⟨by unfold Env.kindOf; rw [hs]; rfl, by rw [hcl]; rfl⟩
 have c3 : Cv env "use" (nn + 2) := ⟨by unfold Env.kindOf; rw [hs]; rfl, by rw [hcl]; rfl⟩
 have c4 : Cv env "other" (nn + 3) := ⟨by unfold Env.kindOf; rw [hs]; rfl, by rw [hcl]; rfl⟩
 have hk : env.scope.kind = .function := F.kind
 have V := F.nv
 have T := C.t
 have R : Rm (A.deeper env) 4 := C.r.deeper (by fin_once om fail)
 have hh' : (A.deeper env).handled = none := hh
 have gn := g_none T.k
 fin_once gg fail
 refine PyProof.Rows.Assign_Tuple ?_ ?_ ?_
 rotate_left
 ·rfl
 ·exact swp (l := [(_, _), (_, _)]) [("fn", .cell), ("unit", .cell)] F.kind (all2 c1.k c2.k) (by with_unfolding_all rfl)
 refine w_pairD (Itm.d (.fn (Str.ofString "x"))) (Itm.d (.struct (Str.ofString "x") true)) H (by simp only [Itm.d, List.map_cons, List.map_nil, Itm.ds, optD, strsD, ↓reduceIte, Bool.false_eq_true]; repeat' fin_once ev fail) fun t a1 a2 g1 h₂ tk₂ x1 H₂ tt r1 r2 => ?_
 refine w_assignT H₂ (isTup_ch tt (H₂.ch g1 (by fin_once sm fail))) rfl rfl fun h₃ H₃ _ => wpAny_assignInOrder_more (w_cassign H₃ hk c1 (by fin_once turn fail) fun h₄ H₄ => wpAny_assignInOrder_more (w_cassign H₄ hk c2 (by fin_once turn fail) fun h₅ H₅ => wpAny_assignInOrder_none ?_))
 clear H H₂ H₃ H₄
 fin_once nx fail
 rename At _ _ _ _ _ _ _ => H1
 fin_once gg fail
 refine w_pairD (Itm.d (.struct (Str.ofString "x") false)) (Itm.d (.trait (Str.ofString "x"))) H1 (by simp only [Itm.d, List.map_cons, List.map_nil, Itm.ds, optD, strsD, ↓reduceIte, Bool.false_eq_true]; repeat' fin_once ev fail) fun t2 b3 b4 g2 h₂ tk₂ y2 H₂ tt q3 q4 => ?_
 refine w_unpack2 H₂ F (isTup_ch tt (H₂.ch g2 (by fin_once sm fail))) (by fin_once lk fail) (by fin_once lk fail) fun h₃ tk₃ H2 => ?_
 clear H₂ tt
 have H2 := H2.drop (bs' := [g2, h]) (by fin_once sb fail) ⟨h, by fin_once sm fail, C.hd⟩
 fin_once nx fail
 have r1 := r1.ch (y2 g1 (by fin_once sm fail))
 have r2 := r2.ch (y2 g1 (by fin_once sm fail))
 fin_once gg fail
 refine w_pairD (Itm.d (.enum (Str.ofString "x") [Str.ofString "V"])) (Itm.d (.mod (Str.ofString "x") [])) H2 (by simp only [Itm.d, List.map_cons, List.map_nil, Itm.ds, optD, strsD, ↓reduceIte, Bool.false_eq_true]; repeat' fin_once ev fail) fun t3 b5 b6 g3 h₂ tk₂ y3 H₂ tt q5 q6 => ?_
 refine w_unpack2 H₂ F (isTup_ch tt (H₂.ch g3 (by fin_once sm fail))) (by fin_once lk fail) (by fin_once lk fail) fun h₃ tk₃ H3 => ?_
 clear H₂ tt
 have H3 := H3.drop (bs' := [g3, h]) (fun b mb => by
  rcases List.mem_cons.mp mb with q | mb
  ·rw [q]; exact .head _
  ·exact .tail _ (.tail _ mb)) ⟨h, by fin_once sm fail, C.hd⟩
 with_reducible refine opaq (by assumption) ?_
 with_reducible refine w_nx ?_
 with_reducible refine w_seq ?_
 have r1 := r1.ch (y3 g2 (by fin_once sm fail))
 have r2 := r2.ch (y3 g2 (by fin_once sm fail))
 have q3 := q3.ch (y3 g2 (by fin_once sm fail))
 have q4 := q4.ch (y3 g2 (by fin_once sm fail))
 refine PyProof.Rows.Assign_Tuple ?_ ?_ ?_
 rotate_left
 ·rfl
 ·exact swp (l := [(_, _), (_, _)]) [("const", .local), ("use", .cell)] F.kind (all2 (F.lo "const" (by fin_once sm fail)) c3.k) (by with_unfolding_all rfl)
 with_reducible refine w_pairD (Itm.d (.const (Str.ofString "x"))) (Itm.d (.use [Str.ofString "crate", Str.ofString "y"] (some (Str.ofString "x")))) H3 ?_ ?_
 ·simp only [Itm.d, List.map_cons, List.map_nil, Itm.ds, optD, strsD, ↓reduceIte, Bool.false_eq_true]; repeat' fin_once ev fail
 intro t4 b7 b8 g4 h₂ tk₂ y4 H₂ tt q7 q8
 with_reducible refine w_assignT H₂ (isTup_ch tt (H₂.ch g4 (by fin_once sm fail))) rfl rfl ?_
 intro h₃ H₃ _
 show wpAny _ _ (assignInOrder [assign (PySem.Expr.Name (Str.ofString "const") _) env, assign (PySem.Expr.Name (Str.ofString "use") _) env] [b7, b8]) _ _ _
 with_reducible refine wpAny_assignInOrder_more ?_
 with_reducible refine w_assign H₃ F (by fin_once lk fail) ?_
 intro h₄ tk₄ H₄
 with_reducible refine wpAny_assignInOrder_more ?_
 with_reducible refine w_cassign H₄ hk c3 (by fin_once turn fail) ?_
 intro h₅ H4
 with_reducible refine wpAny_assignInOrder_none ?_
 clear H₂ H₃ H₄ tt
 have H4 := H4.drop (bs' := [g4, h]) (fun b mb => by
  rcases List.mem_cons.mp mb with q | mb
  ·rw [q]; exact .head _
  ·exact .tail _ (.tail _ mb)) ⟨h, by fin_once sm fail, C.hd⟩
 have r1 := r1.ch (y4 g3 (by fin_once sm fail))
 have r2 := r2.ch (y4 g3 (by fin_once sm fail))
 have q3 := q3.ch (y4 g3 (by fin_once sm fail))
 have q4 := q4.ch (y4 g3 (by fin_once sm fail))
 have q5 := q5.ch (y4 g3 (by fin_once sm fail))
 have q6 := q6.ch (y4 g3 (by fin_once sm fail))
 clear H1 H2 H3
 with_reducible refine w_nx ?_
 with_reducible refine w_seq ?_
 fin_once gg fail
 with_reducible refine w_litB (Itm.d (.use [Str.ofString "crate", Str.ofString "y", Str.ofString "x"] none)) H4 ?_ ?_
 ·simp only [Itm.d, List.map_cons, List.map_nil, Itm.ds, optD, strsD, ↓reduceIte, Bool.false_eq_true]; repeat' fin_once ev fail
 intro b9 g5 h₂ tk₂ y5 H₂ q9
 fin_once gg fail
 clear H₂
 rename At _ _ _ _ _ _ _ => H5
 have H5 := H5.drop (bs' := [g5, h]) (fun b mb => by
  rcases List.mem_cons.mp mb with q | mb
  ·rw [q]; exact .head _
  ·exact .tail _ (.tail _ mb)) ⟨h, by fin_once sm fail, C.hd⟩
 have r1 := r1.ch (y5 g4 (.head _))
 have r2 := r2.ch (y5 g4 (.head _))
 have q3 := q3.ch (y5 g4 (.head _))
 have q4 := q4.ch (y5 g4 (.head _))
 have q5 := q5.ch (y5 g4 (.head _))
 have q6 := q6.ch (y5 g4 (.head _))
 have q7 := q7.ch (y5 g4 (.head _))
 have q8 := q8.ch (y5 g4 (.head _))
 clear H4
 fin_once gg fail
 with_reducible refine w_litB (Itm.d (.enum (Str.ofString "z") [Str.ofString "V", Str.ofString "V"])) H5 ?_ ?_
 ·simp only [Itm.d, List.map_cons, List.map_nil, Itm.ds, optD, strsD, ↓reduceIte, Bool.false_eq_true]; repeat' fin_once ev fail
 intro b10 g6 h₂ tk₂ y6 H₂ q10
 fin_once gg fail
 clear H₂
 rename At _ _ _ _ _ _ _ => H6
 have H6 := H6.drop (bs' := [g6, h]) (fun b mb => by
  rcases List.mem_cons.mp mb with q | mb
  ·rw [q]; exact .head _
  ·exact .tail _ (.tail _ mb)) ⟨h, by fin_once sm fail, C.hd⟩
 have r1 := r1.ch (y6 g5 (.head _))
 have r2 := r2.ch (y6 g5 (.head _))
 have q3 := q3.ch (y6 g5 (.head _))
 have q4 := q4.ch (y6 g5 (.head _))
 have q5 := q5.ch (y6 g5 (.head _))
 have q6 := q6.ch (y6 g5 (.head _))
 have q7 := q7.ch (y6 g5 (.head _))
 have q8 := q8.ch (y6 g5 (.head _))
 have q9 := q9.ch (y6 g5 (.head _))
 clear H5
 fin_once gg fail
 with_reducible refine w_newListG H6 F (by fin_once sm fail) ?_
 intro l7 g7 h₂ H₂ c₂ x7 gl7 tg7 nl7
 fin_once gg fail
 clear H₂ H6
 rename At _ _ _ _ _ _ _ => H7
 have rows : ∀ (i : Nat) (v : Value), (#[a1, a2, b3, b4, b5, b6, b7, b8] : Array Value)[i]? = some v → ∃ I ∈ firstsL, Rd g6 v (Itm.d I) := alA (alc ⟨_, .head _, r1⟩ (alc ⟨_, .tail _ (.head _), r2⟩ (alc ⟨_, .tail _ (.tail _ (.head _)), q3⟩ (alc ⟨_, .tail _ (.tail _ (.tail _ (.head _))), q4⟩ (alc ⟨_, .tail _ (.tail _ (.tail _ (.tail _ (.head _)))), q5⟩ (alc ⟨_, .tail _ (.tail _ (.tail _ (.tail _ (.tail _ (.head _))))), q6⟩ (alc ⟨_, .tail _ (.tail _ (.tail _ (.tail _ (.tail _ (.tail _ (.head _)))))), q7⟩ (alc ⟨_, .tail _ (.tail _ (.tail _ (.tail _ (.tail _ (.tail _ (.tail _ (.head _))))))), q8⟩ aln))))))))
 have rows2 : ∀ (i : Nat) (v : Value), (#[a1, a2, b8, b9] : Array Value)[i]? = some v → ∃ I ∈ secondsL, Rd g6 v (Itm.d I) := alA (alc ⟨_, .head _, r1⟩ (alc ⟨_, .tail _ (.head _), r2⟩ (alc ⟨_, .tail _ (.tail _ (.head _)), q8⟩ (alc ⟨_, .tail _ (.tail _ (.tail _ (.head _))), q9⟩ aln))))
 refine w_comp2S (L := L) (ks := ["named", "trait", "enum", "mod", "const", "twice", "firsts", "found"]) (h0 := h) [] hh' V (by unfold swapsWith Env.blockKind Env.kindOf; rw [hs]; rfl) (cl := [("use", nn + 2), ("unit", nn + 1), ("other", nn + 3), ("fn", nn)]) (by simp [closureFor, cellOf, c1.l, c2.l, c3.l, c4.l]) (by decide +kernel) rfl (by decide +kernel) (by decide) (by decide +kernel) rfl (fun _ => rfl) (fun _ _ => rfl) ?_
 fin_once gg fail
 refine .mk (its2 := #[a1, a2, b8, b9]) H7 (by fin_once sm fail) gl7 (by fin_once sm fail) (by fin_once sm fail) (by fin_once sm fail) (fun v => ⟨_, by fin_once lk fail⟩) (fun bs' C' cs' vx vy hc tkc Q2 Hc sub csub V' kk => ?_) (fun i j bs' C' cs' vx vy hc tkc Q2 hx hy Hc sub V' kk => ?_) fun D ys g5 hc tkc vs' zy py pt Hc => ?_
 ·have y1 := V'.cv c1 hk rfl rfl
  have y2 := V'.cv c2 hk rfl rfl
  have y3 := V'.cv c3 hk rfl rfl
  have y4 := V'.cv c4 hk rfl rfl
  have hk' := V'.kind
  have m1 : (nn, CellO (some a1)) ∈ cs' := csub _ (by fin_once sm fail)
  have m2 : (nn + 1, CellO (some a2)) ∈ cs' := csub _ (by fin_once sm fail)
  have m3 : (nn + 2, CellO (some b8)) ∈ cs' := csub _ (by fin_once sm fail)
  have m4 : (nn + 3, CellO (some b9)) ∈ cs' := csub _ (by fin_once sm fail)
  clear H7
  fin_once gg fail
  refine w_newList Hc (by fin_once sm fail) fun h' H' c l nl => ?_
  fin_once o1 fail
  refine H'.base'K fun g2 x2 H2 k2 _ => ?_
  obtain ⟨oC, eC⟩ := Hc.frL
  fin_once o2 fail
  refine kk _ g2 h' _ H2 ?_
  fin_once o1 fail
  obtain ⟨o, e, cc, r⟩ := l
  fin_once o2 fail
  exact ⟨o, k2 _ _ e (fun q => by rw [q, eC] at nl; cases nl) (Hc.ne_new nl), cc, r⟩
 ·have hk' := V'.kind
  clear H7
  refine PyProof.Rows.Tuple_ ?_
  fin_once gg fail
  refine w_newList Hc (by fin_once sm fail) fun h' H' c l nl => ?_
  fin_once gg fail
  refine w_newTupleN H' (by fin_once sm fail) fun tt h'' H'' c2 tt2 => ?_
  fin_once o1 fail
  obtain ⟨I1, m1, r1'⟩ := rows i vx hx
  obtain ⟨I2, m2, r2'⟩ := rows2 j vy hy
  fin_once o2 fail
  refine kk _ _ _ H'' (c.trans c2) (.mk (p := ([I1, I2], true)) (pairOk (fun I hI => ?_) (by fin_once sm fail) (pairs_f I1 m1 I2 m2).1 (pairs_f I1 m1 I2 m2).2) nl tt2 (isList_ch l c2) ?_ (by fin_once sm fail))
  ·exact alc (P := fun I => okB I = true) (okB_all.1 _ m1) (alc (okB_all.2.1 _ m2) aln) I hI
  ·dsimp only [Itm.ds]
   exact .cons (as := []) (bs := []) (r1'.ch (H''.ch g6 (sub _ (by fin_once sm fail)))) (.cons (as := []) (bs := []) (r2'.ch (H''.ch g6 (sub _ (by fin_once sm fail)))) .nil)
 ·cases pt.uniq F.nd (.tail (.tail (.tail (.tail (.tail (.tail (.tail .head)))))))
  have zy : ys.length ≤ 32 := zy
  clear H7
  refine Hc.opC1 fun CT hCT mT Hc => ?_
  have t1 := mT (c := (nn, CellO _)) (by fin_once lk fail)
  have t2 := mT (c := (nn + 1, CellO _)) (by fin_once lk fail)
  have t3 := mT (c := (nn + 2, CellO _)) (by fin_once lk fail)
  have t4 := mT (c := (nn + 3, CellO _)) (by fin_once lk fail)
  clear mT hCT
  fin_once gg fail
  refine PyProof.Rows.Tuple_ ?_
  fin_once gg fail
  refine w_newList Hc (by fin_once sm fail) fun ha Ha ca la na => ?_
  fin_once gg fail
  refine w_newTupleN Ha (by fin_once sm fail) fun ta hb Hb cb tta => ?_
  have n1 := Hc.ne_new na
  have m1 := none_ch (Hc.ch h (by fin_once sm fail)) na
  have l1 := isList_ch la cb
  clear Hc la na
  fin_once gg fail
  refine PyProof.Rows.Tuple_ ?_
  fin_once gg fail
  refine w_newList Hb (by fin_once sm fail) fun hc Hc cc lc nc => ?_
  fin_once gg fail
  refine w_newTupleN Hc (by fin_once sm fail) fun tb hd Hd cd ttb => ?_
  have n2 := Hb.ne_new nc
  have m2 := none_ch (Hb.ch h (by fin_once sm fail)) nc
  have l2 := isList_ch lc cd
  clear Hb Hc lc nc
  fin_once gg fail
  refine PyProof.Rows.Tuple_ ?_
  fin_once gg fail
  refine w_newList Hd (by fin_once sm fail) fun he He ce le ne => ?_
  fin_once gg fail
  refine w_newTupleN He (by fin_once sm fail) fun tc hf Hf cf ttc => ?_
  have n3 := Hd.ne_new ne
  have m3 := none_ch (Hd.ch h (by fin_once sm fail)) ne
  have l3 := isList_ch le cf
  clear Hd He le ne
  fin_once gg fail
  refine w_newList Hf (by fin_once sm fail) fun hg Hg cg lg ng => ?_
  refine Hg.cells.getK (a := D) (φ := LO ys) (by fin_once mem fail) fun oD eD pk2 _ => ?_
  obtain ⟨cD, nD, dD⟩ := pk2
  clear Hf
  refine w_addL (xs := ys.toArray) (ys := #[.ref ta, .ref tb, .ref tc]) Hg ⟨oD, eD, cD, nD, dD⟩ lg (by simp; fin_once om fail) fun hi Hi ci li ni => ?_
  have n4 := Hg.ne_new ni
  have c3 := cg.trans ci
  have c2' := (ce.trans cf).trans c3
  have c1' := (cc.trans cd).trans c2'
  clear Hg
  refine Hi.now2K F fun g8 x8 H8 kp8 kt8 => ?_
  have y8 := x8 g6 (by fin_once sm fail)
  have mk : ∀ {p : List Itm × Bool} {t il : Addr} {its : Array Value}, PairOk p → h.get? il = none → IsTup hi t #[.ref il, .bool p.2] → hi.IsList il its → (∀ c ∈ (D, LO ys) :: CT, c.1 ≠ il) → ReadsAll g8 its.toList (Itm.ds p.1) [] → its.size ≤ 10 → PrAt h g8 (.ref t) := fun {p t il its} po n tt l nc r z => by
   fin_once o1 fail
   obtain ⟨o, e, c, q⟩ := tt
   obtain ⟨o2, e2, c2, q2⟩ := l
   fin_once o2 fail
   exact .mk po n ⟨o, kt8 _ _ e ⟨c, _, q⟩, c, q⟩ ⟨o2, kp8 _ _ e2 (mutO_fr (mutO_list c2)) nc, c2, q2⟩ r z
  have pa : PrAt h g8 (.ref ta) := mk (p := ([.struct (Str.ofString "x") false, .const (Str.ofString "x")], true)) (otherOk _ (.head _)) m1 (isTup_ch tta c1') (isList_ch l1 c1') n1 (by
   dsimp only [Itm.ds]
   exact .cons (as := []) (bs := []) (q3.ch y8) (.cons (as := []) (bs := []) (q7.ch y8) .nil)) (by fin_once sm fail)
  have pb : PrAt h g8 (.ref tb) := mk (p := ([.trait (Str.ofString "x"), .mod (Str.ofString "x") []], true)) (otherOk _ (.tail _ (.head _))) m2 (isTup_ch ttb c2') (isList_ch l2 c2') n2 (by
   dsimp only [Itm.ds]
   exact .cons (as := []) (bs := []) (q4.ch y8) (.cons (as := []) (bs := []) (q6.ch y8) .nil)) (by fin_once sm fail)
  have pc : PrAt h g8 (.ref tc) := mk (p := ([.enum (Str.ofString "z") [Str.ofString "V", Str.ofString "V"]], true)) (otherOk _ (.tail _ (.tail _ (.head _)))) m3 (isTup_ch ttc c3) (isList_ch l3 c3) n3 (by
   dsimp only [Itm.ds]
   exact .cons (as := []) (bs := []) (q10.ch y8) .nil) (by fin_once sm fail)
  have all1 : ∀ v ∈ ys ++ [Value.ref ta, Value.ref tb, Value.ref tc], PrAt h g8 v := fun v mv => by
   rcases List.mem_append.mp mv with mv | mv
   ·exact (py v mv).ch (x8 g5 (by fin_once sm fail))
   ·exact ale mv (alc pa (alc pb (alc pc aln)))
  have lst : g8.IsList hg.objs.size (ys ++ [Value.ref ta, Value.ref tb, Value.ref tc]).toArray := by
   fin_once o1 fail
   obtain ⟨o, e, c, n, d⟩ := li
   fin_once o2 fail
   exact ⟨o, kp8 _ _ e (mutO_fr (mutO_list c)) n4, c, n, by rw [d]; simp⟩
  have r1 := r1.ch y8
  have q5 := q5.ch y8
  have q9 := q9.ch y8
  have q10 := q10.ch y8
  simp only [Itm.d, List.map_cons, List.map_nil] at q10
  obtain ⟨t10, _, rfl, -⟩ := q10.tuple
  have H8 := H8.drop (bs' := [g8, h]) (fun b mb => by
   rcases List.mem_cons.mp mb with q | mb
   ·rw [q]; exact .head _
   ·rw [List.mem_singleton] at mb; rw [mb]; simp) ⟨h, by fin_once sm fail, C.hd⟩
  have zl : (ys ++ [Value.ref ta, Value.ref tb, Value.ref tc]).length ≤ 40 := by simp; fin_once om fail
  have z0 : 0 < (ys ++ [Value.ref ta, Value.ref tb, Value.ref tc]).length := by simp
  generalize hg.objs.size = lv at lst
  generalize ys ++ [Value.ref ta, Value.ref tb, Value.ref tc] = all at lst all1 zl z0
  clear pa pb pc mk kp8 kt8 x8 li ni n1 n2 n3 n4 m1 m2 m3 l1 l2 l3 tta ttb ttc lg Hi
  fin_once gg fail
  clear H8
  rename At _ _ _ _ _ _ _ => H9
  refine w_comp1V (L := L) (ks := ["named", "trait", "enum", "mod", "const", "twice", "firsts", "found"]) (h0 := h) [] hh' V (cl := []) (by simp [closureFor]) (by decide +kernel) rfl (by decide +kernel) (by decide) (by decide +kernel) rfl (fun _ => rfl) ?_
  fin_once gg fail
  refine w_upto4 H9 (q10.ch (H9.ch g8 (by fin_once sm fail))) (fun t1 ha tka Ha ca ra => ?_) (fun _ => by with_unfolding_all rfl)
  fin_once gg fail
  refine evd (.tuple [.tuple [.tuple [.str (Str.ofString "V"), .str (Str.ofString "unit"), .tuple []]]]) Ha (by repeat' fin_once ev fail) fun v2 hb tkb Hb cb rb => ?_
  clear Ha H9
  fin_once gg fail
  refine w_addT Hb (ra.ch cb) rb (by fin_once sm fail) fun t3 hc Hc cc rc => ?_
  clear Hb
  fin_once gg fail
  refine w_from5 Hc (q10.ch (Hc.ch g8 (by fin_once sm fail))) (fun t4 hd tkd Hd cd rd => ?_) (fun _ => by with_unfolding_all rfl)
  clear Hc
  fin_once gg fail
  refine w_addT Hd (rc.ch cd) rd (by fin_once sm fail) fun t5 he He ce re => ?_
  clear Hd
  refine He.now2K F fun g10 x10 He kp10 kt10 => ?_
  have r5 := re.mv kt10
  fin_once gg fail
  refine w_newListG He F (by fin_once sm fail) fun l9 g9 hf Hf cf x9 gl9 tg9 nl9 => ?_
  clear He
  have y10 := x10 g8 (by fin_once sm fail)
  have rows3 : ∀ (i : Nat) (v : Value), (#[a1, b5, b9, .ref t5] : Array Value)[i]? = some v → ∃ I ∈ singlesL, Rd g10 v (Itm.d I) := alA (alc ⟨_, .head _, r1.ch y10⟩ (alc ⟨_, .tail _ (.head _), q5.ch y10⟩ (alc ⟨_, .tail _ (.tail _ (.head _)), q9.ch y10⟩ (alc ⟨_, .tail _ (.tail _ (.tail _ (.head _))), r5⟩ aln))))
  fin_once gg fail
  refine .mk Hf (by fin_once sm fail) gl9 (by fin_once sm fail) (by fin_once sm fail) (fun i bs' C' cs' vx hc tkc Q2 hx Hc sub V' kk => ?_) fun D2 ys2 g5 hc tkc zy2 py2 Hc => ?_
  ·have hk' := V'.kind
   clear Hf
   refine PyProof.Rows.Tuple_ ?_
   fin_once gg fail
   refine w_newList Hc (by fin_once sm fail) fun h' H' c l nl => ?_
   fin_once gg fail
   refine w_newTupleN H' (by fin_once sm fail) fun tt h'' H'' c2 tt2 => ?_
   obtain ⟨I1, m1, r1'⟩ := rows3 i vx hx
   refine kk _ _ _ H'' (c.trans c2) (.mk (p := ([I1], false)) (pairOk (fun I hI => ?_) (by fin_once sm fail) (singles_f I1 m1) (singles_f I1 m1)) nl tt2 (isList_ch l c2) ?_ (by fin_once sm fail))
   ·rw [List.mem_singleton] at hI
    rw [hI]
    exact okB_all.2.2.2.1 _ m1
   ·dsimp only [Itm.ds]
    exact .cons (as := []) (bs := []) (r1'.ch (H''.ch g10 (sub _ (by fin_once sm fail)))) .nil
  ·clear Hf
   refine Hc.cells.getK (a := D2) (φ := LO ys2) (by fin_once mem fail) fun oD2 eD2 pk2 _ => ?_
   obtain ⟨cD2, nD2, dD2⟩ := pk2
   have zy2 : ys2.length ≤ 4 := zy2
   refine w_addL (xs := all.toArray) (ys := ys2.toArray) Hc (isList_ch lst (Hc.ch g8 (by fin_once sm fail))) ⟨oD2, eD2, cD2, nD2, dD2⟩ (by simp; fin_once om fail) fun hz Hz cz lz nz => ?_
   fin_once gg fail
   refine k _ _ _ _ (Hz.ch h (by fin_once sm fail)) (none_ch (Hc.ch h (by fin_once sm fail)) nz) lz (by simp; fin_once om fail) (by simp; fin_once om fail) fun i v e => ?_
   have : v ∈ all ++ ys2 := List.mem_of_getElem? (by simpa using e)
   rcases List.mem_append.mp this with m | m
   ·exact (all1 v m).ch (Hz.ch g8 (by fin_once sm fail))
   ·exact (py2 v m).ch (Hz.ch g5 (by fin_once sm fail))
inductive RLw (l src : Addr) (many : Nat) (tm : Tok) (h : Heap) : Nat → List Heap → List Cell → List (Option Value) → Prop
 | mk {i : Nat} {o1 o2 o3 : Option Value} : RLw l src many tm h i [h] [(src, SrcO)] [some (.ref l), some (.ref src), some (.int many tm), o1, o2, o3]
theorem c_law {l : Addr} {its : Array Value} {ns : List Int} (C : Cx (Mine.hd.heap_1 w.params) A h 145) (hh : A.handled = none) (hl : h.IsList l its) (hI : IntsAre its.toList ns) (hz : its.size ≤ 1000) (PC : PairsC)
  (k : ∀ h' tk', Ch [] h h' → Q (.bool true) (St s h' tk')) :
  wpAny (model prog w) A (call (.ref 370) [.ref l]) Q E (St s h tk) := by
 refine fn0c (vals := [.ref l]) ["script"] ["source", "many", "turn", "items", "is_wrong"] ["_law_pool", "_law_uses_right", "_law_take", "_law_one", "_law_chain", "range", "_law_pairs", "_law_is_refused"] C (by k_is) (by k_is) (BindsTo.of_eq rfl) rfl (by decide +kernel) (by decide +kernel) rfl rfl rfl rfl (by decide) ?_
 intro env L h₁ tk₁ F H hc T R
 dsimp only [List.cons_append, List.nil_append, List.map] at F H
 have hh' : (A.deeper env).handled = none := hh
 have un : (A.deeper env).units + 10 < cLine := Nat.lt_of_le_of_lt (Nat.add_le_add_left (by decide : 10 ≤ 8 * 144 + 100) _) (by have := R.un; rw [Nat.add_assoc] at this; exact this)
 fin_once gg fail
 refine c_pool (H.cx T (by fin_once sm fail) R (by fin_once om fail)) hh' (isList_ch hl hc) hI hz fun src h₂ tk₂ o c₂ nsrc eo so => ?_
 obtain ⟨oL, eL⟩ := H.frL
 have H₂ := (H.keep c₂).cell eo so (mutO_list so.1) (fun g mg => by
  cases q : g.get? src with
  | none => rfl
  | some o' =>
   obtain ⟨sl, z⟩ := (H.ch g mg).some q (by fin_once sm fail)
   rw [nsrc] at z; cases z) (by fin_once sm fail) (fun q => by rw [q, eL] at nsrc; cases nsrc)
 fin_once gg fail
 clear H
 rename At _ _ _ _ _ _ _ => H
 have cmS : ∀ {bs cs vs h' n}, At (A.deeper env) bs L ["script", "source", "many", "turn", "items", "is_wrong"] cs vs h' → h ∈ bs → (src, SrcO) ∈ cs → n ≤ 144 → Cm (Mine.hd.heap_1 w.params) (A.deeper env) h' [src] n ∧ ∃ o, h'.get? src = some o ∧ SrcO o := fun H' mb mc le => by
  refine H'.cells.getK mc fun o₁ e₁ s₁ _ => ?_
  exact ⟨H'.cm T mb (fun a ha => ⟨(src, SrcO), mc, (List.mem_singleton.mp ha).symm⟩) R le, o₁, e₁, s₁⟩
 obtain ⟨cm1, i1⟩ := cmS H (by fin_once sm fail) (by fin_once sm fail) (by fin_once om fail : 1 ≤ 144)
 refine c_take cm1 i1 (by fin_once om fail) (by fin_once om fail) fun v u h₃ tk₃ v0 v1 c₃ so₃ => ?_
 have H₃ := H.drew (by fin_once sm fail) c₃ so₃
 fin_once gg fail
 obtain ⟨cm2, i2⟩ := cmS H₃ (by fin_once sm fail) (by fin_once sm fail) (by fin_once om fail : 135 ≤ 144)
 refine c_right (unit := v == 0) cm2 hh' i2 (fun links ok l1 l6 => plain ok l6) fun h₄ tk₄ c₄ so₄ => ?_
 have H₄ := H₃.drew (by fin_once sm fail) c₄ so₄
 fin_once gg fail
 refine w_newListG H₄ F (by fin_once sm fail) fun l2 g2 h₅ H₅ c₅ x2 gl2 tg2 nl2 => ?_
 fin_once gg fail
 obtain ⟨cm3, i3⟩ := cmS H₅ (by fin_once sm fail) (by fin_once sm fail) (by fin_once om fail : 2 ≤ 144)
 refine c_one cm3 i3 (isList_ch gl2 (H₅.ch g2 (by fin_once sm fail))) (fun q => nl2 _ (by simp : (src, SrcO) ∈ _) q.symm) (by fin_once sm fail) (by fin_once sm fail) fun i v2 h₆ tk₆ hv c₆ so₆ => ?_
 have H₆ := (H₅.drew (by fin_once sm fail) c₆ so₆).drop (bs' := [h]) (by fin_once sb fail) ⟨h, by fin_once sm fail, C.hd⟩
 obtain ⟨many, tm, rfl, mm⟩ : ∃ (k : Nat) (t : Tok), v2 = .int k t ∧ k ∈ manyL := by
  exact ale (P := fun v => ∃ (k : Nat) (t : Tok), v = Value.int k t ∧ k ∈ manyL) (arr_mem hv) (alc ⟨1, _, rfl, .head _⟩ (alc ⟨2, _, rfl, .tail _ (.head _)⟩ (alc ⟨28, _, rfl, .tail _ (.tail _ (.head _))⟩ (alc ⟨29, _, rfl, .tail _ (.tail _ (.tail _ (.head _)))⟩ (alc ⟨30, _, rfl, .tail _ (.tail _ (.tail _ (.tail _ (.head _))))⟩ (alc ⟨31, _, rfl, .tail _ (.tail _ (.tail _ (.tail _ (.tail _ (.head _)))))⟩ (alc ⟨32, _, rfl, .tail _ (.tail _ (.tail _ (.tail _ (.tail _ (.tail _ (.head _))))))⟩ aln)))))))
 clear H H₃ H₄ H₅
 fin_once gg fail
 rename At _ _ _ _ _ _ _ => H₇
 refine c_chain (H₇.cx T (by fin_once sm fail) R (by fin_once om fail)) hh' mm fun h₈ tk₈ c₈ => ?_
 have H₈ := H₇.keep c₈
 fin_once gg fail
 have eb : (decide (many ≤ 30) != decide ((many : Int) ≤ 30)) = false := by
  have : decide (many ≤ 30) = decide ((many : Int) ≤ 30) := by congr 1; exact propext ⟨fun h => by fin_once om fail, fun h => by fin_once om fail⟩
  rw [this]; simp
 refine w_ne_bool un ?_
 rw [eb]
 fin_once gg fail
 refine w_ForR (E' := No) (L := L) ["script", "source", "many", "turn", "items", "is_wrong"] hh' (RLw l src many tm h) thr_no (fun _ => rfl) ?_
 fin_once gg fail
 refine w_range1 H₈ fun rr h₉ tk₉ u1 u2 H₉ c₉ hr => ?_
 refine .mk (g := h) (n := 4) hr (by fin_once om fail) H₉ .mk (fun i bs cs vs hR => ?_) (fun it i t bs cs vs h₆ tk₆ hi hR H₆ Tz hTz => ?_) fun bs cs vs h₆ tk₆ hR H₆ => ?_
 ·induction hR; simp
 ·induction hR
  rename_i o1 o2 o3
  fin_once gg fail
  clear H₆
  rename At _ _ _ _ _ _ _ => H₆
  refine PC (H₆.cx T (by fin_once sm fail) R (by fin_once om fail)) hh' fun lp h₇ tk₇ pits cp nlp ilp z0 z1 pr => ?_
  refine (H₆.keep cp).now2K F fun g3 x3 H₇ kp3 kt3 => ?_
  have gp : g3.IsList lp pits := by
   fin_once o1 fail
   obtain ⟨o, e, c, r⟩ := ilp
   fin_once o2 fail
   exact ⟨o, kp3 _ _ e (mutO_fr (mutO_list c)) (H₆.ne_new nlp), c, r⟩
  fin_once gg fail
  obtain ⟨cm4, i4⟩ := cmS H₇ (by fin_once sm fail) (by fin_once sm fail) (by fin_once om fail : 2 ≤ 144)
  refine c_one cm4 i4 (isList_ch gp (H₇.ch g3 (by fin_once sm fail))) (fun q => H₆.ne_new nlp (src, SrcO) (by fin_once sm fail) q.symm) z0 z1 fun ip v3 h₈ tk₈ hv3 c₈ so₈ => ?_
  have H₈ := H₇.drew (by fin_once sm fail) c₈ so₈
  have pv := pr ip v3 hv3
  induction pv
  rename_i p tt il iits po nil itt iil ira iz
  have gt : IsTup g3 tt #[.ref il, .bool p.2] := by
   fin_once o1 fail
   obtain ⟨o, e, c, r⟩ := itt
   fin_once o2 fail
   exact ⟨o, kt3 _ _ e ⟨c, _, r⟩, c, r⟩
  have gi : g3.IsList il iits := by
   fin_once o1 fail
   obtain ⟨o, e, c, r⟩ := iil
   fin_once o2 fail
   exact ⟨o, kp3 _ _ e (mutO_fr (mutO_list c)) (H₆.ne_new nil), c, r⟩
  have gr : ReadsAll g3 iits.toList (Itm.ds p.1) [] := readsAll_mv ira fun b o e t => kt3 b o e (t.resolve_right (by fin_once sm fail))
  refine w_assignT2 H₈ F (isTup_ch gt (H₈.ch g3 (by fin_once sm fail))) (by fin_once lk fail) (by fin_once lk fail) fun h₉ tk₉ H₉ => ?_
  fin_once gg fail
  refine c_refused (H₉.cx T (by fin_once sm fail) R (by fin_once om fail)) hh' (isList_ch gi (H₉.ch g3 (by fin_once sm fail))) (readsAll_ch gr (H₉.ch g3 (by fin_once sm fail))) po.o1 po.z1 fun ha tka ca => ?_
  have Ha := H₉.keep ca
  rw [po.b1]
  fin_once gg fail
  refine w_ne_bool un ?_
  rw [bne_self_eq_false]
  fin_once gg fail
  refine w_rev Ha (isList_ch gi (Ha.ch g3 (by fin_once sm fail))) (by fin_once om fail) (fun l4 hb tkb Hb cb il4 => ?_) (fun _ => by with_unfolding_all rfl)
  fin_once gg fail
  refine c_refused (items := p.1.reverse) (Hb.cx T (by fin_once sm fail) R (by fin_once om fail)) hh' il4 (by rw [← ds_rev]; exact readsAll_rev (readsAll_ch gr (Hb.ch g3 (by fin_once sm fail)))) po.o2 po.z2 fun hc2 tkc cc => ?_
  have Hc := Hb.keep cc
  rw [po.b2]
  fin_once gg fail
  refine w_ne_bool un ?_
  rw [bne_self_eq_false]
  fin_once gg fail
  exact tf_next (.mk .mk (Hc.drop (bs' := [h]) (by fin_once sb fail) ⟨h, by fin_once sm fail, C.hd⟩))
 ·induction hR
  rename_i o1 o2 o3
  fin_once gg fail
  refine c_chain (many := 30) (H₆.cx T (by fin_once sm fail) R (by fin_once om fail)) hh' (by simp [manyL]) fun h₇ tk₇ c₇ => ?_
  have H₇ := H₆.keep c₇
  fin_once gg fail
  rw [decide_eq_true (Nat.le_refl 30)]
  fin_once gg fail
  refine c_chain (many := 31) (H₇.cx T (by fin_once sm fail) R (by fin_once om fail)) hh' (by simp [manyL]) fun h₈ tk₈ c₈ => ?_
  have H₈ := H₇.keep c₈
  fin_once gg fail
  rw [decide_eq_false (by fin_once om fail : ¬ 31 ≤ 30)]
  fin_once gg fail
  refine PyProof.Rows.not_of ?_
  fin_once gg fail
  exact k _ _ (H₈.ch h (by fin_once sm fail))
end
end Mine
theorem PySem.Challenge.cw_pf0165_01_holds : PySem.Challenge.rw_pf0165_01.Holds := by
 refine Mine.hd ?_
 intro w s₀ s₁ mg mb G Y fa o pm cd doc dV kV ho hd hcd hD hmg hg args vals as hpre hlay hrd hwl hlo
 have KX := kIn_of Y
 have T := G.T
 have fe := mg_of (n := Str.ofString "law") (v := .ref 370) KX T.g (by with_unfolding_all rfl)
 obtain rfl : fa = 370 := by
  have := hmg.symm.trans fe
  injection this with q
  injection q
 wrow_args hpre hlay hrd hwl hlo
 rename_i ns _ _ _ _ _ _ _ la its _ hL _ _ _ hI _ hc _
 clear hD hd ho hcd Y G
 letI rt : Mine.Root := ⟨w, s₁⟩
 have C : Mine.Cx (Mine.hd.heap_1 w.params) callerA s₁.heap 145 := by
  refine ⟨⟨KX, fun a o e => ?_, ⟨mg, T.g⟩, ⟨mb, T.b, T.builtins⟩, T.nolimit, fun b o e => ⟨o, e⟩⟩, ⟨[], rfl, fun _ m => nomatch m⟩, .inl rfl, by decide, by decide⟩
  unfold Mine.isFr
  rw [show Mine.Root.r.get? a = some o from KX a o e, Option.isNone_some, Bool.and_false]
 refine Mine.c_law (h := s₁.heap) (tk := s₁.toks) C rfl hL hI ?_ Mine.c_pairs fun h' tk' c => ?_
 ·have := hI.length
  simp only [List.size_toArray]
  omega
 ·refine ⟨.inl ⟨.bool true, .bool true, [], rfl, raisesW_false (by wrow_none_raised), ReadsW.bool _, ?_, fun _ => ⟨List.nodup_nil, fun a m => nomatch m⟩⟩, OldK.of_keep fun b o e => c.same b o e (fun m => nomatch m) ?_, rfl, AllBare.of_eq hg⟩
  ·wrow_post
  ·unfold Mine.isFr
   rw [show Mine.Root.r.get? b = some o from e, Option.isNone_some, Bool.and_false]
