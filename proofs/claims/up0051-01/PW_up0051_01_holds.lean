import PyProof.Rows.All
import Wide.All
import OpenK.AllK
import Wide.FinOn
import PySem.Challenge.RW_up0051_01
open PySem PySem.W PyProof.Rows PySem.Spec PySem.Calls
set_option maxRecDepth 100000
set_option maxHeartbeats 0
set_option Elab.async false
set_option linter.unusedVariables false
namespace Mine
theorem te1 : @topRun = PySem.W.Fast.tw14082659384304107361 := PySem.W.Fast.te14082659384304107361
theorem te2 : @openSeen = PySem.W.Fast.tw4187177175401517315 := PySem.W.Fast.te4187177175401517315
theorem te3 : treeTable = PySem.W.Fast.tw14364793385576792824 := PySem.W.Fast.te14364793385576792824
theorem ok_ : PySem.Challenge.rw_up0051_01.wellSaid = true := (congrFun PySem.W.Fast.te9446332074065402090 PySem.Challenge.rw_up0051_01).trans (by kernel_rfl)
theorem boot_ : ∀ w : World, (fencedOpening treeTable PySem.Challenge.pw_up0051_01 w 4586).map (fun s => (s.heap, s.gens, s.drawn, s.toks)) = some (boot_heap w.params, Array.mk [], boot_drawn, boot_toks) :=
  boot_open (by kernel_rfl) (by decide) (fun s => by kernel_rfl)
theorem left_ {p q : Program} {loose : List Str} {Xt : Shared → Bool} {α : Type} {Yf : Shared → α} {Ya : World → α} {N : Nat} (row : String)
    (op : ∀ w : World, (fencedOpening treeTable p w N).map (fun s => (s.heap, s.gens, s.drawn, s.toks)) = some (boot_heap w.params, Array.mk [], boot_drawn, boot_toks))
    (h0 : ∀ (w : World) (os : OsState), (topFrom treeTable p (w.withFollow row false) N ⟨boot_heap w.params, Array.mk [], boot_drawn, boot_toks, os⟩).map (fun s => (openSeen q loose (importedModules p.main.body) Xt true s, Yf s)) = some (openGood q loose, Ya (w.withFollow row false)))
    (h1 : ∀ (w : World) (os : OsState), (topFrom treeTable p (w.withFollow row true) N ⟨boot_heap w.params, Array.mk [], boot_drawn, boot_toks, os⟩).map (fun s => (openSeen q loose (importedModules p.main.body) Xt true s, Yf s)) = some (openGood q loose, Ya (w.withFollow row true))) :
    LeftO p q loose Xt Yf Ya N true := LeftO.of_split row fun w => by
  obtain ⟨⟨hp, gs, d, tk, os⟩, hs, hv⟩ := Option.map_eq_some_iff.mp (op w)
  obtain ⟨rfl, rfl, rfl, rfl⟩ : hp = boot_heap w.params ∧ gs = Array.mk [] ∧ d = boot_drawn ∧ tk = boot_toks := by simpa using hv
  rw [hs]
  show some (_, _) = _
  rw [h0 w os, h1 w os]
local macro_rules | `(tactic| o_law) => `(tactic| refine holds_law ok_ fun _ => ?_)
noncomputable def qv : Program := PySem.W.view PySem.Challenge.pw_up0051_01 [0,2,3,5,6,7,8,9,11,12,13,14,15,16,18,19,20,21,22,23,24,25,26,28,29,30,31,33,34,36,37,38,39,40,41,42,43,44,45,46]
abbrev lo : List Str := [Str.ofString "LendError", Str.ofString "BITS", Str.ofString "Adt"]
noncomputable abbrev xt (s : Shared) : Bool := xlAt qv [] s && recOk [] s
theorem holds_both {r : OpenRow} {H : Hook} {d : DefRec} {kwd : List (Str × Expr)} (hr : r.records = [])
    (hdef : defOf qv r.name = some (d, kwd)) (hp : r.prog.theDef r.name = some (d.params, d.body, d.scope)) (hk : kwWritten? d.params.kwonlyargs d.params.kw_defaults = some kwd) (hwr : (!r.writes || r.records.isEmpty) = true)
    (k1 : r.wellSaid = true) (ok : (chainsOk qv && opensWell r.prog && (frees r.toRowW && r.within.isEmpty)) = true) (hb : r.prog.bare) (hw : r.toRowW.promised)
    (hc : LeftO r.prog qv lo xt H.obs H.val 4586 true ∧ WalkO qv lo (XL qv []) H.says r.toRowW d kwd fun f vs => PySem.call f vs) : r.Holds :=
  holds_open hc.1 H.of H.keeps (fun s e => xl_of s (Bool.and_eq_true_iff.mp e).1) XL.keeps hdef hp hk (fun s e => by rw [hr]; exact recFacts_of (Bool.and_eq_true_iff.mp e).2) hwr k1 ok hb hw hc.2
local macro_rules | `(tactic| o_head $H) => `(tactic| refine holds_both (H := $H) (by rfl) (by rfl) (by rfl) (by rfl) (by rfl) (by first | assumption | decide +kernel) (by decide +kernel) ⟨rfl, rfl, rfl, rfl, rfl, by decide +kernel⟩ ?hw ?hc)
open_top hd for PySem.Challenge.rw_up0051_01
theorem left_km {K : Params → Frag} {as ts : List Addr} (e : ∀ P, as = (K P).map (·.1))
    (h : ∀ (b : Bool) (w : World) (os : OsState), (topFrom treeTable PySem.Challenge.rw_up0051_01.row.prog (w.withFollow "special-get-raises" b) 4586 ⟨boot_heap w.params, Array.mk [], boot_drawn, boot_toks, os⟩).map
      (fun s => (openSeen qv lo (importedModules PySem.Challenge.rw_up0051_01.row.prog.main.body) xt true s, ((K (w.withFollow "special-get-raises" b).params).map fun p => s.heap.get? p.1), ts.map s.heap.get?)) =
      some (openGood qv lo, ((K (w.withFollow "special-get-raises" b).params).map fun p => some p.2), ts.map fun _ => some (tabObj #[]))) :
    LeftO PySem.Challenge.rw_up0051_01.row.prog qv lo xt (kmHook K as e ts).obs (kmHook K as e ts).val 4586 true := by
  have k : ∀ (b : Bool) (w : World) (os : OsState), (topFrom treeTable PySem.Challenge.rw_up0051_01.row.prog (w.withFollow "special-get-raises" b) 4586 ⟨boot_heap w.params, Array.mk [], boot_drawn, boot_toks, os⟩).map
      (fun s => (openSeen qv lo (importedModules PySem.Challenge.rw_up0051_01.row.prog.main.body) xt true s, (kmHook K as e ts).obs s)) = some (openGood qv lo, (kmHook K as e ts).val (w.withFollow "special-get-raises" b)) := fun b w os => by
    obtain ⟨s, h1, h2⟩ := Option.map_eq_some_iff.mp (h b w os)
    obtain ⟨h3, h4⟩ := Prod.mk.inj h2
    obtain ⟨h5, h6⟩ := Prod.mk.inj h4
    refine Option.map_eq_some_iff.mpr ⟨s, h1, ?_⟩
    rw [h3]
    show (openGood qv lo, as.map s.heap.get?, ts.map s.heap.get?) = (openGood qv lo, ((K (w.withFollow "special-get-raises" b).params).map fun p => some p.2), ts.map fun _ => some (tabObj #[]))
    rw [h6, ← h5, e (w.withFollow "special-get-raises" b).params, List.map_map]
    rfl
  exact left_ "special-get-raises" boot_ (k false) (k true)
theorem run0 (w : World) (os : OsState) : (topFrom treeTable PySem.Challenge.rw_up0051_01.row.prog (w.withFollow "special-get-raises" false) 4586 ⟨boot_heap w.params, Array.mk [], boot_drawn, boot_toks, os⟩).map
      (fun s => (openSeen qv lo (importedModules PySem.Challenge.rw_up0051_01.row.prog.main.body) xt true s, ((hd.heap_1 (w.withFollow "special-get-raises" false).params).map fun p => s.heap.get? p.1), ([320, 123] : List Addr).map s.heap.get?)) =
      some (openGood qv lo, ((hd.heap_1 (w.withFollow "special-get-raises" false).params).map fun p => some p.2), ([320, 123] : List Addr).map fun _ => some (tabObj #[])) := by
  unfold topFrom
  rw [te1, te2, te3]
  kernel_rfl
theorem run1 (w : World) (os : OsState) : (topFrom treeTable PySem.Challenge.rw_up0051_01.row.prog (w.withFollow "special-get-raises" true) 4586 ⟨boot_heap w.params, Array.mk [], boot_drawn, boot_toks, os⟩).map
      (fun s => (openSeen qv lo (importedModules PySem.Challenge.rw_up0051_01.row.prog.main.body) xt true s, ((hd.heap_1 (w.withFollow "special-get-raises" true).params).map fun p => s.heap.get? p.1), ([320, 123] : List Addr).map s.heap.get?)) =
      some (openGood qv lo, ((hd.heap_1 (w.withFollow "special-get-raises" true).params).map fun p => some p.2), ([320, 123] : List Addr).map fun _ => some (tabObj #[])) := by
  unfold topFrom
  rw [te1, te2, te3]
  kernel_rfl
theorem run_ (b : Bool) : ∀ (w : World) (os : OsState), (topFrom treeTable PySem.Challenge.rw_up0051_01.row.prog (w.withFollow "special-get-raises" b) 4586 ⟨boot_heap w.params, Array.mk [], boot_drawn, boot_toks, os⟩).map
      (fun s => (openSeen qv lo (importedModules PySem.Challenge.rw_up0051_01.row.prog.main.body) xt true s, ((hd.heap_1 (w.withFollow "special-get-raises" b).params).map fun p => s.heap.get? p.1), ([320, 123] : List Addr).map s.heap.get?)) =
      some (openGood qv lo, ((hd.heap_1 (w.withFollow "special-get-raises" b).params).map fun p => some p.2), ([320, 123] : List Addr).map fun _ => some (tabObj #[])) := by
  cases b
  · exact run0
  · exact run1
local macro_rules | `(tactic| walk_at $s:str) => `(tactic| k_extra $s)

/-- all that stood in h but what lies at as stands in h' as it was -/
def Kp (as : List Addr) (h h' : Heap) : Prop := ∀ b o, h.get? b = some o → b ∉ as → h'.get? b = some o

abbrev tupO (vs : Array Value) : Obj := { cls := .type "tuple", data := .seq vs }
theorem Kp.refl (as : List Addr) (h : Heap) : Kp as h h := fun _ _ e _ => e
theorem Kp.trans {as : List Addr} {h h' h'' : Heap} (x : Kp as h h') (y : Kp as h' h'') : Kp as h h'' := fun b o e n => y b o (x b o e n) n
theorem Kp.more {as bs : List Addr} {h h' : Heap} (x : Kp as h h') (s : ∀ b ∈ as, b ∈ bs) : Kp bs h h' := fun b o e n => x b o e fun q => n (s b q)
theorem Kp.of_fr {as : List Addr} {h h' : Heap} {L : Addr} {m : Str → Option Value} (F : Fr (hideAll h as) L h' m) : Kp as h h' := fun b o e n => F.keep b o (hideAll_get as e n)

section
variable {prog : Program} {w : World} {A : Around} {s : Shared} {K : Frag} {R : Result → Shared → Prop}
  {name qual : Str} {params : Arguments} {body : List Stmt} {scope : Scope} {dV kV doc pm cdv ct oc : Value} {an od : Option Addr} {osl : Array (Option Value)} {f : Addr} {args : Args} {binds : List (Str × Value)}
theorem enterP (as : List Addr) (X : K.In s.heap) (hlim : s.heap.NoLimit) (hroom : A.depth < recursionLimit)
    (ho : K.lookup f = some ⟨oc, od, .func (fnOf name qual params body scope dV kV doc pm an cdv ct), osl⟩) (hcd : codeIn K cdv qual = true)
    (hbind : BindsTo s (fnOf name qual params body scope dV kV doc pm an cdv ct) args binds) (hloc : ∀ y ∈ binds, scope.names.lookup y.1 = some .local)
    (h : ∀ L h₁, L = s.heap.objs.size → Fr (hideAll s.heap as) L h₁ (fun y => binds.reverse.lookup y) → (∀ b o, s.heap.get? b = some o → h₁.get? b = some o) →
      wpAny (model prog w) (A.deeper (envOf qual scope L f cdv)) (execs body (envOf qual scope L f cdv))
        (fun fl s' => R (.ok (.ret (match fl with | .ret v => v | _ => .none))) s')
        (fun e s' => wpAny (model prog w) (A.deeper (envOf qual scope L f cdv)) (leaving (envOf qual scope L f cdv) e) (fun _ s'' => R (.error e) s'') (fun e' s'' => R (.error e') s'') s')
        { s with heap := h₁, toks := s.toks + binds.length })
    (hco : scope.isCoroutine = false) (hgen : scope.isGenerator = false) (hk : scope.kind = .function)
    (hcell : ∀ x ∈ scope.names, x.2 ≠ .cell) : codeAny (model prog w) A (.call (.ref f) args) R s :=
  codeAny_call_def (fd := fnOf name qual params body scope dV kV doc pm an cdv ct) (body := body) (binds := binds) hroom (X _ _ ho) rfl hlim (codeRec_of X hcd) rfl hbind hcell hloc
    (fun h₁ hns hk₁ => h _ h₁ rfl ⟨hns, fun b o e => hk₁ b o (of_hideAll _ e), Nat.le_of_eq (hideAll_size _ _)⟩ hk₁) hco hgen hk
end

section
variable {h h₁ : Heap} {as : List Addr} {L : Addr} {m : Str → Option Value}
theorem news_one {a : Addr} {o : Obj} (ha : a ∈ as) (hL : L = h.objs.size) (e : h.get? a = some o) (k : ∀ b o, h.get? b = some o → h₁.get? b = some o) : News (hideAll h as) L h₁ [(a, o)] := by
  intro p hp
  rw [List.mem_singleton.mp hp]
  exact ⟨k _ _ e, by rw [hL]; exact Nat.ne_of_lt (Heap.lt_size e), hideAll_none _ ha⟩
theorem frag_hide {K : Frag} (X : K.In h) (hn : ∀ a ∈ as, K.lookup a = none) : K.In (hideAll h as) := fun b o e => hideAll_get _ (X b o e) fun q => by rw [hn b q] at e; cases e
end

theorem execs_last {M : Model} {A : Around} {E : Value → Shared → Prop} {s : Shared} {env : Env} {st : Stmt} {Q : Flow → Shared → Prop} (k : wpAny M A (exec st env) Q E s) : wpAny M A (execs [st] env) Q E s :=
  wpAny_execs_cons (wpAny_mono k (fun f s' q => by cases f <;> first | exact wpAny_execs_nil q | exact q) fun _ _ x => x)
theorem execs_consH {M : Model} {A : Around} {E : Value → Shared → Prop} {s : Shared} {env : Env} {st st2 : Stmt} {rest : List Stmt} {Q : Flow → Shared → Prop}
    (k : ∀ QS : Flow → Shared → Prop, (∀ s', wpAny M A (execs (st2 :: rest) env) Q E s' → QS .next s') → (∀ v s', Q (.ret v) s' → QS (.ret v) s') → wpAny M A (exec st env) QS E s) : wpAny M A (execs (st :: st2 :: rest) env) Q E s :=
  wpAny_execs_cons (k _ (fun _ q => q) fun _ _ q => q)
theorem tokG {M : Model} {A : Around} {α : Type} {c : Sem α} {E : Value → Shared → Prop} {Q : α → Shared → Prop} {h : Heap} {gs : Array GenState} {dr : Drawn} {k : Nat} {os : OsState} (x : ∀ tk, wpAny M A c Q E ⟨h, gs, dr, tk, os⟩) : wpAny M A c Q E ⟨h, gs, dr, k, os⟩ := x k
theorem reg1 : True := by
  (k_with "execs cons" => (first | (k_here; (fail_if_success (fail_if_success k_gentoks)); refine tokG ?_; intro _) | (with_reducible refine execs_last ?_) | (with_reducible refine execs_consH ?_; intro QS hNX hRX)))
  (k_with "M steps" => (repeat' (first | (k_unfold; (try dsimp only)) | (walk1; (try dsimp only)) | (dsimp only; walk1; (try dsimp only)) | (with_reducible (refine hNX _ ?_); clear hNX hRX; (try clear QS)) | (with_reducible (refine hRX _ _ ?_); clear hNX hRX; (try clear QS)) | (with_reducible (refine hTT _ ?_); clear hTT hTF; (try clear QT)) | (with_reducible (refine hTF _ ?_); clear hTT hTF; (try clear QT)) | (with_reducible (refine hBN _ ?_); clear hBN hBR; (try clear QB)) | (with_reducible (refine hBR _ _ ?_); clear hBN hBR; (try clear QB)) | fail "no step")))
  exact True.intro

theorem iteT {c : Prop} [Decidable c] {P Q : Prop} (h : c) (x : P) : ite c P Q := by rw [if_pos h]; exact x
theorem iteF {c : Prop} [Decidable c] {P Q : Prop} (h : ¬ c) (x : Q) : ite c P Q := by rw [if_neg h]; exact x
theorem iteB {b : Bool} {P Q : Prop} (x : b = true → P) (y : b = false → Q) : ite (b = true) P Q := by
  cases b with
  | true => exact iteT rfl (x rfl)
  | false => exact iteF Bool.false_ne_true (y rfl)
def isNone : Value → Bool
  | .none => true
  | _ => false
theorem is_none {M : Model} {A : Around} {E : Value → Shared → Prop} {s : Shared} {v : Value} {g : Bool} {Q : Value → Shared → Prop} (hp : PySem.plainIs v .none = true) (hg : isNone v = g) (h : Q (.bool g) s) : wpAny M A (compareOp .Is v .none) Q E s := by
  subst hg
  refine wpAny_is_plain hp ?_
  cases v <;> exact h
theorem isnot_none {M : Model} {A : Around} {E : Value → Shared → Prop} {s : Shared} {v : Value} {g : Bool} {Q : Value → Shared → Prop} (hp : PySem.plainIs v .none = true) (hg : isNone v = g) (h : Q (.bool (!g)) s) : wpAny M A (compareOp .IsNot v .none) Q E s := by
  subst hg
  refine wpAny_isNot_plain hp ?_
  cases v <;> exact h
theorem reg2 : True := by
  (k_with "ite" => (first | (refine iteT ?h_q3 ?_; (case h_q3 => first | exact rfl | decide)) | (refine iteF ?h_q3 ?_; (case h_q3 => first | exact Bool.false_ne_true | decide)) | (refine iteB ?x_q3 ?y_q3; (case x_q3 => (intro hb; subst hb)); (case y_q3 => (intro hb; subst hb)))))
  (k_with "compareOp Is" => ((with_reducible show wpAny _ _ (compareOp CmpOp.Is _ Value.none) _ _ _; refine is_none (by first | assumption | exact rfl) (by first | assumption | exact rfl) ?_)))
  (k_with "compareOp IsNot" => ((with_reducible show wpAny _ _ (compareOp CmpOp.IsNot _ Value.none) _ _ _; refine isnot_none (by first | assumption | exact rfl) (by first | assumption | exact rfl) ?_)))
  exact True.intro
theorem item_BT {prog : Program} {w : World} {A : Around} {E : Value → Shared → Prop} {s : Shared} {value slice : PySem.Expr} {h₀ : Heap} {L l : Addr} {m : Str → Option Value} {its : Array Value} {k : Int} {j : Nat} {u : Tok} {v : Value} {Q : Value → Shared → Prop}
    (F : Fr h₀ L s.heap m) (ht : IsTup h₀ l its) (h0 : -(2 ^ 63) ≤ k) (hhi : k < 2 ^ 63) (hj : seqIndex? k its.size = some j) {rest : List Value} (hx : its.toList.drop j = v :: rest) (h : Q v s)
    (hs : subscripted slice false (.ref l) (.int k u) = operate [.ref l, .int k u] (getItem (.ref l) (.int k u)) := by with_unfolding_all rfl) : wpAny (model prog w) A (subscriptTail value slice (.ref l) (.int k u)) Q E s :=
  tail_any (IsTup.typeIs (s := s) (ht.keeps F.keep)) slot_tuple_getitem.lookup (getItem_tuple (ht.keeps F.keep) h0 hhi hj (by rw [← Array.getElem?_toList, ← List.head?_drop, hx]; rfl) h) hs
theorem item_NT {prog : Program} {w : World} {A : Around} {E : Value → Shared → Prop} {s : Shared} {value slice : PySem.Expr} {h₀ : Heap} {L l : Addr} {news : List (Addr × Obj)} {its : Array Value} {c : Nat} {k : Int} {j : Nat} {u : Tok} {v : Value} {Q : Value → Shared → Prop}
    (N : News h₀ L s.heap news) (hm : (l, ({ cls := .type "tuple", data := .seq its c } : Obj)) ∈ news) (h0 : -(2 ^ 63) ≤ k) (hhi : k < 2 ^ 63) (hj : seqIndex? k its.size = some j) {rest : List Value} (hx : its.toList.drop j = v :: rest) (h : Q v s)
    (hs : subscripted slice false (.ref l) (.int k u) = operate [.ref l, .int k u] (getItem (.ref l) (.int k u)) := by with_unfolding_all rfl) : wpAny (model prog w) A (subscriptTail value slice (.ref l) (.int k u)) Q E s :=
  tail_any (IsTup.typeIs (s := s) (News.isTup N hm)) slot_tuple_getitem.lookup (getItem_tuple (News.isTup N hm) h0 hhi hj (by rw [← Array.getElem?_toList, ← List.head?_drop, hx]; rfl) h) hs
theorem reg3 : True := by
  (k_with "subscriptTail Name Constant ref int" => ((k_here; k_dflt (refine' item_NT ?F_q6 ?t_q6 ?a_q6 ?b_q6 ?j_q6 ?v_q6 ?_ ?s_q6; (case F_q6 => k_asm); (case t_q6 => k_mem); (case a_q6 => decide); (case b_q6 => decide); (case j_q6 => exact rfl); (case v_q6 => exact rfl); (case s_q6 => with_unfolding_all rfl); k_whole))))
  (k_with "subscriptTail Name Constant ref int" => ((k_here; k_dflt (refine' item_BT ?F_q7 ?t_q7 ?a_q7 ?b_q7 ?j_q7 ?v_q7 ?_ ?s_q7; (case F_q7 => k_asm); (case t_q7 => assumption); (case a_q7 => decide); (case b_q7 => decide); (case j_q7 => exact rfl); (case v_q7 => exact rfl); (case s_q7 => with_unfolding_all rfl); k_whole))))
  (k_with "callWith" => (first | with_reducible refine callWith_method0 ?_ | ((with_reducible refine' PyProof.Rows.callWith_builtin1 ?h_q8 ?a_q8 ?b_q8); (case a_q8 => k_dflt rfl); (case b_q8 => k_dflt rfl)) | ((with_reducible refine' callWith_method1 ?h_q8 ?a_q8 ?b_q8); (case a_q8 => k_dflt rfl); (case b_q8 => k_dflt rfl))))
  (k_with "subscriptTail Name UnaryOp ref int" => ((k_here; k_dflt (refine' item_BT ?F_q9 ?t_q9 ?a_q9 ?b_q9 ?j_q9 ?v_q9 ?_ ?s_q9; (case F_q9 => k_asm); (case t_q9 => assumption); (case a_q9 => decide); (case b_q9 => decide); (case j_q9 => exact rfl); (case v_q9 => exact rfl); (case s_q9 => with_unfolding_all rfl); k_whole))))
  (k_with "callWith ref" => ((k_here; k_dflt (refine' callWith_K ?k1_q10 ?k2_q10 ?_; (case k1_q10 => k_asm); (case k2_q10 => k_is); k_whole))))
  exact True.intro
section
variable {M : Model} {A : Around} {E : Value → Shared → Prop} {env : Env} {h h₀ : Heap} {gs : Array GenState} {dr : Drawn} {tk : Nat} {os : OsState} {m : Str → Option Value} {news : List (Addr × Obj)} {x : Str} {pos p1 p2 : Pos} {v : Value} {L : Addr}
/-- x is a local name of a def's scope -/
def isLoc (sc : Scope) (x : Str) : Bool := (decide (sc.kind = .function) && (sc.names.lookup x == some .local)) && !(x == ("__debug__" : Str))
theorem isT : true = true := rfl
theorem isLoc_of {sc : Scope} (e : isLoc sc x = true) : sc.kind = .function ∧ sc.names.lookup x = some .local ∧ (x == ("__debug__" : Str)) = false := by
  unfold isLoc at e
  obtain ⟨e1, e3⟩ := Bool.and_eq_true_iff.mp e
  obtain ⟨e1, e2⟩ := Bool.and_eq_true_iff.mp e1
  exact ⟨of_decide_eq_true e1, eq_of_beq e2, by simpa using e3⟩
theorem nameA {s : Shared} {Q : Value → Shared → Prop} (e : isLoc env.scope x = true) (F : Fr h₀ env.locals s.heap m) (hv : m x = some v) (k : Q v s) : wpAny M A (eval (.Name x pos) env) Q E s :=
  wpAny_Name (wpAny_loadName_local (isLoc_of e).1 (isLoc_of e).2.1 F.ns hv k) (isLoc_of e).2.2
theorem intA {i : Int} {kk : Nat} {Q : Value → Shared → Prop} (k : ∀ u tk', Q (.int i u) ⟨h, gs, dr, tk', os⟩) : wpAny M A (eval (.Constant (.int i) kk pos) env) Q E ⟨h, gs, dr, tk, os⟩ := wpAny_Constant_int (k _ _)
theorem strA {kk : Nat} {Q : Value → Shared → Prop} (k : ∀ u tk', Q (.str x u) ⟨h, gs, dr, tk', os⟩) : wpAny M A (eval (.Constant (.str x) kk pos) env) Q E ⟨h, gs, dr, tk, os⟩ := Constant_str (k _ _)
inductive Locs (sc : Scope) (m : Str → Option Value) : List PySem.Expr → List Value → Prop
  | nil : Locs sc m [] []
  | cons {x : Str} {p : Pos} {v : Value} {es : List PySem.Expr} {vs : List Value} (e : isLoc sc x = true) (hv : m x = some v) (r : Locs sc m es vs) : Locs sc m (.Name x p :: es) (v :: vs)
def plainArg : PySem.Expr → Bool
  | .Starred .. => false
  | _ => true
theorem starEach_plain {e : PySem.Expr} {rest : List PySem.Expr} (h : plainArg e = true) : starEach (e :: rest) env = (false, eval e env) :: starEach rest env := by
  cases e <;> first | rfl | cases h
section
variable {Q : List Value → Shared → Prop} {es rest : List PySem.Expr} {vs : List Value} {s : Shared}
theorem args_locs (l : Locs env.scope m es vs) (F : Fr h₀ env.locals s.heap m) (k : Q vs s) : wpAny M A (spliced (backTo pos (starEach es env))) Q E s := by
  induction l generalizing Q with
  | nil => exact args_nil k
  | cons e hv r ih => exact args_cons (nameA e F hv (ih k)) rfl
theorem arg_expr {e : PySem.Expr} (he : plainArg e = true) (k : wpAny M A (eval e env) (fun v s₁ => wpAny M A (spliced (backTo pos (starEach rest env))) (fun vs s₂ => Q (v :: vs) s₂) E s₁) E s) :
    wpAny M A (spliced (backTo pos (starEach (e :: rest) env))) Q E s := args_cons k (starEach_plain he)
theorem arg_name (e : isLoc env.scope x = true) (F : Fr h₀ env.locals s.heap m) (hv : m x = some v) (k : wpAny M A (spliced (backTo pos (starEach rest env))) (fun vs s₂ => Q (v :: vs) s₂) E s) :
    wpAny M A (spliced (backTo pos (starEach (.Name x p1 :: rest) env))) Q E s := args_cons (nameA e F hv k) rfl
theorem arg_int {i : Int} {kk : Nat} (k : ∀ u tk', wpAny M A (spliced (backTo pos (starEach rest env))) (fun vs s₂ => Q (.int i u :: vs) s₂) E ⟨h, gs, dr, tk', os⟩) :
    wpAny M A (spliced (backTo pos (starEach (.Constant (.int i) kk p1 :: rest) env))) Q E ⟨h, gs, dr, tk, os⟩ := args_cons (intA k) rfl
theorem arg_str {kk : Nat} (k : ∀ u tk', wpAny M A (spliced (backTo pos (starEach rest env))) (fun vs s₂ => Q (.str x u :: vs) s₂) E ⟨h, gs, dr, tk', os⟩) :
    wpAny M A (spliced (backTo pos (starEach (.Constant (.str x) kk p1 :: rest) env))) Q E ⟨h, gs, dr, tk, os⟩ := args_cons (strA k) rfl
end
/-- a test «l == 'y'»: the left side must come out as a str -/
def EqS (y : Str) (Q : Bool → Shared → Prop) (a : Value) (s : Shared) : Prop := ∃ x u, a = .str x u ∧ ∀ tk, Q (x == y) { s with toks := tk }
theorem eqS {y : Str} {Q : Bool → Shared → Prop} {u : Tok} (k : ∀ tk', Q (x == y) ⟨h, gs, dr, tk', os⟩) : EqS y Q (.str x u) ⟨h, gs, dr, tk, os⟩ := ⟨x, u, rfl, k⟩
section
variable {prog : Program} {w : World} {s : Shared}
theorem testEq {l : PySem.Expr} {y : Str} {kk : Nat} {whole : Sem Value} {Q : Bool → Shared → Prop} (k : wpAny (model prog w) A (eval l env) (EqS y Q) E s) :
    wpAny (model prog w) A (isTrue (.Compare l [.Eq] [.Constant (.str y) kk p1] pos) env whole) Q E s :=
  wpAny_isTrue_Compare1 (wpAny_mono k (fun a s₁ ⟨x, u, e, q⟩ => by
    subst e
    exact Constant_str (PyProof.Rows.eq_str (wpAny_truthy_bool (q _)))) fun _ _ x => x)
theorem ifEq {l : PySem.Expr} {y : Str} {kk : Nat} {body orelse : List Stmt} {Q : Flow → Shared → Prop} (k : wpAny (model prog w) A (eval l env) (EqS y (fun b s₂ => if b then wpAny (model prog w) A (execs body env) Q E s₂ else wpAny (model prog w) A (execs orelse env) Q E s₂)) E s) :
    wpAny (model prog w) A (exec (.If (.Compare l [.Eq] [.Constant (.str y) kk p1] pos) body orelse p2) env) Q E s := wpAny_If (testEq k)
theorem ifexpEq {l body orelse : PySem.Expr} {y : Str} {kk : Nat} {Q : Value → Shared → Prop} (k : wpAny (model prog w) A (eval l env) (EqS y (fun b s₂ => if b then wpAny (model prog w) A (eval body env) Q E s₂ else wpAny (model prog w) A (eval orelse env) Q E s₂)) E s) :
    wpAny (model prog w) A (eval (.IfExp (.Compare l [.Eq] [.Constant (.str y) kk p1] pos) body orelse p2) env) Q E s := IfExp_ (testEq k)
theorem subT {l : Addr} {i : Int} {kk : Nat} {its : Array Value} {p3 : Pos} {Q : Value → Shared → Prop} (e : isLoc env.scope x = true) (F : Fr h₀ env.locals h m) (hv : m x = some (.ref l))
    (hm : IsTup h l its) (h0 : 0 ≤ i ∧ i < 2 ^ 63) (hx : its.toList[i.toNat]? = some v) (k : ∀ tk', Q v ⟨h, gs, dr, tk', os⟩) :
    wpAny (model prog w) A (eval (.Subscript (.Name x p1) (.Constant (.int i) kk p2) p3) env) Q E ⟨h, gs, dr, tk, os⟩ := by
  have hx' : its[i.toNat]? = some v := by rw [← Array.getElem?_toList]; exact hx
  have hj : seqIndex? i its.size = some i.toNat := by
    have hlt : i.toNat < its.size := (Array.getElem?_eq_some_iff.mp hx').1
    have h1 := h0.1
    have n0 : ¬ i < 0 := Int.not_lt.mpr h1
    simp only [seqIndex?, n0, if_false]
    have h2 : (i : Int) < its.size := by omega
    simp only [h1, h2, decide_true, Bool.and_self, if_true]
  exact Subscript_ (nameA e F hv (wpAny_Constant_int (tail_any (IsTup.typeIs (s := ⟨h, gs, dr, tk + 1, os⟩) hm) slot_tuple_getitem.lookup (getItem_tuple (s := ⟨h, gs, dr, tk + 1, os⟩) hm (by have := h0.1; omega) h0.2 hj hx' (k _)) (ops := [.ref l, .int i tk]) rfl)))
theorem subN {l : Addr} {i : Int} {kk : Nat} {its : Array Value} {c : Nat} {p3 : Pos} {Q : Value → Shared → Prop} (e : isLoc env.scope x = true) (F : Fr h₀ env.locals h m) (hv : m x = some (.ref l)) (N : News h₀ L h news)
    (hm : (l, ({ cls := .type "tuple", data := .seq its c } : Obj)) ∈ news) (h0 : 0 ≤ i ∧ i < 2 ^ 63) (hx : its.toList[i.toNat]? = some v) (k : ∀ tk', Q v ⟨h, gs, dr, tk', os⟩) :
    wpAny (model prog w) A (eval (.Subscript (.Name x p1) (.Constant (.int i) kk p2) p3) env) Q E ⟨h, gs, dr, tk, os⟩ :=
  subT e F hv (News.isTup N hm) h0 hx k
theorem subL {l : Addr} {i : Int} {kk n : Nat} {its : Array Value} {p3 : Pos} {Q : Value → Shared → Prop} (e : isLoc env.scope x = true) (F : Fr h₀ env.locals h m) (hv : m x = some (.ref l)) (N : News h₀ L h news)
    (hm : (l, listOf its n) ∈ news) (h0 : 0 ≤ i ∧ i < 2 ^ 63) (hx : its.toList[i.toNat]? = some v) (k : ∀ tk', Q v ⟨h, gs, dr, tk', os⟩) :
    wpAny (model prog w) A (eval (.Subscript (.Name x p1) (.Constant (.int i) kk p2) p3) env) Q E ⟨h, gs, dr, tk, os⟩ := by
  have hl : h.IsList l its := ⟨_, (N _ hm).1, rfl, n, rfl⟩
  have hx' : its[i.toNat]? = some v := by rw [← Array.getElem?_toList]; exact hx
  exact Subscript_ (nameA e F hv (wpAny_Constant_int (tail_any (Heap.IsList.typeIs (s := ⟨h, gs, dr, tk + 1, os⟩) hl) slot_list_getitem.lookup (wpAny_getItem_list (s := ⟨h, gs, dr, tk + 1, os⟩) hl h0.1 h0.2 hx' (k _)) (ops := [.ref l, .int i tk]) rfl)))
theorem subB {l : Addr} {i : Int} {kk : Nat} {its : Array Value} {p3 : Pos} {Q : Value → Shared → Prop} (e : isLoc env.scope x = true) (F : Fr h₀ env.locals h m) (hv : m x = some (.ref l))
    (hm : IsTup h₀ l its) (h0 : 0 ≤ i ∧ i < 2 ^ 63) (hx : its.toList[i.toNat]? = some v) (k : ∀ tk', Q v ⟨h, gs, dr, tk', os⟩) :
    wpAny (model prog w) A (eval (.Subscript (.Name x p1) (.Constant (.int i) kk p2) p3) env) Q E ⟨h, gs, dr, tk, os⟩ :=
  subT e F hv (hm.keeps F.keep) h0 hx k
end
theorem storeA {Q : Unit → Shared → Prop} (e : isLoc env.scope x = true) (hL : env.locals = L) (F : Fr h₀ L h m) (N : News h₀ L h news)
    (k : ∀ h' tk', let m' : Str → Option Value := fun y => if y = x then some v else m y; Fr h₀ L h' m' → News h₀ L h' news → Q () ⟨h', gs, dr, tk', os⟩) : wpAny M A (storeName env x v) Q E ⟨h, gs, dr, tk, os⟩ := by
  subst hL
  exact wpAny_storeName_local (isLoc_of e).2.1 F.ns (fun h' hn hs => k h' _ (F.set hn hs) (N.set hs)) (by
    rw [(isLoc_of e).1]
    rfl)
theorem newTupleA {vs : List Value} {Q : Value → Shared → Prop} (F : Fr h₀ L h m) (N : News h₀ L h news) (hz : Nat.ble vs.length sizeLine = true)
    (k : ∀ D h', Fr h₀ L h' m → (∀ p ∈ news, p.1 < D) → let y : Addr × Obj := (D, tupO vs.toArray); let n := y :: news; News h₀ L h' n → Q (.ref D) ⟨h', gs, dr, tk, os⟩) : wpAny M A (newTuple vs) Q E ⟨h, gs, dr, tk, os⟩ :=
  newTuple_N (s := ⟨h, gs, dr, tk, os⟩) F N (fun h' F' N' => k _ h' F' (fun p hp => Heap.lt_size (N p hp).1) N') (Nat.le_of_ble_eq_true hz)
theorem newListA {vs : List Value} {Q : Value → Shared → Prop} (F : Fr h₀ L h m) (N : News h₀ L h news) (hz : Nat.ble vs.length sizeLine = true)
    (k : ∀ D h', Fr h₀ L h' m → (∀ p ∈ news, p.1 < D) → let y : Addr × Obj := (D, listOf vs.toArray 0); let n := y :: news; News h₀ L h' n → Q (.ref D) ⟨h', gs, dr, tk, os⟩) : wpAny M A (newList vs) Q E ⟨h, gs, dr, tk, os⟩ :=
  newList_N (s := ⟨h, gs, dr, tk, os⟩) F N (fun h' F' N' => k _ h' F' (fun p hp => Heap.lt_size (N p hp).1) N') (Nat.le_of_ble_eq_true hz)
theorem neLt {a d : Nat} {o : Obj} {n : List (Addr × Obj)} (h : ∀ p ∈ n, p.1 < d) (hm : (a, o) ∈ n) : @Ne Nat a d := Nat.ne_of_lt (h _ hm)
theorem neLtQ {d : Nat} {q : Addr × Obj} {n : List (Addr × Obj)} (h : ∀ p ∈ n, p.1 < d) (hm : q ∈ n) : @Ne Nat q.1 d := Nat.ne_of_lt (h _ hm)
theorem neAll {a d : Nat} {o : Obj} {n : List (Addr × Obj)} (h : ∀ p ∈ n, @Ne Nat p.1 d) (hm : (a, o) ∈ n) : @Ne Nat a d := h _ hm
theorem neAllQ {d : Nat} {q : Addr × Obj} {n : List (Addr × Obj)} (h : ∀ p ∈ n, @Ne Nat p.1 d) (hm : q ∈ n) : @Ne Nat q.1 d := h _ hm
theorem neLt3 {a d e : Nat} {o : Obj} {n : List (Addr × Obj)} (h2 : d < e) (h : ∀ p ∈ n, p.1 < d) (hm : (a, o) ∈ n) : @Ne Nat a e := Nat.ne_of_lt (Nat.lt_trans (h _ hm) h2)
theorem foldQ {α : Type} {c : Sem α} {s : Shared} {Q : α → Shared → Prop} (k : ∀ QK : α → Shared → Prop, (∀ v s', Q v s' → QK v s') → wpAny M A c QK E s) : wpAny M A c Q E s := k Q fun _ _ q => q
end
local macro_rules | `(tactic| walk_at "M locs") => `(tactic| first | exact Locs.nil | (refine' Locs.cons ?e ?v ?r; (case e => exact isT); (case v => exact rfl); (case r => walk_at "M locs")))
local macro_rules | `(tactic| k_lt $h:ident) => `(tactic| skip)
local macro_rules | `(tactic| k_ne) => `(tactic| (refine neN ?_; (try dsimp only); first | assumption | exact Ne.symm (by assumption) | exact neLt (by assumption) (by k_mem) | exact Ne.symm (neLt (by assumption) (by k_mem)) | exact neAll (by assumption) (by k_mem) | exact Ne.symm (neAll (by assumption) (by k_mem)) | exact Nat.ne_of_lt (by assumption) | exact Nat.ne_of_gt (by assumption) | exact neLt3 (by assumption) (by assumption) (by k_mem) | exact Ne.symm (neLt3 (by assumption) (by assumption) (by k_mem)) | exact Nat.ne_of_lt (Nat.lt_succ_self _) | exact Nat.ne_of_lt (Nat.lt_succ_of_lt (by assumption)) | exact Nat.ne_of_lt (Nat.lt_succ_of_lt (Nat.lt_succ_of_lt (by assumption))) | exact Nat.ne_of_gt (Nat.lt_succ_self _) | exact Nat.ne_of_gt (Nat.lt_succ_of_lt (by assumption)) | exact Nat.ne_of_gt (Nat.lt_succ_of_lt (Nat.lt_succ_of_lt (by assumption))) | walk_at "M pk" | exact Ne.symm (by walk_at "M pk") | omega))
local macro_rules | `(tactic| walk_at "M sub") => `(tactic| first | assumption | (refine List.Mem.tail _ ?_; walk_at "M sub"))
theorem reg4 : True := by
  (k_with "eval Name" => ((k_here; k_dflt (first
  | ((with_reducible refine' nameA ?e_q11 ?F_q11 ?v_q11 ?_); (case e_q11 => exact isT); (case F_q11 => k_asm); (case v_q11 => exact rfl); k_whole)
  | (refine' nameX_K ?F_q11 ?X_q11 ?T_q11 ?e_q11 ?_ ?a_q11 ?b_q11; (case F_q11 => k_asm); (case X_q11 => k_asm); (case T_q11 => k_asm); (case a_q11 => exact rfl); (case b_q11 => exact rfl); (case e_q11 => k_is); k_whole)
  | (refine' nameX_B ?F_q11 ?X_q11 ?T_q11 ?e_q11 ?v_q11 ?n_q11 ?_ ?a_q11 ?b_q11; (case F_q11 => k_asm); (case X_q11 => k_asm); (case T_q11 => k_asm); (case a_q11 => exact rfl); (case b_q11 => exact rfl); (case e_q11 => k_is); (case v_q11 => boot_fast); (case n_q11 => decide); k_whole)))))
  (k_with "eval Constant int" => ((k_here; refine intA ?_; intro _ _)))
  (k_with "eval Constant str" => ((k_here; refine strA ?_; intro _ _)))
  (k_with "spliced" => ((k_here; k_dflt (first
  | ((with_reducible refine' args_locs ?l_q14 ?F_q14 ?_); (case F_q14 => k_asm); (case l_q14 => walk_at "M locs"); k_whole; (try dsimp only [List.nil_append, List.cons_append]))
  | ((with_reducible refine' arg_name ?e_q14 ?F_q14 ?v_q14 ?_); (case e_q14 => exact isT); (case F_q14 => k_asm); (case v_q14 => exact rfl); k_whole)
  | ((with_reducible refine arg_int ?_); intro _ _)
  | ((with_reducible refine arg_str ?_); intro _ _)
  | ((with_reducible refine' arg_expr ?e_q14 ?_); (case e_q14 => exact isT))))))
  (k_with "exec If" => (first | with_reducible refine ifEq ?_ | refine wpAny_If ?_))
  (k_with "eval IfExp" => (with_reducible refine ifexpEq ?_))
  (k_with "isTrue Compare" => (with_reducible refine testEq ?_))
  (k_with "EqS" => ((refine eqS ?_; intro _)))
  (k_with "eval Subscript" => ((k_here; k_dflt (first
  | ((with_reducible refine' subN ?e_q19 ?F_q19 ?v_q19 ?N_q19 ?hm_q19 ?h0_q19 ?hx_q19 ?_); (case e_q19 => exact isT); (case F_q19 => k_asm); (case v_q19 => exact rfl); (case N_q19 => k_asm); (case hm_q19 => k_mem); (case h0_q19 => decide); (case hx_q19 => exact rfl); k_whole; intro _)
  | ((with_reducible refine' subL ?e_q19 ?F_q19 ?v_q19 ?N_q19 ?hm_q19 ?h0_q19 ?hx_q19 ?_); (case e_q19 => exact isT); (case F_q19 => k_asm); (case v_q19 => exact rfl); (case N_q19 => k_asm); (case hm_q19 => k_mem); (case h0_q19 => decide); (case hx_q19 => exact rfl); k_whole; intro _)
  | ((with_reducible refine' subB ?e_q19 ?F_q19 ?v_q19 ?hm_q19 ?h0_q19 ?hx_q19 ?_); (case e_q19 => exact isT); (case F_q19 => k_asm); (case v_q19 => exact rfl); (case hm_q19 => assumption); (case h0_q19 => decide); (case hx_q19 => exact rfl); k_whole; intro _)))))
  (k_with "storeName" => ((k_here; k_dflt ((with_reducible refine' storeA ?e_q20 ?l_q20 ?F_q20 ?N_q20 ?_); (case e_q20 => exact isT); (case F_q20 => k_asm); (case l_q20 => exact rfl); (case N_q20 => k_asm); k_whole; intro _ _ _ _ _; (try k_sweep)))))
  (k_with "newTuple" => ((k_here; k_dflt ((with_reducible refine' newTupleA ?F_q21 ?N_q21 ?z_q21 ?_); (case F_q21 => k_asm); (case N_q21 => k_asm); (case z_q21 => exact isT); k_whole; intro _ _ _ _ _ _ _; (try k_sweep)))))
  (k_with "newList" => ((k_here; k_dflt ((with_reducible refine' newListA ?F_q22 ?N_q22 ?z_q22 ?_); (case F_q22 => k_asm); (case N_q22 => k_asm); (case z_q22 => exact isT); k_whole; intro _ _ _ _ _ _ _; (try k_sweep)))))
  (k_with "M pk" => (first | exact And.left (by assumption) | exact And.left (And.left (by assumption)) | exact And.left (And.right (And.left (by assumption))) | exact And.right (And.right (And.left (by assumption))) | exact And.right (by assumption) | exact And.left (And.right (by assumption)) | exact And.left (And.right (And.right (by assumption))) | exact And.right (And.right (And.right (by assumption))) | exact And.left (And.left (And.right (by assumption))) | exact And.left (And.right (And.left (And.right (by assumption)))) | exact And.right (And.right (And.left (And.right (by assumption)))) | exact And.right (And.right (by assumption)) | exact And.left (And.right (And.right (And.right (by assumption)))) | exact And.right (And.right (And.right (And.right (by assumption)))) | exact And.left (And.left (And.right (And.right (by assumption)))) | exact And.left (And.right (And.left (And.right (And.right (by assumption))))) | exact And.right (And.right (And.left (And.right (And.right (by assumption))))) | exact And.left (And.right (And.right (And.right (And.right (by assumption))))) | exact And.right (And.right (And.right (And.right (And.right (by assumption))))) | exact And.left (And.left (And.right (And.right (And.right (by assumption))))) | exact And.left (And.right (And.left (And.right (And.right (And.right (by assumption)))))) | exact And.right (And.right (And.left (And.right (And.right (And.right (by assumption)))))) | exact And.left (And.right (And.right (And.right (And.right (And.right (by assumption)))))) | exact And.right (And.right (And.right (And.right (And.right (And.right (by assumption)))))) | exact And.left (And.left (And.right (And.right (And.right (And.right (by assumption)))))) | exact And.left (And.right (And.left (And.right (And.right (And.right (And.right (by assumption))))))) | exact And.right (And.right (And.left (And.right (And.right (And.right (And.right (by assumption))))))) | exact And.left (And.right (And.right (And.right (And.right (And.right (And.right (by assumption))))))) | exact And.right (And.right (And.right (And.right (And.right (And.right (And.right (by assumption))))))) | exact And.left (And.left (And.right (And.right (And.right (And.right (And.right (by assumption))))))) | exact And.left (And.right (And.left (And.right (And.right (And.right (And.right (And.right (by assumption)))))))) | exact And.right (And.right (And.left (And.right (And.right (And.right (And.right (And.right (by assumption)))))))) | exact And.left (And.right (And.right (And.right (And.right (And.right (And.right (And.right (by assumption)))))))) | exact And.right (And.right (And.right (And.right (And.right (And.right (And.right (And.right (by assumption)))))))) | exact And.left (And.left (And.right (And.right (And.right (And.right (And.right (And.right (by assumption)))))))) | exact And.left (And.right (And.left (And.right (And.right (And.right (And.right (And.right (And.right (by assumption))))))))) | exact And.right (And.right (And.left (And.right (And.right (And.right (And.right (And.right (And.right (by assumption))))))))) | exact And.left (And.right (And.right (And.right (And.right (And.right (And.right (And.right (And.right (by assumption))))))))) | exact And.right (And.right (And.right (And.right (And.right (And.right (And.right (And.right (And.right (by assumption))))))))) | exact And.left (And.left (And.right (And.right (And.right (And.right (And.right (And.right (And.right (by assumption))))))))) | exact And.left (And.right (And.left (And.right (And.right (And.right (And.right (And.right (And.right (And.right (by assumption)))))))))) | exact And.right (And.right (And.left (And.right (And.right (And.right (And.right (And.right (And.right (And.right (by assumption))))))))))))
  (k_with "M nq" => (first | assumption | exact neLtQ (by assumption) (by walk_at "M sub") | exact neAllQ (by assumption) (by walk_at "M sub")))
  exact True.intro
section
variable {prog : Program} {w : World} {A : Around} {E : Value → Shared → Prop} {env : Env} {s : Shared} {h₀ : Heap} {m mg mb : Str → Option Value} {p : Program} {loose : List Str} {K : Frag} {x : Str} {pos p1 : Pos} {v : Value} {Q : Value → Shared → Prop} {es : List PySem.Expr} {vs : List Value}
/-- x is a global name of a def's scope; the def's globals and builtins are the main ones -/
def isGlob (env : Env) (x : Str) : Bool := (decide (env.scope.kind = .function) && (env.scope.names.lookup x == some .globalImplicit)) && !(x == ("__debug__" : Str))
theorem isGlob_of (e : isGlob env x = true) : env.scope.kind = .function ∧ env.scope.names.lookup x = some .globalImplicit ∧ (x == ("__debug__" : Str)) = false := by
  unfold isGlob at e
  obtain ⟨e1, e3⟩ := Bool.and_eq_true_iff.mp e
  obtain ⟨e1, e2⟩ := Bool.and_eq_true_iff.mp e1
  exact ⟨of_decide_eq_true e1, eq_of_beq e2, by simpa using e3⟩
def plainArgs : List PySem.Expr → Bool
  | [] => true
  | e :: r => plainArg e && plainArgs r
theorem args_plain : ∀ {es : List PySem.Expr}, plainArgs es = true → (backTo pos (starEach es env)).any (·.1) = false
  | [], _ => rfl
  | e :: r, h => by
    obtain ⟨h1, h2⟩ := Bool.and_eq_true_iff.mp h
    rw [starEach_plain h1]
    show (false || List.any _ _) = false
    rw [Bool.false_or]
    exact args_plain h2
theorem nameG {M : Model} (e : isGlob env x = true) (g : env.globals = mainGlobals) (F : Fr h₀ env.locals s.heap m) (X : K.In h₀) (T : TopRead p loose mg mb h₀) (n : nsIn K mainGlobals x = some (some v)) (k : Q v s) : wpAny M A (eval (.Name x pos) env) Q E s :=
  Name_function_global (isGlob_of e).1 (isGlob_of e).2.1 (loadGlobal_global (by rw [g]; exact T.g.keeps F.keep) (mg_of X T.g n) k) (isGlob_of e).2.2
theorem nameBI {M : Model} (e : isGlob env x = true) (g : env.globals = mainGlobals) (b : env.builtins = builtinsNs) (F : Fr h₀ env.locals s.heap m) (X : K.In h₀) (T : TopRead p loose mg mb h₀) (n : nsIn K mainGlobals x = some none) (hv : bootBuiltins x = some v) (hn : (x == "__name__") = false) (k : Q v s) : wpAny M A (eval (.Name x pos) env) Q E s :=
  Name_function_global (isGlob_of e).1 (isGlob_of e).2.1 (loadGlobal_builtin (by rw [g]; exact T.g.keeps F.keep) (mg_none_of X T.g n) (by rw [b]; exact T.b.keeps F.keep) ((T.builtins x (fun q => by rw [q] at hn; exact absurd hn (by decide))).trans hv) k) (isGlob_of e).2.2
theorem locs_plain {sc : Scope} (l : Locs sc m es vs) : (backTo pos (starEach es env)).any (·.1) = false := by
  unfold backTo
  induction l with
  | nil => rfl
  | cons e hv r ih =>
    show (false || List.any _ _) = false
    rw [Bool.false_or]
    exact ih
theorem callGA {a : PySem.Expr} (e : isGlob env x = true) (g : env.globals = mainGlobals) (F : Fr h₀ env.locals s.heap m) (X : K.In h₀) (T : TopRead p loose mg mb h₀) (n : nsIn K mainGlobals x = some (some v)) (hk : keepIn K v = true)
    (l : Locs env.scope m (a :: es) vs) (k : wpAny (model prog w) A (call v vs []) Q E s) : wpAny (model prog w) A (eval (.Call (.Name x p1) (a :: es) [] pos) env) Q E s := by
  refine Call_ (nameG e g F X T n ?_) rfl
  cases l with
  | cons e1 hv r => exact callWith_K X hk (args_locs (Locs.cons e1 hv r) F ⟨X.keeps F.keep, k⟩) rfl (locs_plain r)
theorem callGX {a : PySem.Expr} (hp : plainArgs (a :: es) = true) (e : isGlob env x = true) (g : env.globals = mainGlobals) (F : Fr h₀ env.locals s.heap m) (X : K.In h₀) (T : TopRead p loose mg mb h₀) (n : nsIn K mainGlobals x = some (some v)) (hk : keepIn K v = true)
    (k : wpAny (model prog w) A (spliced (backTo pos (starEach (a :: es) env))) (fun vs s₁ => K.In s₁.heap ∧ wpAny (model prog w) A (call v vs []) Q E s₁) E s) : wpAny (model prog w) A (eval (.Call (.Name x p1) (a :: es) [] pos) env) Q E s := by
  obtain ⟨h1, h2⟩ := Bool.and_eq_true_iff.mp hp
  exact Call_ (nameG e g F X T n (callWith_K X hk k (starEach_plain h1) (args_plain h2))) rfl
theorem callG0 (e : isGlob env x = true) (g : env.globals = mainGlobals) (F : Fr h₀ env.locals s.heap m) (X : K.In h₀) (T : TopRead p loose mg mb h₀) (n : nsIn K mainGlobals x = some (some v)) (hk : keepIn K v = true)
    (k : wpAny (model prog w) A (call v [] []) Q E s) : wpAny (model prog w) A (eval (.Call (.Name x p1) [] [] pos) env) Q E s :=
  Call_ (nameG e g F X T n (callWith_K0 (X.keeps F.keep) hk k)) rfl
theorem callBA {M : Model} {a : PySem.Expr} {id : String} (e : isGlob env x = true) (g : env.globals = mainGlobals) (b : env.builtins = builtinsNs) (F : Fr h₀ env.locals s.heap m) (X : K.In h₀) (T : TopRead p loose mg mb h₀) (n : nsIn K mainGlobals x = some none)
    (hv : bootBuiltins x = some v) (hb : v = .builtin id) (hn : (x == "__name__") = false)
    (l : Locs env.scope m (a :: es) vs) (k : wpAny M A (call (.builtin id) vs []) Q E s) : wpAny M A (eval (.Call (.Name x p1) (a :: es) [] pos) env) Q E s := by
  subst hb
  refine Call_ (nameBI e g b F X T n hv hn ?_) rfl
  cases l with
  | cons e1 h1 r => exact PyProof.Rows.callWith_builtin1 (args_locs (Locs.cons e1 h1 r) F k) rfl (locs_plain r)
theorem callBX {M : Model} {a : PySem.Expr} {id : String} (hp : plainArgs (a :: es) = true) (e : isGlob env x = true) (g : env.globals = mainGlobals) (b : env.builtins = builtinsNs) (F : Fr h₀ env.locals s.heap m) (X : K.In h₀) (T : TopRead p loose mg mb h₀) (n : nsIn K mainGlobals x = some none)
    (hv : bootBuiltins x = some v) (hb : v = .builtin id) (hn : (x == "__name__") = false)
    (k : wpAny M A (spliced (backTo pos (starEach (a :: es) env))) (fun vs s₁ => wpAny M A (call (.builtin id) vs []) Q E s₁) E s) : wpAny M A (eval (.Call (.Name x p1) (a :: es) [] pos) env) Q E s := by
  obtain ⟨h1, h2⟩ := Bool.and_eq_true_iff.mp hp
  subst hb
  exact Call_ (nameBI e g b F X T n hv hn (PyProof.Rows.callWith_builtin1 k (starEach_plain h1) (args_plain h2))) rfl
theorem callTX {M : Model} {a : PySem.Expr} {id : String} (hp : plainArgs (a :: es) = true) (e : isGlob env x = true) (g : env.globals = mainGlobals) (b : env.builtins = builtinsNs) (F : Fr h₀ env.locals s.heap m) (X : K.In h₀) (T : TopRead p loose mg mb h₀) (n : nsIn K mainGlobals x = some none)
    (hv : bootBuiltins x = some v) (hb : v = .type id) (hn : (x == "__name__") = false)
    (k : wpAny M A (spliced (backTo pos (starEach (a :: es) env))) (fun vs s₁ => wpAny M A (call (.type id) vs []) Q E s₁) E s) : wpAny M A (eval (.Call (.Name x p1) (a :: es) [] pos) env) Q E s := by
  obtain ⟨h1, h2⟩ := Bool.and_eq_true_iff.mp hp
  subst hb
  refine Call_ (nameBI e g b F X T n hv hn ?_) rfl
  rw [starEach_plain h1] at k ⊢
  refine PyProof.Rows.callWith_type ?_ (Calls.evalArgs_plain k)
  show (false || List.any _ _) = false
  rw [Bool.false_or]
  exact args_plain h2
end
section
variable {M : Model} {A : Around} {E : Value → Shared → Prop} {env : Env} {h h₀ : Heap} {gs : Array GenState} {dr : Drawn} {tk : Nat} {os : OsState} {m : Str → Option Value} {x y : Str} {pos p1 p2 : Pos} {a b : Value} {i : Int} {kk : Nat} {s : Shared}
theorem bin_nn {op : Operator} {Q : Value → Shared → Prop} (e1 : isLoc env.scope x = true) (e2 : isLoc env.scope y = true) (F : Fr h₀ env.locals s.heap m) (v1 : m x = some a) (v2 : m y = some b) (k : wpAny M A (binaryOp op a b) Q E s) :
    wpAny M A (eval (.BinOp (.Name x p1) op (.Name y p2) pos) env) Q E s := wpAny_BinOp (nameA e1 F v1 (nameA e2 F v2 k))
theorem bin_nc {op : Operator} {Q : Value → Shared → Prop} (e1 : isLoc env.scope x = true) (F : Fr h₀ env.locals h m) (v1 : m x = some a) (k : ∀ u tk', wpAny M A (binaryOp op a (.int i u)) Q E ⟨h, gs, dr, tk', os⟩) :
    wpAny M A (eval (.BinOp (.Name x p1) op (.Constant (.int i) kk p2) pos) env) Q E ⟨h, gs, dr, tk, os⟩ := wpAny_BinOp (nameA (s := ⟨h, gs, dr, tk, os⟩) e1 F v1 (intA k))
theorem bin_cn {op : Operator} {Q : Value → Shared → Prop} (e1 : isLoc env.scope x = true) (F : Fr h₀ env.locals h m) (v1 : m x = some a) (k : ∀ u tk', wpAny M A (binaryOp op (.int i u) a) Q E ⟨h, gs, dr, tk', os⟩) :
    wpAny M A (eval (.BinOp (.Constant (.int i) kk p2) op (.Name x p1) pos) env) Q E ⟨h, gs, dr, tk, os⟩ := wpAny_BinOp (intA fun u tk' => nameA (s := ⟨h, gs, dr, tk', os⟩) e1 F v1 (k u tk'))
theorem bin_cc {op : Operator} {j : Int} {k2 : Nat} {Q : Value → Shared → Prop} (k : ∀ u u2 tk', wpAny M A (binaryOp op (.int i u) (.int j u2)) Q E ⟨h, gs, dr, tk', os⟩) :
    wpAny M A (eval (.BinOp (.Constant (.int i) kk p1) op (.Constant (.int j) k2 p2) pos) env) Q E ⟨h, gs, dr, tk, os⟩ := wpAny_BinOp (intA fun u _ => intA fun u2 tk' => k u u2 tk')
end
theorem reg5 : True := by
  (k_with "eval Call" => ((k_here; k_dflt (first
  | ((with_reducible refine' callGA ?e_q25 ?g_q25 ?F_q25 ?X_q25 ?T_q25 ?n_q25 ?k_q25 ?l_q25 ?_); (case e_q25 => exact isT); (case g_q25 => exact rfl); (case F_q25 => k_asm); (case X_q25 => k_asm); (case T_q25 => k_asm); (case n_q25 => k_is); (case k_q25 => k_is); (case l_q25 => walk_at "M locs"); k_whole)
  | ((with_reducible refine' callGX ?p_q25 ?e_q25 ?g_q25 ?F_q25 ?X_q25 ?T_q25 ?n_q25 ?k_q25 ?_); (case p_q25 => exact isT); (case e_q25 => exact isT); (case g_q25 => exact rfl); (case F_q25 => k_asm); (case X_q25 => k_asm); (case T_q25 => k_asm); (case n_q25 => k_is); (case k_q25 => k_is); k_whole)
  | ((with_reducible refine' callG0 ?e_q25 ?g_q25 ?F_q25 ?X_q25 ?T_q25 ?n_q25 ?k_q25 ?_); (case e_q25 => exact isT); (case g_q25 => exact rfl); (case F_q25 => k_asm); (case X_q25 => k_asm); (case T_q25 => k_asm); (case n_q25 => k_is); (case k_q25 => k_is); k_whole)
  | ((with_reducible refine' callBA ?e_q25 ?g_q25 ?b_q25 ?F_q25 ?X_q25 ?T_q25 ?n_q25 ?v_q25 ?w_q25 ?q_q25 ?l_q25 ?_); (case e_q25 => exact isT); (case g_q25 => exact rfl); (case b_q25 => exact rfl); (case F_q25 => k_asm); (case X_q25 => k_asm); (case T_q25 => k_asm); (case n_q25 => k_is); (case v_q25 => boot_fast); (case w_q25 => exact rfl); (case q_q25 => decide); (case l_q25 => walk_at "M locs"); k_whole)
  | ((with_reducible refine' callBX ?p_q25 ?e_q25 ?g_q25 ?b_q25 ?F_q25 ?X_q25 ?T_q25 ?n_q25 ?v_q25 ?w_q25 ?q_q25 ?_); (case p_q25 => exact isT); (case e_q25 => exact isT); (case g_q25 => exact rfl); (case b_q25 => exact rfl); (case F_q25 => k_asm); (case X_q25 => k_asm); (case T_q25 => k_asm); (case n_q25 => k_is); (case v_q25 => boot_fast); (case w_q25 => exact rfl); (case q_q25 => decide); k_whole)
  | ((with_reducible refine' callTX ?p_q25 ?e_q25 ?g_q25 ?b_q25 ?F_q25 ?X_q25 ?T_q25 ?n_q25 ?v_q25 ?w_q25 ?q_q25 ?_); (case p_q25 => exact isT); (case e_q25 => exact isT); (case g_q25 => exact rfl); (case b_q25 => exact rfl); (case F_q25 => k_asm); (case X_q25 => k_asm); (case T_q25 => k_asm); (case n_q25 => k_is); (case v_q25 => boot_fast); (case w_q25 => exact rfl); (case q_q25 => decide); k_whole)))))
  (k_with "eval BinOp" => ((k_here; k_dflt (first
  | ((with_reducible refine' bin_nc ?e_q26 ?F_q26 ?v_q26 ?_); (case e_q26 => exact isT); (case F_q26 => k_asm); (case v_q26 => exact rfl); k_whole; intro _ _)
  | ((with_reducible refine' bin_nn ?e_q26 ?e2_q26 ?F_q26 ?v_q26 ?v2_q26 ?_); (case e_q26 => exact isT); (case e2_q26 => exact isT); (case F_q26 => k_asm); (case v_q26 => exact rfl); (case v2_q26 => exact rfl); k_whole)
  | ((with_reducible refine' bin_cn ?e_q26 ?F_q26 ?v_q26 ?_); (case e_q26 => exact isT); (case F_q26 => k_asm); (case v_q26 => exact rfl); k_whole; intro _ _)
  | ((with_reducible refine' bin_cc ?_); intro _ _ _)))))
  exact True.intro

abbrev AA (dp un : Nat) (fr : Option (List Env)) (gd : Option (List Code)) : Around := { handled := none, depth := dp, frames := fr, guards := gd, units := un }

theorem reg6 : True := by
  (k_with "M enter" => ((
  (case k6 => k_is); (case k7 => k_is); (case k2 => exact TopRead.nolimit (by assumption)); (case k3 => first | assumption | (simp only [recursionLimit] at *; omega)); (case k9 => exact BindsTo.of_eq rfl); (case c5 => decide); (case kB => exact locs rfl)
  ; (case c2 => exact rfl); (case c3 => exact rfl); (case c4 => exact rfl))))
  exact True.intro

/-- an item of a list of the ledger, as it is written -/
theorem item_led {prog : Program} {w : World} {A : Around} {E : Value → Shared → Prop} {s : Shared} {value slice : PySem.Expr} {h₀ : Heap} {L l : Addr} {news : List (Addr × Obj)} {its : Array Value} {n : Nat} {k : Int} {u : Tok} {v : Value} {Q : Value → Shared → Prop}
    (N : News h₀ L s.heap news) (hm : (l, listOf its n) ∈ news) (h0 : 0 ≤ k) (hhi : k < 2 ^ 63) {rest : List Value} (hx : its.toList.drop k.toNat = v :: rest) (h : Q v s)
    (hs : subscripted slice false (.ref l) (.int k u) = operate [.ref l, .int k u] (getItem (.ref l) (.int k u)) := by with_unfolding_all rfl) :
    wpAny (model prog w) A (subscriptTail value slice (.ref l) (.int k u)) Q E s := by
  have hl : s.heap.IsList l its := ⟨_, (N _ hm).1, rfl, n, rfl⟩
  have hx' : its[k.toNat]? = some v := by
    rw [← Array.getElem?_toList, ← List.head?_drop, hx]; rfl
  exact tail_any hl.typeIs slot_list_getitem.lookup (wpAny_getItem_list hl h0 hhi hx' h) hs
theorem reg7 : True := by
  (k_with "subscriptTail Name Constant ref int" => ((k_here; (with_reducible show wpAny _ _ (subscriptTail _ _ (Value.ref _) (Value.int _ _)) _ _ _); (k_dflt (refine' item_led ?N_q28 ?k1_q28 ?k2_q28 ?k3_q28 ?k4_q28 ?_ ?k6_q28; (case N_q28 => k_asm); (case k1_q28 => k_mem); (case k2_q28 => decide); (case k3_q28 => decide); (case k4_q28 => rfl); (case k6_q28 => with_unfolding_all rfl); k_whole)))))
  exact True.intro

theorem take_pos {prog : Program} {w : World} {p : Program} {loose : List Str} {mg mb : Str → Option Value} {dp un : Nat} {fr : Option (List Env)} {gd : Option (List Code)} {s : Shared} {Q E : Value → Shared → Prop}
   {src : Addr} {x y top : Int} {t1 t2 t3 : Tok} {n : Nat}
   (X : (hd.heap_1 w.params).In (hideAll s.heap [src])) (T : TopRead p loose mg mb (hideAll s.heap [src])) (hdp : dp + 1 < recursionLimit) (hu : un + 20 < cLine)
    (hs : s.heap.get? src = some (listOf #[.int x t1, .int y t2] n))
    (hx : 0 < x) (ht : 0 < top) (ht2 : top < 100)
    (hret : ∀ t4 t5 h' tk' n', Kp [src] s.heap h' → h'.get? src = some (listOf #[.int (x.fdiv top) t4, .int y t2] n') → Q (.int (x.fmod top) t5) { s with heap := h', toks := tk' }) :
    wpAny (model prog w) (AA dp un fr gd) (call (.ref 269) [.ref src, .int top t3]) Q E s := by
  have T' : TopRead p loose mg mb s.heap := T.keeps fun b o e => of_hideAll _ e
  refine wpAny_call ?_
  k_dflt (refine' enterP (binds := [("source", .ref src), ("top", .int top t3)]) [src] (fun b o e => of_hideAll _ (X b o e)) ?k2 ?k3 ?k6 ?k7 ?k9 ?kB ?_ ?c2 ?c3 ?c4 ?c5)
  walk_at "M enter"
  clear T'
  intro L h₁ hL F hk
  have N := news_one (as := [src]) (.head _) hL hs hk
  clear hk
  try dsimp only
  try k_fold
  walk_at "M steps"
  all_goals (try dsimp only)
  all_goals exact hret _ _ _ _ _ (Kp.of_fr (by assumption)) (News.get (by assumption) (.head _))

theorem take_zero {prog : Program} {w : World} {p : Program} {loose : List Str} {mg mb : Str → Option Value} {dp un : Nat} {fr : Option (List Env)} {gd : Option (List Code)} {s : Shared} {Q E : Value → Shared → Prop}
   {src : Addr} {y top : Int} {t1 t2 t3 : Tok} {n : Nat}
   (X : (hd.heap_1 w.params).In (hideAll s.heap [src])) (T : TopRead p loose mg mb (hideAll s.heap [src])) (hdp : dp + 1 < recursionLimit) (hu : un + 20 < cLine)
    (hs : s.heap.get? src = some (listOf #[.int 0 t1, .int y t2] n))
    (hy : 0 ≤ y) (hy2 : y < 2147483647) (ht : 0 < top) (ht2 : top < 100)
    (hret : ∀ r t4 t5 y' h' tk' n', Kp [src] s.heap h' → h'.get? src = some (listOf #[.int 0 t1, .int y' t4] n') → 0 ≤ y' → y' < 2147483647 → 0 ≤ r → r < top → Q (.int r t5) { s with heap := h', toks := tk' }) :
    wpAny (model prog w) (AA dp un fr gd) (call (.ref 269) [.ref src, .int top t3]) Q E s := by
  have T' : TopRead p loose mg mb s.heap := T.keeps fun b o e => of_hideAll _ e
  refine wpAny_call ?_
  k_dflt (refine' enterP (binds := [("source", .ref src), ("top", .int top t3)]) [src] (fun b o e => of_hideAll _ (X b o e)) ?k2 ?k3 ?k6 ?k7 ?k9 ?kB ?_ ?c2 ?c3 ?c4 ?c5)
  walk_at "M enter"
  clear T'
  intro L h₁ hL F hk
  have N := news_one (as := [src]) (.head _) hL hs hk
  clear hk
  have b1 : 0 ≤ (y * 39373 + 7).fmod 2147483647 := Int.fmod_nonneg_of_pos _ (by decide)
  have b2 : (y * 39373 + 7).fmod 2147483647 < 2147483647 := Int.fmod_lt_of_pos _ (by decide)
  try dsimp only
  try k_fold
  walk_at "M steps"
  all_goals (try dsimp only)
  all_goals exact hret _ _ _ _ _ _ _ (Kp.of_fr (by assumption)) (News.get (by assumption) (.head _)) b1 b2 (Int.fmod_nonneg_of_pos _ ht) (Int.fmod_lt_of_pos _ ht)

section
variable {prog : Program} {w : World} {p : Program} {loose : List Str} {mg mb : Str → Option Value} {dp un : Nat} {fr : Option (List Env)} {gd : Option (List Code)} {s : Shared} {h₀ h h' : Heap} {L : Addr} {m : Str → Option Value} {news : List (Addr × Obj)} {g : Obj → List (Addr × Obj)} {src : Addr} {as : List Addr}
theorem hid (F : Fr h₀ L h m) (hn : ∀ a ∈ as, h₀.get? a = none) : ∀ b o, h₀.get? b = some o → (hideAll h as).get? b = some o :=
  fun b o e => hideAll_get _ (F.keep b o e) fun q => by rw [hn b q] at e; cases e
theorem Fr.after (F : Fr h₀ L h m) (k : Kp as h h') (hn : ∀ a ∈ as, h₀.get? a = none) (hL : L ∉ as) : Fr h₀ L h' m := by
  obtain ⟨oL, a1, a2, e, a3⟩ := F.ns
  exact ⟨⟨oL, a1, a2, k _ _ e hL, a3⟩, fun b o e => k b o (F.keep b o e) fun q => (by rw [hn b q] at e; cases e), F.above⟩
theorem News.turn {o o' : Obj} (N : News h₀ L h news) (U : UpdF src o news g) (k : Kp [src] h h') (e : h'.get? src = some o') : News h₀ L h' (g o') := by
  obtain ⟨pre, post, rfl, hg, h1, h2⟩ := U.split
  rw [hg]
  intro q hq
  rcases List.mem_append.mp hq with hq | hq
  · have z := N q (List.mem_append_left _ hq)
    exact ⟨k _ _ z.1 (by simpa using h1 q hq), z.2⟩
  · rcases List.mem_cons.mp hq with rfl | hq
    · exact ⟨e, (N _ (List.mem_append_right _ (.head _))).2⟩
    · have z := N q (List.mem_append_right _ (.tail _ hq))
      exact ⟨k _ _ z.1 (by simpa using h2 q hq), z.2⟩
theorem UpdF.mem {o : Obj} (U : UpdF src o news g) : (src, o) ∈ news := by
  obtain ⟨pre, post, rfl, _⟩ := U.split
  exact List.mem_append_right _ (.head _)

/-- one draw, wherever the pool lies in the ledger -/
theorem call_take {x y top : Int} {t1 t2 t3 : Tok} {n : Nat} {Q E : Value → Shared → Prop} (F : Fr h₀ L s.heap m) (X : (hd.heap_1 w.params).In h₀) (T : TopRead p loose mg mb h₀) (N : News h₀ L s.heap news)
    (U : UpdF src (listOf #[.int x t1, .int y t2] n) news g) (hx : 0 ≤ x) (hy : 0 ≤ y) (hy2 : y < 2147483647) (ht : 0 < top) (ht2 : top < 100) (hdp : dp + 1 < recursionLimit) (hu : un + 20 < cLine)
    (ret : ∀ r t x' y' t1' t2' n' h' tk', Fr h₀ L h' m → News h₀ L h' (g (listOf #[.int x' t1', .int y' t2'] n')) → 0 ≤ r → r < top → 0 ≤ x' → 0 ≤ y' → y' < 2147483647 → Q (.int r t) { s with heap := h', toks := tk' }) :
    wpAny (model prog w) (AA dp un fr gd) (call (.ref 269) [.ref src, .int top t3]) Q E s := by
  have hm := N _ (UpdF.mem U)
  have hn : ∀ a ∈ [src], h₀.get? a = none := fun a ha => by rw [List.mem_singleton.mp ha]; exact hm.2.2
  have hL : L ∉ [src] := fun q => hm.2.1 (List.mem_singleton.mp q).symm
  have X' : (hd.heap_1 w.params).In (hideAll s.heap [src]) := fun b o e => hid F hn b o (X b o e)
  have T' : TopRead p loose mg mb (hideAll s.heap [src]) := T.keeps (hid F hn)
  by_cases h0 : x = 0
  · subst h0
    exact take_zero X' T' hdp hu hm.1 hy hy2 ht ht2 fun r t4 t5 y' h' tk' n' k e a b c d => ret _ _ _ _ _ _ _ _ _ (Fr.after F k hn hL) (News.turn N U k e) c d (by omega) a b
  · exact take_pos X' T' hdp hu hm.1 (by omega) ht ht2 fun t4 t5 h' tk' n' k e => ret _ _ _ _ _ _ _ _ _ (Fr.after F k hn hL) (News.turn N U k e) (Int.fmod_nonneg_of_pos _ ht) (Int.fmod_lt_of_pos _ ht) (Int.fdiv_nonneg hx (by omega)) hy hy2
end

theorem reg8 : True := by
  (k_with "M lt" => (first | assumption | decide | omega | (simp only [recursionLimit, cLine] at *; omega)))
  exact True.intro
theorem reg9 : True := by
  (k_with "call ref" => ((k_here; (with_reducible show wpAny _ _ (call (Value.ref 269) [Value.ref _, Value.int _ _]) _ _ _); (k_dflt (refine' call_take ?F_q30 ?X_q30 ?T_q30 ?N_q30 ?U_q30 ?hx_q30 ?hy_q30 ?hy2_q30 ?ht_q30 ?ht2_q30 ?hdp_q30 ?hu_q30 ?_; (case F_q30 => k_asm); (case X_q30 => k_asm); (case T_q30 => k_asm); (case N_q30 => k_asm); (case U_q30 => k_updF); (case hx_q30 => walk_at "M lt"); (case hy_q30 => walk_at "M lt"); (case hy2_q30 => walk_at "M lt"); (case ht_q30 => walk_at "M lt"); (case ht2_q30 => walk_at "M lt"); (case hdp_q30 => walk_at "M lt"); (case hu_q30 => walk_at "M lt"); k_whole)); intro r9 t9 x9 y9 t8 t7 n9 h' tk' F' N' b1 b2 b3 b4 b5; (try dsimp only at N'))))
  exact True.intro
theorem isList_fr {h₀ h : Heap} {L l : Addr} {m : Str → Option Value} {its : Array Value} (x : h₀.IsList l its) (F : Fr h₀ L h m) : h.IsList l its := let ⟨o, e, r⟩ := x; ⟨o, F.keep _ _ e, r⟩
theorem reg10 : True := by
  (k_with "call builtin:len" => ((k_here; (with_reducible show wpAny _ _ (call (Value.builtin "len") [Value.ref _]) _ _ _); (k_dflt (refine' len_list ?k1_q31 ?k2_q31 ?_; (case k1_q31 => exact isList_fr (by assumption) (by assumption)); (case k2_q31 => walk_at "M lt"); k_whole)))))
  exact True.intro
theorem item_any {prog : Program} {w : World} {A : Around} {E : Value → Shared → Prop} {s : Shared} {value slice : PySem.Expr} {l : Addr} {its : Array Value} {k : Int} {u : Tok} {Q : Value → Shared → Prop}
    (hl : s.heap.IsList l its) (h0 : 0 ≤ k) (h1 : k < its.size) (hsz : its.size < 1000) (h : ∀ (r : Nat) (hr : r < its.size), k = r → Q (its[r]) s)
    (hs : subscripted slice false (.ref l) (.int k u) = operate [.ref l, .int k u] (getItem (.ref l) (.int k u)) := by with_unfolding_all rfl) :
    wpAny (model prog w) A (subscriptTail value slice (.ref l) (.int k u)) Q E s := by
  have hr : k.toNat < its.size := by omega
  exact tail_any hl.typeIs slot_list_getitem.lookup (wpAny_getItem_list hl h0 (by omega) (Array.getElem?_eq_getElem hr) (h k.toNat hr (by omega))) hs
theorem reg11 : True := by
  (k_with "subscriptTail Name Call ref int" => ((k_here; (with_reducible show wpAny _ _ (subscriptTail _ _ (Value.ref _) (Value.int _ _)) _ _ _); (k_dflt (refine' item_any ?k1_q32 ?k2_q32 ?k3_q32 ?k4_q32 ?_ ?k6_q32; (case k1_q32 => exact isList_fr (by assumption) (by assumption)); (case k2_q32 => walk_at "M lt"); (case k3_q32 => walk_at "M lt"); (case k4_q32 => walk_at "M lt"); (case k6_q32 => with_unfolding_all rfl); k_whole)); intro rI hrI hkI)))
  exact True.intro

section
variable {prog : Program} {w : World} {p : Program} {loose : List Str} {mg mb : Str → Option Value} {dp un : Nat} {fr : Option (List Env)} {gd : Option (List Code)} {s : Shared} {Q E : Value → Shared → Prop}
theorem one_ {src l : Addr} {x y : Int} {t1 t2 : Tok} {n : Nat} {its : Array Value}
   (X : (hd.heap_1 w.params).In (hideAll s.heap [src])) (T : TopRead p loose mg mb (hideAll s.heap [src])) (hdp : dp + 2 < recursionLimit) (hu : un + 40 < cLine)
    (hs : s.heap.get? src = some (listOf #[.int x t1, .int y t2] n)) (hx : 0 ≤ x) (hy : 0 ≤ y) (hy2 : y < 2147483647)
    (hl : (hideAll s.heap [src]).IsList l its) (h0 : 0 < its.size) (h1 : its.size < 100)
    (hret : ∀ (r : Nat) (hr : r < its.size) x' y' t1' t2' h' tk' n', Kp [src] s.heap h' → h'.get? src = some (listOf #[.int x' t1', .int y' t2'] n') → 0 ≤ x' → 0 ≤ y' → y' < 2147483647 → Q (its[r]) { s with heap := h', toks := tk' }) :
    wpAny (model prog w) (AA dp un fr gd) (call (.ref 276) [.ref src, .ref l]) Q E s := by
  have T' : TopRead p loose mg mb s.heap := T.keeps fun b o e => of_hideAll _ e
  refine wpAny_call ?_
  k_dflt (refine' enterP (binds := [("source", .ref src), ("things", .ref l)]) [src] (fun b o e => of_hideAll _ (X b o e)) ?k2 ?k3 ?k6 ?k7 ?k9 ?kB ?_ ?c2 ?c3 ?c4 ?c5)
  walk_at "M enter"
  clear T'
  intro L h₁ hL F hk
  have N := news_one (as := [src]) (.head _) hL hs hk
  clear hk
  try dsimp only
  try k_fold
  walk_at "M steps"
  all_goals (try dsimp only)
  all_goals exact hret _ _ _ _ _ _ _ _ _ (Kp.of_fr (by assumption)) (News.get (by assumption) (.head _)) (by assumption) (by assumption) (by assumption)
end

/-- a walk stops here -/
def StopAt (P : Prop) : Prop := P
theorem stopAt {P : Prop} (h : StopAt P) : P := h
inductive StopMark : Prop | mk
inductive JoinP (P : Shared → Prop) : Flow → Shared → Prop
  | mk {s : Shared} (h : P s) : JoinP P .next s
theorem execs_join {M : Model} {A : Around} {E : Value → Shared → Prop} {s : Shared} {env : Env} {st st2 : Stmt} {rest : List Stmt} {Q : Flow → Shared → Prop} (P : Shared → Prop)
    (k2 : ∀ s', P s' → wpAny M A (execs (st2 :: rest) env) Q E s') (k1 : wpAny M A (exec st env) (JoinP P) E s) : wpAny M A (execs (st :: st2 :: rest) env) Q E s :=
  wpAny_execs_cons (wpAny_mono k1 (fun f s' q => by cases q with | mk h => exact k2 _ h) fun _ _ q => q)
def kinds : List (Str × Int × Int) := [("i8", -128, 127), ("i16", -32768, 32767), ("i32", -2147483648, 2147483647), ("i64", -9223372036854775808, 9223372036854775807),
  ("u8", 0, 255), ("u16", 0, 65535), ("u32", 0, 4294967295), ("u64", 0, 18446744073709551615), ("usize", 0, 18446744073709551615)]
/-- the bits of a kind with those rims -/
def BitsOf (lo hi b : Int) : Prop := 8 ≤ b ∧ b ≤ 64 ∧ (lo < 0 → lo = 0 - 2 ^ (b - 1).toNat ∧ hi = 2 ^ (b - 1).toNat - 1) ∧ (¬ lo < 0 → lo = 0 ∧ hi = 2 ^ b.toNat - 1)
def bitsOf (κ : Str) : Int := if κ = "i8" then 8 else if κ = "u8" then 8 else if κ = "i16" then 16 else if κ = "u16" then 16 else if κ = "i32" then 32 else if κ = "u32" then 32 else 64
theorem bitsOf_is : ∀ x ∈ kinds, BitsOf x.2.1 x.2.2 (bitsOf x.1) := by unfold BitsOf; decide +kernel
section
variable {prog : Program} {w : World} {A : Around} {E : Value → Shared → Prop} {env : Env} {h h₀ : Heap} {gs : Array GenState} {dr : Drawn} {tk : Nat} {os : OsState} {m : Str → Option Value} {x : Str} {p1 p2 p3 p4 p5 p6 p7 p8 p9 : Pos} {k1 k2 k3 : Nat} {κ : Str} {lo hi : Int} {t : Tok}
theorem powA {n : Int} {t u : Tok} {Q : Value → Shared → Prop} (h0 : 8 ≤ n + 1) (h1 : n ≤ 64) (k : ∀ u tk', Q (.int (2 ^ n.toNat) u) ⟨h, gs, dr, tk', os⟩) : wpAny (model prog w) A (binaryOp .Pow (.int 2 t) (.int n u)) Q E ⟨h, gs, dr, tk, os⟩ :=
  pow_int (by omega) (by have : (Builtin.Int.intBits 2 : Int) = 2 := by decide
                         rw [this]; omega) (k _ _)
theorem kind0 {Q : Value → Shared → Prop} (e : isLoc env.scope x = true) (F : Fr h₀ env.locals h m) (hv : m x = some (.str κ t)) (hκ : (κ, lo, hi) ∈ kinds) (k : ∀ u tk', Q (.str (if lo < 0 then "i" else "u") u) ⟨h, gs, dr, tk', os⟩) :
    wpAny (model prog w) A (eval (.Subscript (.Name x p1) (.Constant (.int 0) k1 p2) p3) env) Q E ⟨h, gs, dr, tk, os⟩ := by
  refine Subscript_ (nameA (s := ⟨h, gs, dr, tk, os⟩) e F hv (intA fun u tk' => ?_))
  simp only [kinds, List.mem_cons, List.not_mem_nil, or_false, Prod.mk.injEq] at hκ
  rcases hκ with ⟨rfl, rfl, rfl⟩ | ⟨rfl, rfl, rfl⟩ | ⟨rfl, rfl, rfl⟩ | ⟨rfl, rfl, rfl⟩ | ⟨rfl, rfl, rfl⟩ | ⟨rfl, rfl, rfl⟩ | ⟨rfl, rfl, rfl⟩ | ⟨rfl, rfl, rfl⟩ | ⟨rfl, rfl, rfl⟩
  all_goals (walk1; (try dsimp only); exact k _ _)
theorem kindI {Q : Value → Shared → Prop} (hs : lo < 0) (e : isLoc env.scope x = true) (F : Fr h₀ env.locals h m) (hv : m x = some (.str κ t)) (hκ : (κ, lo, hi) ∈ kinds) (k : ∀ u tk', Q (.str "i" u) ⟨h, gs, dr, tk', os⟩) :
    wpAny (model prog w) A (eval (.Subscript (.Name x p1) (.Constant (.int 0) k1 p2) p3) env) Q E ⟨h, gs, dr, tk, os⟩ := kind0 e F hv hκ (by rw [if_pos hs]; exact k)
theorem kindU {Q : Value → Shared → Prop} (hs : ¬ lo < 0) (e : isLoc env.scope x = true) (F : Fr h₀ env.locals h m) (hv : m x = some (.str κ t)) (hκ : (κ, lo, hi) ∈ kinds) (k : ∀ u tk', Q (.str "u" u) ⟨h, gs, dr, tk', os⟩) :
    wpAny (model prog w) A (eval (.Subscript (.Name x p1) (.Constant (.int 0) k1 p2) p3) env) Q E ⟨h, gs, dr, tk, os⟩ := kind0 e F hv hκ (by rw [if_neg hs]; exact k)
end
theorem reg12 : True := by
  (k_with "eval Subscript" => ((k_here; k_dflt (first
  | ((with_reducible refine' kindI ?s_q33 ?e_q33 ?F_q33 ?v_q33 ?hκ_q33 ?_); (case s_q33 => assumption); (case e_q33 => exact isT); (case F_q33 => k_asm); (case v_q33 => exact rfl); (case hκ_q33 => assumption); k_whole; intro _ _)
  | ((with_reducible refine' kindU ?s_q33 ?e_q33 ?F_q33 ?v_q33 ?hκ_q33 ?_); (case s_q33 => assumption); (case e_q33 => exact isT); (case F_q33 => k_asm); (case v_q33 => exact rfl); (case hκ_q33 => assumption); k_whole; intro _ _)))))
  exact True.intro
theorem reg13 : True := by
  (k_with "binaryOp Pow int int" => ((k_here; refine powA (by omega) (by omega) ?_; intro _ _)))
  exact True.intro

/-- after bits = .. -/
inductive RimP (κ : Str) (t : Tok) (s : Shared) (h₀ : Heap) (L : Addr) : Shared → Prop
  | mk {h : Heap} {tk : Nat} {news : List (Addr × Obj)} {u : Tok} (F : Fr h₀ L h (fun y => if y = Str.ofString "bits" then some (.int (bitsOf κ) u) else [(Str.ofString "kind", Value.str κ t)].reverse.lookup y)) (N : News h₀ L h news) : RimP κ t s h₀ L { s with heap := h, toks := tk }
section
variable {prog : Program} {w : World} {p : Program} {loose : List Str} {mg mb : Str → Option Value} {dp un : Nat} {fr : Option (List Env)} {gd : Option (List Code)} {s : Shared} {Q E : Value → Shared → Prop}
theorem rims_ {κ : Str} {lo hi : Int} {t : Tok} (hκ : (κ, lo, hi) ∈ kinds)
   (X : (hd.heap_1 w.params).In s.heap) (T : TopRead p loose mg mb s.heap) (hdp : dp + 2 < recursionLimit) (hu : un + 40 < cLine)
    (hret : ∀ a t1 t2 h' tk', Kp [] s.heap h' → h'.get? a = some (tupO #[.int lo t1, .int hi t2]) → s.heap.get? a = none → Q (.ref a) { s with heap := h', toks := tk' }) :
    wpAny (model prog w) (AA dp un fr gd) (call (.ref 290) [.str κ t]) Q E s := by
  refine wpAny_call ?_
  k_dflt (refine' enterP (binds := [("kind", .str κ t)]) [] X ?k2 ?k3 ?k6 ?k7 ?k9 ?kB ?_ ?c2 ?c3 ?c4 ?c5)
  walk_at "M enter"
  intro L h₁ hL F hk
  clear hk
  have X₀ : (hd.heap_1 w.params).In (hideAll s.heap []) := X
  have T₀ : TopRead p loose mg mb (hideAll s.heap []) := T
  have N : News (hideAll s.heap []) L h₁ [] := News.nil
  clear X T
  try dsimp only
  try k_fold
  refine execs_join (P := RimP κ t s (hideAll s.heap []) L) (fun s' hP => ?_) ?_
  · obtain ⟨F, N⟩ := hP
    obtain ⟨b1, b2, b3, b4⟩ := bitsOf_is _ hκ
    dsimp only at b1 b2 b3 b4
    by_cases hs : lo < 0
    · obtain ⟨q1, q2⟩ := b3 hs
      have hret' : ∀ a t1 t2 h' tk', Kp [] s.heap h' → h'.get? a = some (tupO #[.int (0 - 2 ^ (bitsOf κ - 1).toNat) t1, .int (2 ^ (bitsOf κ - 1).toNat - 1) t2]) → s.heap.get? a = none → Q (.ref a) { s with heap := h', toks := tk' } := by
        rw [← q1, ← q2]; exact hret
      clear hret b3 b4 q1 q2
      walk_at "M steps"
      exact hret' _ _ _ _ _ (Kp.of_fr (by assumption)) (News.get (by assumption) (.head _)) (News.fresh (h₀ := hideAll s.heap []) (by assumption) (.head _))
    · obtain ⟨q1, q2⟩ := b4 hs
      have hret' : ∀ a t1 t2 h' tk', Kp [] s.heap h' → h'.get? a = some (tupO #[.int 0 t1, .int (2 ^ (bitsOf κ).toNat - 1) t2]) → s.heap.get? a = none → Q (.ref a) { s with heap := h', toks := tk' } := by
        have q2 := q2; rw [← q2]; have q1 := q1; rw [← q1]; exact hret
      clear hret b3 b4 q1 q2
      walk_at "M steps"
      exact hret' _ _ _ _ _ (Kp.of_fr (by assumption)) (News.get (by assumption) (.head _)) (News.fresh (h₀ := hideAll s.heap []) (by assumption) (.head _))
  · clear hret
    simp only [kinds, List.mem_cons, List.not_mem_nil, or_false, Prod.mk.injEq] at hκ
    rcases hκ with ⟨rfl, rfl, rfl⟩ | ⟨rfl, rfl, rfl⟩ | ⟨rfl, rfl, rfl⟩ | ⟨rfl, rfl, rfl⟩ | ⟨rfl, rfl, rfl⟩ | ⟨rfl, rfl, rfl⟩ | ⟨rfl, rfl, rfl⟩ | ⟨rfl, rfl, rfl⟩ | ⟨rfl, rfl, rfl⟩
    all_goals walk_at "M steps"
    all_goals exact JoinP.mk (RimP.mk (by assumption) (by assumption))
end

theorem fresh_h {h : Heap} {a x : Addr} (e : (hideAll h [x]).get? a = none) (ne : @Ne Nat a x) : h.get? a = none := by
  cases q : h.get? a with
  | none => rfl
  | some o => rw [hideAll_get [x] q (fun hm => ne (List.mem_singleton.mp hm))] at e; cases e
section
variable {prog : Program} {w : World} {p : Program} {loose : List Str} {mg mb : Str → Option Value} {dp un : Nat} {fr : Option (List Env)} {gd : Option (List Code)} {s : Shared} {h₀ h h' : Heap} {L : Addr} {m : Str → Option Value} {news : List (Addr × Obj)} {g : Obj → List (Addr × Obj)} {src : Addr} {Q E : Value → Shared → Prop}
/-- all that was kept is kept; a new object stands at the ledger's head -/
theorem News.cons {a : Addr} {o : Obj} (F : Fr h₀ L h m) (N : News h₀ L h news) (k : Kp [] h h') (e : h'.get? a = some o) (hn : h.get? a = none) : News h₀ L h' ((a, o) :: news) := by
  intro q hq
  rcases List.mem_cons.mp hq with rfl | hq
  · refine ⟨e, fun z => ?_, ?_⟩
    · obtain ⟨oL, _, _, eL, _⟩ := F.ns
      rw [← z] at eL
      rw [hn] at eL; cases eL
    · cases q : h₀.get? a with
      | none => rfl
      | some o' => have := F.keep _ _ q; rw [hn] at this; cases this
  · exact ⟨k _ _ (N q hq).1 (List.not_mem_nil), (N q hq).2⟩
theorem ne_new {a : Addr} (N : News h₀ L h news) (hn : h.get? a = none) : ∀ q ∈ news, @Ne Nat q.1 a := fun q hq z => by
  have := (N q hq).1
  rw [z, hn] at this; cases this
theorem Kp.frame (F : Fr h₀ L h m) (k : Kp [] h h') : Fr h₀ L h' m := Fr.after F k (fun _ q => nomatch q) List.not_mem_nil

theorem call_rims {κ : Str} {lo hi : Int} {t : Tok} (F : Fr h₀ L s.heap m) (X : (hd.heap_1 w.params).In h₀) (T : TopRead p loose mg mb h₀) (N : News h₀ L s.heap news) (hκ : (κ, lo, hi) ∈ kinds) (hdp : dp + 2 < recursionLimit) (hu : un + 40 < cLine)
    (ret : ∀ a t1 t2 h' tk', Fr h₀ L h' m → News h₀ L h' ((a, tupO #[.int lo t1, .int hi t2]) :: news) → (∀ q ∈ news, @Ne Nat q.1 a) → Q (.ref a) { s with heap := h', toks := tk' }) :
    wpAny (model prog w) (AA dp un fr gd) (call (.ref 290) [.str κ t]) Q E s :=
  rims_ hκ (X.keeps F.keep) (T.keeps F.keep) hdp hu fun a t1 t2 h' tk' k e n => ret a t1 t2 h' tk' (Kp.frame F k) (News.cons F N k e n) (ne_new N n)

theorem call_one {l : Addr} {x y : Int} {t1 t2 : Tok} {n n0 : Nat} {its : Array Value} (F : Fr h₀ L s.heap m) (X : (hd.heap_1 w.params).In h₀) (T : TopRead p loose mg mb h₀) (N : News h₀ L s.heap news)
    (U : UpdF src (listOf #[.int x t1, .int y t2] n) news g) (hl : (l, listOf its n0) ∈ news) (hne : src ≠ l) (h0 : 0 < its.size) (h1 : its.size < 100) (hx : 0 ≤ x) (hy : 0 ≤ y) (hy2 : y < 2147483647) (hdp : dp + 2 < recursionLimit) (hu : un + 40 < cLine)
    (ret : ∀ (r : Nat) (hr : r < its.size) x' y' t1' t2' n' h' tk', Fr h₀ L h' m → News h₀ L h' (g (listOf #[.int x' t1', .int y' t2'] n')) → 0 ≤ x' → 0 ≤ y' → y' < 2147483647 → Q (its[r]) { s with heap := h', toks := tk' }) :
    wpAny (model prog w) (AA dp un fr gd) (call (.ref 276) [.ref src, .ref l]) Q E s := by
  have hm := N _ (UpdF.mem U)
  have hn : ∀ a ∈ [src], h₀.get? a = none := fun a ha => by rw [List.mem_singleton.mp ha]; exact hm.2.2
  have hL : L ∉ [src] := fun q => hm.2.1 (List.mem_singleton.mp q).symm
  have X' : (hd.heap_1 w.params).In (hideAll s.heap [src]) := fun b o e => hid F hn b o (X b o e)
  have T' : TopRead p loose mg mb (hideAll s.heap [src]) := T.keeps (hid F hn)
  have hl' : (hideAll s.heap [src]).IsList l its := ⟨_, hideAll_get _ (N _ hl).1 (fun q => hne (List.mem_singleton.mp q).symm), rfl, n0, rfl⟩
  exact one_ X' T' hdp hu hm.1 hx hy hy2 hl' h0 h1 fun r hr x' y' t1' t2' h' tk' n' k e a b c => ret r hr _ _ _ _ _ _ _ (Fr.after F k hn hL) (News.turn N U k e) a b c
theorem reg14 : True := by
  (k_with "call ref" => ((k_here; (with_reducible show wpAny _ _ (call (Value.ref 290) [Value.str _ _]) _ _ _); (k_dflt (refine' call_rims ?F_q35 ?X_q35 ?T_q35 ?N_q35 ?hκ_q35 ?hdp_q35 ?hu_q35 ?_; (case F_q35 => k_asm); (case X_q35 => k_asm); (case T_q35 => k_asm); (case N_q35 => k_asm); (case hκ_q35 => assumption); (case hdp_q35 => walk_at "M lt"); (case hu_q35 => walk_at "M lt"); k_whole)); intro a9 t9 t8 h' tk' F' N' ne9)))
  (k_with "M one" => ((k_dflt (refine' call_one ?F_q36 ?X_q36 ?T_q36 ?N_q36 ?U_q36 ?hl_q36 ?hne_q36 ?h0_q36 ?h1_q36 ?hx_q36 ?hy_q36 ?hy2_q36 ?hdp_q36 ?hu_q36 ?_; (case F_q36 => k_asm); (case X_q36 => k_asm); (case T_q36 => k_asm); (case N_q36 => k_asm); (case U_q36 => k_updF); (case hl_q36 => k_mem); (case hne_q36 => k_ne); (case h0_q36 => (simp only [List.size_toArray, List.length_cons, List.length_nil]; omega)); (case h1_q36 => (simp only [List.size_toArray, List.length_cons, List.length_nil]; omega)); (case hx_q36 => walk_at "M lt"); (case hy_q36 => walk_at "M lt"); (case hy2_q36 => walk_at "M lt"); (case hdp_q36 => walk_at "M lt"); (case hu_q36 => walk_at "M lt"); k_whole))))
  exact True.intro
/-- the list of the nine kinds, as a list of values -/
theorem kind_of {its : Array Value} {r : Nat} (hr : r < its.size) (h : ∀ v ∈ its.toList, ∃ e ∈ kinds, ∃ t, v = .str e.1 t) : ∃ κ lo hi t, (κ, lo, hi) ∈ kinds ∧ its[r] = .str κ t := by
  obtain ⟨⟨κ, lo, hi⟩, hm, t, e⟩ := h its[r] (by simp)
  exact ⟨κ, lo, hi, t, hm, e⟩
theorem int_of {its : Array Value} {r : Nat} (hr : r < its.size) {lo hi : Int} (h : ∀ v ∈ its.toList, ∃ z t, v = .int z t ∧ lo - 1 ≤ z ∧ z ≤ hi + 1) : ∃ z t, its[r] = .int z t ∧ lo - 1 ≤ z ∧ z ≤ hi + 1 :=
  h its[r] (by simp)
theorem in_rims {lo hi : Int} (h : lo ≤ hi) : lo - 1 ≤ lo ∧ lo ≤ hi + 1 ∧ lo - 1 ≤ hi ∧ hi ≤ hi + 1 ∧ lo - 1 ≤ lo - 1 ∧ lo - 1 ≤ hi + 1 ∧ lo - 1 ≤ hi + 1 ∧ hi + 1 ≤ hi + 1 := by omega
theorem kinds_le {κ : Str} {lo hi : Int} (h : (κ, lo, hi) ∈ kinds) : lo ≤ hi ∧ -9223372036854775808 ≤ lo ∧ hi ≤ 18446744073709551615 := by
  simp only [kinds, List.mem_cons, List.not_mem_nil, or_false, Prod.mk.injEq] at h
  rcases h with ⟨_, rfl, rfl⟩ | ⟨_, rfl, rfl⟩ | ⟨_, rfl, rfl⟩ | ⟨_, rfl, rfl⟩ | ⟨_, rfl, rfl⟩ | ⟨_, rfl, rfl⟩ | ⟨_, rfl, rfl⟩ | ⟨_, rfl, rfl⟩ | ⟨_, rfl, rfl⟩ <;> decide

theorem number_ {x y : Int} {t1 t2 : Tok} {n : Nat}
   (X : (hd.heap_1 w.params).In (hideAll s.heap [src])) (T : TopRead p loose mg mb (hideAll s.heap [src])) (hdp : dp + 5 < recursionLimit) (hu : un + 60 < cLine)
    (hs : s.heap.get? src = some (listOf #[.int x t1, .int y t2] n)) (hx : 0 ≤ x) (hy : 0 ≤ y) (hy2 : y < 2147483647)
    (hret : ∀ κ lo hi z a b t3 t4 t5 mv x' y' t1' t2' h' tk' n', (κ, lo, hi) ∈ kinds → lo - 1 ≤ z → z ≤ hi + 1 → Kp [src] s.heap h' → h'.get? src = some (listOf #[.int x' t1', .int y' t2'] n') → 0 ≤ x' → 0 ≤ y' → y' < 2147483647 →
      h'.get? b = some (tupO #[.ref a, .int z t3, mv]) → h'.get? a = some (tupO #[.str "int" t4, .str κ t5]) → (lo ≤ z ∧ z ≤ hi ∧ mv = .int z t3 ∨ ¬ (lo ≤ z ∧ z ≤ hi) ∧ mv = .none) → s.heap.get? b = none → s.heap.get? a = none → Q (.ref b) { s with heap := h', toks := tk' }) :
    wpAny (model prog w) (AA dp un fr gd) (call (.ref 304) [.ref src]) Q E s := by
  have T' : TopRead p loose mg mb s.heap := T.keeps fun b o e => of_hideAll _ e
  refine wpAny_call ?_
  k_dflt (refine' enterP (binds := [("source", .ref src)]) [src] (fun b o e => of_hideAll _ (X b o e)) ?k2 ?k3 ?k6 ?k7 ?k9 ?kB ?_ ?c2 ?c3 ?c4 ?c5)
  walk_at "M enter"
  clear T'
  intro L h₁ hL F hk
  have N := news_one (as := [src]) (.head _) hL hs hk
  clear hk
  try dsimp only
  try k_fold
  walk_at "M steps"
  walk_at "M one"
  intro r9 hr9 x9 y9 t9 t8 n9 h9 tk9 F9 N9 c1 c2 c3
  obtain ⟨κ, lo, hi, tκ, hκ, eκ⟩ := kind_of hr9 (by
    intro v hv
    simp only [List.mem_cons, List.not_mem_nil, or_false] at hv
    rcases hv with rfl | rfl | rfl | rfl | rfl | rfl | rfl | rfl | rfl
    all_goals first
      | exact ⟨("i8", -128, 127), by decide, _, rfl⟩
      | exact ⟨("i16", -32768, 32767), by decide, _, rfl⟩
      | exact ⟨("i32", -2147483648, 2147483647), by decide, _, rfl⟩
      | exact ⟨("i64", -9223372036854775808, 9223372036854775807), by decide, _, rfl⟩
      | exact ⟨("u8", 0, 255), by decide, _, rfl⟩
      | exact ⟨("u16", 0, 65535), by decide, _, rfl⟩
      | exact ⟨("u32", 0, 4294967295), by decide, _, rfl⟩
      | exact ⟨("u64", 0, 18446744073709551615), by decide, _, rfl⟩
      | exact ⟨("usize", 0, 18446744073709551615), by decide, _, rfl⟩)
  rw [eκ]
  clear eκ
  obtain ⟨l1, l2, l3⟩ := kinds_le hκ
  try dsimp only at N9 ⊢
  walk_at "M steps"
  walk_at "M one"
  intro r8 hr8 x8 y8 t9 t8 n8 h8 tk8 F8 N8 d1 d2 d3
  have a1 := in_rims l1
  obtain ⟨z, tz, ez, z1, z2⟩ := int_of hr8 (lo := lo) (hi := hi) (by
    intro v hv
    simp only [List.mem_cons, List.not_mem_nil, or_false] at hv
    rcases hv with rfl | rfl | rfl | rfl | rfl | rfl
    all_goals first | exact ⟨_, _, rfl, a1.1, a1.2.1⟩ | exact ⟨_, _, rfl, a1.2.2.1, a1.2.2.2.1⟩ | exact ⟨_, _, rfl, a1.2.2.2.2.1, a1.2.2.2.2.2.1⟩ | exact ⟨_, _, rfl, a1.2.2.2.2.2.2.1, a1.2.2.2.2.2.2.2⟩)
  clear a1
  rw [ez]
  clear ez
  try dsimp only at N8 ⊢
  walk_at "M steps"
  · exact hret κ lo hi z _ _ _ _ _ _ _ _ _ _ _ _ _ hκ z1 z2 (Kp.of_fr (by assumption)) (News.get (by assumption) (by k_mem)) d1 d2 d3 (News.get (by assumption) (.head _)) (News.get (by assumption) (.tail _ (.head _))) (.inl ⟨by assumption, by assumption, rfl⟩) (fresh_h (News.fresh (h₀ := hideAll s.heap [src]) (by assumption) (.head _)) (by k_ne)) (fresh_h (News.fresh (h₀ := hideAll s.heap [src]) (by assumption) (.tail _ (.head _))) (by k_ne))
  all_goals exact hret κ lo hi z _ _ _ _ _ _ _ _ _ _ _ _ _ hκ z1 z2 (Kp.of_fr (by assumption)) (News.get (by assumption) (by k_mem)) d1 d2 d3 (News.get (by assumption) (.head _)) (News.get (by assumption) (.tail _ (.head _))) (.inr ⟨by omega, rfl⟩) (fresh_h (News.fresh (h₀ := hideAll s.heap [src]) (by assumption) (.head _)) (by k_ne)) (fresh_h (News.fresh (h₀ := hideAll s.heap [src]) (by assumption) (.tail _ (.head _))) (by k_ne))
end

/-- v lies in h as the datum d: tuples, lists, ints, texts, None, at any depth -/
def HD (h : Heap) (v : Value) (d : PyData) : Prop := ∃ as, Reads h v d as
def HDs (h : Heap) (vs : List Value) (ds : List PyData) : Prop := ∃ as, ReadsAll h vs ds as
theorem HD.none {h : Heap} : HD h .none .none := ⟨_, .none⟩
theorem HD.int {h : Heap} {i : Int} {t : Tok} : HD h (.int i t) (.int i) := ⟨_, .int i t⟩
theorem HD.str {h : Heap} {x : Str} {t : Tok} : HD h (.str x t) (.str x) := ⟨_, .str x t⟩
theorem HD.bool {h : Heap} {b : Bool} : HD h (.bool b) (.bool b) := ⟨_, .bool b⟩
theorem HDs.nil {h : Heap} : HDs h [] [] := ⟨_, .nil⟩
theorem HDs.cons {h : Heap} {v : Value} {d : PyData} {vs : List Value} {ds : List PyData} (x : HD h v d) (y : HDs h vs ds) : HDs h (v :: vs) (d :: ds) := by
  obtain ⟨as, x⟩ := x
  obtain ⟨bs, y⟩ := y
  exact ⟨_, .cons x y⟩
theorem HD.tuple {h : Heap} {a : Addr} {o : Obj} {l : List Value} {n : Nat} {ds : List PyData} (e : h.get? a = some o) (hc : o.cls = .type "tuple") (hd' : o.data = .seq l.toArray n) (x : HDs h l ds) : HD h (.ref a) (.tuple ds) := by
  obtain ⟨as, x⟩ := x
  exact ⟨_, .tuple e hc hd' (by simpa using x)⟩
theorem HD.list {h : Heap} {a : Addr} {o : Obj} {l : List Value} {n : Nat} {ds : List PyData} (e : h.get? a = some o) (hc : o.cls = .type "list") (hd' : o.data = .seq l.toArray n) (x : HDs h l ds) : HD h (.ref a) (.list ds) := by
  obtain ⟨as, x⟩ := x
  exact ⟨_, .list e hc hd' (by simpa using x)⟩
theorem HD.keeps {h h' : Heap} {v : Value} {d : PyData} (x : HD h v d) (k : ∀ b o, h.get? b = some o → h'.get? b = some o) : HD h' v d := let ⟨as, x⟩ := x; ⟨as, Reads.keeps k x⟩
theorem HDs.keeps {h h' : Heap} {v : List Value} {d : List PyData} (x : HDs h v d) (k : ∀ b o, h.get? b = some o → h'.get? b = some o) : HDs h' v d := let ⟨as, x⟩ := x; ⟨as, ReadsAll.keeps k x⟩
theorem HD.inv_tuple {h : Heap} {v : Value} {ds : List PyData} (x : HD h v (.tuple ds)) : ∃ a l, v = .ref a ∧ IsTup h a (List.toArray l) ∧ HDs h l ds := by
  obtain ⟨as, x⟩ := x
  cases x with
  | tuple e hc hd' r => exact ⟨_, _, rfl, ⟨_, e, hc, _, by simpa using hd'⟩, ⟨_, r⟩⟩
theorem HD.inv_list {h : Heap} {v : Value} {ds : List PyData} (x : HD h v (.list ds)) : ∃ a o l n, v = .ref a ∧ h.get? a = some o ∧ o.cls = .type "list" ∧ o.data = .seq (List.toArray l) n ∧ HDs h l ds := by
  obtain ⟨as, x⟩ := x
  cases x with
  | list e hc hd' r => exact ⟨_, _, _, _, rfl, e, hc, by simpa using hd', ⟨_, r⟩⟩
theorem HD.inv_int {h : Heap} {v : Value} {i : Int} (x : HD h v (.int i)) : ∃ t, v = .int i t := by
  obtain ⟨as, x⟩ := x
  cases x; exact ⟨_, rfl⟩
theorem HD.inv_str {h : Heap} {v : Value} {i : Str} (x : HD h v (.str i)) : ∃ t, v = .str i t := by
  obtain ⟨as, x⟩ := x
  cases x; exact ⟨_, rfl⟩
theorem HD.inv_none {h : Heap} {v : Value} (x : HD h v .none) : v = .none := by
  obtain ⟨as, x⟩ := x
  cases x; rfl
theorem HDs.inv_nil {h : Heap} {l : List Value} (x : HDs h l []) : l = [] := by
  obtain ⟨as, x⟩ := x
  cases x; rfl
theorem HDs.inv_cons {h : Heap} {l : List Value} {d : PyData} {ds : List PyData} (x : HDs h l (d :: ds)) : ∃ v r, l = v :: r ∧ HD h v d ∧ HDs h r ds := by
  obtain ⟨as, x⟩ := x
  cases x with
  | cons x y => exact ⟨_, _, rfl, ⟨_, x⟩, ⟨_, y⟩⟩

/-- the four layers -/
inductive Way where
  | box | tup | arr | adt
def Way.num : Way → Int
  | .box => 0 | .tup => 1 | .arr => 2 | .adt => 3
theorem way_of {k : Int} (h0 : 0 ≤ k) (h1 : k < 4) : ∃ w : Way, k = w.num := by
  have : k = 0 ∨ k = 1 ∨ k = 2 ∨ k = 3 := by omega
  rcases this with rfl | rfl | rfl | rfl
  · exact ⟨.box, rfl⟩
  · exact ⟨.tup, rfl⟩
  · exact ⟨.arr, rfl⟩
  · exact ⟨.adt, rfl⟩
abbrev byteT : PyData := .tuple [.str "int", .str "u8"]
def wT : Way → PyData → PyData
  | .box, T => .tuple [.str "box", T]
  | .tup, T => .tuple [.str "tuple", .tuple [T, byteT]]
  | .arr, T => .tuple [.str "array", T, .int 1]
  | .adt, T => .tuple [.str "adt", .str "P", .tuple [], .tuple [byteT, T]]
def wItems : Way → PyData → List PyData
  | .box, t => [.str "box", t]
  | .tup, t => [t, .int 7]
  | .arr, t => [t]
  | .adt, t => [.int 0, .tuple [t, .int 7]]
def wTold (b : Bool) (w : Way) (t : PyData) : PyData := if b then .list (wItems w t) else .tuple (wItems w t)
def wMade : Way → PyData → PyData
  | .box, m => .tuple [.str "box", m]
  | .tup, m => .tuple [.str "fields", .tuple [m, .int 7]]
  | .arr, m => .tuple [.str "fields", .tuple [m]]
  | .adt, m => .tuple [.str "variant", .int 0, .tuple [m, .int 7]]

theorem kp0 {h h' : Heap} (k : Kp [] h h') : ∀ b o, h.get? b = some o → h'.get? b = some o := fun b o e => k b o e List.not_mem_nil
theorem HD.base {h h' : Heap} {L : Addr} {m : Str → Option Value} {v : Value} {d : PyData} (x : HD h v d) (F : Fr (hideAll h []) L h' m) : HD h' v d := x.keeps F.keep
theorem HD.fr {h h' : Heap} {L : Addr} {m : Str → Option Value} {v : Value} {d : PyData} (x : HD h v d) (F : Fr h L h' m) : HD h' v d := x.keeps F.keep
local macro_rules | `(tactic| walk_at "M hd") => `(tactic| first
  | exact HD.str
  | exact HD.int
  | exact HD.none
  | exact HD.bool
  | assumption
  | exact HD.base (by assumption) (by assumption)
  | exact HD.fr (by assumption) (by assumption)
  | exact HDs.nil
  | (refine' HDs.cons ?a ?b; (case a => walk_at "M hd"); (case b => walk_at "M hd"))
  | (refine' HD.tuple (News.get (by assumption) (by k_mem)) ?a ?b ?c; (case a => exact rfl); (case b => exact rfl); (case c => walk_at "M hd"))
  | (refine' HD.list (News.get (by assumption) (by k_mem)) ?a ?b ?c; (case a => exact rfl); (case b => exact rfl); (case c => walk_at "M hd")))

theorem allIn_get {H : Heap} {news : List (Addr × Obj)} {a : Addr} {o : Obj} (r : ∀ q ∈ news, H.get? q.1 = some q.2) (hm : (a, o) ∈ news) : H.get? a = some o := r _ hm
local macro_rules | `(tactic| walk_at "M hr") => `(tactic| first
  | assumption
  | exact HD.none | exact HD.int | exact HD.str | exact HD.bool | exact HDs.nil
  | (refine' HDs.cons ?a ?b; (case a => walk_at "M hr"); (case b => walk_at "M hr"))
  | (refine' HD.tuple (allIn_get (by assumption) (by k_mem)) ?a ?b ?c; (case a => exact rfl); (case b => exact rfl); (case c => walk_at "M hr"))
  | (refine' HD.list (allIn_get (by assumption) (by k_mem)) ?a ?b ?c; (case a => exact rfl); (case b => exact rfl); (case c => walk_at "M hr")))
section
variable {prog : Program} {w : World} {p : Program} {loose : List Str} {mg mb : Str → Option Value} {dp un : Nat} {fr : Option (List Env)} {gd : Option (List Code)} {s : Shared} {h₀ h h' : Heap} {L : Addr} {m : Str → Option Value} {news : List (Addr × Obj)} {Q E : Value → Shared → Prop}
theorem byte_ (X : (hd.heap_1 w.params).In s.heap) (T : TopRead p loose mg mb s.heap) (hdp : dp + 2 < recursionLimit) (hu : un + 40 < cLine)
    (hret : ∀ a t1 t2 h' tk', Kp [] s.heap h' → h'.get? a = some (tupO #[.str "int" t1, .str "u8" t2]) → s.heap.get? a = none → Q (.ref a) { s with heap := h', toks := tk' }) :
    wpAny (model prog w) (AA dp un fr gd) (call (.ref 283) []) Q E s := by
  refine wpAny_call ?_
  k_dflt (refine' enterP (binds := []) [] X ?k2 ?k3 ?k6 ?k7 ?k9 ?kB ?_ ?c2 ?c3 ?c4 ?c5)
  walk_at "M enter"
  intro L h₁ hL F hk
  clear hk
  have X₀ : (hd.heap_1 w.params).In (hideAll s.heap []) := X
  have T₀ : TopRead p loose mg mb (hideAll s.heap []) := T
  have N : News (hideAll s.heap []) L h₁ [] := News.nil
  clear X T
  try dsimp only
  try k_fold
  walk_at "M steps"
  all_goals exact hret _ _ _ _ _ (Kp.of_fr (by assumption)) (News.get (by assumption) (.head _)) (News.fresh (h₀ := hideAll s.heap []) (by assumption) (.head _))
theorem call_byte (F : Fr h₀ L s.heap m) (X : (hd.heap_1 w.params).In h₀) (T : TopRead p loose mg mb h₀) (N : News h₀ L s.heap news) (hdp : dp + 2 < recursionLimit) (hu : un + 40 < cLine)
    (ret : ∀ a t1 t2 h' tk', Fr h₀ L h' m → News h₀ L h' ((a, tupO #[.str "int" t1, .str "u8" t2]) :: news) → (∀ q ∈ news, @Ne Nat q.1 a) → Q (.ref a) { s with heap := h', toks := tk' }) :
    wpAny (model prog w) (AA dp un fr gd) (call (.ref 283) []) Q E s :=
  byte_ (X.keeps F.keep) (T.keeps F.keep) hdp hu fun a t1 t2 h' tk' k e n => ret a t1 t2 h' tk' (Kp.frame F k) (News.cons F N k e n) (ne_new N n)
theorem reg17 : True := by
  (k_with "call ref" => ((k_here; (with_reducible show wpAny _ _ (call (Value.ref 283) _) _ _ _); (k_dflt (refine' call_byte ?F_q37 ?X_q37 ?T_q37 ?N_q37 ?hdp_q37 ?hu_q37 ?_; (case F_q37 => k_asm); (case X_q37 => k_asm); (case T_q37 => k_asm); (case N_q37 => k_asm); (case hdp_q37 => walk_at "M lt"); (case hu_q37 => walk_at "M lt"); k_whole)); intro a9 t9 t8 h' tk' F' N' ne9)))
  exact True.intro
end
theorem News.dup1 {B h : Heap} {L : Addr} {news : List (Addr × Obj)} {q : Addr × Obj} (N : News B L h news) (hq : q ∈ news) : News B L h (q :: news) := fun p hp => by
  rcases List.mem_cons.mp hp with rfl | hp
  · exact N _ hq
  · exact N _ hp
abbrev layM (a : Addr) (vm : Value) (b : Bool) (m0 : Str → Option Value) : Str → Option Value := fun y => if y = Str.ofString "whole" then some (.ref a) else if y = Str.ofString "made" then some vm else if y = Str.ofString "is_list" then some (.bool b) else m0 y
theorem lay_norm {B h : Heap} {L a : Addr} {vm : Value} {b : Bool} {m : Str → Option Value} (F : Fr B L h m) (h1 : m (Str.ofString "whole") = some (.ref a)) (h2 : m (Str.ofString "made") = some vm) (h3 : m (Str.ofString "is_list") = some (.bool b)) : Fr B L h (layM a vm b m) := by
  have e : m = layM a vm b m := by
    funext y
    show m y = if y = Str.ofString "whole" then some (.ref a) else if y = Str.ofString "made" then some vm else if y = Str.ofString "is_list" then some (.bool b) else m y
    by_cases q1 : y = Str.ofString "whole"
    · rw [if_pos q1, q1, h1]
    · rw [if_neg q1]
      by_cases q2 : y = Str.ofString "made"
      · rw [if_pos q2, q2, h2]
      · rw [if_neg q2]
        by_cases q3 : y = Str.ofString "is_list"
        · rw [if_pos q3, q3, h3]
        · rw [if_neg q3]
  rw [← e]
  exact F
/-- what stands when the whole of a layer is built -/
inductive LayP (way : Way) (s : Shared) (h₀ : Heap) (L : Addr) (vT vt vm : Value) (b : Bool) (dT dt dm : PyData) : Shared → Prop
  | mk {h : Heap} {tk : Nat} {m0 : Str → Option Value} {news : List (Addr × Obj)} {a ia im : Addr} {vT' : Value} {its : List Value} (F : Fr h₀ L h (layM a vm b m0)) (N : News h₀ L h news)
    (ma : (a, tupO #[vT', .ref ia, .ref im]) ∈ news) (mi : (ia, tupO its.toArray) ∈ news) (hz : its.length ≤ sizeLine)
    (D : ∀ H : Heap, (∀ q ∈ news, H.get? q.1 = some q.2) → HD H vT dT → HD H vt dt → HD H vT' (wT way dT) ∧ HDs H its (wItems way dt) ∧ (HD H vm dm → HD H (.ref im) (wMade way dm))) : LayP way s h₀ L vT vt vm b dT dt dm { s with heap := h, toks := tk }
theorem reg18 : True := by
  (k_with "execs cons If" => (((rename StopMark => mk9); clear mk9; refine stopAt ?_)))
  exact True.intro
section
variable {prog : Program} {w : World} {p : Program} {loose : List Str} {mg mb : Str → Option Value} {dp un : Nat} {fr : Option (List Env)} {gd : Option (List Code)} {s : Shared} {h₀ h h' : Heap} {L : Addr} {m : Str → Option Value} {news : List (Addr × Obj)} {Q E : Value → Shared → Prop}
theorem layer_ {way : Way} {pa : Addr} {vT vt vm : Value} {tw : Tok} {b : Bool} {dT dt dm : PyData} {gm : Bool}
   (X : (hd.heap_1 w.params).In s.heap) (T : TopRead p loose mg mb s.heap) (hdp : dp + 5 < recursionLimit) (hu : un + 60 < cLine)
    (hp : IsTup s.heap pa #[vT, vt, vm]) (hpv : PySem.plainIs vm .none = true) (hg : isNone vm = gm)
    (hret : ∀ a vT' vt' vm' h' tk' (rest : List (Addr × Obj)), Kp [] s.heap h' → (∀ q ∈ rest, h'.get? q.1 = some q.2 ∧ s.heap.get? q.1 = none) → (a, tupO #[vT', vt', vm']) ∈ rest → isNone vm' = (gm || b) → PySem.plainIs vm' .none = true →
      (∀ H : Heap, (∀ q ∈ rest, H.get? q.1 = some q.2) → HD H vT dT → HD H vt dt → (gm = false → HD H vm dm) → HD H vT' (wT way dT) ∧ HD H vt' (wTold b way dt) ∧ ((gm || b) = false → HD H vm' (wMade way dm))) → Q (.ref a) { s with heap := h', toks := tk' }) :
    wpAny (model prog w) (AA dp un fr gd) (call (.ref 311) [.int way.num tw, .ref pa, .bool b]) Q E s := by
  refine wpAny_call ?_
  k_dflt (refine' enterP (binds := [("way", .int way.num tw), ("part", .ref pa), ("is_list", .bool b)]) [] X ?k2 ?k3 ?k6 ?k7 ?k9 ?kB ?_ ?c2 ?c3 ?c4 ?c5)
  walk_at "M enter"
  intro L h₁ hL F hk
  clear hk
  have X₀ : (hd.heap_1 w.params).In (hideAll s.heap []) := X
  have T₀ : TopRead p loose mg mb (hideAll s.heap []) := T
  have N : News (hideAll s.heap []) L h₁ [] := News.nil
  have hp₀ : IsTup (hideAll s.heap []) pa #[vT, vt, vm] := hp
  clear X T
  have sm := StopMark.mk
  try dsimp only
  try k_fold
  walk_at "M steps"
  refine execs_join (P := LayP way s (hideAll s.heap []) L vT vt vm b dT dt dm) (fun s' hP => ?_) ?_
  · obtain ⟨F, N, ma, mi, hz, D⟩ := hP
    rename_i h2 tk2 m0 news a ia im vT' its
    have N1 := News.dup1 (News.dup1 N mi) (.tail _ ma)
    clear N
    walk_at "M steps"
    all_goals (first | (have hb : b = true := by assumption
                        subst hb) | (have hb : b = false := by assumption
                                     subst hb))
    all_goals (first | (have hb : gm = true := by assumption
                        subst hb) | (have hb : gm = false := by assumption
                                     subst hb))
    all_goals
      rename Fr _ _ _ _ => FN
      rename News _ _ _ _ => NN
      refine hret _ _ _ _ _ _ _ (Kp.of_fr FN) (fun q hq => ⟨(NN q hq).1, (NN q hq).2.2⟩) (.head _) rfl ?_ (fun H r hT ht hm => ?_)
    all_goals (first | assumption | exact rfl | skip)
    all_goals
      have D' := D H (fun q hq => r q (by walk_at "M sub")) hT ht
      have d2 := D'.2.1
      refine ⟨D'.1, ?_, ?_⟩
    all_goals (first | (with_reducible exact (fun _ => D'.2.2 (hm rfl))) | (intro e; exact absurd e (by decide)) | (walk_at "M hr"; done))
  · clear hret
    cases way
    all_goals (try dsimp only [Way.num])
    all_goals walk_at "M steps"
    all_goals
      rename Fr _ _ _ _ => FN
      rename News _ _ _ _ => NN
      refine JoinP.mk (LayP.mk (lay_norm FN rfl rfl rfl) NN (by k_mem) (by k_mem) (Nat.le_of_ble_eq_true rfl) (fun H r hT ht => ⟨?_, ?_, fun hm => ?_⟩))
    all_goals (dsimp only [wT, wItems, wMade]; walk_at "M hr")
end

section
variable {prog : Program} {w : World} {A : Around} {s : Shared} {h₀ : Heap} {L : Addr} {m mg mb : Str → Option Value} {news : List (Addr × Obj)} {K : Frag} {p : Program} {loose : List Str}
  {R : Result → Shared → Prop} {name qual : Str} {params : Arguments} {body : List Stmt} {scope : Scope} {dV kV doc pm cdv ct oc : Value} {an od : Option Addr} {osl : Array (Option Value)} {f : Addr} {args : Args} {binds : List (Str × Value)}
theorem groundN (F : Fr h₀ L s.heap m) (N : News h₀ L s.heap news) :
    Fr h₀ L (hideAll s.heap (news.map (·.1))) m ∧ h₀.StaysIn (hideAll s.heap (news.map (·.1))) ∧
      ∀ v s', LeaveK h₀ L m (hideAll s.heap (news.map (·.1))) R v s' → R (.ok (.ret v)) s' := by
  have nm : ∀ b o, h₀.get? b = some o → b ∉ news.map (·.1) := fun b o e q => by
    obtain ⟨p, hp, rfl⟩ := List.mem_map.mp q
    rw [(N p hp).2.2] at e; cases e
  have st : h₀.StaysIn (hideAll s.heap (news.map (·.1))) := fun b o e => hideAll_get _ (F.keep b o e) (nm b o e)
  obtain ⟨oL, es, ep, hL, hLd, hLk, hLf⟩ := F.ns
  have nL : L ∉ news.map (·.1) := fun q => by
    obtain ⟨p, hp, e⟩ := List.mem_map.mp q
    exact (N p hp).2.1 e
  have hLg := hideAll_get (news.map (·.1)) hL nL
  refine ⟨⟨⟨oL, es, ep, hLg, hLd, hLk, hLf⟩, st, F.above⟩, st, fun v s' hl => ?_⟩
  obtain ⟨L', m', news', F', N', k⟩ := hl
  refine k ⟨⟨oL, es, ep, F'.keep L oL hLg, hLd, hLk, hLf⟩, fun b o e => F'.keep b o (st b o e), F.above⟩ fun p hp => ⟨(N' p hp).1, fun q => ?_, ?_⟩
  · have := (N' p hp).2.2; rw [q, hLg] at this; cases this
  · cases q : h₀.get? p.1 with
    | none => rfl
    | some o => have := (N' p hp).2.2; rw [st _ _ q] at this; cases this
theorem enterN (F : Fr h₀ L s.heap m) (X₀ : K.In h₀) (N : News h₀ L s.heap news) (T : TopRead p loose mg mb h₀)
    (ho : K.lookup f = some ⟨oc, od, .func (fnOf name qual params body scope dV kV doc pm an cdv ct), osl⟩) (hcd : codeIn K cdv qual = true) (hroom : A.depth < recursionLimit)
    (hbind : BindsTo s (fnOf name qual params body scope dV kV doc pm an cdv ct) args binds) (hloc : ∀ y ∈ binds, scope.names.lookup y.1 = some .local)
    (h : ∀ g L' h₁, Fr h₀ L g m → Fr g L' h₁ (fun y => binds.reverse.lookup y) → News g L' h₁ news → K.In g → TopRead p loose mg mb g →
      wpAny (model prog w) (A.deeper (envOf qual scope L' f cdv)) (execs body (envOf qual scope L' f cdv))
        (fun fl s' => LeaveK h₀ L m g R (match fl with | .ret v => v | _ => .none) s')
        (fun e s' => wpAny (model prog w) (A.deeper (envOf qual scope L' f cdv)) (leaving (envOf qual scope L' f cdv) e) (fun _ s'' => R (.error e) s'') (fun e' s'' => R (.error e') s'') s')
        { s with heap := h₁, toks := s.toks + binds.length })
    (hco : scope.isCoroutine = false) (hgen : scope.isGenerator = false) (hk : scope.kind = .function)
    (hcell : ∀ x ∈ scope.names, x.2 ≠ .cell) : codeAny (model prog w) A (.call (.ref f) args) R s := by
  obtain ⟨FG, st, lv⟩ := groundN (R := R) F N
  refine codeAny_call_def (fd := fnOf name qual params body scope dV kV doc pm an cdv ct) (body := body) (binds := binds) hroom ((X₀.keeps F.keep) _ _ ho) rfl (T.nolimit.keeps F.keep) (codeRec_of (X₀.keeps F.keep) hcd) rfl hbind hcell hloc (fun h₁ hns hk₁ => ?_) hco hgen hk
  exact wpAny_mono (h _ s.heap.objs.size h₁ FG ⟨hns, fun b o e => hk₁ b o (of_hideAll _ e), Nat.le_of_eq (hideAll_size _ _)⟩
    (fun p hp => ⟨hk₁ _ _ (N p hp).1, Nat.ne_of_lt (Heap.lt_size (N p hp).1), hideAll_none _ (List.mem_map_of_mem hp)⟩) (X₀.keeps st) (T.keeps st)) (fun fl s' hl => lv _ _ hl) fun _ _ y => y
end
theorem reg19 : True := by
  (k_with "M room" => (((try simp only [depth_deeper, depth_under_kw, depth_in1]); (try dsimp only [AA]); omega)))
  (k_with "M in" => ((refine' enterN ?F_q40 ?X_q40 ?N_q40 ?T_q40 ?k6_q40 ?k7_q40 ?k8_q40 ?k9_q40 ?kB_q40 ?_ ?c2_q40 ?c3_q40 ?c4_q40 ?c5_q40; (case F_q40 => k_asm); (case X_q40 => k_asm); (case N_q40 => k_asm); (case T_q40 => k_asm); (case k6_q40 => k_is); (case k7_q40 => k_is); (case k8_q40 => walk_at "M room"); (case k9_q40 => first | exact BindsTo.of_eq rfl | exact binds_K (by k_in) rfl (by k_is) rfl rfl rfl); (case kB_q40 => exact locs rfl); (case c2_q40 => exact rfl); (case c3_q40 => exact rfl); (case c4_q40 => exact rfl); (case c5_q40 => decide); k_whole; intro g' L' h' FG' F' N' X' T'; (try dsimp only); (try k_fold))))
  (k_with "M make" => ((k_dflt (refine' call_cls ?k1_q41 ?k2_q41 ?k3_q41 ?k4_q41 ?k5_q41 ?k6_q41 ?_; (case k1_q41 => k_asm); (case k2_q41 => k_asm); (case k3_q41 => k_asm); (case k4_q41 => k_is); (case k5_q41 => k_is); (case k6_q41 => k_is); k_whole; intro x' d' h' F' N' l1 l2; (try k_lt l1); (try k_lt2 l2); (try k_sweep); walk_at "M in"))))
  (k_with "call ref" => ((k_here; (with_reducible show wpAny _ _ (call (Value.ref 251) _) _ _ _); walk_at "M make")))
  (k_with "call ref" => ((k_here; (with_reducible show wpAny _ _ (call (Value.ref 222) _) _ _ _); walk_at "M make")))
  exact True.intro

section
variable {prog : Program} {w : World} {p : Program} {loose : List Str} {mg mb : Str → Option Value} {dp un : Nat} {fr : Option (List Env)} {gd : Option (List Code)} {s : Shared} {h₀ h h' : Heap} {L : Addr} {m : Str → Option Value} {news : List (Addr × Obj)} {Q E : Value → Shared → Prop}
theorem signed_ {κ : Str} {lo hi : Int} {t : Tok} (hκ : (κ, lo, hi) ∈ kinds) (X : (hd.heap_1 w.params).In s.heap) (T : TopRead p loose mg mb s.heap) (hdp : dp + 2 < recursionLimit) (hu : un + 40 < cLine)
    (hret : ∀ h' tk', Kp [] s.heap h' → Q (.bool (decide (lo < 0))) { s with heap := h', toks := tk' }) :
    wpAny (model prog w) (AA dp un fr gd) (call (.ref 69) [.str κ t]) Q E s := by
  by_cases hs : lo < 0
  · rw [decide_eq_true hs] at hret
    refine wpAny_call ?_
    k_dflt (refine' enterP (binds := [("kind", .str κ t)]) [] X ?k2 ?k3 ?k6 ?k7 ?k9 ?kB ?_ ?c2 ?c3 ?c4 ?c5)
    walk_at "M enter"
    intro L h₁ hL F hk
    clear hk
    have X₀ : (hd.heap_1 w.params).In (hideAll s.heap []) := X
    have T₀ : TopRead p loose mg mb (hideAll s.heap []) := T
    have N : News (hideAll s.heap []) L h₁ [] := News.nil
    clear X T
    all_goals (try dsimp only)
    all_goals (try k_fold)
    all_goals walk_at "M steps"
    exact hret _ _ (Kp.of_fr (by assumption))
  · rw [decide_eq_false hs] at hret
    refine wpAny_call ?_
    k_dflt (refine' enterP (binds := [("kind", .str κ t)]) [] X ?k2 ?k3 ?k6 ?k7 ?k9 ?kB ?_ ?c2 ?c3 ?c4 ?c5)
    walk_at "M enter"
    intro L h₁ hL F hk
    clear hk
    have X₀ : (hd.heap_1 w.params).In (hideAll s.heap []) := X
    have T₀ : TopRead p loose mg mb (hideAll s.heap []) := T
    have N : News (hideAll s.heap []) L h₁ [] := News.nil
    clear X T
    all_goals (try dsimp only)
    all_goals (try k_fold)
    all_goals walk_at "M steps"
    exact hret _ _ (Kp.of_fr (by assumption))
theorem call_signed {κ : Str} {lo hi : Int} {t : Tok} (F : Fr h₀ L s.heap m) (X : (hd.heap_1 w.params).In h₀) (T : TopRead p loose mg mb h₀) (N : News h₀ L s.heap news) (hκ : (κ, lo, hi) ∈ kinds) (hdp : dp + 2 < recursionLimit) (hu : un + 40 < cLine)
    (ret : ∀ h' tk', Fr h₀ L h' m → News h₀ L h' news → Q (.bool (decide (lo < 0))) { s with heap := h', toks := tk' }) :
    wpAny (model prog w) (AA dp un fr gd) (call (.ref 69) [.str κ t]) Q E s :=
  signed_ hκ (X.keeps F.keep) (T.keeps F.keep) hdp hu fun h' tk' k => ret h' tk' (Kp.frame F k) fun q hq => ⟨k _ _ (N q hq).1 List.not_mem_nil, (N q hq).2⟩
theorem reg20 : True := by
  (k_with "M kinds" => (first | assumption | (simp only [kinds, List.mem_cons, List.not_mem_nil, or_false, Prod.mk.injEq, true_and, and_self, or_true, true_or]; done) | decide))
  (k_with "call ref" => ((k_here; (with_reducible show wpAny _ _ (call (Value.ref 69) [Value.str _ _]) _ _ _); (k_dflt (refine' call_signed ?F_q45 ?X_q45 ?T_q45 ?N_q45 ?hκ_q45 ?hdp_q45 ?hu_q45 ?_; (case F_q45 => k_asm); (case X_q45 => k_asm); (case T_q45 => k_asm); (case N_q45 => k_asm); (case hκ_q45 => assumption); (case hdp_q45 => walk_at "M lt"); (case hu_q45 => walk_at "M lt"); k_whole)); intro h9 t9 F9 N9)))
  exact True.intro
theorem bits_item {A : Around} {m : Str → Option Value} {L : Addr} {κ x y : Str} {lo hi : Int} {t : Tok} {p1 p2 : Pos} {gs : Array GenState} {dr : Drawn} {tk : Nat} {os : OsState} (F : Fr h₀ L h m) (X : (hd.heap_1 w.params).In h₀) (T : TopRead p loose mg mb h₀) (hκ : (κ, lo, hi) ∈ kinds) (k : ∀ u tk', Q (.int (bitsOf κ) u) ⟨h, gs, dr, tk', os⟩) :
    wpAny (model prog w) A (subscriptTail (.Name x p1) (.Name y p2) (.ref 62) (.str κ t)) Q E ⟨h, gs, dr, tk, os⟩ := by
  simp only [kinds, List.mem_cons, List.not_mem_nil, or_false, Prod.mk.injEq] at hκ
  rcases hκ with ⟨rfl, rfl, rfl⟩ | ⟨rfl, rfl, rfl⟩ | ⟨rfl, rfl, rfl⟩ | ⟨rfl, rfl, rfl⟩ | ⟨rfl, rfl, rfl⟩ | ⟨rfl, rfl, rfl⟩ | ⟨rfl, rfl, rfl⟩ | ⟨rfl, rfl, rfl⟩ | ⟨rfl, rfl, rfl⟩
  all_goals (walk1; (try dsimp only); exact k _ _)
theorem truthyT {M : Model} {A : Around} {E : Value → Shared → Prop} {s : Shared} {Q : Bool → Shared → Prop} {c : Prop} [Decidable c] (h : c) (k : Q true s) : wpAny M A (truthy (.bool (decide c))) Q E s := by
  rw [decide_eq_true h]; exact wpAny_truthy_bool k
theorem truthyF {M : Model} {A : Around} {E : Value → Shared → Prop} {s : Shared} {Q : Bool → Shared → Prop} {c : Prop} [Decidable c] (h : ¬ c) (k : Q false s) : wpAny M A (truthy (.bool (decide c))) Q E s := by
  rw [decide_eq_false h]; exact wpAny_truthy_bool k
theorem reg21 : True := by
  (k_with "subscriptTail Name Name ref str" => ((k_here; k_dflt ((with_reducible refine' bits_item ?F_q46 ?X_q46 ?T_q46 ?hκ_q46 ?_); (case F_q46 => k_asm); (case X_q46 => k_asm); (case T_q46 => k_asm); (case hκ_q46 => assumption); intro _ _))))
  (k_with "truthy bool" => ((k_here; first | refine truthyT (by assumption) ?_ | refine truthyF (by assumption) ?_)))
  exact True.intro
theorem least_ {κ : Str} {lo hi : Int} {t : Tok} (hκ : (κ, lo, hi) ∈ kinds) (X : (hd.heap_1 w.params).In s.heap) (T : TopRead p loose mg mb s.heap) (hdp : dp + 3 < recursionLimit) (hu : un + 60 < cLine)
    (hret : ∀ h' tk' t', Kp [] s.heap h' → Q (.int lo t') { s with heap := h', toks := tk' }) :
    wpAny (model prog w) (AA dp un fr gd) (call (.ref 76) [.str κ t]) Q E s := by
  obtain ⟨b1, b2, b3, b4⟩ := bitsOf_is _ hκ
  dsimp only at b1 b2 b3 b4
  by_cases hs : lo < 0
  · have hret' : ∀ h' tk' t', Kp [] s.heap h' → Q (.int (0 - 2 ^ (bitsOf κ - 1).toNat) t') { s with heap := h', toks := tk' } := by rw [← (b3 hs).1]; exact hret
    clear hret b3 b4
    refine wpAny_call ?_
    k_dflt (refine' enterP (binds := [("kind", .str κ t)]) [] X ?k2 ?k3 ?k6 ?k7 ?k9 ?kB ?_ ?c2 ?c3 ?c4 ?c5)
    walk_at "M enter"
    intro L h₁ hL F hk
    clear hk
    have X₀ : (hd.heap_1 w.params).In (hideAll s.heap []) := X
    have T₀ : TopRead p loose mg mb (hideAll s.heap []) := T
    have N : News (hideAll s.heap []) L h₁ [] := News.nil
    clear X T
    all_goals (try dsimp only)
    all_goals (try k_fold)
    all_goals walk_at "M steps"
    exact hret' _ _ _ (Kp.of_fr (by assumption))
  · have hret' : ∀ h' tk' t', Kp [] s.heap h' → Q (.int 0 t') { s with heap := h', toks := tk' } := by rw [(b4 hs).1] at hret; exact hret
    clear hret b3 b4
    refine wpAny_call ?_
    k_dflt (refine' enterP (binds := [("kind", .str κ t)]) [] X ?k2 ?k3 ?k6 ?k7 ?k9 ?kB ?_ ?c2 ?c3 ?c4 ?c5)
    walk_at "M enter"
    intro L h₁ hL F hk
    clear hk
    have X₀ : (hd.heap_1 w.params).In (hideAll s.heap []) := X
    have T₀ : TopRead p loose mg mb (hideAll s.heap []) := T
    have N : News (hideAll s.heap []) L h₁ [] := News.nil
    clear X T
    all_goals (try dsimp only)
    all_goals (try k_fold)
    all_goals walk_at "M steps"
    exact hret' _ _ _ (Kp.of_fr (by assumption))
theorem greatest_ {κ : Str} {lo hi : Int} {t : Tok} (hκ : (κ, lo, hi) ∈ kinds) (X : (hd.heap_1 w.params).In s.heap) (T : TopRead p loose mg mb s.heap) (hdp : dp + 3 < recursionLimit) (hu : un + 60 < cLine)
    (hret : ∀ h' tk' t', Kp [] s.heap h' → Q (.int hi t') { s with heap := h', toks := tk' }) :
    wpAny (model prog w) (AA dp un fr gd) (call (.ref 83) [.str κ t]) Q E s := by
  obtain ⟨b1, b2, b3, b4⟩ := bitsOf_is _ hκ
  dsimp only at b1 b2 b3 b4
  by_cases hs : lo < 0
  · have hret' : ∀ h' tk' t', Kp [] s.heap h' → Q (.int (2 ^ (bitsOf κ - 1).toNat - 1) t') { s with heap := h', toks := tk' } := by rw [← (b3 hs).2]; exact hret
    clear hret b3 b4
    refine wpAny_call ?_
    k_dflt (refine' enterP (binds := [("kind", .str κ t)]) [] X ?k2 ?k3 ?k6 ?k7 ?k9 ?kB ?_ ?c2 ?c3 ?c4 ?c5)
    walk_at "M enter"
    intro L h₁ hL F hk
    clear hk
    have X₀ : (hd.heap_1 w.params).In (hideAll s.heap []) := X
    have T₀ : TopRead p loose mg mb (hideAll s.heap []) := T
    have N : News (hideAll s.heap []) L h₁ [] := News.nil
    clear X T
    all_goals (try dsimp only)
    all_goals (try k_fold)
    all_goals walk_at "M steps"
    exact hret' _ _ _ (Kp.of_fr (by assumption))
  · have hret' : ∀ h' tk' t', Kp [] s.heap h' → Q (.int (2 ^ (bitsOf κ).toNat - 1) t') { s with heap := h', toks := tk' } := by rw [← (b4 hs).2]; exact hret
    clear hret b3 b4
    refine wpAny_call ?_
    k_dflt (refine' enterP (binds := [("kind", .str κ t)]) [] X ?k2 ?k3 ?k6 ?k7 ?k9 ?kB ?_ ?c2 ?c3 ?c4 ?c5)
    walk_at "M enter"
    intro L h₁ hL F hk
    clear hk
    have X₀ : (hd.heap_1 w.params).In (hideAll s.heap []) := X
    have T₀ : TopRead p loose mg mb (hideAll s.heap []) := T
    have N : News (hideAll s.heap []) L h₁ [] := News.nil
    clear X T
    all_goals (try dsimp only)
    all_goals (try k_fold)
    all_goals walk_at "M steps"
    exact hret' _ _ _ (Kp.of_fr (by assumption))
end

section
variable {prog : Program} {w : World} {p : Program} {loose : List Str} {mg mb : Str → Option Value} {dp un : Nat} {fr : Option (List Env)} {gd : Option (List Code)} {s : Shared} {h₀ h h' : Heap} {L : Addr} {m : Str → Option Value} {news : List (Addr × Obj)} {Q E : Value → Shared → Prop}
theorem News.kp (N : News h₀ L h news) (k : Kp [] h h') : News h₀ L h' news := fun q hq => ⟨k _ _ (N q hq).1 List.not_mem_nil, (N q hq).2⟩
theorem call_least {κ : Str} {lo hi : Int} {t : Tok} (F : Fr h₀ L s.heap m) (X : (hd.heap_1 w.params).In h₀) (T : TopRead p loose mg mb h₀) (N : News h₀ L s.heap news) (hκ : (κ, lo, hi) ∈ kinds) (hdp : dp + 3 < recursionLimit) (hu : un + 60 < cLine)
    (ret : ∀ h' tk' t', Fr h₀ L h' m → News h₀ L h' news → Q (.int lo t') { s with heap := h', toks := tk' }) :
    wpAny (model prog w) (AA dp un fr gd) (call (.ref 76) [.str κ t]) Q E s :=
  least_ hκ (X.keeps F.keep) (T.keeps F.keep) hdp hu fun h' tk' t' k => ret h' tk' t' (Kp.frame F k) (News.kp N k)
theorem reg22 : True := by
  (k_with "call ref" => ((k_here; (with_reducible show wpAny _ _ (call (Value.ref 76) [Value.str _ _]) _ _ _); (k_dflt (refine' call_least ?F_q48 ?X_q48 ?T_q48 ?N_q48 ?hκ_q48 ?hdp_q48 ?hu_q48 ?_; (case F_q48 => k_asm); (case X_q48 => k_asm); (case T_q48 => k_asm); (case N_q48 => k_asm); (case hκ_q48 => assumption); (case hdp_q48 => walk_at "M lt"); (case hu_q48 => walk_at "M lt"); k_whole)); intro h9 t9 t8 F9 N9)))
  exact True.intro
theorem call_greatest {κ : Str} {lo hi : Int} {t : Tok} (F : Fr h₀ L s.heap m) (X : (hd.heap_1 w.params).In h₀) (T : TopRead p loose mg mb h₀) (N : News h₀ L s.heap news) (hκ : (κ, lo, hi) ∈ kinds) (hdp : dp + 3 < recursionLimit) (hu : un + 60 < cLine)
    (ret : ∀ h' tk' t', Fr h₀ L h' m → News h₀ L h' news → Q (.int hi t') { s with heap := h', toks := tk' }) :
    wpAny (model prog w) (AA dp un fr gd) (call (.ref 83) [.str κ t]) Q E s :=
  greatest_ hκ (X.keeps F.keep) (T.keeps F.keep) hdp hu fun h' tk' t' k => ret h' tk' t' (Kp.frame F k) (News.kp N k)
theorem reg23 : True := by
  (k_with "call ref" => ((k_here; (with_reducible show wpAny _ _ (call (Value.ref 83) [Value.str _ _]) _ _ _); (k_dflt (refine' call_greatest ?F_q49 ?X_q49 ?T_q49 ?N_q49 ?hκ_q49 ?hdp_q49 ?hu_q49 ?_; (case F_q49 => k_asm); (case X_q49 => k_asm); (case T_q49 => k_asm); (case N_q49 => k_asm); (case hκ_q49 => assumption); (case hdp_q49 => walk_at "M lt"); (case hu_q49 => walk_at "M lt"); k_whole)); intro h9 t9 t8 F9 N9)))
  exact True.intro
theorem fits_ {κ : Str} {lo hi n : Int} {t u : Tok} (hκ : (κ, lo, hi) ∈ kinds) (X : (hd.heap_1 w.params).In s.heap) (T : TopRead p loose mg mb s.heap) (hdp : dp + 4 < recursionLimit) (hu : un + 80 < cLine)
    (hret : ∀ h' tk', Kp [] s.heap h' → Q (.bool (decide (lo ≤ n ∧ n ≤ hi))) { s with heap := h', toks := tk' }) :
    wpAny (model prog w) (AA dp un fr gd) (call (.ref 90) [.str κ t, .int n u]) Q E s := by
  refine wpAny_call ?_
  k_dflt (refine' enterP (binds := [("kind", .str κ t), ("number", .int n u)]) [] X ?k2 ?k3 ?k6 ?k7 ?k9 ?kB ?_ ?c2 ?c3 ?c4 ?c5)
  walk_at "M enter"
  intro L h₁ hL F hk
  clear hk
  have X₀ : (hd.heap_1 w.params).In (hideAll s.heap []) := X
  have T₀ : TopRead p loose mg mb (hideAll s.heap []) := T
  have N : News (hideAll s.heap []) L h₁ [] := News.nil
  clear X T
  all_goals (try dsimp only)
  all_goals (try k_fold)
  all_goals walk_at "M steps"
  · rw [show decide (n ≤ hi) = decide (lo ≤ n ∧ n ≤ hi) from by simp [*]]
    exact hret _ _ (Kp.of_fr (by assumption))
  · rw [show decide (lo ≤ n) = decide (lo ≤ n ∧ n ≤ hi) from by simp [*]]
    exact hret _ _ (Kp.of_fr (by assumption))
theorem call_fits {κ : Str} {lo hi n : Int} {t u : Tok} (F : Fr h₀ L s.heap m) (X : (hd.heap_1 w.params).In h₀) (T : TopRead p loose mg mb h₀) (N : News h₀ L s.heap news) (hκ : (κ, lo, hi) ∈ kinds) (hdp : dp + 4 < recursionLimit) (hu : un + 80 < cLine)
    (ret : ∀ h' tk', Fr h₀ L h' m → News h₀ L h' news → Q (.bool (decide (lo ≤ n ∧ n ≤ hi))) { s with heap := h', toks := tk' }) :
    wpAny (model prog w) (AA dp un fr gd) (call (.ref 90) [.str κ t, .int n u]) Q E s :=
  fits_ hκ (X.keeps F.keep) (T.keeps F.keep) hdp hu fun h' tk' k => ret h' tk' (Kp.frame F k) (News.kp N k)
theorem reg24 : True := by
  (k_with "call ref" => ((k_here; (with_reducible show wpAny _ _ (call (Value.ref 90) [Value.str _ _, Value.int _ _]) _ _ _); (k_dflt (refine' call_fits ?F_q50 ?X_q50 ?T_q50 ?N_q50 ?hκ_q50 ?hdp_q50 ?hu_q50 ?_; (case F_q50 => k_asm); (case X_q50 => k_asm); (case T_q50 => k_asm); (case N_q50 => k_asm); (case hκ_q50 => assumption); (case hdp_q50 => walk_at "M lt"); (case hu_q50 => walk_at "M lt"); k_whole)); intro h9 t9 F9 N9)))
  exact True.intro
end

section
variable {prog : Program} {w : World} {A : Around} {h : Heap} {g : Array GenState} {d : Drawn} {t : Nat} {os : OsState} {K : Frag} {R : Result → Shared → Prop} {E : Value → Shared → Prop}
variable {nm q : Str} {C N fI : Addr} {bs bm bmB : List Value} {hdct : Bool} {sn : List Str} {sub : List Value} {ab : Bool} {col : Option Bool} {dd : Option Addr} {k0 k1 k2 k3 k5 : Option Value} {B newId initId : String}
theorem check_newE (F : ExcBaseFacts B newId initId bmB) (hb : bm.contains (.type B) = true) {M : Model} {rest : List Value} {Q : Unit → Shared → Prop} (hC : h.get? C = some (excClassObj nm q C N bs bm hdct sn sub ab col dd k0 k1 k2 k3 k5 newId))
    (hq : Q () ⟨h, g, d, t, os⟩) : wpAny M A (checkBuiltinCall newId ⟨.ref C :: rest, []⟩) Q E ⟨h, g, d, t, os⟩ := by
  have hcont : (Value.ref C :: bm).contains (.type B) = true := by rw [List.contains_cons, hb, Bool.or_true]
  have hstar := F.noStar
  simp only [checkBuiltinCall, F.newKind, F.newSplit, F.newRow]
  repeat (first | refine wpAny_loadPart_at hC ?_ | (refine wpAny_isSubtype_exc hC ?_; rw [hcont]) | refine wpAny_staticBase_exc hC ?_ | refine wpAny_madeBy_exc hC ?_ | simp only [bne_self_eq_false, Bool.false_eq_true, if_false] | wp_step)
  exact hq
theorem new_E (F : ExcBaseFacts B newId initId bmB) (hb : bm.contains (.type B) = true) (hA : bm.contains (.type "AttributeError") = false) (hN : bm.contains (.type "NameError") = false) {rest : List Value} (hC : h.get? C = some (excClassObj nm q C N bs bm hdct sn sub ab col dd k0 k1 k2 k3 k5 newId))
    (hq : R (.ok (.ret (.ref (h.objs.size + 1)))) ⟨(h.push { cls := .type "tuple", data := .seq rest.toArray }).push
      { cls := .ref C, data := .fields #[.ref h.objs.size, .none, .none, .none, .bool false, .none] }, g, d, t, os⟩) (hrest : rest.length ≤ sizeLine) :
    codeAny (model prog w) A (.builtin newId ⟨.ref C :: rest, []⟩) R ⟨h, g, d, t, os⟩ := by
  have hends := F.ends
  have hcB : (Value.ref C :: bm).contains (.type B) = true := by rw [List.contains_cons, hb, Bool.or_true]
  have hcA : (Value.ref C :: bm).contains (.type "AttributeError") = false := by rw [List.contains_cons, hA]; rfl
  have hcN : (Value.ref C :: bm).contains (.type "NameError") = false := by rw [List.contains_cons, hN]; rfl
  refine codeAny_builtinAt F.entry ?_
  unfold Builtin.«BaseException.__new__»
  refine PySem.wpAt_bind ?_
  show PySem.wpAt _ _ _ (stack >>= _) _ _ _
  refine PySem.wpAt_bind (PySem.wpAt_stack fun p below => PySem.wpAt_of_wpAny ?_)
  wp_walk
  refine PySem.wpAt_of_wpAny ?_
  rw [F.owner]
  repeat (first | with_reducible refine wpAny_madeHere_exc F.canon hC ?_ | with_reducible refine wpAny_loadPart_at hC ?_ | (with_reducible refine wpAny_isSubtype_exc hC ?_; first | rw [hcB] | rw [hcA] | rw [hcN]) | wp_step)
  show R _ _
  rw [Heap.size_push]
  exact hq
abbrev excO (C ta : Addr) : Obj := { cls := .ref C, data := .fields #[.ref ta, .none, .none, .none, .bool false, .none] }
theorem type_call_E (F : ExcBaseFacts B newId initId bmB) (hb : bm.contains (.type B) = true) (hA : bm.contains (.type "AttributeError") = false) (hN : bm.contains (.type "NameError") = false)
    {rest : List Value} {Q : Fin → Shared → Prop} (X : K.In h) (hi : findIn K (.ref C) "__init__" = some (some (.ref fI))) (hf : typeIn K (.ref fI) = some (.type "function"))
    (hC : h.get? C = some (excClassObj nm q C N bs bm hdct sn sub ab col dd k0 k1 k2 k3 k5 newId))
    (hq : wpAny (model prog w) A (call (.ref fI) (.ref (h.objs.size + 1) :: rest)) (fun r s' => r = .none ∧ Q (.done (.ret (.ref (h.objs.size + 1)))) s') E ⟨(h.push { cls := .type "tuple", data := .seq rest.toArray }).push (excO C h.objs.size), g, d, t, os⟩) (hrest : rest.length ≤ sizeLine) :
    wpAny (model prog w) A (Builtin.«type.__call__» ⟨.ref C :: rest, []⟩) Q E ⟨h, g, d, t, os⟩ := by
  repeat (first | with_reducible refine wpAny_loadPart_at hC ?_ | with_reducible refine wpAny_madeBy_exc hC ?_ | wp_step)
  refine codeAny_call_builtin_code (Code.quiet_builtin _ F.quiet) (check_newE F hb hC ?_)
  refine new_E F hb hA hN hC ?_ hrest
  show wpAny _ _ _ _ _ _
  have k : ∀ b o, h.get? b = some o → ((h.push { cls := .type "tuple", data := .seq rest.toArray }).push (excO C h.objs.size)).get? b = some o := fun b o e => Heap.get?_push_of_some _ (Heap.get?_push_of_some _ e)
  have hC₁ := k _ _ hC
  have hget : ((h.push { cls := .type "tuple", data := .seq rest.toArray }).push (excO C h.objs.size)).get? (h.objs.size + 1) = some (excO C h.objs.size) := by heap_get
  have hcC : (Value.ref C :: bm).contains (.ref C) = true := by simp
  have X₁ := X.keeps k
  unfold isInstance
  repeat (first | with_reducible refine wpAny_loadPart_at hget ?_ | (with_reducible refine wpAny_isSubtype_exc hC₁ ?_; rw [hcC]) | wp_step)
  show wpAny _ _ (typeLookup (.ref C) _) _ _ _
  refine (looks_findIn X₁ hi).here ?_
  refine wpAny_holding (wpAny_bind ?_)
  refine (bind_fn X₁ _ hf).here ?_
  refine wpAny_bind (wpAny_mono hq (fun r s' hr => ?_) fun _ _ x => x)
  obtain ⟨rfl, hQ⟩ := hr
  wp_walk
  exact hQ
theorem call_E (F : ExcBaseFacts B newId initId bmB) (hb : bm.contains (.type B) = true) (hA : bm.contains (.type "AttributeError") = false) (hN : bm.contains (.type "NameError") = false)
    {rest : List Value} {Q : Value → Shared → Prop} (X : K.In h) (hi : findIn K (.ref C) "__init__" = some (some (.ref fI))) (hf : typeIn K (.ref fI) = some (.type "function"))
    (hC : h.get? C = some (excClassObj nm q C N bs bm hdct sn sub ab col dd k0 k1 k2 k3 k5 newId))
    (hq : wpAny (model prog w) (A.under (.builtin "type.__call__" ⟨.ref C :: rest, []⟩)) (call (.ref fI) (.ref (h.objs.size + 1) :: rest)) (fun r s' => r = .none ∧ Q (.ref (h.objs.size + 1)) s') E ⟨(h.push { cls := .type "tuple", data := .seq rest.toArray }).push (excO C h.objs.size), g, d, t, os⟩) (hrest : rest.length ≤ sizeLine) :
    wpAny (model prog w) A (call (.ref C) rest) Q E ⟨h, g, d, t, os⟩ := by
  have f1 := tc_lookup
  have f2 := tc_bind (.ref C)
  have hT : (⟨h, g, d, t, os⟩ : Shared).TypeIs (.ref C) "type" := ⟨_, hC, rfl⟩
  refine wpAny_call (codeAny_of_tree ?_)
  show wpAny _ _ (callAny (.ref C) _) _ _ _
  repeat (any_goals (first | assumption | with_reducible refine wpAny_loadPart_at hC ?_ | wp_step))
  refine ⟨rfl, ?_⟩
  exact codeAny_call_builtin_at (Code.quiet_builtin _ (by decide +kernel)) entry_typeCall (wpAny_check_type_call_sub hC (type_call_E F hb hA hN X hi hf hC hq hrest))
end
section
variable {prog : Program} {w : World} {A : Around} {h : Heap} {g : Array GenState} {d : Drawn} {t : Nat} {os : OsState} {E : Value → Shared → Prop}
variable {nm q : Str} {C N : Addr} {bs bm bmB : List Value} {hdct : Bool} {sn : List Str} {sub : List Value} {ab : Bool} {col : Option Bool} {dd : Option Addr} {k0 k1 k2 k3 k5 : Option Value} {B newId initId nid : String}
theorem check_initE (F : ExcBaseFacts B newId initId bmB) (hb : bm.contains (.type B) = true) {M : Model} {e : Addr} {oe : Obj} {rest : List Value} {Q : Unit → Shared → Prop}
    (hC : h.get? C = some (excClassObj nm q C N bs bm hdct sn sub ab col dd k0 k1 k2 k3 k5 nid)) (he : h.get? e = some oe) (hcls : oe.cls = .ref C) (hq : Q () ⟨h, g, d, t, os⟩) :
    wpAny M A (checkBuiltinCall initId ⟨.ref e :: rest, []⟩) Q E ⟨h, g, d, t, os⟩ := by
  have hcB : (Value.ref C :: bm).contains (.type B) = true := by rw [List.contains_cons, hb, Bool.or_true]
  have hshort := F.noStar
  simp only [checkBuiltinCall, F.initKind, F.initSplit, F.initRow]
  repeat (first | (with_reducible refine wpAny_loadPart_at he ?_; rw [hcls]) | with_reducible refine wpAny_loadPart_at hC ?_ | (with_reducible refine wpAny_isSubtype_exc hC ?_; rw [hcB]) | wp_step)
  refine wpAny_onRaise ?_
  rw [show ∀ (a b : String) (n : Nat), Bind.check ⟨.positional, "*", B, .self, [⟨"args", .varPos, false⟩]⟩ a b n (List.map (fun x => x.fst) ({ pos := Value.ref e :: rest } : Args).kw) = pure () from
    fun a b n => check_star_args _ _ _ _ _ _]
  exact wpAny_pure hq
theorem init_E (F : ExcBaseFacts B newId initId bmB) (hb : bm.contains (.type B) = true) {e ta : Addr} {v : Value} {Q : Value → Shared → Prop}
    (hC : h.get? C = some (excClassObj nm q C N bs bm hdct sn sub ab col dd k0 k1 k2 k3 k5 nid)) (he : h.get? e = some (excO C ta))
    (hq : ∀ h', Kp [e] h h' → h'.get? h.objs.size = some (tupO #[v]) → h'.get? e = some (excO C h.objs.size) → Q .none ⟨h', g, d, t, os⟩) :
    wpAny (model prog w) A (call (.builtin initId) [.ref e, v]) Q E ⟨h, g, d, t, os⟩ := by
  have hne : e ≠ h.objs.size := Nat.ne_of_lt (Heap.lt_size he)
  refine wpAny_call (codeAny_call_builtin F.init.plain F.initEntry (check_initE F hb hC he rfl ?_))
  wp_walk
  show Q .none _
  refine hq _ (fun b o hb' hn => ?_) ?_ ?_
  · rw [Heap.get?_update_other _ _ (fun q => hn (by rw [q]; exact .head _))]
    exact Heap.get?_push_of_some _ hb'
  · rw [Heap.get?_update_other _ _ hne]
    exact Heap.get?_push_at rfl rfl
  · rw [Heap.get?_update_self _ (Heap.get?_push_of_some _ he) rfl]
    rfl
end
section
variable {prog : Program} {w : World} {A : Around} {s : Shared} {h₀ : Heap} {L : Addr} {m : Str → Option Value} {news : List (Addr × Obj)} {g : Obj → List (Addr × Obj)} {K : Frag} {Q E : Value → Shared → Prop}
theorem call_init_E {e ta : Addr} {v : Value} (F : Fr h₀ L s.heap m) (X : (hd.heap_1 w.params).In h₀) (N : News h₀ L s.heap news) (U : UpdF e (excO 59 ta) news g)
    (ret : ∀ h' t2, Fr h₀ L h' m → News h₀ L h' ((t2, tupO #[v]) :: g (excO 59 t2)) → (∀ q ∈ news, @Ne Nat q.1 t2) → Q .none { s with heap := h' }) :
    wpAny (model prog w) A (call (.builtin "Exception.__init__") [.ref e, v]) Q E s := by
  obtain ⟨hh, gg, d, t, os⟩ := s
  have C59 := (X.keeps F.keep) 59 _ rfl
  have he := N _ (UpdF.mem U)
  have hn : ∀ a ∈ [e], h₀.get? a = none := fun a ha => by rw [List.mem_singleton.mp ha]; exact he.2.2
  have hL : L ∉ [e] := fun q => he.2.1 (List.mem_singleton.mp q).symm
  refine init_E (PySem.F.excBase_Exception) (bm := [.ref 39, .type "Exception", .type "BaseException", .type "object"]) (by decide +kernel) C59 he.1 fun h' k e1 e2 => ?_
  refine ret h' _ (Fr.after F k hn hL) (fun q hq => ?_) (fun q hq => Nat.ne_of_lt (Heap.lt_size (N q hq).1))
  rcases List.mem_cons.mp hq with rfl | hq
  · refine ⟨e1, fun z => ?_, ?_⟩
    · obtain ⟨oL, _, _, eL, _⟩ := F.ns
      exact Nat.lt_irrefl _ (by have := Heap.lt_size eL; rw [← z] at this; exact this)
    · cases q : h₀.get? hh.objs.size with
      | none => rfl
      | some o' => exact absurd (Heap.lt_size (F.keep _ _ q)) (Nat.lt_irrefl _)
  · exact News.turn N U k e2 q hq
end
theorem freed_of {h : Heap} {x : Addr} {o : Obj} {d : Option Addr} (e : h.get? x = some o) : ({ o with dict := d } : Obj).isFreed = false := by
  have q := (Heap.get?_some_iff.mp e).2
  obtain ⟨oc, odi, oda, osl⟩ := o
  cases oda <;> first | rfl | exact q
section
open Builtin Builtin.ObjectAttr
variable {prog : Program} {w : World} {A : Around} {s : Shared} {h₀ : Heap} {L x C : Addr} {m : Str → Option Value} {news : List (Addr × Obj)} {g : Obj → List (Addr × Obj)} {K : Frag} {E : Value → Shared → Prop} {R : Result → Shared → Prop}
theorem osa_openE {ox : Obj} {od : Option Obj} {name : Str} {tk : Tok} {v : Value} {cd : ClassData} (X : K.In s.heap) (I : InstAt s.heap x ox C od) (hc : clsIn K C = some cd) (ho : ∀ self : Value, refuseLoop self "__setattr__" cd.mro = pure ())
    (ne : cd.mro.isEmpty = false) (hsub : cd.mro.contains (.type "object") = true) (ht : takerIn K C name = some none)
    (h : ∀ b, wpAny (model prog w) A.in1 (storeInOwnDict (.ref x) (.ref C) (.str name tk) name v b)
      (fun fin s' => match fin with | .done f => R (.ok f) s' | .again c' => c'.quiet = true ∧ codeAny (model prog w) A c' R s') (fun e s' => R (.error e) s') s) :
    codeAny (model prog w) A (.call (.builtin "object.__setattr__") ⟨[.ref x, .str name tk, v], []⟩) R s := by
  have SF := PySem.F.store_object
  have sub : Looks (model prog w) s.heap (isInstance (.ref x) (.type "object")) true := I.type.andThen (looks_mroIn X (by unfold mroIn; rw [hc, Option.bind_some, if_neg (by rw [ne]; decide), hsub]))
  refine codeAny_call_builtin SF.slot.plain SF.entry (@check_slot (model prog w) _ _ s "object.__setattr__" "object" "__setattr__" (.ref x) [.str name tk, v] [] _ SF.kind SF.split sub (SF.args (.ref x) (.str name tk) v) ?_)
  obtain ⟨attr, ha, hr⟩ := Option.bind_eq_some_iff.mp ht
  have hm : Looks (model prog w) s.heap (mroOf (.ref C)) cd.mro := (looks_clsIn X hc).andThen .now
  have L3 : Looks (model prog w) s.heap (storeTaker? attr) none := by
    cases attr with
    | none => exact .now
    | some a =>
      obtain ⟨b, hb, hb'⟩ := Option.map_eq_some_iff.mp hr
      refine (looks_takesIn X hb).andThen ?_
      cases b with
      | false => exact .now
      | true => cases hb'
  rw [osa_eq, refuse_eq]
  refine wpAny_bind (wpAny_bind (I.type.here (wpAny_bind (hm.here ?_))))
  rw [ho]
  refine wpAny_pure (wpAny_bind (I.type.here (wpAny_bind ((looks_findIn X ha).here (wpAny_bind (L3.here ?_))))))
  exact h _
theorem store_tail {dx : Addr} {name : Str} {tk : Tok} {v : Value} {es es' : List DictEntry} {n n' : Nat} {pre post : List (Addr × Obj)} {Q : PySem.Fin → Shared → Prop} (F : Fr h₀ L s.heap m) (N : News h₀ L s.heap (pre ++ (dx, dictOf es n) :: post))
    (hl : (getL name es).isSome = true) (h1 : ∀ p ∈ pre, p.1 ≠ dx) (h2 : ∀ p ∈ post, p.1 ≠ dx)
    (e : (putL name (PyData.keyHash w.params name) (.str name s.toks) v es, putN name es n) = (es', n')) (hz : es'.length ≤ 1000)
    (h : ∀ h', Fr h₀ L h' m → News h₀ L h' (pre ++ (dx, dictOf es' n') :: post) → Q (.done (.ret .none)) { s with heap := h', toks := s.toks + 1 }) :
    wpAny (model prog w) A (storeInDict dx (.str name tk) name v) Q E s := by
  obtain ⟨e1, e2⟩ := Prod.mk.inj e
  obtain ⟨U1, U2⟩ := news_upd (f := Obj.putName name (PyData.keyHash w.params name) (.str name s.toks) v) F N h1 h2 (o' := dictOf es' n') (by rw [putName_dict, e1, e2]) rfl
  have D := (N (dx, dictOf es n) (by simp)).1
  have D' := (U2 (dx, dictOf es' n') (by simp)).1
  unfold storeInDict newKeyGuard
  refine wpAny_bind (wpAny_pure (wpAny_bind ?_))
  unfold nsSet
  refine wpAny_bind (wpAny_bind (wpAny_askSetting (wpAny_pure (wpAny_bind (wpAny_mkText (wpAny_bind (wpAny_loadPart D ?_)))))))
  dsimp only
  have c : (!es.toArray.any (·.key.isStr name) && es.toArray.any (·.refKey)) = false := by
    rw [← Array.any_toList, ← Array.any_toList]
    unfold getL at hl
    split at hl
    · rename_i en he
      rw [List.any_eq_true.mpr ⟨en, List.mem_of_find?_eq_some he, List.find?_some he⟩]; rfl
    · split at hl
      · cases hl
      · rename_i z; rw [Bool.not_eq_true] at z; rw [z, Bool.and_false]
  rw [aRefKeyMayBeTheName_at, c]
  refine wpAny_updatePart D ?_
  refine wpAny_bind (wpAny_lookBehind D' (pastItsLine_dict (by rw [List.size_toArray, sizeLine_eq]; omega)) ?_)
  exact wpAny_pure (h _ U1 U2)
theorem set_newE {ox : Obj} {name : Str} {v : Value} {cd : ClassData} {Q : Unit → Shared → Prop} (F : Fr h₀ L s.heap m) (X₀ : K.In h₀) (N : News h₀ L s.heap news) (U : UpdF x ox news g) (hcl : ox.cls = .ref C) (hdn : ox.dict = none) (hno : notCls ox = true)
    (hs : findIn K (.ref C) "__setattr__" = some (some (.builtin "object.__setattr__"))) (hc : clsIn K C = some cd) (ho : ∀ self : Value, refuseLoop self "__setattr__" cd.mro = pure ())
    (ne : cd.mro.isEmpty = false) (hsub : cd.mro.contains (.type "object") = true) (ht : takerIn K C name = some none) (hhd : cd.hasDict = true)
    (h : ∀ dx h', Fr h₀ L h' m → News h₀ L h' ((dx, dictOf [{ hash := PyData.keyHash w.params name, key := .str name (s.toks + 1), val := v }] 1) :: g { ox with dict := some dx }) → (∀ q ∈ news, @Ne Nat q.1 dx) → Q () { s with heap := h', toks := s.toks + 2 }) :
    wpAny (model prog w) A (setAttr (.ref x) name v) Q E s := by
  obtain ⟨hh, gg, d, t, os⟩ := s
  have X := X₀.keeps F.keep
  have hx := N _ (UpdF.mem U)
  have I : InstAt hh x ox C none := ⟨hx.1, hcl, hno, by rw [hdn]; trivial⟩
  refine set_plain X I hs ?_
  refine osa_openE (s := ⟨hh, gg, d, t + 1, os⟩) X I hc ho ne hsub ht fun b => ?_
  obtain ⟨pre, post, rfl, hg, h1, h2⟩ := U.split
  have hxs : x ≠ hh.objs.size := Nat.ne_of_lt (Heap.lt_size hx.1)
  have hx₁ : (hh.push (dictOf [] 0)).get? x = some ox := Heap.get?_push_of_some _ hx.1
  have N1 : News h₀ L (hh.push (dictOf [] 0)) (((hh.objs.size, dictOf [] 0) :: pre) ++ (x, ox) :: post) := N.push F (dictOf [] 0)
  have F1 := F.push (dictOf [] 0)
  obtain ⟨F2, N2⟩ := news_upd (f := fun o => { o with dict := some hh.objs.size }) F1 N1 (o' := { ox with dict := some hh.objs.size }) (fun p hp => by
    rcases List.mem_cons.mp hp with rfl | hp
    · exact hxs.symm
    · exact h1 p hp) h2 rfl (freed_of hx.1)
  have new : ∀ p ∈ pre ++ (x, ox) :: post, @Ne Nat p.1 hh.objs.size := fun p hp => Nat.ne_of_lt (Heap.lt_size (N p hp).1)
  obtain ⟨oc, odi, oda, osl⟩ := ox
  dsimp only at hcl hdn
  subst hcl hdn
  refine wpAny_bind (wpAny_pure (wpAny_bind (wpAny_bind (wpAny_loadPart hx.1 (wpAny_bind (looks_clsIn X hc _ _ _ _ (fun _ _ e => e) ?_))))))
  rw [hhd]
  dsimp only
  have fin : wpAny (model prog w) A.in1 (do
      let d ← alloc { cls := .type "dict", data := .dict #[] }
      update x fun o => { o with dict := some d }
      dictMade (.ref C) x d) (fun r s' => wpAny (model prog w) A.in1 (match r with | some d => storeInDict d (.str name t) name v | none => noDictFor (.ref x) (.ref C) name b) (fun fin s' => match fin with | .done f => (match Except.ok f with | .ok (.ret _) => Q () s' | .ok _ => False | .error e => E e s') | .again c' => c'.quiet = true ∧ codeAny (model prog w) A c' (fun r s' => match r with | .ok (.ret _) => Q () s' | .ok _ => False | .error e => E e s') s') (fun e s' => E e s') s')
      (fun e s' => E e s') ⟨hh, gg, d, t + 1, os⟩ := by
    refine wpAny_bind (wpAny_alloc' ?_)
    refine wpAny_bind (wpAny_update' hx₁ ?_)
    refine wpAny_pure ?_
    refine store_tail (s := ⟨_, gg, d, t + 1, os⟩) (pre := []) F2 N2 rfl (fun _ q => nomatch q) (fun p hp => ?_) rfl (Nat.le_of_ble_eq_true rfl) fun h' F' N' => ?_
    · rcases List.mem_append.mp hp with hp | hp
      · exact new p (List.mem_append_left _ hp)
      · rcases List.mem_cons.mp hp with rfl | hp
        · exact hxs
        · exact new p (List.mem_append_right _ (.tail _ hp))
    · exact h _ h' F' (hg _ ▸ N') new
  cases oda
  all_goals first
    | (cases hno; done)
    | exact fin

theorem set_oldE {ox : Obj} {dx : Addr} {name : Str} {v : Value} {cd : ClassData} {es es' : List DictEntry} {n n' : Nat} {Q : Unit → Shared → Prop} (F : Fr h₀ L s.heap m) (X₀ : K.In h₀) (N : News h₀ L s.heap news) (hx : (x, ox) ∈ news) (hcl : ox.cls = .ref C) (hdx : ox.dict = some dx) (hno : notCls ox = true)
    (U : UpdF dx (dictOf es n) news g)
    (hs : findIn K (.ref C) "__setattr__" = some (some (.builtin "object.__setattr__"))) (hc : clsIn K C = some cd) (ho : ∀ self : Value, refuseLoop self "__setattr__" cd.mro = pure ())
    (ne : cd.mro.isEmpty = false) (hsub : cd.mro.contains (.type "object") = true) (ht : takerIn K C name = some none) (hhd : cd.hasDict = true) (hl : (getL name es).isSome = true)
    (e : (putL name (PyData.keyHash w.params name) (.str name (s.toks + 1)) v es, putN name es n) = (es', n')) (hz : es'.length ≤ 1000)
    (h : ∀ h', Fr h₀ L h' m → News h₀ L h' (g (dictOf es' n')) → Q () { s with heap := h', toks := s.toks + 2 }) :
    wpAny (model prog w) A (setAttr (.ref x) name v) Q E s := by
  obtain ⟨hh, gg, d, t, os⟩ := s
  have X := X₀.keeps F.keep
  have hx' := (N _ hx).1
  have hD := (N _ (UpdF.mem U)).1
  have I : InstAt hh x ox C (some (dictOf es n)) := ⟨hx', hcl, hno, by rw [hdx]; exact hD⟩
  refine set_plain X I hs ?_
  refine osa_openE (s := ⟨hh, gg, d, t + 1, os⟩) X I hc ho ne hsub ht fun b => ?_
  obtain ⟨pre, post, rfl, hg, h1, h2⟩ := U.split
  obtain ⟨oc, odi, oda, osl⟩ := ox
  dsimp only at hcl hdx
  subst hcl hdx
  refine wpAny_bind (wpAny_pure (wpAny_bind (wpAny_bind (wpAny_loadPart hx' (wpAny_bind (looks_clsIn X hc _ _ _ _ (fun _ _ e => e) ?_))))))
  rw [hhd]
  refine wpAny_pure (a := some dx) ?_
  exact store_tail (s := ⟨hh, gg, d, t + 1, os⟩) F N hl h1 h2 e hz fun h' F' N' => h h' F' (hg _ ▸ N')
end
theorem news_many {h h₁ : Heap} {as : List Addr} {L : Addr} {l : List (Addr × Obj)} (ha : ∀ q ∈ l, q.1 ∈ as ∧ h.get? q.1 = some q.2) (hL : L = h.objs.size) (k : ∀ b o, h.get? b = some o → h₁.get? b = some o) : News (hideAll h as) L h₁ l := fun p hp => by
  obtain ⟨m1, e⟩ := ha p hp
  exact ⟨k _ _ e, by rw [hL]; exact Nat.ne_of_lt (Heap.lt_size e), hideAll_none _ m1⟩

theorem pass59 (self : Value) : refuseLoop self "__setattr__" [.ref 59, .ref 39, .type "Exception", .type "BaseException", .type "object"] = pure () := by
  rw [refuseLoop_ref, refuseLoop_ref]; exact PySem.F.store_Exception.passes self
theorem reg25 : True := by
  (k_with "M setN" => ((k_dflt (refine' set_newE ?F_q51 ?X_q51 ?N_q51 ?U_q51 ?q1_q51 ?q2_q51 ?q3_q51 ?s1_q51 ?s2_q51 ?s3_q51 ?s4_q51 ?s5_q51 ?s6_q51 ?s7_q51 ?_; (case F_q51 => k_asm); (case X_q51 => k_asm); (case N_q51 => k_asm); (case U_q51 => k_updF); (case q1_q51 => exact rfl); (case q2_q51 => exact rfl); (case q3_q51 => exact rfl); (case s1_q51 => k_is); (case s2_q51 => k_is); (case s3_q51 => exact pass59); (case s4_q51 => exact rfl); (case s5_q51 => decide +kernel); (case s6_q51 => k_is); (case s7_q51 => exact rfl); k_whole); intro d9 h9 F9 N9 ne9; (try dsimp only [excO] at N9))))
  (k_with "M setO" => ((k_dflt (refine' set_oldE ?F_q52 ?X_q52 ?N_q52 ?hx_q52 ?q1_q52 ?q2_q52 ?q3_q52 ?U_q52 ?s1_q52 ?s2_q52 ?s3_q52 ?s4_q52 ?s5_q52 ?s6_q52 ?s7_q52 ?hl_q52 ?e_q52 ?hz_q52 ?_; (case F_q52 => k_asm); (case X_q52 => k_asm); (case N_q52 => k_asm); (case hx_q52 => k_mem); (case q1_q52 => exact rfl); (case q2_q52 => exact rfl); (case q3_q52 => exact rfl); (case U_q52 => k_updF); (case s1_q52 => k_is); (case s2_q52 => k_is); (case s3_q52 => exact pass59); (case s4_q52 => exact rfl); (case s5_q52 => decide +kernel); (case s6_q52 => k_is); (case s7_q52 => exact rfl); (case hl_q52 => k_get); (case e_q52 => k_put); (case hz_q52 => exact Nat.le_of_ble_eq_true rfl); k_whole); intro h9 F9 N9; (try dsimp only at N9))))
  (k_with "M enter2" => ((
  (case k6 => k_is); (case k7 => k_is); (case k2 => exact TopRead.nolimit (by assumption)); (case k9 => exact BindsTo.of_eq rfl); (case c5 => decide); (case kB => exact locs rfl)
  ; (case c2 => exact rfl); (case c3 => exact rfl); (case c4 => exact rfl))))
  (k_with "getMethod type:Exception" => ((k_here; refine' method_type ?F_q54 ?X_q54 ?m_q54 (by decide +kernel) ?e_q54 ?h_q54 ?_; (case F_q54 => k_asm); (case X_q54 => k_asm); (case m_q54 => kernel_rfl); (case e_q54 => k_dflt k_is); (case h_q54 => k_handed))))
  (k_with "call builtin:Exception.__init__" => ((k_here; (k_dflt (refine' call_init_E ?F_q55 ?X_q55 ?N_q55 ?U_q55 ?_; (case F_q55 => k_asm); (case X_q55 => k_asm); (case N_q55 => k_asm); (case U_q55 => k_updF); k_whole)); intro h9 t9 F9 N9 ne9; (try dsimp only at N9))))
  (k_with "call ref" => ((k_here; (with_reducible show wpAny _ _ (call (Value.ref 36) _) _ _ _); (refine wpAny_call ?_); walk_at "M in")))
  (k_with "binaryOp Add str str" => ((k_here; refine PyProof.Rows.add_str ?_ (by assumption); intro _ _)))
  exact True.intro
/-- a MachineFault of that kind, as MachineFault(..) makes it; new since h0 -/
inductive FaultAt (P : Params) (h0 h : Heap) (a : Addr) (k : Str) : Prop
  | mk (ta : _) (dx : _) (t1 : _) (v1 : _) (t2 : _) (v2 : _) (t3 : _) (t4 : _) (vs : _) (z1 : h0.get? a = none) (z2 : h0.get? dx = none) (z3 : h.get? a = some ⟨.ref 59, some dx, .fields #[.ref ta, .none, .none, .none, .bool false, .none], #[]⟩) (z4 : h.get? ta = some (tupO vs)) (z5 : h.get? dx = some (dictOf [⟨PyData.keyHash P (Str.ofString "message"), .str (Str.ofString "message") t1, v1⟩, ⟨PyData.keyHash P (Str.ofString "spot"), .str (Str.ofString "spot") t2, v2⟩, ⟨PyData.keyHash P (Str.ofString "kind"), .str (Str.ofString "kind") t3, .str k t4⟩] 3))
section
variable {prog : Program} {w : World} {p : Program} {loose : List Str} {mg mb : Str → Option Value} {dp un : Nat} {fr : Option (List Env)} {gd : Option (List Code)} {s : Shared} {h₀ h h' : Heap} {L : Addr} {m : Str → Option Value} {news : List (Addr × Obj)} {Q E : Value → Shared → Prop}
theorem fault_ {t1 t2 : Tok} {k1 m1 : Str} (hk : (k1 = "kind" ∧ m1 = "no value of this type is handed in") ∨ (k1 = "uninitialised" ∧ m1 = "a value that is not there is shown"))
    (X : (hd.heap_1 w.params).In s.heap) (T : TopRead p loose mg mb s.heap) (hdp : dp + 6 < recursionLimit) (hu : un + 100 < cLine)
    (hret : ∀ a h' tk', Kp [] s.heap h' → FaultAt w.params s.heap h' a k1 → Q (.ref a) { s with heap := h', toks := tk' }) :
    wpAny (model prog w) (AA dp un fr gd) (call (.ref 59) [.str k1 t1, .str m1 t2]) Q E s := by
  obtain ⟨hh, g, d, t, os⟩ := s
  have C59 := X 59 _ rfl
  refine call_E (PySem.F.excBase_Exception) (bm := [.ref 39, .type "Exception", .type "BaseException", .type "object"]) (by decide +kernel) (by decide +kernel) (by decide +kernel) X (fI := 56) (by k_is) (by k_is) C59 ?_ (by size_fits)
  clear C59
  dsimp only at X T hret ⊢
  have k0 : ∀ b o, hh.get? b = some o → (hideAll ((hh.push { cls := .type "tuple", data := .seq #[.str k1 t1, .str m1 t2] }).push (excO 59 hh.objs.size)) [hh.objs.size + 1, hh.objs.size]).get? b = some o := fun b o e => by
    have hb := Heap.lt_size e
    refine hideAll_get _ (Heap.get?_push_of_some _ (Heap.get?_push_of_some _ e)) ?_
    intro q
    simp only [List.mem_cons, List.not_mem_nil, or_false] at q
    rcases q with q | q
    · subst q
      exact absurd hb (Nat.not_lt_of_le (Nat.le_succ _))
    · subst q
      exact absurd hb (Nat.lt_irrefl _)
  have e1 : ((hh.push { cls := .type "tuple", data := .seq #[.str k1 t1, .str m1 t2] }).push (excO 59 hh.objs.size)).get? (hh.objs.size + 1) = some (excO 59 hh.objs.size) := by heap_get
  have e2 : ((hh.push { cls := .type "tuple", data := .seq #[.str k1 t1, .str m1 t2] }).push (excO 59 hh.objs.size)).get? hh.objs.size = some (tupO #[.str k1 t1, .str m1 t2]) := Heap.get?_push_of_some _ (Heap.get?_push_at rfl rfl)
  have hne : hh.objs.size < hh.objs.size + 1 := Nat.lt_succ_self _
  revert k0 e1 e2 hne
  generalize hh.objs.size + 1 = xe
  generalize hh.objs.size = ta
  generalize ((hh.push { cls := .type "tuple", data := .seq #[.str k1 t1, .str m1 t2] }).push (excO 59 ta)) = hE
  intro k0 e1 e2 hne
  have X₁ := X.keeps k0
  have T₁ : TopRead p loose mg mb (hideAll hE [xe, ta]) := T.keeps k0
  have X' : (hd.heap_1 w.params).In hE := fun b o e => of_hideAll _ (X₁ b o e)
  have T' : TopRead p loose mg mb hE := T₁.keeps fun b o e => of_hideAll _ e
  refine wpAny_call ?_
  k_dflt (refine' enterP (binds := [("self", .ref xe), ("kind", .str k1 t1), ("message", .str m1 t2)]) [xe, ta] X' ?k2 ?k3 ?k6 ?k7 ?k9 ?kB ?_ ?c2 ?c3 ?c4 ?c5)
  (case k3 => walk_at "M room")
  walk_at "M enter2"
  clear X' T'
  intro L h₁ hL F hkk
  have N : News (hideAll hE [xe, ta]) L h₁ [(xe, excO 59 ta), (ta, tupO #[.str k1 t1, .str m1 t2])] := news_many (by
    intro q hq
    simp only [List.mem_cons, List.not_mem_nil, or_false] at hq
    rcases hq with rfl | rfl
    · exact ⟨.head _, e1⟩
    · exact ⟨.tail _ (.head _), e2⟩) hL hkk
  clear hkk e1 e2 X T
  have hs1 : k1.length + Str.length (Str.ofString ": ") ≤ sizeLine := by rcases hk with ⟨rfl, rfl⟩ | ⟨rfl, rfl⟩ <;> exact Nat.le_of_ble_eq_true (by decide +kernel)
  have hs2 : Str.length (k1 ++ Str.ofString ": ") + m1.length ≤ sizeLine := by rcases hk with ⟨rfl, rfl⟩ | ⟨rfl, rfl⟩ <;> exact Nat.le_of_ble_eq_true (by decide +kernel)
  clear hk
  all_goals (try dsimp only)
  all_goals (try k_fold)
  all_goals walk_at "M steps"
  all_goals walk_at "M setN"
  all_goals walk_at "M steps"
  all_goals walk_at "M setO"
  all_goals walk_at "M steps"
  all_goals walk_at "M setO"
  all_goals walk_at "M steps"
  all_goals
    have fr : ∀ b, (hideAll hE [xe, ta]).get? b = none → hh.get? b = none := fun b q => by
      cases q2 : hh.get? b with
      | none => rfl
      | some o => have q1 := k0 _ _ q2; rw [q] at q1; cases q1
  all_goals exact hret _ _ _ (fun b o e _ => F9.keep _ _ (k0 _ _ e)) ⟨_, _, _, _, _, _, _, _, _, fr _ (hideAll_none _ (.head _)), fr _ (News.fresh N9 (.head _)), News.get N9 (by k_mem), News.get N9 (by k_mem), News.get N9 (.head _)⟩
end

/-- e flies through the frames l: base stands, e is a MachineFault whose dict is dx, its newest traceback entry carries the mark fl -/
def FlyD (base : Heap) (l : List Env) (e dx : Addr) (fl : Value) (h : Heap) : Prop :=
  base.StaysIn h ∧ base.get? e = none ∧ h.FunFrames base l ∧
  ∃ vs T oT ts sl, h.get? e = some ⟨.ref 59, some dx, .fields vs, sl⟩ ∧ vs[1]? = some (.ref T) ∧ base.get? T = none ∧ T ≠ e ∧ h.get? T = some oT ∧ oT.data = .fields ts ∧ ts[3]? = some fl
/-- e is made and not thrown yet -/
def FreshD (base : Heap) (l : List Env) (e dx : Addr) (h : Heap) : Prop :=
  base.StaysIn h ∧ base.get? e = none ∧ h.FunFrames base l ∧ ∃ vs sl, h.get? e = some ⟨.ref 59, some dx, .fields vs, sl⟩ ∧ vs[1]? = some .none
section
variable {M : Model} {A : Around} {E : Value → Shared → Prop} {s : Shared} {base : Heap} {env : Env} {outer l : List Env} {L e dx : Addr} {Q : Unit → Shared → Prop} {fl : Value}
theorem entry_D {vs : Array Value} {sl : Array (Option Value)} {head : Value} {hadNext : Bool} (hfr : A.frames = some (env :: outer)) (hl : s.heap.FunFrames base (env :: outer)) (hf : env.frame = some L)
    (he : s.heap.get? e = some ⟨.ref 59, some dx, .fields vs, sl⟩) (hkb : base.StaysIn s.heap) (hen : base.get? e = none) (hsz : 1 < vs.size)
    (h : ∀ h', FlyD base (env :: outer) e dx (rawInt L) h' → s.heap.UpToSlots h' → Q () { s with heap := h' }) :
    wpAny M A (do let a ← frameOf env; let pl ← entryPlaceOf L hadNext; let b ← EntryCells.newEntry head a .none (rawInt L) .none pl; setField (.ref e) 1 b) Q E s := by
  have hene : e ∉ (env :: outer).filterMap (·.frame) := fun hm => by
    obtain ⟨_, o, ho, hnf⟩ := hl.mem hm
    rw [he] at ho; cases ho; exact hnf vs rfl
  refine wpAny_bind (wpAny_frameOf_fun hfr hl hf fun h₁ hs₁ => wpAny_bind (wpAny_entryPlaceOf fun pl hpl => ?_))
  unfold EntryCells.newEntry newFields
  refine wpAny_bind (wpAny_newObj_type ?_ (hpl.sizeOk5 _ _ _ _ _))
  have he₁ : h₁.get? e = some ⟨.ref 59, some dx, .fields vs, sl⟩ := (hs₁.2.1 e hene).trans he
  have kb₁ : base.StaysIn h₁ := fun b o hbo => (hs₁.2.1 b fun hm => by rw [(hl.mem hm).1] at hbo; cases hbo).trans (hkb b o hbo)
  have he₂ := Heap.get?_push_of_some (h := h₁) { cls := .type "traceback", dict := none, data := .fields ([head, .ref L, .none, rawInt L, .none] ++ (if pl.isEmpty then List.replicate 6 Value.none else pl)).toArray } he₁
  have hTe : h₁.objs.size ≠ e := Nat.ne_of_gt (Heap.lt_size he₁)
  have he₃ := Heap.get?_update_self (Obj.mapFields (·.setIfInBounds 1 (Value.ref h₁.objs.size))) he₂ rfl
  have keep : ∀ b o, b ≠ e → h₁.get? b = some o → ((h₁.push { cls := .type "traceback", dict := none, data := .fields ([head, .ref L, .none, rawInt L, .none] ++ (if pl.isEmpty then List.replicate 6 Value.none else pl)).toArray }).update e (Obj.mapFields (·.setIfInBounds 1 (Value.ref h₁.objs.size)))).get? b = some o :=
    fun b o hbe hb => (Heap.get?_update_other _ _ (Ne.symm hbe)).trans (Heap.get?_push_of_some _ hb)
  have hT₃ := (Heap.get?_update_other (h₁.push { cls := .type "traceback", dict := none, data := .fields ([head, .ref L, .none, rawInt L, .none] ++ (if pl.isEmpty then List.replicate 6 Value.none else pl)).toArray })
    (Obj.mapFields (·.setIfInBounds 1 (Value.ref h₁.objs.size))) (Ne.symm hTe)).trans (Heap.get?_push_size h₁ rfl)
  refine wpAny_setField he₂ rfl hsz (h _ ?_ fun b o hb hnf => let ⟨sl', hs⟩ := hs₁.2.2 b o hb; ⟨sl', keep b _ (fun q => by rw [q, he] at hb; cases hb; exact hnf vs rfl) hs⟩)
  refine ⟨fun b o hbo => keep b o (fun q => by rw [q, hen] at hbo; cases hbo) (kb₁ b o hbo), hen, hl.of_keeps fun b o hb hnf => ?_, _, h₁.objs.size, _, _, sl, he₃, by simp [hsz], kb₁.fresh, hTe, hT₃, rfl, ?_⟩
  · obtain ⟨sl', hs⟩ := hs₁.2.2 b o hb
    refine ⟨_, keep b _ (fun q => ?_) hs, rfl⟩
    rw [q, he] at hb; cases hb; exact hnf vs rfl
  · first
    | (simp; done)
    | (rcases hpl with rfl | ⟨_, _, _, _, _, _, _, rfl⟩ <;> simp)
theorem note_new (hfr : A.frames = some (env :: outer)) (hf : env.frame = some L) (x : FreshD base (env :: outer) e dx s.heap)
    (h : ∀ h', FlyD base (env :: outer) e dx (rawInt L) h' → s.heap.UpToSlots h' → Q () { s with heap := h' }) : wpAny M A (noteFrame (.ref e) env) Q E s := by
  obtain ⟨hkb, hen, hl, vs, sl, he, h1⟩ := x
  unfold noteFrame
  simp only [hf]
  refine wpAny_bind (wpAny_field he rfl h1 ?_)
  rw [if_neg (by decide)]
  exact entry_D hfr hl hf he hkb hen (Array.getElem?_eq_some_iff.mp h1).1 h
theorem note_next (hfr : A.frames = some (env :: outer)) (hf : env.frame = some L) (x : FlyD base (env :: outer) e dx .none s.heap)
    (h : ∀ h', FlyD base (env :: outer) e dx (rawInt L) h' → s.heap.UpToSlots h' → Q () { s with heap := h' }) : wpAny M A (noteFrame (.ref e) env) Q E s := by
  obtain ⟨hkb, hen, hl, vs, T, oT, ts, sl, he, h1, hnT, hTe, hT, hdT, h3⟩ := x
  unfold noteFrame
  simp only [hf]
  refine wpAny_bind (wpAny_field he rfl h1 ?_)
  rw [if_pos (show (Value.ref T != Value.none) = true from by simp)]
  refine wpAny_bind (wpAny_field hT hdT h3 ?_)
  rw [if_neg (show ¬ ((Value.none == rawInt L) = true) from by simp [rawInt])]
  refine wpAny_bind (wpAny_setField hT hdT (Array.getElem?_eq_some_iff.mp h3).1 ?_)
  have other : ∀ b, b ≠ T → (s.heap.update T (Obj.mapFields (·.setIfInBounds 3 Value.none))).get? b = s.heap.get? b := fun b hb => Heap.get?_update_other _ _ (Ne.symm hb)
  refine entry_D hfr (hl.of_keeps fun b o hb hnf => ⟨o, (other b fun q => ?_).trans hb, rfl⟩) hf ((other e (Ne.symm hTe)).trans he)
    (fun b o hbo => (other b fun q => by rw [q, hnT] at hbo; cases hbo).trans (hkb b o hbo)) hen (Array.getElem?_eq_some_iff.mp h1).1 fun h' y u => h h' y (Heap.UpToSlots.trans (fun b o hb hnf => ⟨o.slots, (other b fun q => by rw [q, hT] at hb; injection hb with hb; subst hb; exact hnf ts hdT).trans hb⟩) u)
  rw [q, hT] at hb; injection hb with hb; subst hb; exact hnf ts hdT
theorem note_again (hf : env.frame = some L) (x : FlyD base (env :: outer) e dx (rawInt L) s.heap) (h : Q () s) : wpAny M A (noteFrame (.ref e) env) Q E s := by
  obtain ⟨hkb, hen, hl, vs, T, oT, ts, sl, he, h1, hnT, hTe, hT, hdT, h3⟩ := x
  unfold noteFrame
  simp only [hf]
  refine wpAny_bind (wpAny_field he rfl h1 ?_)
  rw [if_pos (show (Value.ref T != Value.none) = true from by simp)]
  refine wpAny_bind (wpAny_field hT hdT h3 ?_)
  rw [if_pos (show (rawInt L == rawInt L) = true from by simp)]
  exact wpAny_pure h
theorem set_flight (x : FlyD base l e dx fl s.heap) (h : ∀ h', FlyD base l e dx .none h' → s.heap.UpToSlots h' → Q () { s with heap := h' }) : wpAny M A (setFlight (.ref e) none) Q E s := by
  obtain ⟨hkb, hen, hl, vs, T, oT, ts, sl, he, h1, hnT, hTe, hT, hdT, h3⟩ := x
  have hsz3 : 3 < ts.size := (Array.getElem?_eq_some_iff.mp h3).1
  have other : ∀ b, b ≠ T → (s.heap.update T (Obj.mapFields (·.setIfInBounds 3 ((none : Option Addr).elim Value.none fun f => rawInt f)))).get? b = s.heap.get? b := fun b hb => Heap.get?_update_other _ _ (Ne.symm hb)
  unfold setFlight
  refine wpAny_bind (wpAny_field he rfl h1 ?_)
  rw [if_pos (show (Value.ref T != Value.none) = true from by simp)]
  refine wpAny_setField hT hdT hsz3 (h _ ⟨fun b o hbo => (other b fun q => by rw [q, hnT] at hbo; cases hbo).trans (hkb b o hbo), hen, hl.of_keeps fun b o hb hnf => ⟨o, (other b fun q => ?_).trans hb, rfl⟩, vs, T, _, _, sl, (other e (Ne.symm hTe)).trans he, h1, hnT, hTe, Heap.get?_update_self _ hT (Obj.isFreed_of_fields (Obj.data_mapFields hdT _)), Obj.data_mapFields hdT _, by simp [hsz3]⟩ fun b o hb hnf => ⟨o.slots, (other b fun q => by rw [q, hT] at hb; injection hb with hb; subst hb; exact hnf ts hdT).trans hb⟩)
  rw [q, hT] at hb; injection hb with hb; subst hb; exact hnf ts hdT
theorem FlyD.pop (x : FlyD base (env :: l) e dx fl s.heap) : FlyD base l e dx fl s.heap :=
  let ⟨a, b, ⟨_, _, c⟩, d⟩ := x; ⟨a, b, c, d⟩
theorem leave_new (hfr : A.frames = some (env :: outer)) (hf : env.frame = some L) (x : FreshD base (env :: outer) e dx s.heap)
    (h : ∀ h', FlyD base outer e dx .none h' → s.heap.UpToSlots h' → Q () { s with heap := h' }) : wpAny M A (leaving env (.ref e)) Q E s := by
  unfold leaving
  exact wpAny_bind (note_new hfr hf x fun h' y u => set_flight (s := { s with heap := h' }) y fun h'' z u' => h h'' (FlyD.pop (s := { s with heap := h'' }) z) (u.trans u'))
theorem leave_next (hfr : A.frames = some (env :: outer)) (hf : env.frame = some L) (x : FlyD base (env :: outer) e dx .none s.heap)
    (h : ∀ h', FlyD base outer e dx .none h' → s.heap.UpToSlots h' → Q () { s with heap := h' }) : wpAny M A (leaving env (.ref e)) Q E s := by
  unfold leaving
  exact wpAny_bind (note_next hfr hf x fun h' y u => set_flight (s := { s with heap := h' }) y fun h'' z u' => h h'' (FlyD.pop (s := { s with heap := h'' }) z) (u.trans u'))
theorem leave_again (hf : env.frame = some L) (x : FlyD base (env :: outer) e dx (rawInt L) s.heap)
    (h : ∀ h', FlyD base outer e dx .none h' → s.heap.UpToSlots h' → Q () { s with heap := h' }) : wpAny M A (leaving env (.ref e)) Q E s := by
  unfold leaving
  exact wpAny_bind (note_again hf x (set_flight x fun h'' z u => h h'' (FlyD.pop (s := { s with heap := h'' }) z) u))
theorem FlyD.on {base' : Heap} (x : FlyD base l e dx fl s.heap) (k : base'.StaysIn base) : FlyD base' l e dx fl s.heap := by
  obtain ⟨hkb, hen, hl, vs, T, oT, ts, sl, he, h1, hnT, r⟩ := x
  exact ⟨fun b o q => hkb b o (k b o q), fresh_of_stays k hen, funFrames_base k hl, vs, T, oT, ts, sl, he, h1, fresh_of_stays k hnT, r⟩
end
/-- a MachineFault of kind k flies out to the callers l; base stands -/
def Thrown (P : Params) (base H : Heap) (l : List Env) (fl : Value) (e : Addr) (k : Str) (h : Heap) : Prop := ∃ dx B t1 v1 t2 v2 t3 t4, H.UpToSlots h ∧ base.StaysIn B ∧ FlyD B l e dx fl h ∧
  B.get? dx = some (dictOf [⟨PyData.keyHash P (Str.ofString "message"), .str (Str.ofString "message") t1, v1⟩, ⟨PyData.keyHash P (Str.ofString "spot"), .str (Str.ofString "spot") t2, v2⟩, ⟨PyData.keyHash P (Str.ofString "kind"), .str (Str.ofString "kind") t3, .str k t4⟩] 3) ∧ base.get? dx = none
theorem Thrown.on {P : Params} {base H H' : Heap} {l : List Env} {fl : Value} {e : Addr} {k : Str} {h : Heap} (x : Thrown P base H l fl e k h) (u : H'.UpToSlots H) : Thrown P base H' l fl e k h :=
  let ⟨dx, B, t1, v1, t2, v2, t3, t4, hu, r⟩ := x; ⟨dx, B, t1, v1, t2, v2, t3, t4, u.trans hu, r⟩
section
variable {M : Model} {A : Around} {E : Value → Shared → Prop} {s : Shared} {base h H : Heap} {env : Env} {l : List Env} {L e : Addr} {Q : Unit → Shared → Prop} {P : Params} {k : Str} {m : Str → Option Value}
theorem fresh_fault (hf : env.frame = some L) (hke : env.scope.kind = .function) {h1 : Heap} (F₁ : Fr (hideAll h []) L h1 m) (F : Fr (hideAll h []) L s.heap m) (hl : h.FunFrames base l) (hkb : base.StaysIn h) (FA : FaultAt P h1 s.heap e k) :
    ∃ dx B t1 v1 t2 v2 t3 t4, base.StaysIn B ∧ FreshD B (env :: l) e dx s.heap ∧
      B.get? dx = some (dictOf [⟨PyData.keyHash P (Str.ofString "message"), .str (Str.ofString "message") t1, v1⟩, ⟨PyData.keyHash P (Str.ofString "spot"), .str (Str.ofString "spot") t2, v2⟩, ⟨PyData.keyHash P (Str.ofString "kind"), .str (Str.ofString "kind") t3, .str k t4⟩] 3) ∧ base.get? dx = none := by
  obtain ⟨ta, dx, t1, v1, t2, v2, t3, t4, vs, n1, n2, q1, q2, q3⟩ := FA
  have kk : ∀ b o, h.get? b = some o → s.heap.get? b = some o := fun b o q => F.keep b o (hideAll_get _ q List.not_mem_nil)
  have hLn : base.get? L = none := by
    cases q : base.get? L with
    | none => rfl
    | some o => exact absurd (Nat.lt_of_lt_of_le (Heap.lt_size (hkb L o q)) (Nat.le_trans (Nat.le_of_eq (hideAll_size [] h).symm) F.above)) (Nat.lt_irrefl _)
  have FF : s.heap.FunFrames base (env :: l) := .cons (by rw [hke]; decide) hf F.ns hLn (hl.of_keeps fun b o q _ => ⟨o, kk b o q, rfl⟩)
  have nf : ∀ b, b ∈ (env :: l).filterMap (·.frame) → ∃ o, s.heap.get? b = some o ∧ ∀ ws, o.data ≠ .fields ws := fun b hb => by
    obtain ⟨_, o, ho, hnf⟩ := FF.mem hb
    exact ⟨o, ho, hnf⟩
  have fr0 : ∀ b, b ∈ (env :: l).filterMap (·.frame) → base.get? b = none := fun b hb => (FF.mem hb).1
  have k1 : ∀ b o, h.get? b = some o → h1.get? b = some o := fun b o q => F₁.keep b o (hideAll_get _ q List.not_mem_nil)
  have hdxe : dx ≠ e := fun q => by rw [q, q1] at q3; cases q3
  refine ⟨dx, hideAll s.heap (e :: (env :: l).filterMap (·.frame)), t1, v1, t2, v2, t3, t4, fun b o q => ?_, ⟨fun b o q => of_hideAll _ q, hideAll_none _ (.head _), funFrames_hide FF fun env' he a ha => .tail _ (List.mem_filterMap.mpr ⟨env', he, ha⟩), _, _, q1, rfl⟩, ?_, fresh_of_stays (fun b o q => k1 b o (hkb b o q)) n2⟩
  · refine hideAll_get _ (kk _ _ (hkb _ _ q)) fun hm => ?_
    rcases List.mem_cons.mp hm with rfl | hm
    · rw [k1 _ _ (hkb _ _ q)] at n1; cases n1
    · rw [fr0 _ hm] at q; cases q
  · refine hideAll_get _ q3 fun hm => ?_
    rcases List.mem_cons.mp hm with q | hm
    · exact hdxe q
    · have FF1 : h1.FunFrames base (env :: l) := .cons (by rw [hke]; decide) hf F₁.ns hLn (hl.of_keeps fun b o q _ => ⟨o, k1 b o q, rfl⟩)
      obtain ⟨_, o, ho, _⟩ := FF1.mem hm
      rw [n2] at ho; cases ho
theorem leave_fault {h1 : Heap} (hfr : A.frames = some (env :: l)) (hf : env.frame = some L) (hke : env.scope.kind = .function) (F₁ : Fr (hideAll h []) L h1 m) (F : Fr (hideAll h []) L s.heap m) (hl : h.FunFrames base l) (hkb : base.StaysIn h) (FA : FaultAt P h1 s.heap e k)
    (hq : ∀ h', Thrown P base h l .none e k h' → Q () { s with heap := h' }) : wpAny M A (leaving env (.ref e)) Q E s := by
  obtain ⟨dx, B, t1, v1, t2, v2, t3, t4, hB, fd, hd'⟩ := fresh_fault hf hke F₁ F hl hkb FA
  exact leave_new hfr hf fd fun h' y u => hq h' ⟨dx, B, t1, v1, t2, v2, t3, t4, Heap.UpToSlots.trans (Heap.UpToSlots.of_keeps fun b o q => F.keep b o (hideAll_get _ q List.not_mem_nil)) u, hB, y, hd'⟩
theorem leave_thrown (hfr : A.frames = some (env :: l)) (hf : env.frame = some L) (x : Thrown P base H (env :: l) .none e k s.heap)
    (hq : ∀ h', Thrown P base H l .none e k h' → Q () { s with heap := h' }) : wpAny M A (leaving env (.ref e)) Q E s := by
  obtain ⟨dx, B, t1, v1, t2, v2, t3, t4, hu, hB, fd, hd'⟩ := x
  exact leave_next hfr hf fd fun h' y u => hq h' ⟨dx, B, t1, v1, t2, v2, t3, t4, hu.trans u, hB, y, hd'⟩
theorem leave_noted (hf : env.frame = some L) (x : Thrown P base H (env :: l) (rawInt L) e k s.heap)
    (hq : ∀ h', Thrown P base H l .none e k h' → Q () { s with heap := h' }) : wpAny M A (leaving env (.ref e)) Q E s := by
  obtain ⟨dx, B, t1, v1, t2, v2, t3, t4, hu, hB, fd, hd'⟩ := x
  exact leave_again hf fd fun h' y u => hq h' ⟨dx, B, t1, v1, t2, v2, t3, t4, hu.trans u, hB, y, hd'⟩
theorem note_thrown (hfr : A.frames = some (env :: l)) (hf : env.frame = some L) (x : Thrown P base H (env :: l) .none e k s.heap)
    (hq : ∀ h', Thrown P base H (env :: l) (rawInt L) e k h' → Q () { s with heap := h' }) : wpAny M A (noteFrame (.ref e) env) Q E s := by
  obtain ⟨dx, B, t1, v1, t2, v2, t3, t4, hu, hB, fd, hd'⟩ := x
  exact note_next hfr hf fd fun h' y u => hq h' ⟨dx, B, t1, v1, t2, v2, t3, t4, hu.trans u, hB, y, hd'⟩
theorem note_fault {h1 : Heap} (hfr : A.frames = some (env :: l)) (hf : env.frame = some L) (hke : env.scope.kind = .function) (F₁ : Fr (hideAll h []) L h1 m) (F : Fr (hideAll h []) L s.heap m) (hl : h.FunFrames base l) (hkb : base.StaysIn h) (FA : FaultAt P h1 s.heap e k)
    (hq : ∀ h', Thrown P base h (env :: l) (rawInt L) e k h' → Q () { s with heap := h' }) : wpAny M A (noteFrame (.ref e) env) Q E s := by
  obtain ⟨dx, B, t1, v1, t2, v2, t3, t4, hB, fd, hd'⟩ := fresh_fault hf hke F₁ F hl hkb FA
  exact note_new hfr hf fd fun h' y u => hq h' ⟨dx, B, t1, v1, t2, v2, t3, t4, Heap.UpToSlots.trans (Heap.UpToSlots.of_keeps fun b o q => F.keep b o (hideAll_get _ q List.not_mem_nil)) u, hB, y, hd'⟩
theorem flight_thrown {fl : Value} (x : Thrown P base H l fl e k s.heap)
    (hq : ∀ h', Thrown P base H l .none e k h' → Q () { s with heap := h' }) : wpAny M A (setFlight (.ref e) none) Q E s := by
  obtain ⟨dx, B, t1, v1, t2, v2, t3, t4, hu, hB, fd, hd'⟩ := x
  exact set_flight fd fun h' y u => hq h' ⟨dx, B, t1, v1, t2, v2, t3, t4, hu.trans u, hB, y, hd'⟩
end

theorem FaultAt.get {P : Params} {h0 h : Heap} {e : Addr} {k : Str} (x : FaultAt P h0 h e k) : ∃ ta dx, h.get? e = some ⟨.ref 59, some dx, .fields #[.ref ta, .none, .none, .none, .bool false, .none], #[]⟩ := by
  obtain ⟨ta, dx, t1, v1, t2, v2, t3, t4, vs, _, _, h1, _⟩ := x
  exact ⟨ta, dx, h1⟩
inductive IsFault (P : Params) (h : Heap) (e : Addr) (k : Str) : Prop
  | mk (h0 : _) (z1 : FaultAt P h0 h e k)
section
variable {prog : Program} {w : World} {A : Around} {E : Value → Shared → Prop} {s : Shared} {env : Env} {Q : Flow → Shared → Prop}
theorem raise_E {x : PySem.Expr} {pos : Pos} {k : Str} (hh : A.handled = none)
    (h : wpAny (model prog w) A (eval x env) (fun v s₁ => ∃ e, v = .ref e ∧ (hd.heap_1 w.params).In s₁.heap ∧ IsFault w.params s₁.heap e k ∧ E (.ref e) s₁) E s) :
    wpAny (model prog w) A (exec (.Raise (some x) none pos) env) Q E s := by
  rw [arm_exec_Raise]
  refine wpAny_bind (wpAny_standAt ?_)
  show wpAny _ _ (raiseStmt env (some (do let v ← eval x env; standAt pos; pure v)) none) _ _ _
  unfold raiseStmt
  refine wpAny_bind (wpAny_mono (wpAny_bind (wpAny_mono h (fun v s₁ h₁ => wpAny_bind (wpAny_standAt (wpAny_pure h₁))) fun _ _ x => x)) (fun v s₁ h₁ => ?_) fun _ _ x => x)
  obtain ⟨e, rfl, X, ⟨h0, FA⟩, hE⟩ := h₁
  obtain ⟨ta, dx, he⟩ := FA.get
  have hC := X 59 _ rfl
  obtain ⟨hp, g, d, tk, os⟩ := s₁
  have hcB : (Value.ref 59 :: [.ref 39, .type "Exception", .type "BaseException", .type "object"]).contains (.type "BaseException") = true := by decide +kernel
  repeat (first | with_reducible refine wpAny_loadPart_at he ?_ | with_reducible refine wpAny_loadPart_at hC ?_ | (with_reducible refine wpAny_isSubtype_exc (bm := [.ref 39, .type "Exception", .type "BaseException", .type "object"]) hC ?_; rw [hcB]) | wp_step)
  exact wpAny_raiseNew_none hh hE
end
section
variable {prog : Program} {w : World} {p : Program} {loose : List Str} {mg mb : Str → Option Value} {dp un : Nat} {fr : Option (List Env)} {gd : Option (List Code)} {s : Shared} {h₀ h h' : Heap} {L : Addr} {m : Str → Option Value} {news : List (Addr × Obj)} {Q E : Value → Shared → Prop}
theorem FaultAt.since {P : Params} {h0 h1 : Heap} {e : Addr} {k : Str} (x : FaultAt P h1 h e k) (hk : ∀ b o, h0.get? b = some o → h1.get? b = some o) : FaultAt P h0 h e k := by
  obtain ⟨ta, dx, t1, v1, t2, v2, t3, t4, vs, n1, n2, n3, n4, n5⟩ := x
  exact ⟨ta, dx, t1, v1, t2, v2, t3, t4, vs, fresh_of_stays hk n1, fresh_of_stays hk n2, n3, n4, n5⟩
theorem call_fault {t1 t2 : Tok} {k1 m1 : Str} (hk : (k1 = "kind" ∧ m1 = "no value of this type is handed in") ∨ (k1 = "uninitialised" ∧ m1 = "a value that is not there is shown"))
    (F : Fr h₀ L s.heap m) (X : (hd.heap_1 w.params).In h₀) (T : TopRead p loose mg mb h₀) (N : News h₀ L s.heap news) (hdp : dp + 6 < recursionLimit) (hu : un + 100 < cLine)
    (ret : ∀ a h' tk', Fr h₀ L h' m → News h₀ L h' news → Fr h₀ L s.heap m → FaultAt w.params s.heap h' a k1 → Q (.ref a) { s with heap := h', toks := tk' }) :
    wpAny (model prog w) (AA dp un fr gd) (call (.ref 59) [.str k1 t1, .str m1 t2]) Q E s :=
  fault_ hk (X.keeps F.keep) (T.keeps F.keep) hdp hu fun a h' tk' k fa => ret a h' tk' (Kp.frame F k) (News.kp N k) F fa
theorem reg26 : True := by
  (k_with "call ref" => ((k_here; (with_reducible show wpAny _ _ (call (Value.ref 59) [Value.str _ _, Value.str _ _]) _ _ _); (k_dflt (refine' call_fault ?hk_q58 ?F_q58 ?X_q58 ?T_q58 ?N_q58 ?hdp_q58 ?hu_q58 ?_; (case hk_q58 => first | exact .inl ⟨rfl, rfl⟩ | exact .inr ⟨rfl, rfl⟩); (case F_q58 => k_asm); (case X_q58 => k_asm); (case T_q58 => k_asm); (case N_q58 => k_asm); (case hdp_q58 => walk_at "M lt"); (case hu_q58 => walk_at "M lt"); k_whole)); intro e9 h9 t9 F9 N9 fc9 fa9)))
  exact True.intro
theorem novalue_ (X : (hd.heap_1 w.params).In s.heap) (T : TopRead p loose mg mb s.heap) (hdp : dp + 7 < recursionLimit) (hu : un + 120 < cLine)
    (hret : ∀ a h' tk', Kp [] s.heap h' → FaultAt w.params s.heap h' a "kind" → Q (.ref a) { s with heap := h', toks := tk' }) :
    wpAny (model prog w) (AA dp un fr gd) (call (.ref 148) []) Q E s := by
  refine wpAny_call ?_
  k_dflt (refine' enterP (binds := []) [] X ?k2 ?k3 ?k6 ?k7 ?k9 ?kB ?_ ?c2 ?c3 ?c4 ?c5)
  walk_at "M enter"
  intro L h₁ hL F hk
  clear hk
  have X₀ : (hd.heap_1 w.params).In (hideAll s.heap []) := X
  have T₀ : TopRead p loose mg mb (hideAll s.heap []) := T
  have N : News (hideAll s.heap []) L h₁ [] := News.nil
  clear X T
  all_goals (try dsimp only)
  all_goals (try k_fold)
  all_goals walk_at "M steps"
  exact hret _ _ _ (Kp.of_fr F9) (fa9.since fun b o e => fc9.keep b o (hideAll_get _ e List.not_mem_nil))
theorem call_novalue (F : Fr h₀ L s.heap m) (X : (hd.heap_1 w.params).In h₀) (T : TopRead p loose mg mb h₀) (N : News h₀ L s.heap news) (hdp : dp + 7 < recursionLimit) (hu : un + 120 < cLine)
    (ret : ∀ a h' tk', Fr h₀ L h' m → News h₀ L h' news → Fr h₀ L s.heap m → FaultAt w.params s.heap h' a "kind" → Q (.ref a) { s with heap := h', toks := tk' }) :
    wpAny (model prog w) (AA dp un fr gd) (call (.ref 148) []) Q E s :=
  novalue_ (X.keeps F.keep) (T.keeps F.keep) hdp hu fun a h' tk' k fa => ret a h' tk' (Kp.frame F k) (News.kp N k) F fa
theorem reg27 : True := by
  (k_with "call ref" => ((k_here; (with_reducible show wpAny _ _ (call (Value.ref 148) _) _ _ _); (k_dflt (refine' call_novalue ?F_q59 ?X_q59 ?T_q59 ?N_q59 ?hdp_q59 ?hu_q59 ?_; (case F_q59 => k_asm); (case X_q59 => k_asm); (case T_q59 => k_asm); (case N_q59 => k_asm); (case hdp_q59 => walk_at "M lt"); (case hu_q59 => walk_at "M lt"); k_whole)); intro e9 h9 t9 F9 N9 fc9 fa9)))
  (k_with "exec Raise some none" => ((k_here; refine raise_E (k := "kind") rfl ?_)))
  exact True.intro
end

section
variable {prog : Program} {w : World} {p : Program} {loose : List Str} {mg mb : Str → Option Value} {dp un : Nat} {fr : Option (List Env)} {gd : Option (List Code)} {s : Shared} {h₀ h h' : Heap} {L : Addr} {m : Str → Option Value} {news : List (Addr × Obj)} {Q E : Value → Shared → Prop}
theorem made_ {κ : Str} {lo hi n : Int} {u t1 t2 : Tok} {ta : Addr} (hκ : (κ, lo, hi) ∈ kinds) (X : (hd.heap_1 w.params).In s.heap) (T : TopRead p loose mg mb s.heap) (hdp : dp + 10 < recursionLimit) (hu : un + 150 < cLine) {base : Heap} {l : List Env} (hl : s.heap.FunFrames base l) (hkb : base.StaysIn s.heap)
    (hT : IsTup s.heap ta #[.str "int" t1, .str κ t2])
    (hret : ∀ h' tk', lo ≤ n ∧ n ≤ hi → Kp [] s.heap h' → Q (.int n u) { s with heap := h', toks := tk' })
    (hrai : ∀ e h' tk', ¬ (lo ≤ n ∧ n ≤ hi) → Thrown w.params base s.heap l .none e "kind" h' → E (.ref e) { s with heap := h', toks := tk' }) :
    wpAny (model prog w) (AA dp un (some l) gd) (call (.ref 155) [.int n u, .ref ta]) Q E s := by
  have hT₀ : IsTup (hideAll s.heap []) ta #[.str "int" t1, .str κ t2] := hT
  refine wpAny_call ?_
  k_dflt (refine' enterP (binds := [("told", .int n u), ("T", .ref ta)]) [] X ?k2 ?k3 ?k6 ?k7 ?k9 ?kB ?_ ?c2 ?c3 ?c4 ?c5)
  walk_at "M enter"
  intro L h₁ hL F hk
  clear hk
  have X₀ : (hd.heap_1 w.params).In (hideAll s.heap []) := X
  have T₀ : TopRead p loose mg mb (hideAll s.heap []) := T
  have N : News (hideAll s.heap []) L h₁ [] := News.nil
  clear X T
  all_goals (try dsimp only)
  all_goals (try k_fold)
  all_goals walk_at "M steps"
  · exact hret _ _ (by assumption) (Kp.of_fr (by assumption))
  · exact ⟨_, by assumption⟩
  · exact leave_fault (h := s.heap) rfl rfl rfl (by assumption) (by assumption) hl hkb (by assumption) fun h' th => hrai _ _ _ (by assumption) th
theorem call_made {κ : Str} {lo hi n : Int} {u t1 t2 : Tok} {ta : Addr} (hκ : (κ, lo, hi) ∈ kinds) (F : Fr h₀ L s.heap m) (X : (hd.heap_1 w.params).In h₀) (T : TopRead p loose mg mb h₀) (N : News h₀ L s.heap news) (hdp : dp + 10 < recursionLimit) (hu : un + 150 < cLine) {base : Heap} {l : List Env} (hl : s.heap.FunFrames base l) (hkb : base.StaysIn s.heap)
    (hT : IsTup h₀ ta #[.str "int" t1, .str κ t2])
    (ret : ∀ h' tk', lo ≤ n ∧ n ≤ hi → Fr h₀ L h' m → News h₀ L h' news → Q (.int n u) { s with heap := h', toks := tk' })
    (hrai : ∀ e h' tk', ¬ (lo ≤ n ∧ n ≤ hi) → Thrown w.params base s.heap l .none e "kind" h' → E (.ref e) { s with heap := h', toks := tk' }) :
    wpAny (model prog w) (AA dp un (some l) gd) (call (.ref 155) [.int n u, .ref ta]) Q E s :=
  made_ hκ (X.keeps F.keep) (T.keeps F.keep) hdp hu hl hkb (hT.keeps F.keep) (fun h' tk' hb k => ret h' tk' hb (Kp.frame F k) (News.kp N k)) hrai
end

section
variable {prog : Program} {w : World} {A : Around} {R : Result → Shared → Prop} {s : Shared}
theorem while_turn {test : PySem.Expr} {body orelse : List Stmt} {env : Env}
    (turn : wpAny (model prog w) A (isTrue test env (eval test env)) (fun b s₂ =>
        if b = true then wpAny (model prog w) A (execs body env) (fun f s₃ => match f with
            | .next | .cont => codeAny (model prog w) A (.whileLoop test body orelse env) R s₃
            | .brk => R (.ok .next) s₃
            | .ret v => R (.ok (.ret v)) s₃) (notedBy (model prog w) A env fun e s' => R (.error e) s') s₂
        else wpAny (model prog w) A (execs orelse env) (fun f s₃ => R (.ok f) s₃) (notedBy (model prog w) A env fun e s' => R (.error e) s') s₂)
        (notedBy (model prog w) A env fun e s' => R (.error e) s') s) : codeAny (model prog w) A (.whileLoop test body orelse env) R s := by
  refine codeAny_of_tree ?_
  show wpAny _ A ((whileTurn test body orelse env).onRaise (fun x => do noteFrame x env; theTreesLotGoes x)) _ _ s
  refine wpAny_noted ?_
  simp only [whileTurn]
  refine wpAny_bind (wpAny_mono turn (fun b s₂ h₂ => ?_) fun _ _ h' => h')
  cases b with
  | false =>
    simp only [Bool.false_eq_true, if_false] at h₂ ⊢
    exact wpAny_bind (wpAny_mono h₂ (fun f s₃ h₃ => wpAny_pure h₃) fun _ _ h' => h')
  | true =>
    simp only [if_true] at h₂ ⊢
    refine wpAny_bind (wpAny_mono h₂ (fun f s₃ h₃ => ?_) fun _ _ h' => h')
    cases f with
    | next => exact wpAny_pure ⟨rfl, h₃⟩
    | cont => exact wpAny_pure ⟨rfl, h₃⟩
    | brk => exact wpAny_pure h₃
    | ret v => exact wpAny_pure h₃
end
section
variable {prog : Program} {w : World} {p : Program} {loose : List Str} {mg mb : Str → Option Value} {dp un : Nat} {fr : Option (List Env)} {gd : Option (List Code)} {s : Shared} {h₀ h h' : Heap} {L : Addr} {m : Str → Option Value} {news : List (Addr × Obj)} {Q E : Value → Shared → Prop}
variable {R : Except Value Flow → Shared → Prop}
theorem while_turn2 {test : PySem.Expr} {body orelse : List Stmt} {env : Env}
    (turn : ∀ (QT : Bool → Shared → Prop) (QB : Flow → Shared → Prop) (EB : Value → Shared → Prop),
      (∀ s₂, wpAny (model prog w) A (execs body env) QB EB s₂ → QT true s₂) → (∀ s₂, wpAny (model prog w) A (execs orelse env) (fun f s₃ => R (.ok f) s₃) EB s₂ → QT false s₂) →
      (∀ s₃, codeAny (model prog w) A (.whileLoop test body orelse env) R s₃ → QB .next s₃) → (∀ v s₃, R (.ok (.ret v)) s₃ → QB (.ret v) s₃) →
      (∀ e s', notedBy (model prog w) A env (fun e s' => R (.error e) s') e s' → EB e s') →
      PassesOwn (model prog w) A env EB → wpAny (model prog w) A (isTrue test env (eval test env)) QT EB s) : codeAny (model prog w) A (.whileLoop test body orelse env) R s :=
  while_turn (turn _ _ _ (fun _ x => x) (fun _ x => x) (fun _ x => x) (fun _ _ x => x) (fun _ _ x => x) (by passes_own))
end

section
variable {prog : Program} {w : World} {A : Around} {E : Value → Shared → Prop} {s : Shared} {h₀ : Heap} {L a : Addr} {m : Str → Option Value} {news : List (Addr × Obj)} {Q : Value → Shared → Prop}
def IsL (h : Heap) (a : Addr) : Prop := ∃ o, h.get? a = some o ∧ o.cls = .type "list"
theorem IsL.keeps {h h' : Heap} (x : IsL h a) (k : ∀ b o, h.get? b = some o → h'.get? b = some o) : IsL h' a := let ⟨o, e, c⟩ := x; ⟨o, k _ _ e, c⟩
theorem isi_tup {its : Array Value} (F : Fr h₀ L s.heap m) (x : IsTup h₀ a its) (h : Q (.bool true) s) : wpAny (model prog w) A (call (.builtin "isinstance") [.ref a, .type "tuple"]) Q E s := by
  obtain ⟨o, e, c, _⟩ := x
  exact IsiPair.tuple_tuple (F.keep _ _ e) c h
theorem isi_led {its : Array Value} {n : Nat} (N : News h₀ L s.heap news) (hm : (a, ({ cls := .type "tuple", data := .seq its n } : Obj)) ∈ news) (h : Q (.bool true) s) : wpAny (model prog w) A (call (.builtin "isinstance") [.ref a, .type "tuple"]) Q E s :=
  IsiPair.tuple_tuple (N.get hm) rfl h
theorem len_tupB {its : Array Value} {n : Int} (F : Fr h₀ L s.heap m) (x : IsTup h₀ a its) (hn : (its.size : Int) = n) (hz : its.size < 1000) (h : Q (.int n (s.toks + 1)) { s with toks := s.toks + 1 + 1 }) : wpAny (model prog w) A (call (.builtin "len") [.ref a]) Q E s := by
  subst hn
  exact len_tuple (x.keeps F.keep) (by omega) h
theorem len_tupN {its : Array Value} {n : Int} {c : Nat} (N : News h₀ L s.heap news) (hm : (a, ({ cls := .type "tuple", data := .seq its c } : Obj)) ∈ news) (hn : (its.size : Int) = n) (hz : its.size < 1000) (h : Q (.int n (s.toks + 1)) { s with toks := s.toks + 1 + 1 }) : wpAny (model prog w) A (call (.builtin "len") [.ref a]) Q E s := by
  subst hn
  exact len_tuple (s := s) ⟨_, N.get hm, rfl, _, rfl⟩ (by omega) h
theorem len_lstN {its : Array Value} {n : Int} {c : Nat} (N : News h₀ L s.heap news) (hm : (a, listOf its c) ∈ news) (hn : (its.size : Int) = n) (hz : its.size < 1000) (h : Q (.int n (s.toks + 1)) { s with toks := s.toks + 1 + 1 }) : wpAny (model prog w) A (call (.builtin "len") [.ref a]) Q E s := by
  subst hn
  exact PyProof.Rows.len_list (s := s) ⟨_, N.get hm, rfl, _, rfl⟩ (by omega) h
theorem isi_lst (F : Fr h₀ L s.heap m) (x : IsL h₀ a) (h : Q (.bool false) { s with toks := s.toks + 1 }) : wpAny (model prog w) A (call (.builtin "isinstance") [.ref a, .type "tuple"]) Q E s := by
  obtain ⟨o, e, c⟩ := x
  exact IsiPair.list_tuple (F.keep _ _ e) c h
end
theorem reg28 : True := by
  (k_with "M num" => (first | exact (rfl : _ = (0 : Int)) | exact (rfl : _ = (1 : Int)) | exact (rfl : _ = (2 : Int)) | exact (rfl : _ = (3 : Int))))
  (k_with "call builtin:len" => ((k_here; (with_reducible show wpAny _ _ (call (Value.builtin "len") [Value.ref _]) _ _ _); (k_dflt (first | (refine' len_tupB ?F_q62 ?x_q62 ?n_q62 ?z_q62 ?_; (case F_q62 => k_asm); (case x_q62 => assumption); (case n_q62 => walk_at "M num"); (case z_q62 => exact Nat.le_of_ble_eq_true rfl); k_whole) | (refine' len_tupN ?F_q62 ?x_q62 ?n_q62 ?z_q62 ?_; (case F_q62 => k_asm); (case x_q62 => k_mem); (case n_q62 => walk_at "M num"); (case z_q62 => exact Nat.le_of_ble_eq_true rfl); k_whole) | (refine' len_lstN ?F_q62 ?x_q62 ?n_q62 ?z_q62 ?_; (case F_q62 => k_asm); (case x_q62 => k_mem); (case n_q62 => walk_at "M num"); (case z_q62 => exact Nat.le_of_ble_eq_true rfl); k_whole))))))
  (k_with "subscriptTail Name Slice ref ref" => ((k_here; (with_reducible show wpAny _ _ (subscriptTail _ _ (Value.ref _) (Value.ref _)) _ _ _); (with_unfolding_all refine slice_tuple_from (s := ⟨_, _, _, _, _⟩) (a := 1) (by assumption) (by assumption) (by exact IsTup.keeps (by assumption) (Fr.keep (by assumption))) (Nat.le_of_ble_eq_true rfl) (Nat.le_of_ble_eq_true rfl) ?_); (intro h9 F9 N9); (try dsimp only [List.drop] at N9))))
  (k_with "call builtin:isinstance" => ((k_here; (with_reducible show wpAny _ _ (call (Value.builtin "isinstance") [Value.ref _, Value.type "tuple"]) _ _ _); (first | refine isi_tup (by assumption) (by assumption) ?_ | refine isi_led (by assumption) (by k_mem) ?_ | refine isi_lst (by assumption) (by assumption) ?_))))
  exact True.intro
section
variable {prog : Program} {w : World} {p : Program} {loose : List Str} {mg mb : Str → Option Value} {dp un : Nat} {fr : Option (List Env)} {gd : Option (List Code)} {s : Shared} {h₀ h h' : Heap} {L : Addr} {m : Str → Option Value} {news : List (Addr × Obj)} {Q E : Value → Shared → Prop}
theorem partsB_ {ta va : Addr} {vT vt wv : Value} {t1 t2 : Tok} (X : (hd.heap_1 w.params).In s.heap) (T : TopRead p loose mg mb s.heap) (hdp : dp + 20 < recursionLimit) (hu : un + 200 < cLine)
    (hT : IsTup s.heap ta #[.str "box" t1, vT]) (ht : IsTup s.heap va #[.str "box" t2, vt])
    (hret : ∀ h' tk' a b c n, Kp [] s.heap h' → h'.get? a = some (tupO #[.none, .ref b, .ref c]) → h'.get? b = some (tupO #[vt]) → h'.get? c = some (listOf #[vT] n) → s.heap.get? a = none → s.heap.get? b = none → s.heap.get? c = none → Q (.ref a) { s with heap := h', toks := tk' }) :
    wpAny (model prog w) (AA dp un fr gd) (call (.ref 160) [.ref va, .ref ta, wv]) Q E s := by
  have hT₀ : IsTup (hideAll s.heap []) ta #[.str "box" t1, vT] := hT
  have ht₀ : IsTup (hideAll s.heap []) va #[.str "box" t2, vt] := ht
  refine wpAny_call ?_
  k_dflt (refine' enterP (binds := [("told", .ref va), ("T", .ref ta), ("world", wv)]) [] X ?k2 ?k3 ?k6 ?k7 ?k9 ?kB ?_ ?c2 ?c3 ?c4 ?c5)
  walk_at "M enter"
  intro L h₁ hL F hk
  clear hk
  have X₀ : (hd.heap_1 w.params).In (hideAll s.heap []) := X
  have T₀ : TopRead p loose mg mb (hideAll s.heap []) := T
  have N : News (hideAll s.heap []) L h₁ [] := News.nil
  clear X T
  clear hT ht
  all_goals (try dsimp only)
  all_goals (try k_fold)
  all_goals walk_at "M steps"
  all_goals exact hret _ _ _ _ _ _ (Kp.of_fr (by assumption)) (News.get (by assumption) (.head _)) (News.get (by assumption) (by k_mem)) (News.get (by assumption) (by k_mem)) (News.fresh (h₀ := hideAll s.heap []) (by assumption) (.head _)) (News.fresh (h₀ := hideAll s.heap []) (by assumption) (by k_mem)) (News.fresh (h₀ := hideAll s.heap []) (by assumption) (by k_mem))
theorem partsT_ {ta tb va : Addr} {vT vT2 vt vt2 wv : Value} {t1 t2 : Tok} (X : (hd.heap_1 w.params).In s.heap) (T : TopRead p loose mg mb s.heap) (hdp : dp + 20 < recursionLimit) (hu : un + 200 < cLine)
    (hT : IsTup s.heap ta #[.str "tuple" t1, .ref tb]) (hTT : IsTup s.heap tb #[vT, vT2]) (ht : IsTup s.heap va #[vt, vt2])
    (hret : ∀ h' tk' a c n, Kp [] s.heap h' → h'.get? a = some (tupO #[.none, .ref va, .ref c]) → h'.get? c = some (listOf #[vT, vT2] n) → s.heap.get? a = none → s.heap.get? c = none → Q (.ref a) { s with heap := h', toks := tk' }) :
    wpAny (model prog w) (AA dp un fr gd) (call (.ref 160) [.ref va, .ref ta, wv]) Q E s := by
  have hT₀ : IsTup (hideAll s.heap []) ta #[.str "tuple" t1, .ref tb] := hT
  have hT₁ : IsTup (hideAll s.heap []) tb #[vT, vT2] := hTT
  have ht₀ : IsTup (hideAll s.heap []) va #[vt, vt2] := ht
  refine wpAny_call ?_
  k_dflt (refine' enterP (binds := [("told", .ref va), ("T", .ref ta), ("world", wv)]) [] X ?k2 ?k3 ?k6 ?k7 ?k9 ?kB ?_ ?c2 ?c3 ?c4 ?c5)
  walk_at "M enter"
  intro L h₁ hL F hk
  clear hk
  have X₀ : (hd.heap_1 w.params).In (hideAll s.heap []) := X
  have T₀ : TopRead p loose mg mb (hideAll s.heap []) := T
  have N : News (hideAll s.heap []) L h₁ [] := News.nil
  clear X T
  clear hT ht hTT
  all_goals (try dsimp only)
  all_goals (try k_fold)
  all_goals walk_at "M steps"
  all_goals exact hret _ _ _ _ _ (Kp.of_fr (by assumption)) (News.get (by assumption) (.head _)) (News.get (by assumption) (by k_mem)) (News.fresh (h₀ := hideAll s.heap []) (by assumption) (.head _)) (News.fresh (h₀ := hideAll s.heap []) (by assumption) (by k_mem))
theorem partsA_ {ta va : Addr} {vT vt wv : Value} {t1 t2 : Tok} (X : (hd.heap_1 w.params).In s.heap) (T : TopRead p loose mg mb s.heap) (hdp : dp + 20 < recursionLimit) (hu : un + 200 < cLine)
    (hT : IsTup s.heap ta #[.str "array" t1, vT, .int 1 t2]) (ht : IsTup s.heap va #[vt])
    (hret : ∀ h' tk' a c n, Kp [] s.heap h' → h'.get? a = some (tupO #[.none, .ref va, .ref c]) → h'.get? c = some (listOf #[vT] n) → s.heap.get? a = none → s.heap.get? c = none → Q (.ref a) { s with heap := h', toks := tk' }) :
    wpAny (model prog w) (AA dp un fr gd) (call (.ref 160) [.ref va, .ref ta, wv]) Q E s := by
  have hT₀ : IsTup (hideAll s.heap []) ta #[.str "array" t1, vT, .int 1 t2] := hT
  have ht₀ : IsTup (hideAll s.heap []) va #[vt] := ht
  refine wpAny_call ?_
  k_dflt (refine' enterP (binds := [("told", .ref va), ("T", .ref ta), ("world", wv)]) [] X ?k2 ?k3 ?k6 ?k7 ?k9 ?kB ?_ ?c2 ?c3 ?c4 ?c5)
  walk_at "M enter"
  intro L h₁ hL F hk
  clear hk
  have X₀ : (hd.heap_1 w.params).In (hideAll s.heap []) := X
  have T₀ : TopRead p loose mg mb (hideAll s.heap []) := T
  have N : News (hideAll s.heap []) L h₁ [] := News.nil
  clear X T
  clear hT ht
  all_goals (try dsimp only)
  all_goals (try k_fold)
  all_goals walk_at "M steps"
  all_goals exact hret _ _ _ _ _ (Kp.of_fr (by assumption)) (News.get (by assumption) (.head _)) (News.get (by assumption) (by k_mem)) (News.fresh (h₀ := hideAll s.heap []) (by assumption) (.head _)) (News.fresh (h₀ := hideAll s.heap []) (by assumption) (by k_mem))
end

section
variable {prog : Program} {w : World} {p : Program} {loose : List Str} {mg mb : Str → Option Value} {dp un : Nat} {fr : Option (List Env)} {gd : Option (List Code)} {s : Shared} {h₀ h h' : Heap} {L : Addr} {m : Str → Option Value} {news : List (Addr × Obj)} {Q E : Value → Shared → Prop}
theorem together_ {ta pa : Addr} {v : Value} {t1 : Tok} {way : Way} {vr : Value} (X : (hd.heap_1 w.params).In s.heap) (T : TopRead p loose mg mb s.heap) (hdp : dp + 20 < recursionLimit) (hu : un + 200 < cLine)
    (hT : ∃ x1 x2 x3, IsTup s.heap ta (match way with | .box => #[.str "box" t1, x1] | .tup => #[.str "tuple" t1, x1] | .arr => #[.str "array" t1, x1, x2] | .adt => #[.str "adt" t1, x1, x2, x3])) (hp : way = .box → IsTup s.heap pa #[v])
    (hret : ∀ h' tk' a t2, Kp [] s.heap h' → h'.get? a = some (tupO (match way with | .box => #[.str "box" t2, v] | .adt => #[.str "variant" t2, vr, .ref pa] | _ => #[.str "fields" t2, .ref pa])) → s.heap.get? a = none → Q (.ref a) { s with heap := h', toks := tk' }) :
    wpAny (model prog w) (AA dp un fr gd) (call (.ref 167) [.ref ta, vr, .ref pa]) Q E s := by
  obtain ⟨x1, x2, x3, hT⟩ := hT
  refine wpAny_call ?_
  k_dflt (refine' enterP (binds := [("T", .ref ta), ("variant", vr), ("parts", .ref pa)]) [] X ?k2 ?k3 ?k6 ?k7 ?k9 ?kB ?_ ?c2 ?c3 ?c4 ?c5)
  walk_at "M enter"
  intro L h₁ hL F hk
  clear hk
  have X₀ : (hd.heap_1 w.params).In (hideAll s.heap []) := X
  have T₀ : TopRead p loose mg mb (hideAll s.heap []) := T
  have N : News (hideAll s.heap []) L h₁ [] := News.nil
  clear X T
  cases way
  · have hT₀ : IsTup (hideAll s.heap []) ta #[.str "box" t1, x1] := hT
    have hp₀ : IsTup (hideAll s.heap []) pa #[v] := hp rfl
    clear hT hp
    all_goals (try dsimp only)
    all_goals (try k_fold)
    all_goals walk_at "M steps"
    all_goals exact hret _ _ _ _ (Kp.of_fr (by assumption)) (News.get (by assumption) (.head _)) (News.fresh (h₀ := hideAll s.heap []) (by assumption) (.head _))
  · have hT₀ : IsTup (hideAll s.heap []) ta #[.str "tuple" t1, x1] := hT
    clear hT hp
    all_goals (try dsimp only)
    all_goals (try k_fold)
    all_goals walk_at "M steps"
    all_goals exact hret _ _ _ _ (Kp.of_fr (by assumption)) (News.get (by assumption) (.head _)) (News.fresh (h₀ := hideAll s.heap []) (by assumption) (.head _))
  · have hT₀ : IsTup (hideAll s.heap []) ta #[.str "array" t1, x1, x2] := hT
    clear hT hp
    all_goals (try dsimp only)
    all_goals (try k_fold)
    all_goals walk_at "M steps"
    all_goals exact hret _ _ _ _ (Kp.of_fr (by assumption)) (News.get (by assumption) (.head _)) (News.fresh (h₀ := hideAll s.heap []) (by assumption) (.head _))
  · have hT₀ : IsTup (hideAll s.heap []) ta #[.str "adt" t1, x1, x2, x3] := hT
    clear hT hp
    all_goals (try dsimp only)
    all_goals (try k_fold)
    all_goals walk_at "M steps"
    all_goals exact hret _ _ _ _ (Kp.of_fr (by assumption)) (News.get (by assumption) (.head _)) (News.fresh (h₀ := hideAll s.heap []) (by assumption) (.head _))
end

section
variable {prog : Program} {w : World} {p : Program} {loose : List Str} {mg mb : Str → Option Value} {dp un : Nat} {fr : Option (List Env)} {gd : Option (List Code)} {s : Shared} {h₀ h h' : Heap} {L : Addr} {m : Str → Option Value} {news : List (Addr × Obj)} {Q E : Value → Shared → Prop}
theorem partsBad_ {va : Addr} {vT wv : Value} (X : (hd.heap_1 w.params).In s.heap) (T : TopRead p loose mg mb s.heap) (hdp : dp + 20 < recursionLimit) (hu : un + 200 < cLine) {base : Heap} {l : List Env} (hl : s.heap.FunFrames base l) (hkb : base.StaysIn s.heap)
    (ht : IsL s.heap va)
    (hrai : ∀ e h' tk', Thrown w.params base s.heap l .none e "kind" h' → E (.ref e) { s with heap := h', toks := tk' }) :
    wpAny (model prog w) (AA dp un (some l) gd) (call (.ref 160) [.ref va, vT, wv]) Q E s := by
  have ht₀ : IsL (hideAll s.heap []) va := ht
  refine wpAny_call ?_
  k_dflt (refine' enterP (binds := [("told", .ref va), ("T", vT), ("world", wv)]) [] X ?k2 ?k3 ?k6 ?k7 ?k9 ?kB ?_ ?c2 ?c3 ?c4 ?c5)
  walk_at "M enter"
  intro L h₁ hL F hk
  clear hk
  have X₀ : (hd.heap_1 w.params).In (hideAll s.heap []) := X
  have T₀ : TopRead p loose mg mb (hideAll s.heap []) := T
  have N : News (hideAll s.heap []) L h₁ [] := News.nil
  clear X T
  clear ht
  all_goals (try dsimp only)
  all_goals (try k_fold)
  all_goals walk_at "M steps"
  · exact ⟨_, by assumption⟩
  · exact leave_fault (h := s.heap) rfl rfl rfl (by assumption) (by assumption) hl hkb (by assumption) fun h' th => hrai _ _ _ th
end
section
variable {prog : Program} {w : World} {A : Around} {E : Value → Shared → Prop} {s : Shared} {h₀ : Heap} {L D : Addr} {m : Str → Option Value} {news news' : List (Addr × Obj)} {ws : List Value} {x y : Value} {n : Nat} {Q : Value → Shared → Prop} {g : Obj → List (Addr × Obj)}
abbrev wlist (ws : List Value) (n : Nat) : Obj := listOf ws.toArray n
theorem UpdF.upd {d : Addr} {o : Obj} (U : UpdF d o news g) (o' : Obj) : Upd d o o' news (g o') := by
  obtain ⟨pre, post, rfl, hg, h1, h2⟩ := U.split
  rw [hg]
  clear U hg
  induction pre with
  | nil => exact .head h2
  | cons q r ih => exact .tail (h1 q (.head _)) (ih fun p hp => h1 p (.tail _ hp))
theorem klast : ∀ (ws : List Value) (y : Value), kl_last (ws ++ [y]) = some (ws, y)
  | [], y => rfl
  | x :: r, y => by
    have e := klast r y
    show kl_last (x :: (r ++ [y])) = _
    unfold kl_last
    rw [e]
theorem popW (F : Fr h₀ L s.heap m) (N : News h₀ L s.heap news) (U : UpdF D (wlist (ws ++ [y]) n) news g) (hz : ws.length < 1000)
    (h : ∀ h', Fr h₀ L h' m → News h₀ L h' (g (wlist ws (n + 1))) → Q y { s with heap := h' }) : wpAny (model prog w) A (call (.builtin "list.pop") [.ref D]) Q E s :=
  kl_pop (its := (ws ++ [y]).toArray) (p := ws) (y := y) F N (klast ws y) (UpdF.upd U _) (by show (ws ++ [y]).length ≤ _; rw [List.length_append, sizeLine_eq]; show ws.length + 1 ≤ _; omega) h
theorem appW (F : Fr h₀ L s.heap m) (N : News h₀ L s.heap news) (U : UpdF D (wlist ws n) news g) (hz : ws.length < 1000)
    (h : ∀ h', Fr h₀ L h' m → News h₀ L h' (g (wlist (ws ++ [x]) (n + 1))) → Q .none { s with heap := h' }) : wpAny (model prog w) A (call (.builtin "list.append") [.ref D, x]) Q E s :=
  append_K (its := ws.toArray) F N (UpdF.upd U _) (fun h' F' N' => h h' F' (by simpa using N')) (by show ws.toArray.size ≤ _; rw [List.size_toArray, sizeLine_eq]; omega)
theorem neW {D' : Addr} {ds : List PyData} {n' : Nat} (F : Fr h₀ L s.heap m) (N : News h₀ L s.heap news) (hm : (D, wlist ws n) ∈ news) (hm' : (D', wlist [] n') ∈ news) (hd' : HDs s.heap ws ds) (hu : A.units + 5 < cLine) (hl : (PyData.list ds).canLay0 = true)
    (h : Q (.bool (!ds.isEmpty)) s) : wpAny (model prog w) A (compareOp .NotEq (.ref D) (.ref D')) Q E s := by
  obtain ⟨as, r⟩ := hd'
  have r1 : Reads s.heap (.ref D) (.list ds) _ := .list (N.get hm) rfl rfl (by simpa using r)
  have r2 : Reads s.heap (.ref D') (.list []) _ := .list (N.get hm') rfl rfl (by simpa using ReadsAll.nil)
  refine SeqAt.compareNe_reads r1 r2 hl rfl (Nat.lt_of_le_of_lt (Nat.add_le_add_left (Nat.le_trans (Nat.min_le_right _ _) (show PyData.depth (.list []) ≤ 5 by decide)) _) hu) ?_
  rw [show PyData.eqv (.list ds) (.list []) = ds.isEmpty from by cases ds <;> rfl]
  exact h
end

/-- the table of nested code of fields_of: empty, or put_in's code is in it -/
def TabOk (tb : Array Value) : Prop := tb = #[] ∨ ∃ k : Addr, tb = #[rawInt 68, rawInt 4, .ref k]
abbrev mvM (dn wt : Addr) (wv : Value) (m0 : Str → Option Value) : Str → Option Value := fun y => if y = Str.ofString "done" then some (.ref dn) else if y = Str.ofString "waiting" then some (.ref wt) else if y = Str.ofString "world" then some wv else m0 y
theorem fr_norm {B h : Heap} {L dn wt : Addr} {wv : Value} {m : Str → Option Value} (F : Fr B L h m) (h1 : m (Str.ofString "done") = some (.ref dn)) (h2 : m (Str.ofString "waiting") = some (.ref wt)) (h3 : m (Str.ofString "world") = some wv) : Fr B L h (mvM dn wt wv m) := by
  have e : m = mvM dn wt wv m := by
    funext y
    show m y = if y = Str.ofString "done" then some (.ref dn) else if y = Str.ofString "waiting" then some (.ref wt) else if y = Str.ofString "world" then some wv else m y
    by_cases q1 : y = Str.ofString "done"
    · rw [if_pos q1, q1, h1]
    · rw [if_neg q1]
      by_cases q2 : y = Str.ofString "waiting"
      · rw [if_pos q2, q2, h2]
      · rw [if_neg q2]
        by_cases q3 : y = Str.ofString "world"
        · rw [if_pos q3, q3, h3]
        · rw [if_neg q3]
  exact e ▸ F
/-- what holds wherever B and rest stand -/
def Via (B : Heap) (rest : List (Addr × Obj)) (P : Heap → Prop) : Prop := ∀ h, B.StaysIn h → (∀ q ∈ rest, h.get? q.1 = some q.2) → P h
/-- the state at the head of made_value's loop: B is what stood when made_value was called, rest is what the loop has made -/
structure Inv (w : World) (p : Program) (loose : List Str) (mean : ExcName → Option Value) (mg mb : Str → Option Value) (B h : Heap) (L dn wt : Addr) (wv : Value) (ds ws : List Value) (rest : List (Addr × Obj)) : Prop where
  X : (hd.heap_1 w.params).In B
  T : Top p loose mean mg mb B
  fr : ∃ m0, Fr B L h (mvM dn wt wv m0)
  ld : ∃ nd nw tb, News B L h ((dn, wlist ds nd) :: (wt, wlist ws nw) :: (123, tabObj tb) :: rest) ∧ TabOk tb
  ne : @Ne Nat dn wt ∧ @Ne Nat dn 123 ∧ @Ne Nat wt 123
  nd : ∀ q ∈ rest, @Ne Nat q.1 dn
  nw : ∀ q ∈ rest, @Ne Nat q.1 wt
  nt : ∀ q ∈ rest, @Ne Nat q.1 123
  wo : ∃ dws, Via B rest (HDs · ws dws) ∧ (PyData.list dws).canLay0 = true
  wl : ws.length < 900
theorem Via.at {B h : Heap} {L : Addr} {m : Str → Option Value} {rest news : List (Addr × Obj)} {P : Heap → Prop} (x : Via B rest P) (F : Fr B L h m) (N : News B L h news) (s : ∀ q ∈ rest, q ∈ news) : P h := x h F.keep fun q hq => (N q (s q hq)).1
theorem Via.more {B : Heap} {rest rest' : List (Addr × Obj)} {P : Heap → Prop} (x : Via B rest P) (s : ∀ q ∈ rest, q ∈ rest') : Via B rest' P := fun h b r => x h b fun q hq => r q (s q hq)
theorem Via.base {B : Heap} {rest : List (Addr × Obj)} {v : Value} {d : PyData} (x : HD B v d) : Via B rest (HD · v d) := fun h b _ => x.keeps b
theorem HDs.app {h : Heap} : ∀ {l1 l2 : List Value} {d1 d2 : List PyData}, HDs h l1 d1 → HDs h l2 d2 → HDs h (l1 ++ l2) (d1 ++ d2)
  | [], _, [], _, _, y => y
  | [], _, _ :: _, _, ⟨_, x⟩, _ => by cases x
  | _ :: _, _, [], _, ⟨_, x⟩, _ => by cases x
  | _ :: _, _, _ :: _, _, x, y => by
    obtain ⟨v, r, e, a, b⟩ := HDs.inv_cons x
    cases e
    exact HDs.cons a (HDs.app b y)
section
variable {w : World} {p : Program} {loose : List Str} {mean : ExcName → Option Value} {mg mb : Str → Option Value} {B h : Heap} {L dn wt : Addr} {wv : Value} {ds ws : List Value} {m : Str → Option Value} {news rest : List (Addr × Obj)} {nd nw : Nat} {tb : Array Value}
theorem Inv.via {P : Heap → Prop} (I : Inv w p loose mean mg mb B h L dn wt wv ds ws rest) (x : Via B rest P) : P h := by
  obtain ⟨m0, F⟩ := I.fr
  obtain ⟨nd, nw, tb, N, _⟩ := I.ld
  exact x h F.keep fun q hq => (N q (.tail _ (.tail _ (.tail _ hq)))).1
/-- after a turn -/
theorem rebase (X : (hd.heap_1 w.params).In B) (T : Top p loose mean mg mb B) (F : Fr B L h m) (N : News B L h news) (hd1 : (dn, wlist ds nd) ∈ news) (hw : (wt, wlist ws nw) ∈ news) (ht : (123, tabObj tb) ∈ news) (ok : TabOk tb)
    (ne : @Ne Nat dn wt ∧ @Ne Nat dn 123 ∧ @Ne Nat wt 123) (hsub : ∀ q ∈ rest, q ∈ news ∧ @Ne Nat q.1 dn ∧ @Ne Nat q.1 wt ∧ @Ne Nat q.1 123) {dws : List PyData} (hws : ∀ h', B.StaysIn h' → (∀ q ∈ news, @Ne Nat q.1 dn → @Ne Nat q.1 wt → @Ne Nat q.1 123 → h'.get? q.1 = some q.2) → HDs h' ws dws) (hlay : (PyData.list dws).canLay0 = true) (hwl : ws.length < 900) (h1 : m (Str.ofString "done") = some (.ref dn)) (h2 : m (Str.ofString "waiting") = some (.ref wt)) (h3 : m (Str.ofString "world") = some wv) :
    ∃ rest', Inv w p loose mean mg mb B h L dn wt wv ds ws rest' ∧ (∀ q ∈ rest, q ∈ rest') ∧ ∀ q ∈ news, @Ne Nat q.1 dn → @Ne Nat q.1 wt → @Ne Nat q.1 123 → q ∈ rest' := by
  have key : ∀ q : Addr × Obj, q ∈ news.filter (fun q => decide (@Ne Nat q.1 dn ∧ @Ne Nat q.1 wt ∧ @Ne Nat q.1 123)) ↔ q ∈ news ∧ @Ne Nat q.1 dn ∧ @Ne Nat q.1 wt ∧ @Ne Nat q.1 123 := fun q => by
    rw [List.mem_filter, decide_eq_true_eq]
  refine ⟨_, ⟨X, T, ⟨m, fr_norm F h1 h2 h3⟩, ⟨nd, nw, tb, fun q hq => ?_, ok⟩, ne, fun q hq => ((key q).mp hq).2.1, fun q hq => ((key q).mp hq).2.2.1, fun q hq => ((key q).mp hq).2.2.2, ⟨dws, fun h' b r => hws h' b fun q hq a1 a2 a3 => r q ((key q).mpr ⟨hq, a1, a2, a3⟩), hlay⟩, hwl⟩, fun q hq => (key q).mpr (hsub q hq), fun q hq a b c => (key q).mpr ⟨hq, a, b, c⟩⟩
  rcases List.mem_cons.mp hq with rfl | hq
  · exact N _ hd1
  rcases List.mem_cons.mp hq with rfl | hq
  · exact N _ hw
  rcases List.mem_cons.mp hq with rfl | hq
  · exact N _ ht
  · exact N _ ((key q).mp hq).1
end
section
variable {prog : Program} {w : World} {A : Around} {E : Value → Shared → Prop} {s : Shared} {h₀ : Heap} {L D D' : Addr} {m : Str → Option Value} {news rest : List (Addr × Obj)} {ws : List Value} {y : Value} {n n' : Nat} {Q : Value → Shared → Prop} {ds : List PyData}
theorem neV (v : Via h₀ rest (HDs · (ws ++ [y]) ds)) (F : Fr h₀ L s.heap m) (N : News h₀ L s.heap news) (hs : ∀ q ∈ rest, q ∈ news) (hm : (D, wlist (ws ++ [y]) n) ∈ news) (hm' : (D', wlist [] n') ∈ news) (hu : A.units + 5 < cLine) (hl : (PyData.list ds).canLay0 = true)
    (h : Q (.bool true) s) : wpAny (model prog w) A (compareOp .NotEq (.ref D) (.ref D')) Q E s := by
  have hd' := v.at F N hs
  refine neW F N hm hm' hd' hu hl ?_
  cases ds with
  | nil => obtain ⟨as, r⟩ := hd'; cases ws <;> cases r
  | cons _ _ => exact h
end

/-- n layers about a number in its kind's range: the type, what is told, the value -/
inductive Good : Nat → PyData → PyData → PyData → Prop where
  | int {κ : Str} {lo hi n : Int} (hκ : (κ, lo, hi) ∈ kinds) (h : lo ≤ n ∧ n ≤ hi) : Good 0 (.tuple [.str "int", .str κ]) (.int n) (.int n)
  | layer {k : Nat} {T t m : PyData} (way : Way) (g : Good k T t m) : Good (k + 1) (wT way T) (wTold false way t) (wMade way m)
/-- n layers, of which one is told by a list, or about a number beyond its kind -/
inductive Bad : Nat → PyData → PyData → Prop where
  | int {κ : Str} {lo hi n : Int} (hκ : (κ, lo, hi) ∈ kinds) (h : ¬ (lo ≤ n ∧ n ≤ hi)) : Bad 0 (.tuple [.str "int", .str κ]) (.int n)
  | list {k : Nat} {T : PyData} {l : List PyData} (way : Way) (hT : T.canLay0 = true) (ht : (PyData.list l).canLay0 = true) : Bad k (wT way T) (.list l)
  | layer {k : Nat} {T t : PyData} (way : Way) (g : Bad k T t) : Bad (k + 1) (wT way T) (wTold false way t)
theorem kinds_ok : ∀ {κ : Str} {lo hi : Int}, (κ, lo, hi) ∈ kinds → PyData.strOk κ = true := by
  intro κ lo hi h
  simp only [kinds, List.mem_cons, List.not_mem_nil, or_false, Prod.mk.injEq] at h
  rcases h with ⟨rfl, rfl, rfl⟩ | ⟨rfl, rfl, rfl⟩ | ⟨rfl, rfl, rfl⟩ | ⟨rfl, rfl, rfl⟩ | ⟨rfl, rfl, rfl⟩ | ⟨rfl, rfl, rfl⟩ | ⟨rfl, rfl, rfl⟩ | ⟨rfl, rfl, rfl⟩ | ⟨rfl, rfl, rfl⟩ <;> decide +kernel
theorem lay_T {way : Way} {T : PyData} (h : T.canLay0 = true) : (wT way T).canLay0 = true := by
  have s1 : PyData.strOk "box" = true := by decide +kernel
  have s2 : PyData.strOk "tuple" = true := by decide +kernel
  have s3 : PyData.strOk "array" = true := by decide +kernel
  have s4 : PyData.strOk "adt" = true := by decide +kernel
  have s5 : PyData.strOk "P" = true := by decide +kernel
  have s6 : PyData.strOk "int" = true := by decide +kernel
  have s7 : PyData.strOk "u8" = true := by decide +kernel
  cases way <;> simp [wT, PyData.canLay0, PyData.canLayAll0, h, s1, s2, s3, s4, s5, s6, s7]
theorem lay_told {way : Way} {b : Bool} {t : PyData} (h : t.canLay0 = true) : (wTold b way t).canLay0 = true := by
  have s1 : PyData.strOk "box" = true := by decide +kernel
  cases way <;> cases b <;> simp [wTold, wItems, PyData.canLay0, PyData.canLayAll0, h, s1]
theorem Good.lay {k : Nat} {T t m : PyData} (g : Good k T t m) : T.canLay0 = true ∧ t.canLay0 = true := by
  induction g with
  | int hκ h =>
    have s6 : PyData.strOk "int" = true := by decide +kernel
    exact ⟨by simp [PyData.canLay0, PyData.canLayAll0, s6, kinds_ok hκ], rfl⟩
  | layer way g ih => exact ⟨lay_T ih.1, lay_told ih.2⟩
theorem Bad.lay {k : Nat} {T t : PyData} (g : Bad k T t) : T.canLay0 = true ∧ t.canLay0 = true := by
  induction g with
  | int hκ h =>
    have s6 : PyData.strOk "int" = true := by decide +kernel
    exact ⟨by simp [PyData.canLay0, PyData.canLayAll0, s6, kinds_ok hκ], rfl⟩
  | list way hT ht => exact ⟨lay_T hT, ht⟩
  | layer way g ih => exact ⟨lay_T ih.1, lay_told ih.2⟩
def Way.two : Way → Bool
  | .box | .arr => false
  | .tup | .adt => true
def Way.cnt (way : Way) : Int := if way.two then 2 else 1
/-- the item that closes a layer -/
inductive Seen (way : Way) (rest : List (Addr × Obj)) (i ta : Addr) : Prop
  | mk (u : _) (vr : _) (z1 : (i, tupO #[.bool true, .int way.cnt u, .ref ta, vr]) ∈ rest) (z2 : (way = .adt → ∃ u0, vr = .int 0 u0))
/-- the byte beside the layer's inner part, where it has one -/
def Mid (way : Way) (B : Heap) (rest : List (Addr × Obj)) (mid : List Value) : Prop := if way.two then ∃ i u tb t1 t2, mid = [.ref i] ∧ (i, tupO #[.bool false, .int 7 u, .ref tb, .none]) ∈ rest ∧ IsTup B tb #[.str "int" t1, .str "u8" t2] else mid = []
section
variable (w : World) (p : Program) (loose : List Str) (mean : ExcName → Option Value) (mg mb : Str → Option Value) (B : Heap) (L wt : Addr) (wv : Value) (LP : Heap → Nat → Prop) (Th : Addr → Heap → Prop) (ER : Addr → Heap → Nat → Prop) (EN : Heap → Nat → Prop)
structure Turns : Prop where
  tend : ∀ {h tk dn ds rest}, Inv w p loose mean mg mb B h L dn wt wv ds [] rest → (∀ h' tk' rest', Inv w p loose mean mg mb B h' L dn wt wv ds [] rest' → (∀ q ∈ rest, q ∈ rest') → EN h' tk') → LP h tk
  tint : ∀ {h tk dn ds ws rest it ta n u t1 t2 κ lo hi}, (ds = [] ∨ ∃ v, ds = [v]) → Inv w p loose mean mg mb B h L dn wt wv ds (ws ++ [.ref it]) rest → (it, tupO #[.bool false, .int n u, .ref ta, .none]) ∈ rest → IsTup B ta #[.str "int" t1, .str κ t2] → (κ, lo, hi) ∈ kinds →
    (lo ≤ n ∧ n ≤ hi → ∀ h' tk' rest', Inv w p loose mean mg mb B h' L dn wt wv (ds ++ [.int n u]) ws rest' → (∀ q ∈ rest, q ∈ rest') → LP h' tk') → (¬ (lo ≤ n ∧ n ≤ hi) → ∀ e h' tk', Th e h' → ER e h' tk') → LP h tk
  tlay : ∀ {way h tk dn ws rest it va ta dT dt}, Inv w p loose mean mg mb B h L dn wt wv [] (ws ++ [.ref it]) rest → (it, tupO #[.bool false, .ref va, .ref ta, .none]) ∈ rest → HD B (.ref ta) (wT way dT) → HD B (.ref va) (wTold false way dt) → dT.canLay0 = true → dt.canLay0 = true → ws.length < 800 →
    (∀ h' tk' rest' i1 i2 vt vT mid, Inv w p loose mean mg mb B h' L dn wt wv [] (ws ++ [.ref i1] ++ mid ++ [.ref i2]) rest' → (∀ q ∈ rest, q ∈ rest') → Seen way rest' i1 ta → Mid way B rest' mid → (i2, tupO #[.bool false, vt, vT, .none]) ∈ rest' → HD B vt dt → HD B vT dT → LP h' tk') → LP h tk
  tseen : ∀ {way h tk dn ds ws rest i1 ta mv dT dm}, Inv w p loose mean mg mb B h L dn wt wv ds (ws ++ [.ref i1]) rest → Seen way rest i1 ta → HD B (.ref ta) (wT way dT) → (if way.two then ∃ u, ds = [mv, .int 7 u] else ds = [mv]) → Via B rest (HD · mv dm) →
    (∀ h' tk' dn' rest' a, Inv w p loose mean mg mb B h' L dn' wt wv [.ref a] ws rest' → (∀ q ∈ rest, q ∈ rest') → Via B rest' (HD · (.ref a) (wMade way dm)) → LP h' tk') → LP h tk
  tbad : ∀ {way h tk dn ws rest it va ta dT}, Inv w p loose mean mg mb B h L dn wt wv [] (ws ++ [.ref it]) rest → (it, tupO #[.bool false, .ref va, .ref ta, .none]) ∈ rest → HD B (.ref ta) (wT way dT) → IsL B va → (∀ e h' tk', Th e h' → ER e h' tk') → LP h tk
end
section
variable {w : World} {p : Program} {loose : List Str} {mean : ExcName → Option Value} {mg mb : Str → Option Value} {B : Heap} {L wt : Addr} {wv : Value} {LP : Heap → Nat → Prop} {Th : Addr → Heap → Prop} {ER : Addr → Heap → Nat → Prop} {EN : Heap → Nat → Prop}
theorem ref_T {way : Way} {dT : PyData} {v : Value} (x : HD B v (wT way dT)) : ∃ a, v = .ref a := by
  cases way <;> (obtain ⟨a, _, e, _⟩ := HD.inv_tuple x; exact ⟨a, e⟩)
theorem ref_told {way : Way} {b : Bool} {dt : PyData} {v : Value} (x : HD B v (wTold b way dt)) : ∃ a, v = .ref a := by
  cases b <;> cases way <;> first | (obtain ⟨a, _, e, _⟩ := HD.inv_tuple x; exact ⟨a, e⟩) | (obtain ⟨a, _, _, _, e, _⟩ := HD.inv_list x; exact ⟨a, e⟩)
theorem isL_told {l : List PyData} {v : Value} (x : HD B v (.list l)) : ∃ a, v = .ref a ∧ IsL B a := by
  obtain ⟨a', o, _, _, e, e1, e2, _⟩ := HD.inv_list x
  exact ⟨a', e, o, e1, e2⟩
theorem int_T {κ : Str} {v : Value} (x : HD B v (.tuple [.str "int", .str κ])) : ∃ a t1 t2, v = .ref a ∧ IsTup B a #[.str "int" t1, .str κ t2] := by
  obtain ⟨a, l, e, ht, hl⟩ := HD.inv_tuple x
  obtain ⟨v1, r1, rfl, h1, hl⟩ := HDs.inv_cons hl
  obtain ⟨v2, r2, rfl, h2, hl⟩ := HDs.inv_cons hl
  obtain rfl := HDs.inv_nil hl
  obtain ⟨t1, rfl⟩ := HD.inv_str h1
  obtain ⟨t2, rfl⟩ := HD.inv_str h2
  exact ⟨a, t1, t2, e, ht⟩
theorem proc_good (S : Turns w p loose mean mg mb B L wt wv LP Th ER EN) {k : Nat} {T t m : PyData} (g : Good k T t m) : ∀ {h tk dn ws rest it vt vT}, Inv w p loose mean mg mb B h L dn wt wv [] (ws ++ [.ref it]) rest → (it, tupO #[.bool false, vt, vT, .none]) ∈ rest → HD B vT T → HD B vt t → ws.length + 2 * k < 700 →
    (∀ h' tk' dn' rest' mv, Inv w p loose mean mg mb B h' L dn' wt wv [mv] ws rest' → (∀ q ∈ rest, q ∈ rest') → Via B rest' (HD · mv m) → LP h' tk') → LP h tk := by
  induction g with
  | int hκ hn =>
    intro h tk dn ws rest it vt vT I hi hT ht hz hk
    obtain ⟨ta, t1, t2, rfl, hT'⟩ := int_T hT
    obtain ⟨u, rfl⟩ := HD.inv_int ht
    exact S.tint (.inl rfl) I hi hT' hκ (fun _ h' tk' rest' I' sub => hk h' tk' _ rest' _ I' sub (Via.base HD.int)) (fun q => absurd hn q)
  | @layer k T t m way g ih =>
    intro h tk dn ws rest it vt vT I hi hT ht hz hk
    obtain ⟨ta, rfl⟩ := ref_T hT
    obtain ⟨va, rfl⟩ := ref_told ht
    have gl := g.lay
    refine S.tlay I hi hT ht gl.1 gl.2 (by omega) fun h1 tk1 rest1 i1 i2 vt1 vT1 mid I1 sub1 se mi m2 hvt hvT => ?_
    unfold Mid at mi
    by_cases q : way.two = true
    · rw [if_pos q] at mi
      obtain ⟨i3, u, tb, t1, t2, rfl, m3, hb⟩ := mi
      refine ih I1 m2 hvT hvt (by simp only [List.length_append, List.length_cons, List.length_nil]; omega) fun h2 tk2 dn2 rest2 mv I2 sub2 via2 => ?_
      refine S.tint (.inr ⟨mv, rfl⟩) I2 (sub2 _ m3) hb (κ := "u8") (lo := 0) (hi := 255) (by simp [kinds]) (fun _ h3 tk3 rest3 I3 sub3 => ?_) (fun q => absurd (by decide) q)
      obtain ⟨u1, vr, ms, ma⟩ := se
      refine S.tseen (way := way) I3 ⟨u1, vr, sub3 _ (sub2 _ ms), ma⟩ hT (by rw [if_pos q]; exact ⟨u, rfl⟩) (via2.more sub3) fun h4 tk4 dn4 rest4 a I4 sub4 via4 => ?_
      exact hk h4 tk4 dn4 rest4 _ I4 (fun x hx => sub4 _ (sub3 _ (sub2 _ (sub1 _ hx)))) via4
    · rw [if_neg q] at mi
      subst mi
      rw [List.append_nil] at I1
      refine ih I1 m2 hvT hvt (by simp only [List.length_append, List.length_cons, List.length_nil]; omega) fun h2 tk2 dn2 rest2 mv I2 sub2 via2 => ?_
      obtain ⟨u1, vr, ms, ma⟩ := se
      refine S.tseen (way := way) I2 ⟨u1, vr, sub2 _ ms, ma⟩ hT (by rw [if_neg q]) via2 fun h4 tk4 dn4 rest4 a I4 sub4 via4 => ?_
      exact hk h4 tk4 dn4 rest4 _ I4 (fun x hx => sub4 _ (sub2 _ (sub1 _ hx))) via4
theorem proc_bad (S : Turns w p loose mean mg mb B L wt wv LP Th ER EN) {k : Nat} {T t : PyData} (g : Bad k T t) : ∀ {h tk dn ws rest it vt vT}, Inv w p loose mean mg mb B h L dn wt wv [] (ws ++ [.ref it]) rest → (it, tupO #[.bool false, vt, vT, .none]) ∈ rest → HD B vT T → HD B vt t → ws.length + 2 * k < 700 →
    (∀ e h' tk', Th e h' → ER e h' tk') → LP h tk := by
  induction g with
  | int hκ hn =>
    intro h tk dn ws rest it vt vT I hi hT ht hz hk
    obtain ⟨ta, t1, t2, rfl, hT'⟩ := int_T hT
    obtain ⟨u, rfl⟩ := HD.inv_int ht
    exact S.tint (.inl rfl) I hi hT' hκ (fun q => absurd q hn) (fun _ => hk)
  | list way _ _ =>
    intro h tk dn ws rest it vt vT I hi hT ht hz hk
    obtain ⟨ta, rfl⟩ := ref_T hT
    obtain ⟨va, rfl, hL⟩ := isL_told ht
    exact S.tbad I hi hT hL hk
  | @layer k T t way g ih =>
    intro h tk dn ws rest it vt vT I hi hT ht hz hk
    obtain ⟨ta, rfl⟩ := ref_T hT
    obtain ⟨va, rfl⟩ := ref_told ht
    have gl := g.lay
    refine S.tlay I hi hT ht gl.1 gl.2 (by omega) fun h1 tk1 rest1 i1 i2 vt1 vT1 mid I1 sub1 se mi m2 hvt hvT => ?_
    have hm : mid.length ≤ 1 := by
      unfold Mid at mi
      by_cases q : way.two = true
      · rw [if_pos q] at mi
        obtain ⟨_, _, _, _, _, rfl, _⟩ := mi
        exact Nat.le_refl _
      · rw [if_neg q] at mi; subst mi; exact Nat.zero_le _
    exact ih I1 m2 hvT hvt (by simp only [List.length_append, List.length_cons, List.length_nil]; omega) hk
end
theorem lay_app : ∀ {d e : List PyData}, (PyData.list d).canLay0 = true → (PyData.list e).canLay0 = true → (PyData.list (d ++ e)).canLay0 = true
  | [], _, _, h => h
  | a :: r, e, h, h' => by
    have q : a.canLay0 = true ∧ (PyData.list r).canLay0 = true := by simpa [PyData.canLay0, PyData.canLayAll0] using h
    have := lay_app q.2 h'
    show (PyData.list (a :: (r ++ e))).canLay0 = true
    simp only [PyData.canLay0, PyData.canLayAll0, Bool.and_eq_true] at this ⊢
    exact ⟨q.1, this⟩

/-- Thrown, and the table of fields_of is well -/
inductive ThrownT (P : Params) (base H : Heap) (l : List Env) (fl : Value) (e : Addr) (k : Str) (h : Heap) : Prop
  | mk (b' : _) (tb : _) (z1 : base.StaysIn b') (z2 : TabOk tb) (z3 : b'.get? 123 = some (tabObj tb)) (z4 : Thrown P b' H l fl e k h)
theorem ThrownT.on {P : Params} {base H H' : Heap} {l : List Env} {fl : Value} {e : Addr} {k : Str} {h : Heap} (x : ThrownT P base H l fl e k h) (u : H'.UpToSlots H) : ThrownT P base H' l fl e k h :=
  let ⟨b', tb, a1, a2, a3, x⟩ := x; ⟨b', tb, a1, a2, a3, x.on u⟩
theorem ThrownT.tab {P : Params} {base H : Heap} {l : List Env} {fl : Value} {e : Addr} {k : Str} {h : Heap} (x : ThrownT P base H l fl e k h) : ∃ tb, TabOk tb ∧ h.get? 123 = some (tabObj tb) := by
  obtain ⟨b', tb, a1, a2, a3, dx, B, t1, v1, t2, v2, t3, t4, hu, hB, fd, _⟩ := x
  exact ⟨tb, a2, fd.1 _ _ (hB _ _ a3)⟩
section
variable {M : Model} {A : Around} {E : Value → Shared → Prop} {s : Shared} {base h H : Heap} {env : Env} {l : List Env} {L e : Addr} {Q : Unit → Shared → Prop} {P : Params} {k : Str}
theorem note_thrownT (hfr : A.frames = some (env :: l)) (hf : env.frame = some L) (x : ThrownT P base H (env :: l) .none e k s.heap)
    (hq : ∀ h', ThrownT P base H (env :: l) (rawInt L) e k h' → Q () { s with heap := h' }) : wpAny M A (noteFrame (.ref e) env) Q E s :=
  let ⟨b', tb, a1, a2, a3, x⟩ := x
  note_thrown hfr hf x fun h' y => hq h' ⟨b', tb, a1, a2, a3, y⟩
theorem leave_notedT (hf : env.frame = some L) (x : ThrownT P base H (env :: l) (rawInt L) e k s.heap)
    (hq : ∀ h', ThrownT P base H l .none e k h' → Q () { s with heap := h' }) : wpAny M A (leaving env (.ref e)) Q E s :=
  let ⟨b', tb, a1, a2, a3, x⟩ := x
  leave_noted hf x fun h' y => hq h' ⟨b', tb, a1, a2, a3, y⟩
/-- a base in which the table stands -/
theorem tab_base {tb : Array Value} (FF : h.FunFrames base l) (hkb : base.StaysIn h) (h123 : h.get? 123 = some (tabObj tb)) (hne : ∀ b ∈ l.filterMap (·.frame), @Ne Nat b 123) :
    ∃ b' : Heap, base.StaysIn b' ∧ b'.StaysIn h ∧ h.FunFrames b' l ∧ b'.get? 123 = some (tabObj tb) := by
  refine ⟨hideAll h (l.filterMap (·.frame)), fun b o q => hideAll_get _ (hkb b o q) fun hm => ?_, fun b o q => of_hideAll _ q, funFrames_hide FF fun env' he a ha => List.mem_filterMap.mpr ⟨env', he, ha⟩, hideAll_get _ h123 fun hm => hne _ hm rfl⟩
  rw [(FF.mem hm).1] at q; cases q
end
section
variable {prog : Program} {w : World} {A : Around} {E : Value → Shared → Prop} {s : Shared} {Q : Flow → Shared → Prop}
theorem while_stop {env : Env} {test : PySem.Expr} {body orelse : List Stmt} {pos : Pos} (h : codeAny (model prog w) A (.whileLoop test body orelse env) (fun r s' => match r with | .ok f => Q f s' | .error e => cameBackBy (model prog w) A env E e s') s) :
    wpAny (model prog w) A (exec (.While test body orelse pos) env) Q E s := wpAny_While h
variable {p : Program} {loose : List Str} {mean : ExcName → Option Value} {mg mb : Str → Option Value} {B : Heap} {L wt : Addr} {wv : Value} {Th : Addr → Heap → Prop} {ER : Addr → Heap → Nat → Prop} {EN : Heap → Nat → Prop} {R : Result → Shared → Prop}
  {test : PySem.Expr} {body orelse : List Stmt} {env : Env}
theorem loop_any {base : Heap} {l : List Env} (S : ∀ R : Result → Shared → Prop, Turns w p loose mean mg mb B L wt wv (fun h tk => codeAny (model prog w) A (.whileLoop test body orelse env) R { s with heap := h, toks := tk }) (fun e h => ThrownT w.params base B (env :: l) (rawInt L) e "kind" h) (fun e h tk => R (.error (.ref e)) { s with heap := h, toks := tk }) (fun h tk => R (.ok .next) { s with heap := h, toks := tk }))
    {k : Nat} {T t : PyData} (hk : k < 300) {h : Heap} {tk : Nat} {dn it : Addr} {rest : List (Addr × Obj)} {vt vT : Value} (I : Inv w p loose mean mg mb B h L dn wt wv [] [.ref it] rest) (hi : (it, tupO #[.bool false, vt, vT, .none]) ∈ rest) (hT : HD B vT T) (ht : HD B vt t)
    (O : (∃ m, Good k T t m ∧ ∀ h' tk' dn' rest' mv, Inv w p loose mean mg mb B h' L dn' wt wv [mv] [] rest' → Via B rest' (HD · mv m) → R (.ok .next) { s with heap := h', toks := tk' }) ∨ (Bad k T t ∧ ∀ e h' tk', ThrownT w.params base B (env :: l) (rawInt L) e "kind" h' → R (.error (.ref e)) { s with heap := h', toks := tk' })) :
    codeAny (model prog w) A (.whileLoop test body orelse env) R { s with heap := h, toks := tk } := by
  have S := S R
  rcases O with ⟨m, g, hq⟩ | ⟨g, hq⟩
  · exact proc_good S g (ws := []) I hi hT ht (by simp only [List.length_nil]; omega) fun h' tk' dn' rest' mv I' sub via => S.tend I' fun h'' tk'' rest'' I'' sub' => hq h'' tk'' dn' rest'' mv I'' (via.more sub')
  · exact proc_bad S g (ws := []) I hi hT ht (by simp only [List.length_nil]; omega) hq
end
local macro_rules | `(tactic| k_all) => `(tactic| assumption)
theorem reg29 : True := by
  (k_with "M unit" => (((try simp only [units_deeper, units_in1]); (try dsimp only [AA]); omega)))
  (k_with "call builtin:list.pop" => ((k_here; (with_reducible show wpAny _ _ (call (Value.builtin "list.pop") [Value.ref _]) _ _ _); (k_dflt (refine' popW ?F_q66 ?N_q66 ?U_q66 ?z_q66 ?_; (case F_q66 => k_asm); (case N_q66 => k_asm); (case U_q66 => k_updF); (case z_q66 => walk_at "M lt"); k_whole)); intro h9 F9 N9; (try dsimp only at N9))))
  (k_with "call builtin:list.append" => ((k_here; (with_reducible show wpAny _ _ (call (Value.builtin "list.append") [Value.ref _, _]) _ _ _); (k_dflt (refine' appW ?F_q67 ?N_q67 ?U_q67 ?z_q67 ?_; (case F_q67 => k_asm); (case N_q67 => k_asm); (case U_q67 => k_updF); (case z_q67 => walk_at "M lt"); k_whole)); intro h9 F9 N9; (try dsimp only at N9))))
  (k_with "compareOp NotEq ref ref" => ((k_here; (with_reducible show wpAny _ _ (compareOp CmpOp.NotEq (Value.ref _) (Value.ref _)) _ _ _); k_dflt (refine neV (by assumption) (by assumption) (by assumption) (fun q hq => by walk_at "M sub") (by k_mem) (by k_mem) (by walk_at "M unit") (by assumption) ?_))))
  (k_with "exec While" => ((k_here; refine while_stop ?_)))
  (k_with "exec While Compare" => ((k_here; refine while_stop ?_)))
  exact True.intro
theorem News.dup {B h : Heap} {L : Addr} {rest : List (Addr × Obj)} {x y z : Addr × Obj} {q : Addr × Obj} (N : News B L h (x :: y :: z :: rest)) (hq : q ∈ rest) : News B L h (x :: y :: z :: q :: rest) := fun p hp => by
  simp only [List.mem_cons] at hp
  rcases hp with rfl | rfl | rfl | rfl | hp
  · exact N _ (.head _)
  · exact N _ (.tail _ (.head _))
  · exact N _ (.tail _ (.tail _ (.head _)))
  · exact N _ (.tail _ (.tail _ (.tail _ hq)))
  · exact N _ (.tail _ (.tail _ (.tail _ hp)))
theorem HDs.init {h : Heap} : ∀ {l : List Value} {v : Value} {d : List PyData}, HDs h (l ++ [v]) d → HDs h l d.dropLast
  | [], _, d, x => by
    cases d with
    | nil => exact HDs.nil
    | cons a r =>
      obtain ⟨_, _, e, _, y⟩ := HDs.inv_cons x
      cases e
      obtain ⟨as, y⟩ := y
      cases y
      exact HDs.nil
  | a :: l, v, d, x => by
    cases d with
    | nil => obtain ⟨as, y⟩ := x; cases y
    | cons b r =>
      obtain ⟨_, _, e, y1, y⟩ := HDs.inv_cons x
      cases e
      cases r with
      | nil => obtain ⟨as, y⟩ := y; cases l <;> cases y
      | cons c r => exact HDs.cons y1 (HDs.init (l := l) y)
theorem lay_init : ∀ {d : List PyData}, (PyData.list d).canLay0 = true → (PyData.list d.dropLast).canLay0 = true
  | [], h => h
  | [_], _ => rfl
  | a :: b :: r, h => by
    have e : a.canLay0 = true ∧ (PyData.list (b :: r)).canLay0 = true := by
      simpa [PyData.canLay0, PyData.canLayAll0] using h
    have := lay_init e.2
    show (PyData.list (a :: (b :: r).dropLast)).canLay0 = true
    simp only [PyData.canLay0, PyData.canLayAll0, Bool.and_eq_true] at this ⊢
    exact ⟨e.1, this⟩
/-- the written function at a, and its first while -/
noncomputable def fnOfK (P : Params) (a : Addr) : Option FuncData := match (hd.heap_1 P).lookup a with
  | some ⟨_, _, .func fd, _⟩ => some fd
  | _ => none
def loopIn : List Stmt → Option (PySem.Expr × List Stmt × List Stmt)
  | [] => none
  | .While t b o _ :: _ => some (t, b, o)
  | _ :: r => loopIn r
inductive LoopIs (P : Params) (a : Addr) (cd : Value) (L : Addr) (test : PySem.Expr) (body orelse : List Stmt) (env : Env) : Prop
  | mk (fd : _) (b : _) (z1 : fnOfK P a = some fd) (z2 : fd.body = .stmts b) (z3 : loopIn b = some (test, body, orelse)) (z4 : env = envOf fd.qualname fd.scope L a cd)
theorem inv_box {B : Heap} {dT : PyData} {ta : Addr} (x : HD B (.ref ta) (wT .box dT)) : ∃ t1 vT, IsTup B ta #[.str "box" t1, vT] ∧ HD B vT dT := by
  obtain ⟨a, l, e, ht, hl⟩ := HD.inv_tuple x
  cases e
  obtain ⟨v1, r1, rfl, h1, hl⟩ := HDs.inv_cons hl
  obtain ⟨v2, r2, rfl, h2, hl⟩ := HDs.inv_cons hl
  obtain rfl := HDs.inv_nil hl
  obtain ⟨t1, rfl⟩ := HD.inv_str h1
  exact ⟨t1, v2, ht, h2⟩
theorem inv_tup {B : Heap} {dT : PyData} {ta : Addr} (x : HD B (.ref ta) (wT .tup dT)) : ∃ t1 tb vT bb t2 t3, IsTup B ta #[.str "tuple" t1, .ref tb] ∧ IsTup B tb #[vT, .ref bb] ∧ HD B vT dT ∧ IsTup B bb #[.str "int" t2, .str "u8" t3] := by
  obtain ⟨a, l, e, ht, hl⟩ := HD.inv_tuple x
  cases e
  obtain ⟨v1, r1, rfl, h1, hl⟩ := HDs.inv_cons hl
  obtain ⟨v2, r2, rfl, h2, hl⟩ := HDs.inv_cons hl
  obtain rfl := HDs.inv_nil hl
  obtain ⟨t1, rfl⟩ := HD.inv_str h1
  obtain ⟨tb, l, rfl, htb, hl⟩ := HD.inv_tuple h2
  obtain ⟨v1, r1, rfl, h1, hl⟩ := HDs.inv_cons hl
  obtain ⟨v2, r2, rfl, h2, hl⟩ := HDs.inv_cons hl
  obtain rfl := HDs.inv_nil hl
  obtain ⟨bb, t2, t3, rfl, hb⟩ := int_T (κ := "u8") h2
  exact ⟨t1, tb, v1, bb, t2, t3, ht, htb, h1, hb⟩
theorem inv_arr {B : Heap} {dT : PyData} {ta : Addr} (x : HD B (.ref ta) (wT .arr dT)) : ∃ t1 vT t2, IsTup B ta #[.str "array" t1, vT, .int 1 t2] ∧ HD B vT dT := by
  obtain ⟨a, l, e, ht, hl⟩ := HD.inv_tuple x
  cases e
  obtain ⟨v1, r1, rfl, h1, hl⟩ := HDs.inv_cons hl
  obtain ⟨v2, r2, rfl, h2, hl⟩ := HDs.inv_cons hl
  obtain ⟨v3, r3, rfl, h3, hl⟩ := HDs.inv_cons hl
  obtain rfl := HDs.inv_nil hl
  obtain ⟨t1, rfl⟩ := HD.inv_str h1
  obtain ⟨t2, rfl⟩ := HD.inv_int h3
  exact ⟨t1, v2, t2, ht, h2⟩
theorem inv_adt {B : Heap} {dT : PyData} {ta : Addr} (x : HD B (.ref ta) (wT .adt dT)) : ∃ t1 t2 rg ty bb vT t3 t4, IsTup B ta #[.str "adt" t1, .str "P" t2, .ref rg, .ref ty] ∧ IsTup B rg #[] ∧ IsTup B ty #[.ref bb, vT] ∧ HD B vT dT ∧ IsTup B bb #[.str "int" t3, .str "u8" t4] := by
  obtain ⟨a, l, e, ht, hl⟩ := HD.inv_tuple x
  cases e
  obtain ⟨v1, r1, rfl, h1, hl⟩ := HDs.inv_cons hl
  obtain ⟨v2, r2, rfl, h2, hl⟩ := HDs.inv_cons hl
  obtain ⟨v3, r3, rfl, h3, hl⟩ := HDs.inv_cons hl
  obtain ⟨v4, r4, rfl, h4, hl⟩ := HDs.inv_cons hl
  obtain rfl := HDs.inv_nil hl
  obtain ⟨t1, rfl⟩ := HD.inv_str h1
  obtain ⟨t2, rfl⟩ := HD.inv_str h2
  obtain ⟨rg, l, rfl, hrg, hl⟩ := HD.inv_tuple h3
  obtain rfl := HDs.inv_nil hl
  obtain ⟨ty, l, rfl, hty, hl⟩ := HD.inv_tuple h4
  obtain ⟨v1, r1, rfl, h1, hl⟩ := HDs.inv_cons hl
  obtain ⟨v2, r2, rfl, h2, hl⟩ := HDs.inv_cons hl
  obtain rfl := HDs.inv_nil hl
  obtain ⟨bb, t3, t4, rfl, hb⟩ := int_T (κ := "u8") h1
  exact ⟨t1, t2, rg, ty, bb, v2, t3, t4, ht, hrg, hty, h2, hb⟩
theorem frames_now {s h : Heap} {base : Heap} {l : List Env} {env : Env} {L : Addr} {m : Str → Option Value} {B : Heap} (hl : B.FunFrames base l) (F : Fr B L h m) (hLn : base.get? L = none) (hf : env.frame = some L := by rfl) (hke : env.scope.kind = .function := by rfl) : h.FunFrames base (env :: l) :=
  .cons (by rw [hke]; decide) hf F.ns hLn (hl.of_keeps fun b o q _ => ⟨o, F.keep b o q, rfl⟩)
theorem frames_hid {h : Heap} {base : Heap} {l : List Env} {tb : Array Value} (hl : h.FunFrames base l) (h123 : h.get? 123 = some (tabObj tb)) : (hideAll h [123]).FunFrames base l :=
  hl.of_keeps fun b o q hn => ⟨o, hideAll_get _ q fun hm => by
    rw [List.mem_singleton.mp hm, h123] at q
    cases q
    exact hn _ rfl, rfl⟩
theorem none_L {B base : Heap} {L : Addr} (k : base.StaysIn B) (h : B.objs.size ≤ L) : base.get? L = none := by
  cases q : base.get? L with
  | none => rfl
  | some o => exact absurd (Nat.lt_of_lt_of_le (Heap.lt_size (k L o q)) h) (Nat.lt_irrefl _)

theorem wT_head {B : Heap} {ta : Addr} {way : Way} {dT : PyData} (x : HD B (.ref ta) (wT way dT)) : ∃ κ t1 r, IsTup B ta (Value.str κ t1 :: r).toArray ∧ ¬ ([Str.ofString "int", Str.ofString "bool"].any (· == κ)) = true := by
  cases way
  · obtain ⟨t1, vT, hTy, _⟩ := inv_box x
    exact ⟨_, t1, _, hTy, by decide⟩
  · obtain ⟨t1, tb7, vT, bb, t2, t3, hTy, _⟩ := inv_tup x
    exact ⟨_, t1, _, hTy, by decide⟩
  · obtain ⟨t1, vT, t2, hTy, _⟩ := inv_arr x
    exact ⟨_, t1, _, hTy, by decide⟩
  · obtain ⟨t1, t2, rg, ty, bb, vT, t3, t4, hTy, _⟩ := inv_adt x
    exact ⟨_, t1, _, hTy, by decide⟩
theorem reg30 : True := by
  (k_with "ite" => ((refine iteF (by assumption) ?_)))
  exact True.intro
theorem news_at {h₀ h : Heap} {L : Addr} {news : List (Addr × Obj)} {tb : Array Value} (N : News h₀ L h news) (hm : (123, tabObj tb) ∈ news) : h.get? 123 = some (tabObj tb) ∧ @Ne Nat L 123 := ⟨N.get hm, fun q => (N _ hm).2.1 q.symm⟩
theorem ne_cons {env : Env} {l : List Env} {L : Addr} (hf : env.frame = some L) (h : @Ne Nat L 123) (hne : ∀ b ∈ l.filterMap (·.frame), @Ne Nat b 123) : ∀ b ∈ (env :: l).filterMap (·.frame), @Ne Nat b 123 := fun b hb => by
  rw [List.filterMap_cons, hf] at hb
  rcases List.mem_cons.mp hb with rfl | hb
  · exact h
  · exact hne b hb
theorem tab_now {h₀ h base : Heap} {L : Addr} {m : Str → Option Value} {news : List (Addr × Obj)} {tb : Array Value} {env : Env} {l : List Env} (hl1 : h₀.FunFrames base l) (hkb : base.StaysIn h₀) (hLn : base.get? L = none) (hne : ∀ b ∈ l.filterMap (·.frame), @Ne Nat b 123) (F : Fr h₀ L h m) (N : News h₀ L h news) (hm : (123, tabObj tb) ∈ news) (hk : env.scope.kind = .function) (hf : env.frame = some L) :
    ∃ b' : Heap, base.StaysIn b' ∧ b'.StaysIn h ∧ h.FunFrames b' (env :: l) ∧ b'.get? 123 = some (tabObj tb) :=
  tab_base (frames_now (s := h) hl1 F hLn hf hk) (fun b o e => F.keep _ _ (hkb b o e)) (N.get hm) (ne_cons hf (fun q => (N _ hm).2.1 q.symm) hne)
section
variable {prog : Program} {w : World} {p : Program} {loose : List Str} {mg mb : Str → Option Value} {dp un : Nat} {fr : Option (List Env)} {gd : Option (List Code)} {s : Shared} {h₀ h h' : Heap} {L : Addr} {m : Str → Option Value} {news : List (Addr × Obj)} {Q E : Value → Shared → Prop}
variable {mean : ExcName → Option Value} {tb0 : Array Value} {wv : Value} {L wt : Addr} {base : Heap} {l : List Env} {test : PySem.Expr} {body orelse : List Stmt} {env : Env} {R : Result → Shared → Prop} {tk dn it ta : Addr} {rest : List (Addr × Obj)} {ds ws : List Value}
theorem turn_bad (lp : LoopIs w.params 174 (.ref 173) L test body orelse env) (hdp : dp + 40 < recursionLimit) (hu : un + 300 < cLine) (hl1 : h₀.FunFrames base l) (hkb : base.StaysIn h₀) (hLn : base.get? L = none) (hne : ∀ b ∈ l.filterMap (·.frame), @Ne Nat b 123)
    {h : Heap} {way : Way} {va : Addr} {dT : PyData} (I : Inv w p loose mean mg mb h₀ h L dn wt wv [] (ws ++ [.ref it]) rest) (hi : (it, tupO #[.bool false, .ref va, .ref ta, .none]) ∈ rest) (hTt : HD h₀ (.ref ta) (wT way dT)) (hL : IsL h₀ va)
    (hbad : ∀ e h' tk', ThrownT w.params base h₀ (env :: l) (rawInt L) e "kind" h' → R (.error (.ref e)) { s with heap := h', toks := tk' }) :
    codeAny (model prog w) ((AA dp un (some l) gd).deeper env) (.whileLoop test body orelse env) R { s with heap := h, toks := tk } := by
  have FT : ∀ {h : Heap} {m : Str → Option Value} {news : List (Addr × Obj)} {tb : Array Value}, Fr h₀ L h m → News h₀ L h news → (123, tabObj tb) ∈ news → env.scope.kind = .function → env.frame = some L → _ := fun F N hm hk hf => tab_now (env := env) hl1 hkb hLn hne F N hm hk hf
  obtain ⟨fd, b, e1, e2, e3, e4⟩ := lp
  cases e1
  cases e2
  cases e3
  subst e4
  obtain ⟨X, TT, ⟨m0, F⟩, ⟨nd, nw, tb, N, ok⟩, ⟨n1, n2, n3⟩, n4, n5, n6, ⟨dws, via, lay⟩, wl⟩ := I
  refine while_turn2 fun QT QB EB hTT hTF hBN hBR hEB hEO => ?_
  have N := News.dup N hi
  have a1 : @Ne Nat it dn := n4 _ hi
  have a2 : @Ne Nat it wt := n5 _ hi
  have a3 : @Ne Nat it 123 := n6 _ hi
  have wl' : ws.length < 899 := by
    rw [List.length_append] at wl
    exact Nat.lt_of_succ_lt_succ wl
  have TR := topRead_of TT
  try dsimp only
  try k_fold
  obtain ⟨κ, t1, r, hTy, hκ⟩ := wT_head hTt
  walk_at "M steps"
  rename Fr _ _ _ _ => FN
  rename News _ _ _ _ => NN
  obtain ⟨b', c1, c2, c3, c4⟩ := FT FN NN (by k_mem) rfl rfl
  refine partsBad_ (X.keeps FN.keep) (TR.keeps FN.keep) ?_ ?_ c3 c2 (hL.keeps FN.keep) fun e h' tk' th => hEB _ _ (note_thrown rfl rfl th fun h8 th8 => hbad _ _ _ ⟨b', tb, c1, ok, c4, th8.on (Heap.UpToSlots.of_keeps FN.keep)⟩)
  · walk_at "M lt"
  · walk_at "M lt"
end

section
variable {prog : Program} {w : World} {p : Program} {loose : List Str} {mg mb : Str → Option Value} {dp un : Nat} {fr : Option (List Env)} {gd : Option (List Code)} {s : Shared} {h₀ h h' : Heap} {L : Addr} {m : Str → Option Value} {news : List (Addr × Obj)} {Q E : Value → Shared → Prop}
variable {mean : ExcName → Option Value} {tb0 : Array Value} {wv : Value} {L wt : Addr} {base : Heap} {l : List Env} {test : PySem.Expr} {body orelse : List Stmt} {env : Env} {R : Result → Shared → Prop} {tk dn it ta : Addr} {rest : List (Addr × Obj)} {ds ws : List Value}
theorem turn_int (lp : LoopIs w.params 174 (.ref 173) L test body orelse env) (hdp : dp + 40 < recursionLimit) (hu : un + 300 < cLine) (hl1 : h₀.FunFrames base l) (hkb : base.StaysIn h₀) (hLn : base.get? L = none) (hne : ∀ b ∈ l.filterMap (·.frame), @Ne Nat b 123)
    {h : Heap} {n : Int} {u t1 t2 : Tok} {κ : Str} {lo hi : Int} (hds : ds = [] ∨ ∃ v, ds = [v]) (I : Inv w p loose mean mg mb h₀ h L dn wt wv ds (ws ++ [.ref it]) rest) (hin : (it, tupO #[.bool false, .int n u, .ref ta, .none]) ∈ rest) (hTt : IsTup h₀ ta #[.str "int" t1, .str κ t2]) (hκ : (κ, lo, hi) ∈ kinds)
    (hgood : lo ≤ n ∧ n ≤ hi → ∀ h' tk' rest', Inv w p loose mean mg mb h₀ h' L dn wt wv (ds ++ [.int n u]) ws rest' → (∀ q ∈ rest, q ∈ rest') → codeAny (model prog w) ((AA dp un (some l) gd).deeper env) (.whileLoop test body orelse env) R { s with heap := h', toks := tk' })
    (hbad : ¬ (lo ≤ n ∧ n ≤ hi) → ∀ e h' tk', ThrownT w.params base h₀ (env :: l) (rawInt L) e "kind" h' → R (.error (.ref e)) { s with heap := h', toks := tk' }) :
    codeAny (model prog w) ((AA dp un (some l) gd).deeper env) (.whileLoop test body orelse env) R { s with heap := h, toks := tk } := by
  revert hgood
  have FT : ∀ {h : Heap} {m : Str → Option Value} {news : List (Addr × Obj)} {tb : Array Value}, Fr h₀ L h m → News h₀ L h news → (123, tabObj tb) ∈ news → env.scope.kind = .function → env.frame = some L → _ := fun F N hm hk hf => tab_now (env := env) hl1 hkb hLn hne F N hm hk hf
  obtain ⟨fd, b, e1, e2, e3, e4⟩ := lp
  cases e1
  cases e2
  cases e3
  subst e4
  intro hgood
  obtain ⟨X, TT, ⟨m0, F⟩, ⟨nd, nw, tb, N, ok⟩, ⟨n1, n2, n3⟩, n4, n5, n6, ⟨dws, via, lay⟩, wl⟩ := I
  refine while_turn2 fun QT QB EB hTT hTF hBN hBR hEB hEO => ?_
  have N := News.dup N hin
  have a1 : @Ne Nat it dn := n4 _ hin
  have a2 : @Ne Nat it wt := n5 _ hin
  have a3 : @Ne Nat it 123 := n6 _ hin
  have wl' : ws.length < 899 := by
    rw [List.length_append] at wl
    exact Nat.lt_of_succ_lt_succ wl
  have TR := topRead_of TT
  try dsimp only
  try k_fold
  walk_at "M steps"
  have hdl : ds.length < 1000 := by rcases hds with rfl | ⟨v, rfl⟩ <;> exact Nat.le_of_ble_eq_true rfl
  rename Fr _ _ _ _ => FN
  rename News _ _ _ _ => NN
  obtain ⟨b', c1, c2, c3, c4⟩ := FT FN NN (by k_mem) rfl rfl
  refine call_made hκ FN X TR NN ?_ ?_ c3 c2 hTt ?_ ?_
  · walk_at "M lt"
  · walk_at "M lt"
  · intro h9 tk9 hb F9 N9
    walk_at "M steps"
    obtain ⟨rest', I', sub, new⟩ := rebase (rest := rest) (dn := dn) (wt := wt) (ds := ds ++ [.int n u]) (ws := ws) (dws := dws.dropLast) X TT (by assumption) (by assumption) (by k_mem) (by k_mem) (by k_mem) ok ⟨n1, n2, n3⟩ (fun q hq => ⟨by walk_at "M sub", n4 q hq, n5 q hq, n6 q hq⟩) (fun h' b r => HDs.init (via h' b fun q hq => r q (by walk_at "M sub") (n4 q hq) (n5 q hq) (n6 q hq))) (lay_init lay) (by omega) rfl rfl rfl
    exact hgood hb _ _ _ I' sub
  · intro e h9 tk9 hb th
    exact hEB _ _ (note_thrown rfl rfl th fun h8 th8 => hbad hb _ _ _ ⟨b', tb, c1, ok, c4, th8.on (Heap.UpToSlots.of_keeps FN.keep)⟩)
theorem turn_end (lp : LoopIs w.params 174 (.ref 173) L test body orelse env) (hdp : dp + 40 < recursionLimit) (hu : un + 300 < cLine)
    {h : Heap} (I : Inv w p loose mean mg mb h₀ h L dn wt wv ds [] rest) (hq : ∀ h' tk' rest', Inv w p loose mean mg mb h₀ h' L dn wt wv ds [] rest' → (∀ q ∈ rest, q ∈ rest') → R (.ok .next) { s with heap := h', toks := tk' }) :
    codeAny (model prog w) ((AA dp un (some l) gd).deeper env) (.whileLoop test body orelse env) R { s with heap := h, toks := tk } := by
  obtain ⟨fd, b, e1, e2, e3, e4⟩ := lp
  cases e1
  cases e2
  cases e3
  subst e4
  obtain ⟨X, TT, ⟨m0, F⟩, ⟨nd, nw, tb, N, ok⟩, ⟨n1, n2, n3⟩, n4, n5, n6, ⟨dws, via, lay⟩, wl⟩ := I
  refine while_turn2 fun QT QB EB hTT hTF hBN hBR hEB hEO => ?_
  have TR := topRead_of TT
  try dsimp only
  try k_fold
  walk_at "M steps"
  obtain ⟨rest', I', sub, new⟩ := rebase (rest := rest) (dn := dn) (wt := wt) (ds := ds) (ws := []) (dws := dws) X TT (by assumption) (by assumption) (by k_mem) (by k_mem) (by k_mem) ok ⟨n1, n2, n3⟩ (fun q hq => ⟨by walk_at "M sub", n4 q hq, n5 q hq, n6 q hq⟩) (fun h' b r => via h' b fun q hq => r q (by walk_at "M sub") (n4 q hq) (n5 q hq) (n6 q hq)) lay wl rfl rfl rfl
  exact hq _ _ _ I' sub
end

section
variable {prog : Program} {w : World} {A : Around} {E : Value → Shared → Prop} {s : Shared} {h₀ : Heap} {L l : Addr} {m : Str → Option Value} {news : List (Addr × Obj)} {Q : Value → Shared → Prop}
theorem sliceL {value slice : PySem.Expr} {items out : Array Value} {n : Nat} {vl vu : Value} {lo hi : Option Int} (F : Fr h₀ L s.heap m) (N : News h₀ L s.heap news) (hm : (l, listOf items n) ∈ news) (pl : IsPart vl lo) (pu : IsPart vu hi) (e : slicePick items lo hi none = out) (hz : items.size < 1000)
    (h : ∀ D h', Fr h₀ L h' m → News h₀ L h' ((D, listOf out 0) :: news) → (∀ p ∈ news, p.1 < D) → Q (.ref D) { s with heap := h' })
    (hs : subscripted slice false (.ref l) (.ref s.heap.objs.size) = operate [.ref s.heap.objs.size, .ref l] (getItem (.ref l) (.ref s.heap.objs.size)))
    (ht : ∀ r, letTemporaryGo value (.ref l) r = pure ()) :
    wpAny (model prog w) A (subscriptTail value slice (.ref l) (.ref s.heap.objs.size)) Q E { s with heap := s.heap.push { cls := .type "slice", data := .fields #[vl, vu, .none] } } := by
  subst e
  exact slice_list F N ⟨_, N.get hm, rfl, _, rfl⟩ pl pu (fun h' F' N' => h _ h' F' N' fun p hp => Nat.lt_succ_of_lt (Heap.lt_size (N p hp).1)) hs ht (by rw [sizeLine_eq]; omega)
end
theorem allLt_mem {d : Addr} : ∀ {l : List (Addr × Obj)}, AllLt d l → ∀ q ∈ l, @Ne Nat q.1 d
  | [], _, _, hq => nomatch hq
  | p :: r, h, q, hq => by
    rcases List.mem_cons.mp hq with rfl | hq
    · exact Nat.ne_of_lt h.1
    · exact allLt_mem h.2 q hq
theorem pick10 (a : Value) : slicePick #[a] none (some (1 - 1)) none = #[] := rfl
theorem pick11 (a : Value) : slicePick #[a] (some (1 - 1)) none none = #[a] := by first | kernel_rfl | with_unfolding_all rfl
theorem pick20 (a b : Value) : slicePick #[a, b] none (some (2 - 2)) none = #[] := rfl
theorem pick22 (a b : Value) : slicePick #[a, b] (some (2 - 2)) none none = #[a, b] := by first | kernel_rfl | with_unfolding_all rfl
theorem reg31 : True := by
  (k_with "M part" => (first | exact .none | exact .int _ _))
  (k_with "subscriptTail Name Slice ref ref" => ((k_here; (with_reducible show wpAny _ _ (subscriptTail _ _ (Value.ref _) (Value.ref _)) _ _ _); (with_unfolding_all refine sliceL (s := ⟨_, _, _, _, _⟩) (by assumption) (by assumption) (by k_mem) (by walk_at "M part") (by walk_at "M part") (by first | exact pick10 _ | exact pick11 _ | exact pick20 _ _ | exact pick22 _ _) (Nat.le_of_ble_eq_true rfl) ?_ (by with_unfolding_all rfl) (by intro _; with_unfolding_all rfl)); intro D9 h9 F9 N9 l9; (try k_lt l9); (try k_sweep))))
  exact True.intro
def tArr (t1 : Tok) (x1 x2 x3 : Value) : Way → Array Value
  | .box => #[.str "box" t1, x1]
  | .tup => #[.str "tuple" t1, x1]
  | .arr => #[.str "array" t1, x1, x2]
  | .adt => #[.str "adt" t1, x1, x2, x3]
def mArr (t2 : Tok) (v vr : Value) (pa : Addr) : Way → Array Value
  | .box => #[.str "box" t2, v]
  | .adt => #[.str "variant" t2, vr, .ref pa]
  | _ => #[.str "fields" t2, .ref pa]
section
variable {prog : Program} {w : World} {p : Program} {loose : List Str} {mg mb : Str → Option Value} {dp un : Nat} {fr : Option (List Env)} {gd : Option (List Code)} {s : Shared} {h₀ h h' : Heap} {L : Addr} {m : Str → Option Value} {news : List (Addr × Obj)} {Q E : Value → Shared → Prop}
theorem together2_ {ta pa : Addr} {v : Value} {t1 : Tok} {way : Way} {vr : Value} (X : (hd.heap_1 w.params).In s.heap) (T : TopRead p loose mg mb s.heap) (hdp : dp + 20 < recursionLimit) (hu : un + 200 < cLine)
    (hT : ∃ x1 x2 x3, IsTup s.heap ta (tArr t1 x1 x2 x3 way)) (hp : way = .box → IsTup s.heap pa #[v])
    (hret : ∀ h' tk' a t2, Kp [] s.heap h' → h'.get? a = some (tupO (mArr t2 v vr pa way)) → s.heap.get? a = none → Q (.ref a) { s with heap := h', toks := tk' }) :
    wpAny (model prog w) (AA dp un fr gd) (call (.ref 167) [.ref ta, vr, .ref pa]) Q E s := by
  cases way
  · exact together_ (way := .box) X T hdp hu hT hp hret
  · exact together_ (way := .tup) X T hdp hu hT hp hret
  · exact together_ (way := .arr) X T hdp hu hT hp hret
  · exact together_ (way := .adt) X T hdp hu hT hp hret
end
theorem wT_parts {B : Heap} {ta : Addr} {way : Way} {dT : PyData} (x : HD B (.ref ta) (wT way dT)) : ∃ t1 x1 x2 x3, IsTup B ta (tArr t1 x1 x2 x3 way) := by
  cases way
  · obtain ⟨t1, vT, hTy, _⟩ := inv_box x
    exact ⟨t1, vT, vT, vT, hTy⟩
  · obtain ⟨t1, tb7, vT, bb, t2, t3, hTy, _⟩ := inv_tup x
    exact ⟨t1, .ref tb7, vT, vT, hTy⟩
  · obtain ⟨t1, vT, t2, hTy, _⟩ := inv_arr x
    exact ⟨t1, vT, .int 1 t2, vT, hTy⟩
  · obtain ⟨t1, t2, rg, ty, bb, vT, t3, t4, hTy, _⟩ := inv_adt x
    exact ⟨t1, .str "P" t2, .ref rg, .ref ty, hTy⟩
theorem made1 {H : Heap} {a pa : Addr} {mv vr : Value} {dm : PyData} {way : Way} {t2 : Tok} (e : way.two = false) (h1 : H.get? a = some (tupO (mArr t2 mv vr pa way)))
    (h2 : H.get? pa = some (tupO #[mv])) (hm : HD H mv dm) : HD H (.ref a) (wMade way dm) := by
  cases way
  · exact HD.tuple h1 rfl rfl (HDs.cons HD.str (HDs.cons hm HDs.nil))
  · cases e
  · exact HD.tuple h1 rfl rfl (HDs.cons HD.str (HDs.cons (HD.tuple h2 rfl rfl (HDs.cons hm HDs.nil)) HDs.nil))
  · cases e
theorem made2 {H : Heap} {a pa : Addr} {mv vr : Value} {dm : PyData} {way : Way} {t2 u7 : Tok} (e : way.two = true) (hv : way = .adt → ∃ u0, vr = .int 0 u0) (h1 : H.get? a = some (tupO (mArr t2 mv vr pa way)))
    (h2 : H.get? pa = some (tupO #[mv, .int 7 u7])) (hm : HD H mv dm) : HD H (.ref a) (wMade way dm) := by
  cases way
  · cases e
  · exact HD.tuple h1 rfl rfl (HDs.cons HD.str (HDs.cons (HD.tuple h2 rfl rfl (HDs.cons hm (HDs.cons HD.int HDs.nil))) HDs.nil))
  · cases e
  · obtain ⟨u0, rfl⟩ := hv rfl
    exact HD.tuple h1 rfl rfl (HDs.cons HD.str (HDs.cons HD.int (HDs.cons (HD.tuple h2 rfl rfl (HDs.cons hm (HDs.cons HD.int HDs.nil))) HDs.nil)))
section
variable {prog : Program} {w : World} {p : Program} {loose : List Str} {mg mb : Str → Option Value} {dp un : Nat} {fr : Option (List Env)} {gd : Option (List Code)} {s : Shared} {h₀ h h' : Heap} {L : Addr} {m : Str → Option Value} {news : List (Addr × Obj)} {Q E : Value → Shared → Prop}
variable {mean : ExcName → Option Value} {tb0 : Array Value} {wv : Value} {L wt : Addr} {base : Heap} {l : List Env} {test : PySem.Expr} {body orelse : List Stmt} {env : Env} {R : Result → Shared → Prop} {tk dn it ta : Addr} {rest : List (Addr × Obj)} {ds ws : List Value}
theorem turn_seen (lp : LoopIs w.params 174 (.ref 173) L test body orelse env) (hdp : dp + 40 < recursionLimit) (hu : un + 300 < cLine)
    {h : Heap} {way : Way} {mv : Value} {dT dm : PyData} (I : Inv w p loose mean mg mb h₀ h L dn wt wv ds (ws ++ [.ref it]) rest) (hse : Seen way rest it ta) (hTt : HD h₀ (.ref ta) (wT way dT)) (hds : if way.two then ∃ u, ds = [mv, .int 7 u] else ds = [mv]) (hmv : Via h₀ rest (HD · mv dm))
    (hq : ∀ h' tk' dn' rest' a, Inv w p loose mean mg mb h₀ h' L dn' wt wv [.ref a] ws rest' → (∀ q ∈ rest, q ∈ rest') → Via h₀ rest' (HD · (.ref a) (wMade way dm)) → codeAny (model prog w) ((AA dp un (some l) gd).deeper env) (.whileLoop test body orelse env) R { s with heap := h', toks := tk' }) :
    codeAny (model prog w) ((AA dp un (some l) gd).deeper env) (.whileLoop test body orelse env) R { s with heap := h, toks := tk } := by
  revert hq
  obtain ⟨fd, b, e1, e2, e3, e4⟩ := lp
  cases e1
  cases e2
  cases e3
  subst e4
  intro hq
  obtain ⟨X, TT, ⟨m0, F⟩, ⟨nd, nw, tb, N, ok⟩, ⟨n1, n2, n3⟩, n4, n5, n6, ⟨dws, via, lay⟩, wl⟩ := I
  obtain ⟨u, vr, hin, hvr⟩ := hse
  refine while_turn2 fun QT QB EB hTT hTF hBN hBR hEB hEO => ?_
  have N := News.dup N hin
  have a1 : @Ne Nat it dn := n4 _ hin
  have a2 : @Ne Nat it wt := n5 _ hin
  have a3 : @Ne Nat it 123 := n6 _ hin
  have wl' : ws.length < 899 := by
    rw [List.length_append] at wl
    exact Nat.lt_of_succ_lt_succ wl
  have TR := topRead_of TT
  try dsimp only
  try k_fold
  obtain ⟨t1, x1, x2, x3, hTy⟩ := wT_parts hTt
  cases e2 : way.two
  · have ec : way.cnt = 1 := by unfold Way.cnt; rw [e2]; rfl
    rw [ec] at N
    obtain rfl : ds = [mv] := by rw [e2] at hds; exact hds
    have N : News h₀ L h ((dn, listOf #[mv] nd) :: (wt, wlist (ws ++ [.ref it]) nw) :: (123, tabObj tb) :: (it, tupO #[.bool true, .int 1 u, .ref ta, vr]) :: rest) := N
    walk_at "M steps"
    rename Fr _ _ _ _ => FN
    rename News _ _ _ _ => NN
    refine together2_ (way := way) (v := mv) (t1 := t1) (X.keeps FN.keep) (TR.keeps FN.keep) ?_ ?_ ⟨x1, x2, x3, hTy.keeps FN.keep⟩ (fun _ => News.isTup NN (.head _)) fun h8 tk8 a8 t8 k8 e8 n8 => ?_
    · walk_at "M lt"
    · walk_at "M lt"
    have F8 := Kp.frame FN k8
    have N8 := News.cons FN NN k8 e8 n8
    have ne8 := ne_new NN n8
    clear FN NN
    try dsimp only at N8
    walk_at "M steps"
    rename Fr _ _ _ _ => FN
    rename News _ _ _ _ => NN
    obtain ⟨rest', I', sub, new⟩ := rebase (rest := rest) (wt := wt) (ds := [.ref a8]) (ws := ws) (dws := dws.dropLast) X TT FN NN (.head _) (by k_mem) (by k_mem) ok ⟨by k_ne, by k_ne, n3⟩ (fun q hq => ⟨by walk_at "M sub", by walk_at "M nq", n5 q hq, n6 q hq⟩) (fun h' b r => HDs.init (via h' b fun q hq => r q (by walk_at "M sub") (by walk_at "M nq") (n5 q hq) (n6 q hq))) (lay_init lay) (by omega) rfl rfl rfl
    refine hq _ _ _ rest' a8 I' sub (fun h' b r => made1 e2 (r (a8, tupO _) (new _ (by k_mem) ?_ ?_ ?_)) (r (_, tupO #[mv]) (new _ (by k_mem) ?_ ?_ ?_)) (hmv h' b fun q hq => r q (sub q hq)))
    all_goals k_ne
  · have ec : way.cnt = 2 := by unfold Way.cnt; rw [e2]; rfl
    rw [ec] at N
    obtain ⟨u7, rfl⟩ : ∃ u, ds = [mv, .int 7 u] := by rw [e2] at hds; exact hds
    have N : News h₀ L h ((dn, listOf #[mv, .int 7 u7] nd) :: (wt, wlist (ws ++ [.ref it]) nw) :: (123, tabObj tb) :: (it, tupO #[.bool true, .int 2 u, .ref ta, vr]) :: rest) := N
    walk_at "M steps"
    rename Fr _ _ _ _ => FN
    rename News _ _ _ _ => NN
    refine together2_ (way := way) (v := mv) (t1 := t1) (X.keeps FN.keep) (TR.keeps FN.keep) ?_ ?_ ⟨x1, x2, x3, hTy.keeps FN.keep⟩ (fun e => by rw [e] at e2; cases e2) fun h8 tk8 a8 t8 k8 e8 n8 => ?_
    · walk_at "M lt"
    · walk_at "M lt"
    have F8 := Kp.frame FN k8
    have N8 := News.cons FN NN k8 e8 n8
    have ne8 := ne_new NN n8
    clear FN NN
    try dsimp only at N8
    walk_at "M steps"
    rename Fr _ _ _ _ => FN
    rename News _ _ _ _ => NN
    obtain ⟨rest', I', sub, new⟩ := rebase (rest := rest) (wt := wt) (ds := [.ref a8]) (ws := ws) (dws := dws.dropLast) X TT FN NN (.head _) (by k_mem) (by k_mem) ok ⟨by k_ne, by k_ne, n3⟩ (fun q hq => ⟨by walk_at "M sub", by walk_at "M nq", n5 q hq, n6 q hq⟩) (fun h' b r => HDs.init (via h' b fun q hq => r q (by walk_at "M sub") (by walk_at "M nq") (n5 q hq) (n6 q hq))) (lay_init lay) (by omega) rfl rfl rfl
    refine hq _ _ _ rest' a8 I' sub (fun h' b r => made2 e2 hvr (r (a8, tupO _) (new _ (by k_mem) ?_ ?_ ?_)) (r (_, tupO #[mv, .int 7 u7]) (new _ (by k_mem) ?_ ?_ ?_)) (hmv h' b fun q hq => r q (sub q hq)))
    all_goals k_ne
end

section
variable {prog : Program} {w : World} {A : Around} {E : Value → Shared → Prop} {s : Shared}
theorem nextOf_tup {it t : Addr} {i : Nat} {items : Array Value} {x : Value} {Q : Value → Shared → Prop} (hit : IsTupIter s.heap it t i) (ht : IsTup s.heap t items) (hx : items[i]? = some x)
    (hQ : ∀ h', IsTupIter h' it t (i + 1) → Heap.SameBut it s.heap h' → Q x { s with heap := h' }) : wpAny (model prog w) A (Builtin.SmallTypes.nextOf (.ref it)) Q E s := by
  obtain ⟨o, ho, hc, hd'⟩ := id hit
  obtain ⟨ol, hol, _, nl, hdl⟩ := ht
  unfold Builtin.SmallTypes.nextOf
  refine wpAny_bind (wpAny_callSpecial?_slot (name := Str.ofString "__next__") hit.typeIs slot_tupleiter_next (wpAny_call_entry slot_tupleiter_next hit.typeIs entry_tupleiter_next ?_ (args_tupleiter_next _)))
  show wpAny _ _ (field (.ref it) 0 >>= _) _ _ s
  refine wpAny_bind (wpAny_field ho hd' (x := .ref t) rfl ?_)
  show wpAny _ _ (if (Value.ref t == Value.none) = true then _ else _) _ _ s
  rw [if_neg (show ¬ ((Value.ref t == Value.none) = true) from Bool.false_ne_true)]
  show wpAny _ _ (field (.ref it) 1 >>= _) _ _ s
  refine wpAny_bind (wpAny_field ho hd' (x := .int i 0) rfl ?_)
  show wpAny _ _ (seqItems? (.ref t) >>= _) _ _ s
  refine wpAny_bind (wpAny_seqItems hol hdl ?_)
  simp only [Int.toNat_natCast, hx]
  refine wpAny_bind (wpAny_setField ho hd' (by simp) (wpAny_pure ⟨x, rfl, ?_⟩))
  exact wpAny_pure (hQ _ ⟨_, Heap.get?_update_self _ ho (Obj.isFreed_of_fields (Obj.data_mapFields hd' _)), (Obj.cls_mapFields ..).trans hc, by rw [Obj.data_mapFields hd']; simp [rawInt]⟩ (Heap.SameBut.update ..))
theorem nextOf_tup_end {it t : Addr} {i : Nat} {items : Array Value} {Q : Value → Shared → Prop} (hh : A.handled = none) (hit : IsTupIter s.heap it t i) (ht : IsTup s.heap t items) (hx : items[i]? = none)
    (hE : ∀ h' e, Heap.ExtBut it s.heap h' → (∃ o, h'.get? e = some o ∧ o.cls = .type "StopIteration") → E (.ref e) { s with heap := h' }) : wpAny (model prog w) A (Builtin.SmallTypes.nextOf (.ref it)) Q E s := by
  obtain ⟨o, ho, hc, hd'⟩ := id hit
  obtain ⟨ol, hol, _, nl, hdl⟩ := ht
  unfold Builtin.SmallTypes.nextOf
  refine wpAny_bind (wpAny_callSpecial?_slot (name := Str.ofString "__next__") hit.typeIs slot_tupleiter_next (wpAny_call_entry slot_tupleiter_next hit.typeIs entry_tupleiter_next ?_ (args_tupleiter_next _)))
  show wpAny _ _ (field (.ref it) 0 >>= _) _ _ s
  refine wpAny_bind (wpAny_field ho hd' (x := .ref t) rfl ?_)
  show wpAny _ _ (if (Value.ref t == Value.none) = true then _ else _) _ _ s
  rw [if_neg (show ¬ ((Value.ref t == Value.none) = true) from Bool.false_ne_true)]
  show wpAny _ _ (field (.ref it) 1 >>= _) _ _ s
  refine wpAny_bind (wpAny_field ho hd' (x := .int i 0) rfl ?_)
  show wpAny _ _ (seqItems? (.ref t) >>= _) _ _ s
  refine wpAny_bind (wpAny_seqItems hol hdl ?_)
  simp only [Int.toNat_natCast, hx]
  refine wpAny_bind (wpAny_rule (wpAny_bind (wpAny_setField ho hd' (by simp) ?_)))
  show wpAny _ _ (newExc (.type "StopIteration") [] >>= _) _ _ _
  refine wpAny_bind ?_
  simp only [newExc, newTuple]
  refine wpAny_bind (wpAny_newObj_type ?_ (by size_fits))
  refine wpAny_bind (m := firstArgMember _ _) (wpAny_of_eq (a := Value.none) (by first | rfl | (simp only [firstArgMember]; rfl)) ?_)
  refine wpAny_newObj_type ?_ (by size_fits)
  simp only [raiseNew]
  refine wpAny_bind (wpAny_handled ?_)
  first | rw [show A.in1.handled = none from hh] | rw [hh]
  refine wpAny_bind (wpAny_pure (wpAny_throw ?_))
  exact hE _ _ (((Heap.SameBut.update ..).extBut.push _).push _) ⟨_, Heap.get?_push_size _ rfl, rfl⟩
abbrev pairO (a b : Value) : Obj := { cls := .type "tuple", data := .seq #[a, b] }
/-- a zip over two tuples, k items drawn; f0 is what it holds of the tuple it has handed out -/
structure ZipT (h : Heap) (z TI TO i1 i2 l1 l2 : Addr) (k : Nat) (f0 f1 : Value) (xs ys : Array Value) : Prop where
  hz : h.get? z = some { cls := .type "zip", dict := none, data := .fields #[f0, f1, .bool false, .ref TI, .ref TO], slots := #[] }
  hI : h.get? TI = some (pairO (.ref i1) (.ref i2))
  hO : ∃ a b, h.get? TO = some (pairO a b)
  h1 : IsTupIter h i1 l1 k
  h2 : IsTupIter h i2 l2 k
  t1 : IsTup h l1 xs
  t2 : IsTup h l2 ys
  D : ZipApart z TI TO i1 i2 l1 l2
theorem loadAlive {M : Model} {a : Addr} {o : Obj} {Q : Option Obj → Shared → Prop} (e : s.heap.get? a = some o) (h : Q (some o) s) : wpAny M A (loadIfAlive a) Q E s := fun Γ p hΓ => by
  unfold loadIfAlive
  rw [Sem.wp_loadIfAlive, e]
  exact (wpAny_pure (a := some o) h) Γ p hΓ
theorem upd_pair {T : Addr} {a b x : Value} {k : Nat} {Q : Unit → Shared → Prop} (hT : s.heap.get? T = some (pairO a b))
    (h : ∀ h', h'.get? T = some { cls := .type "tuple", data := .seq ((#[a, b] : Array Value).setIfInBounds k x) } → Heap.SameBut T s.heap h' → Q () { s with heap := h' }) :
    wpAny (model prog w) A (updateSeq T (·.setIfInBounds k x)) Q E s := by
  refine wpAny_updateSeq hT rfl (h _ ?_ (Heap.SameBut.update ..))
  rw [Heap.get?_update_self _ hT rfl]
  simp [Obj.mapSeq]
theorem zip_first {z TI TO i1 i2 l1 l2 : Addr} {k : Nat} {xs ys : Array Value} {f1 x y : Value} {Q : Value → Shared → Prop} (Z : ZipT s.heap z TI TO i1 i2 l1 l2 k .none f1 xs ys) (hx : xs[k]? = some x) (hy : ys[k]? = some y)
    (hQ : ∀ h', ZipT h' z TI TO i1 i2 l1 l2 (k + 1) (rawInt s.heap.objs.size) (.bool false) xs ys → h'.get? s.heap.objs.size = some (pairO x y) →
      (∀ c o, c ≠ z → c ≠ TO → c ≠ i1 → c ≠ i2 → s.heap.get? c = some o → h'.get? c = some o) → Q (.ref s.heap.objs.size) { s with heap := h' }) :
    wpAny (model prog w) A (Builtin.«zip.__next__» ⟨[.ref z], []⟩) (fun fin s' => ∃ v, fin = .done (.ret v) ∧ Q v s') E s := by
  obtain ⟨hz, hI, ⟨a, b, hO⟩, h1, h2, t1, t2, D⟩ := Z
  show wpAny _ _ (field (.ref z) 2 >>= _) _ _ _
  refine wpAny_bind (wpAny_field hz rfl (x := .bool false) rfl ?_)
  show wpAny _ _ (field (.ref z) 3 >>= _) _ _ _
  refine wpAny_bind (wpAny_field hz rfl (x := .ref TI) rfl ?_)
  refine wpAny_bind (wpAny_seqItems hI rfl ?_)
  show wpAny _ _ (Builtin.SmallTypes.ownedTupleIsFree (.ref z) >>= _) _ _ _
  refine wpAny_bind ?_
  unfold Builtin.SmallTypes.ownedTupleIsFree
  refine wpAny_bind (wpAny_field hz rfl (x := .none) rfl (wpAny_pure ?_))
  simp only [if_true]
  refine wpAny_bind (wpAny_rule ?_)
  refine wpAny_bind (wpAny_field hz rfl (x := .ref TO) rfl ?_)
  refine wpAny_bind (wpAny_setField_rec hz (by simp) fun ha hza sa => ?_)
  refine wpAny_bind ?_
  simp only [List.zipIdx_cons, List.zipIdx_nil, List.forIn_cons, List.forIn_nil]
  refine wpAny_bind (wpAny_bind (wpAny_onRaise ?_))
  show wpAny _ _ (Builtin.SmallTypes.nextOf (.ref i1) >>= _) _ _ _
  refine wpAny_bind (nextOf_tup (h1.extBut sa.extBut D.i1z) (t1.extBut sa.extBut D.l1z) hx fun hb h1b sb => wpAny_pure ?_)
  have hOb : hb.get? TO = some (pairO a b) := sb.extBut _ _ D.TOi1 (sa.extBut _ _ D.TOz hO)
  refine wpAny_bind (wpAny_seqItems hOb rfl ?_)
  refine wpAny_bind (upd_pair hOb fun hc hOc sc => ?_)
  refine wpAny_bind (wpAny_letGo (wpAny_pure ?_))
  refine wpAny_bind (wpAny_bind (wpAny_onRaise ?_))
  show wpAny _ _ (Builtin.SmallTypes.nextOf (.ref i2) >>= _) _ _ _
  refine wpAny_bind (nextOf_tup (((h2.extBut sa.extBut D.i2z).extBut sb.extBut D.i12.symm).extBut sc.extBut D.TOi2.symm)
    (((t2.extBut sa.extBut D.l2z).extBut sb.extBut D.l2i1).extBut sc.extBut D.l2TO) hy fun hd h2d sd => wpAny_pure ?_)
  have hOd := sd.extBut _ _ D.TOi2 hOc
  refine wpAny_bind (wpAny_seqItems hOd rfl ?_)
  refine wpAny_bind (upd_pair (a := x) (b := b) hOd fun he hOe se => ?_)
  replace hOe : he.get? TO = some (pairO x y) := hOe
  refine wpAny_bind (wpAny_letGo (wpAny_pure (wpAny_pure ?_)))
  refine wpAny_bind (wpAny_seqItems hOe rfl ?_)
  refine wpAny_bind (wpAny_newTuple ?_)
  have hsz : he.objs.size = s.heap.objs.size := by rw [se.1, sd.1, sc.1, sb.1, sa.1]
  have ke : ∀ c o, c ≠ z → c ≠ TO → c ≠ i1 → c ≠ i2 → s.heap.get? c = some o → he.get? c = some o := fun c o c1 c2 c3 c4 e =>
    se.extBut _ _ c2 (sd.extBut _ _ c4 (sc.extBut _ _ c2 (sb.extBut _ _ c3 (sa.extBut _ _ c1 e))))
  have hze := se.extBut _ _ D.TOz.symm (sd.extBut _ _ D.i2z.symm (sc.extBut _ _ D.TOz.symm (sb.extBut _ _ D.i1z.symm hza)))
  have h1e : IsTupIter he i1 l1 (k + 1) := ((h1b.extBut sc.extBut D.TOi1.symm).extBut sd.extBut D.i12).extBut se.extBut D.TOi1.symm
  have h2e : IsTupIter he i2 l2 (k + 1) := h2d.extBut se.extBut D.TOi2.symm
  have zlt : z < he.objs.size := Heap.lt_size hze
  show wpAny _ _ (Builtin.SmallTypes.ownedTupleHandOut (.ref z) (.ref he.objs.size) >>= _) _ _ _
  refine wpAny_bind ?_
  unfold Builtin.SmallTypes.ownedTupleHandOut
  have hz6 := Heap.get?_push_of_some { cls := .type "tuple", data := .seq #[x, y] } hze
  refine wpAny_bind (wpAny_setField_rec hz6 (by simp) fun hg hzg sg => ?_)
  refine wpAny_setField_rec hzg (by simp) fun hh hzh sh => ?_
  have up : ∀ c o, c ≠ z → he.get? c = some o → hh.get? c = some o := fun c o c1 e => sh.extBut _ _ c1 (sg.extBut _ _ c1 (Heap.get?_push_of_some _ e))
  have hT8 : hh.get? he.objs.size = some (pairO x y) := sh.extBut _ _ (Nat.ne_of_gt zlt) (sg.extBut _ _ (Nat.ne_of_gt zlt) (Heap.get?_push_size _ rfl))
  rw [hsz] at hzh hT8
  refine wpAny_pure ⟨_, rfl, ?_⟩
  show Q (.ref he.objs.size) _
  rw [hsz]
  exact hQ hh ⟨hzh, up _ _ D.TIz (ke _ _ D.TIz D.TITO D.TIi1 D.TIi2 hI), ⟨_, _, up _ _ D.TOz hOe⟩, (fun ⟨o, e, r⟩ => ⟨o, up _ _ D.i1z e, r⟩) h1e, (fun ⟨o, e, r⟩ => ⟨o, up _ _ D.i2z e, r⟩) h2e,
    (fun ⟨o, e, r⟩ => ⟨o, up _ _ D.l1z (ke _ _ D.l1z D.l1TO D.l1i1 D.l1i2 e), r⟩) t1, (fun ⟨o, e, r⟩ => ⟨o, up _ _ D.l2z (ke _ _ D.l2z D.l2TO D.l2i1 D.l2i2 e), r⟩) t2, D⟩ hT8 fun c o c1 c2 c3 c4 e => up c o c1 (ke c o c1 c2 c3 c4 e)
/-- the handed-out tuple still lives: the next one is made anew -/
theorem zip_more {z TI TO i1 i2 l1 l2 T : Addr} {oT : Obj} {k : Nat} {xs ys : Array Value} {f1 x y : Value} {Q : Value → Shared → Prop} (Z : ZipT s.heap z TI TO i1 i2 l1 l2 k (rawInt T) f1 xs ys) (hf : f1 = .bool false) (hT : s.heap.get? T = some oT) (hx : xs[k]? = some x) (hy : ys[k]? = some y)
    (hQ : ∀ h', ZipT h' z TI TO i1 i2 l1 l2 (k + 1) (rawInt T) (.bool true) xs ys → h'.get? s.heap.objs.size = some (pairO x y) →
      (∀ c o, c ≠ z → c ≠ TO → c ≠ i1 → c ≠ i2 → s.heap.get? c = some o → h'.get? c = some o) → Q (.ref s.heap.objs.size) { s with heap := h' }) :
    wpAny (model prog w) A (Builtin.«zip.__next__» ⟨[.ref z], []⟩) (fun fin s' => ∃ v, fin = .done (.ret v) ∧ Q v s') E s := by
  subst hf
  obtain ⟨hz, hI, ⟨a, b, hO⟩, h1, h2, t1, t2, D⟩ := Z
  show wpAny _ _ (field (.ref z) 2 >>= _) _ _ _
  refine wpAny_bind (wpAny_field hz rfl (x := .bool false) rfl ?_)
  show wpAny _ _ (field (.ref z) 3 >>= _) _ _ _
  refine wpAny_bind (wpAny_field hz rfl (x := .ref TI) rfl ?_)
  refine wpAny_bind (wpAny_seqItems hI rfl ?_)
  show wpAny _ _ (Builtin.SmallTypes.ownedTupleIsFree (.ref z) >>= _) _ _ _
  refine wpAny_bind ?_
  unfold Builtin.SmallTypes.ownedTupleIsFree
  refine wpAny_bind (wpAny_field hz rfl (x := rawInt T) rfl ?_)
  show wpAny _ _ (loadIfAlive T >>= _) _ _ _
  refine wpAny_bind (loadAlive hT ?_)
  simp only [Option.isNone_some, Bool.false_eq_true, if_false]
  refine wpAny_bind (wpAny_field hz rfl (x := .bool false) rfl ?_)
  rw [if_pos (by decide)]
  refine wpAny_bind (wpAny_setField_rec hz (by simp) fun ha hza sa => wpAny_pure ?_)
  simp only [Bool.false_eq_true, if_false]
  refine wpAny_bind ?_
  simp only [List.forIn_toArray, List.forIn_cons, List.forIn_nil]
  refine wpAny_bind (wpAny_bind (wpAny_holding ?_))
  show wpAny _ _ (Builtin.SmallTypes.nextOf (.ref i1) >>= _) _ _ _
  refine wpAny_bind (nextOf_tup (h1.extBut sa.extBut D.i1z) (t1.extBut sa.extBut D.l1z) hx fun hb h1b sb => wpAny_pure (wpAny_pure ?_))
  refine wpAny_bind (wpAny_bind (wpAny_holding ?_))
  show wpAny _ _ (Builtin.SmallTypes.nextOf (.ref i2) >>= _) _ _ _
  refine wpAny_bind (nextOf_tup ((h2.extBut sa.extBut D.i2z).extBut sb.extBut D.i12.symm) ((t2.extBut sa.extBut D.l2z).extBut sb.extBut D.l2i1) hy fun hc h2c sc => wpAny_pure (wpAny_pure (wpAny_pure ?_)))
  show wpAny _ _ (newTuple [x, y] >>= _) _ _ _
  refine wpAny_bind (wpAny_newTuple (wpAny_pure ⟨_, rfl, ?_⟩))
  have hsz : hc.objs.size = s.heap.objs.size := by rw [sc.1, sb.1, sa.1]
  have kc : ∀ c o, c ≠ z → c ≠ i1 → c ≠ i2 → s.heap.get? c = some o → hc.get? c = some o := fun c o c1 c3 c4 e => sc.extBut _ _ c4 (sb.extBut _ _ c3 (sa.extBut _ _ c1 e))
  have hzc := sc.extBut _ _ D.i2z.symm (sb.extBut _ _ D.i1z.symm hza)
  show Q (.ref hc.objs.size) _
  rw [hsz]
  exact hQ _ ⟨Heap.get?_push_of_some _ hzc, Heap.get?_push_of_some _ (kc _ _ D.TIz D.TIi1 D.TIi2 hI), ⟨_, _, Heap.get?_push_of_some _ (kc _ _ D.TOz D.TOi1 D.TOi2 hO)⟩, (fun ⟨o, e, r⟩ => ⟨o, Heap.get?_push_of_some _ (sc.extBut _ _ D.i12 e), r⟩) h1b, (fun ⟨o, e, r⟩ => ⟨o, Heap.get?_push_of_some _ e, r⟩) h2c,
    (fun ⟨o, e, r⟩ => ⟨o, Heap.get?_push_of_some _ (kc _ _ D.l1z D.l1i1 D.l1i2 e), r⟩) t1, (fun ⟨o, e, r⟩ => ⟨o, Heap.get?_push_of_some _ (kc _ _ D.l2z D.l2i1 D.l2i2 e), r⟩) t2, D⟩ (by rw [← hsz]; exact Heap.get?_push_size _ rfl) fun c o c1 _ c3 c4 e => Heap.get?_push_of_some _ (kc c o c1 c3 c4 e)
theorem zip_stop {z TI TO i1 i2 l1 l2 : Addr} {k : Nat} {xs ys : Array Value} {f0 f1 : Value} {Q : Fin → Shared → Prop} (hh : A.handled = none) (Z : ZipT s.heap z TI TO i1 i2 l1 l2 k f0 f1 xs ys)
    (hf : f0 = .none ∨ ∃ T oT, f0 = rawInt (T : Nat) ∧ s.heap.get? T = some oT ∧ f1 = .bool true) (hx : xs[k]? = none)
    (hE : ∀ h' e, (∀ c o, c ≠ z → c ≠ TO → c ≠ i1 → c ≠ i2 → s.heap.get? c = some o → h'.get? c = some o) → (∃ o, h'.get? e = some o ∧ o.cls = .type "StopIteration") → E (.ref e) { s with heap := h' }) :
    wpAny (model prog w) A (Builtin.«zip.__next__» ⟨[.ref z], []⟩) Q E s := by
  obtain ⟨hz, hI, ⟨a, b, hO⟩, h1, h2, t1, t2, D⟩ := Z
  show wpAny _ _ (field (.ref z) 2 >>= _) _ _ _
  refine wpAny_bind (wpAny_field hz rfl (x := .bool false) rfl ?_)
  show wpAny _ _ (field (.ref z) 3 >>= _) _ _ _
  refine wpAny_bind (wpAny_field hz rfl (x := .ref TI) rfl ?_)
  refine wpAny_bind (wpAny_seqItems hI rfl ?_)
  show wpAny _ _ (Builtin.SmallTypes.ownedTupleIsFree (.ref z) >>= _) _ _ _
  refine wpAny_bind ?_
  unfold Builtin.SmallTypes.ownedTupleIsFree
  rcases hf with rfl | ⟨T, oT, rfl, hT, rfl⟩
  · refine wpAny_bind (wpAny_field hz rfl (x := .none) rfl (wpAny_pure ?_))
    simp only [if_true]
    refine wpAny_bind (wpAny_rule ?_)
    refine wpAny_bind (wpAny_field hz rfl (x := .ref TO) rfl ?_)
    refine wpAny_bind (wpAny_setField_rec hz (by simp) fun ha hza sa => ?_)
    refine wpAny_bind ?_
    simp only [List.zipIdx_cons, List.zipIdx_nil, List.forIn_cons, List.forIn_nil]
    refine wpAny_bind (wpAny_bind (wpAny_onRaise ?_))
    show wpAny _ _ (Builtin.SmallTypes.nextOf (.ref i1) >>= _) _ _ _
    refine wpAny_bind (nextOf_tup_end hh (h1.extBut sa.extBut D.i1z) (t1.extBut sa.extBut D.l1z) hx fun hb e sb he => ?_)
    obtain ⟨oe, hoe, hce⟩ := he
    have hzb := sb _ _ D.i1z.symm hza
    have hez : e ≠ z := fun q => by subst q; rw [hzb] at hoe; cases hoe; simp at hce
    exact wpAny_setField_rec hzb (by simp) fun hc _ sc => hE hc e (fun c o c1 _ c3 _ q => sc.extBut _ _ c1 (sb _ _ c3 (sa.extBut _ _ c1 q))) ⟨oe, sc.extBut _ _ hez hoe, hce⟩
  · refine wpAny_bind (wpAny_field hz rfl (x := rawInt T) rfl ?_)
    show wpAny _ _ (loadIfAlive T >>= _) _ _ _
    refine wpAny_bind (loadAlive hT ?_)
    simp only [Option.isNone_some, Bool.false_eq_true, if_false]
    refine wpAny_bind (wpAny_field hz rfl (x := .bool true) rfl ?_)
    rw [if_neg (by decide)]
    refine wpAny_pure ?_
    simp only [Bool.false_eq_true, if_false]
    refine wpAny_bind ?_
    simp only [List.forIn_toArray, List.forIn_cons, List.forIn_nil]
    refine wpAny_bind (wpAny_bind (wpAny_holding ?_))
    show wpAny _ _ (Builtin.SmallTypes.nextOf (.ref i1) >>= _) _ _ _
    exact wpAny_bind (nextOf_tup_end hh h1 t1 hx fun hb e sb he => hE hb e (fun c o _ _ c3 _ q => sb _ _ c3 q) he)
theorem next_zip {z TI TO i1 i2 l1 l2 : Addr} {k : Nat} {xs ys : Array Value} {f0 f1 : Value} {x y : Value} {Q : Option Value → Shared → Prop} (Z : ZipT s.heap z TI TO i1 i2 l1 l2 k f0 f1 xs ys) (hx : xs[k]? = some x) (hy : ys[k]? = some y)
    (hf : f0 = .none ∨ ∃ T oT, f0 = rawInt (T : Nat) ∧ s.heap.get? T = some oT ∧ f1 = .bool false)
    (hQ : ∀ h' f0' f1', ZipT h' z TI TO i1 i2 l1 l2 (k + 1) f0' f1' xs ys → (f0 = .none → f0' = rawInt s.heap.objs.size ∧ f1' = .bool false) → (f0 ≠ .none → f0' = f0 ∧ f1' = .bool true) → h'.get? s.heap.objs.size = some (pairO x y) →
      (∀ c o, c ≠ z → c ≠ TO → c ≠ i1 → c ≠ i2 → s.heap.get? c = some o → h'.get? c = some o) → Q (some (.ref s.heap.objs.size)) { s with heap := h' }) :
    wpAny (model prog w) A (pyNext (.ref z)) Q E s := by
  have hT : s.TypeIs (.ref z) "zip" := ⟨_, Z.hz, rfl⟩
  unfold pyNext
  refine wpAny_bind (wpAny_attempt (wpAny_callSpecial?_slot (name := Str.ofString "__next__") hT F.slot_zip_next (wpAny_call_entry F.slot_zip_next hT F.entry_zip_next ?_ (F.args_zip_next_1 _))))
  rcases hf with rfl | ⟨T, oT, rfl, hT', rfl⟩
  · exact zip_first Z hx hy fun h' Z' e k => wpAny_pure (hQ h' _ _ Z' (fun _ => ⟨rfl, rfl⟩) (fun q => absurd rfl q) e k)
  · exact zip_more Z rfl hT' hx hy fun h' Z' e k => wpAny_pure (hQ h' _ _ Z' (fun q => by cases q) (fun _ => ⟨rfl, rfl⟩) e k)
theorem next_zip_end {z TI TO i1 i2 l1 l2 : Addr} {k : Nat} {xs ys : Array Value} {f0 f1 : Value} {Q : Option Value → Shared → Prop} (hh : A.handled = none) (Z : ZipT s.heap z TI TO i1 i2 l1 l2 k f0 f1 xs ys)
    (hf : f0 = .none ∨ ∃ T oT, f0 = rawInt (T : Nat) ∧ s.heap.get? T = some oT ∧ f1 = .bool true) (hx : xs[k]? = none)
    (hQ : ∀ h', (∀ c o, c ≠ z → c ≠ TO → c ≠ i1 → c ≠ i2 → s.heap.get? c = some o → h'.get? c = some o) → Q none { s with heap := h' }) :
    wpAny (model prog w) A (pyNext (.ref z)) Q E s := by
  have hT : s.TypeIs (.ref z) "zip" := ⟨_, Z.hz, rfl⟩
  unfold pyNext
  refine wpAny_bind (wpAny_attempt (wpAny_callSpecial?_slot (name := Str.ofString "__next__") hT F.slot_zip_next (wpAny_call_entry F.slot_zip_next hT F.entry_zip_next (zip_stop hh Z hf hx fun h' e hk he => ?_) (F.args_zip_next_1 _))))
  obtain ⟨o, ho, hc⟩ := he
  refine wpAny_bind (wpAny_isInstance (T := "StopIteration") (b := true) ⟨o, ho, hc⟩ isSubtype_stop ?_)
  exact wpAny_pure (hQ _ hk)
theorem iter_zip {z TI TO i1 i2 l1 l2 : Addr} {k : Nat} {xs ys : Array Value} {f0 f1 : Value} {Q : Value → Shared → Prop} (Z : ZipT s.heap z TI TO i1 i2 l1 l2 k f0 f1 xs ys) (h : Q (.ref z) s) : wpAny (model prog w) A (pyIter (.ref z)) Q E s := by
  have hT : s.TypeIs (.ref z) "zip" := ⟨_, Z.hz, rfl⟩
  refine wpAny_pyIter_slot hT F.slot_zip_iter (wpAny_call_entry F.slot_zip_iter hT F.entry_zip_iter ?_ (F.args_zip_iter_1 _))
  show wpAny _ _ (ret (.ref z)) _ _ s
  exact wpAny_pure ⟨_, rfl, "zip", _, hT, F.slot_zip_next.lookup, h⟩
abbrev zh1 (h : Heap) (l1 : Addr) : Heap := h.push { cls := .type "tuple_iterator", data := .fields #[.ref l1, .int 0 0] }
abbrev zh2 (h : Heap) (l1 l2 : Addr) : Heap := (zh1 h l1).push { cls := .type "tuple_iterator", data := .fields #[.ref l2, .int 0 0] }
abbrev zh3 (h : Heap) (l1 l2 : Addr) : Heap := (zh2 h l1 l2).push (pairO (.ref h.objs.size) (.ref (zh1 h l1).objs.size))
abbrev zh4 (h : Heap) (l1 l2 : Addr) : Heap := (zh3 h l1 l2).push (pairO .none .none)
abbrev zh5 (h : Heap) (l1 l2 : Addr) : Heap := (zh4 h l1 l2).push { cls := .type "zip", data := .fields #[.none, .bool false, .bool false, .ref (zh2 h l1 l2).objs.size, .ref (zh3 h l1 l2).objs.size] }
theorem zip_made (l1 l2 : Addr) (xs ys : Array Value) :
    Meets (Builtin.«zip.__new__» ⟨[.type "zip", .ref l1, .ref l2], []⟩) (fun _ R s => IsTup s.heap l1 xs ∧ IsTup s.heap l2 ys ∧ R (.ok (.ret (.ref (zh4 s.heap l1 l2).objs.size))) { s with heap := zh5 s.heap l1 l2 }) :=
  .of_wp fun prog w A R s h => by
    obtain ⟨hp, g, d, tk, os⟩ := s
    obtain ⟨hl1, hl2, h⟩ := h
    have hsub := sub_zip
    have hL1 : IsTup (Shared.heap ⟨hp, g, d, tk, os⟩) l1 xs := hl1
    have hL2 : IsTup (Shared.heap ⟨hp.push { cls := .type "tuple_iterator", data := .fields #[.ref l1, .int 0 0] }, g, d, tk, os⟩) l2 ys := IsTup.push hl2 _
    wp_walk using iter_tuple hL1, iter_tuple hL2
    exact ⟨_, rfl, h⟩
theorem call_zipT {l1 l2 : Addr} {xs ys : Array Value} {Q : Value → Shared → Prop} (hl1 : IsTup s.heap l1 xs) (hl2 : IsTup s.heap l2 ys)
    (h : ∀ h' z TI TO i1 i2, ZipT h' z TI TO i1 i2 l1 l2 0 .none (.bool false) xs ys → (∀ c ∈ [z, TI, TO, i1, i2], s.heap.get? c = none) → (∀ c o, s.heap.get? c = some o → h'.get? c = some o) → Q (.ref z) { s with heap := h' }) :
    wpAny (model prog w) A (call (.type "zip") [.ref l1, .ref l2]) Q E s := by
  refine callType_new F.called_zip (by decide) (F.typeCall_zip_2 _ _) (F.newCall_zip_2 _ _) (fun obj => F.args_object_init_3 obj _ _) F.entry_zip_new (zip_made l1 l2 xs ys) ⟨hl1, hl2, ?_⟩
  have z1 : (zh1 s.heap l1).objs.size = s.heap.objs.size + 1 := Heap.size_push ..
  have z2 : (zh2 s.heap l1 l2).objs.size = s.heap.objs.size + 2 := by rw [Heap.size_push, z1]
  have z3 : (zh3 s.heap l1 l2).objs.size = s.heap.objs.size + 3 := by rw [Heap.size_push, z2]
  have z4 : (zh4 s.heap l1 l2).objs.size = s.heap.objs.size + 4 := by rw [Heap.size_push, z3]
  have g5 : (zh5 s.heap l1 l2).get? (zh4 s.heap l1 l2).objs.size = some _ := Heap.get?_push_size _ rfl
  have g4 : (zh5 s.heap l1 l2).get? (zh3 s.heap l1 l2).objs.size = some _ := Heap.get?_push_of_some _ (Heap.get?_push_size _ rfl)
  have g3 : (zh5 s.heap l1 l2).get? (zh2 s.heap l1 l2).objs.size = some _ := Heap.get?_push_of_some _ (Heap.get?_push_of_some _ (Heap.get?_push_size _ rfl))
  have g2 : (zh5 s.heap l1 l2).get? (zh1 s.heap l1).objs.size = some _ := Heap.get?_push_of_some _ (Heap.get?_push_of_some _ (Heap.get?_push_of_some _ (Heap.get?_push_size _ rfl)))
  have g1 : (zh5 s.heap l1 l2).get? s.heap.objs.size = some _ := Heap.get?_push_of_some _ (Heap.get?_push_of_some _ (Heap.get?_push_of_some _ (Heap.get?_push_of_some _ (Heap.get?_push_size _ rfl))))
  have kk : ∀ c o, s.heap.get? c = some o → (zh5 s.heap l1 l2).get? c = some o := fun c o x => Heap.get?_push_of_some _ (Heap.get?_push_of_some _ (Heap.get?_push_of_some _ (Heap.get?_push_of_some _ (Heap.get?_push_of_some _ x))))
  have a1 := hl1.lt
  have a2 := hl2.lt
  show _ ∧ _
  rw [z2, z3, z4] at g5
  rw [z1, z2] at g3
  rw [z3] at g4
  rw [z1] at g2
  rw [z4]
  refine ⟨⟨_, g5, rfl⟩, h _ _ _ _ _ _ ⟨g5, g3, ⟨_, _, g4⟩, ⟨_, g1, rfl, rfl⟩, ⟨_, g2, rfl, rfl⟩, hl1.keeps kk, hl2.keeps kk, zipApart_new a1 a2⟩ (fun c hc => ?_) kk⟩
  simp only [List.mem_cons, List.not_mem_nil, or_false] at hc
  rcases hc with rfl | rfl | rfl | rfl | rfl <;> exact Heap.get?_none_of_le (by omega)
end
theorem zip_no_getattr : typeLookup (.type "zip") "__getattr__" = pure none := by rw [typeLookup_type, builtinLookup_eq_fast]; kernel_rfl
theorem zip_no_keys : typeLookup (.type "zip") "keys" = pure none := by rw [typeLookup_type, builtinLookup_eq_fast]; kernel_rfl
theorem entry_zip_ga : entryFor table "zip.__getattribute__" = some Builtin.«object.__getattribute__» :=
  entryFor_alias (id' := "object.__getattribute__") (by kernel_rfl) (by decide +kernel) (by decide +kernel) (by kernel_rfl)
abbrev zipO (fs : Array Value) : Obj := { cls := .type "zip", dict := none, data := .fields fs, slots := #[] }
theorem zip_miss (a : Addr) (fs : Array Value) (name : Str) (u : Tok) (hmiss : typeLookup (.type "zip") name = pure none) (hname : (["__module__", "__name__", "__qualname__", "__doc__", "__annotations__"] : List Str).contains name = false) (hsz : name.length + 100 ≤ sizeLine := by size_fits) :
    Meets (Builtin.«object.__getattribute__» ⟨[.ref a, .str name u], []⟩) (fun A R s => s.heap.get? a = some (zipO fs) ∧ raisesAttr (.ref a) name A R s) :=
  Meets.of_wp fun prog w A R s hs => by
    obtain ⟨hp, g, d, tk, os⟩ := s
    obtain ⟨hx, hs⟩ := hs
    have hT : (⟨hp, g, d, tk, os⟩ : Shared).TypeIs (.ref a) "zip" := ⟨_, hx, rfl⟩
    unfold Builtin.«object.__getattribute__»
    repeat (any_goals (first | assumption | wp_step))
    simp only [hname, Bool.false_eq_true, if_false]
    repeat (any_goals (first | assumption | wp_step))
    exact wpAny_raiseAttrError hs.1 hs.2 (attrMsg_fits (by decide +kernel) hsz)
theorem zip_keys {prog : Program} {w : World} {A : Around} {E : Value → Shared → Prop} {s : Shared} {a : Addr} {fs : Array Value} {Q : Option Value → Shared → Prop} (hx : s.heap.get? a = some (zipO fs)) (hA : A.handled = none)
    (h : ∀ h' tk, (∀ b o, s.heap.get? b = some o → h'.get? b = some o) → Q none { s with heap := h', toks := tk }) : wpAny (model prog w) A (getAttr? (.ref a) "keys") Q E s := by
  obtain ⟨hp, g, d, tk, os⟩ := s
  have hT : ∀ tk', (⟨hp, g, d, tk', os⟩ : Shared).TypeIs (.ref a) "zip" := fun _ => ⟨_, hx, rfl⟩
  have f1 := sub_AttributeError
  have f3 := F.slot_zip_getattribute.lookup
  have f4 := F.slot_zip_getattribute.bind (.ref a)
  have f5 := zip_no_getattr
  unfold getAttr? getAttrBy? getAttrBy
  repeat (any_goals (first | assumption | exact hT _ | ((with_reducible show wpAny _ _ (call (Value.builtin "zip.__getattribute__") _ _) _ _ _); refine call_meets F.slot_zip_getattribute (hT _) entry_zip_ga (F.args_zip_getattribute_2 _ _) (zip_miss a fs _ _ zip_no_keys (by decide)) ⟨hx, hA, fun h' tk' e hx' => ?_⟩) | wp_step))
  obtain ⟨t', u', he⟩ := hx'.there
  show wpAny _ _ (getattributeRaised _ _ _ _ _ _ _) _ _ _
  unfold getattributeRaised
  repeat (any_goals (first | assumption | wp_step))
  exact h _ _ hx'.keeps
theorem entry_loop : entryFor table "dict.update.loop" = some Builtin.«dict.update.loop» := entryFor_of_tree (by kernel_rfl)
section
variable {prog : Program} {w : World} {A : Around} {E : Value → Shared → Prop} {s : Shared} {R : Result → Shared → Prop}
theorem loop_end {d z TI TO i1 i2 l1 l2 : Addr} {k : Nat} {xs ys : Array Value} {f0 f1 : Value} {i : Int} {u : Tok} (hh : A.handled = none) (Z : ZipT s.heap z TI TO i1 i2 l1 l2 k f0 f1 xs ys)
    (hf : f0 = .none ∨ ∃ T oT, f0 = rawInt (T : Nat) ∧ s.heap.get? T = some oT ∧ f1 = .bool true) (hx : xs[k]? = none)
    (h : ∀ h', (∀ c o, c ≠ z → c ≠ TO → c ≠ i1 → c ≠ i2 → s.heap.get? c = some o → h'.get? c = some o) → R (.ok (.ret .none)) { s with heap := h' }) :
    codeAny (model prog w) A (.builtin "dict.update.loop" ⟨[.ref d, .ref z, .int i u, .none], []⟩) R s := by
  refine codeAny_builtin entry_loop ?_
  unfold Builtin.«dict.update.loop»
  refine wpAny_bind (next_zip_end (by first | exact hh | (simp; exact hh)) Z hf hx fun h' k => ?_)
  show wpAny _ _ (Builtin.Dict.addKeywords d [] >>= _) _ _ _
  exact wpAny_bind (wpAny_pure (wpAny_pure (h h' k)))
theorem loop_turn {d z TI TO i1 i2 l1 l2 : Addr} {k : Nat} {xs ys : Array Value} {f0 f1 : Value} {i : Int} {u t : Tok} {x : Str} {v : Value} {kvs : List (Str × Value)} (hh : A.handled = none) (Z : ZipT s.heap z TI TO i1 i2 l1 l2 k f0 f1 xs ys)
    (hf : f0 = .none ∨ ∃ T oT, f0 = rawInt (T : Nat) ∧ s.heap.get? T = some oT ∧ f1 = .bool false) (hx : xs[k]? = some (.str x t)) (hy : ys[k]? = some v)
    (hd' : s.heap.DictOf (PySem.strKind prog w) d kvs) (hz : kvs.length < 1000) (dn : ∀ c ∈ [z, TI, TO, i1, i2, l1, l2], c ≠ d)
    (h : ∀ h' tk f0' f1', ZipT h' z TI TO i1 i2 l1 l2 (k + 1) f0' f1' xs ys → (f0 = .none → f0' = rawInt s.heap.objs.size ∧ f1' = .bool false) → (f0 ≠ .none → f0' = f0 ∧ f1' = .bool true) → h'.get? s.heap.objs.size = some (pairO (.str x t) v) → h'.DictOf (PySem.strKind prog w) d (stored kvs x v) →
      (∀ c o, c ≠ z → c ≠ TO → c ≠ i1 → c ≠ i2 → c ≠ d → s.heap.get? c = some o → h'.get? c = some o) →
      codeAny (model prog w) A (.builtin "dict.update.loop" ⟨[.ref d, .ref z, .int (i + 1) 0, .none], []⟩) R { s with heap := h', toks := tk }) :
    codeAny (model prog w) A (.builtin "dict.update.loop" ⟨[.ref d, .ref z, .int i u, .none], []⟩) R s := by
  refine codeAny_builtin entry_loop ?_
  unfold Builtin.«dict.update.loop»
  refine wpAny_bind (next_zip Z hx hy hf fun h1 f0' f1' Z1 e1 e2 eT k1 => ?_)
  refine wpAny_bind (wpAny_holding ?_)
  refine wpAny_bind (wpAny_tryCatch ?_)
  unfold Builtin.Dict.pairItems
  have hT : (Shared.mk h1 s.gens s.drawn s.toks s.os).TypeIs (.ref s.heap.objs.size) "tuple" := ⟨_, eT, rfl⟩
  refine wpAny_bind (wpAny_typeOf hT ?_)
  rw [if_pos (by decide)]
  refine wpAny_bind (wpAny_seqItems eT rfl (wpAny_pure ?_))
  have nd : ∀ c ∈ [z, TI, TO, i1, i2, l1, l2], d ≠ c := fun c hc q => dn c hc q.symm
  have hd1 : h1.DictOf (PySem.strKind prog w) d kvs := let ⟨o, es, ep, e, r⟩ := hd'; ⟨o, es, ep, k1 _ _ (nd z (by simp)) (nd TO (by simp)) (nd i1 (by simp)) (nd i2 (by simp)) e, r⟩
  have dT : d ≠ s.heap.objs.size := fun q => by
    obtain ⟨o, es, ep, e, _⟩ := hd'
    exact absurd (Heap.lt_size e) (by rw [q]; exact Nat.lt_irrefl _)
  show wpAny _ _ (holding [Value.str x t, v] (dictSet d (.str x t) v)) _ _ _
  refine wpAny_holding ?_
  unfold dictSet
  refine wpAny_holding ?_
  refine wpAny_bind (wpAny_pyHash_str ?_)
  refine wpAny_dictSetHashed_pairs (knd := strKind prog w) (k := x) (by simp [PySem.strKind, Value.isStrOf]) hd1 (fun h2 hd2 s2 => ?_) (by rw [sizeLine_eq]; omega)
  refine wpAny_pure ⟨Code.quiet_builtin _ (by decide +kernel), ?_⟩
  have k2 : ∀ c o, c ≠ d → h1.get? c = some o → h2.get? c = some o := fun c o q e => (s2.2 c q).trans e
  exact h h2 _ f0' f1' ⟨k2 _ _ (dn z (by simp)) Z1.hz, k2 _ _ (dn TI (by simp)) Z1.hI, (let ⟨a, b, e⟩ := Z1.hO; ⟨a, b, k2 _ _ (dn TO (by simp)) e⟩), (let ⟨o, e, r⟩ := Z1.h1; ⟨o, k2 _ _ (dn i1 (by simp)) e, r⟩), (let ⟨o, e, r⟩ := Z1.h2; ⟨o, k2 _ _ (dn i2 (by simp)) e, r⟩),
    (let ⟨o, e, r⟩ := Z1.t1; ⟨o, k2 _ _ (dn l1 (by simp)) e, r⟩), (let ⟨o, e, r⟩ := Z1.t2; ⟨o, k2 _ _ (dn l2 (by simp)) e, r⟩), Z1.D⟩ e1 e2 (k2 _ _ (Ne.symm dT) eT) hd2 fun c o c1 c2 c3 c4 c5 e => k2 c o c5 (k1 c o c1 c2 c3 c4 e)
/-- dict(zip(a, b)) of two empty tuples, or of two of length two with texts for keys -/
theorem call_dict_zip {z TI TO i1 i2 l1 l2 : Addr} {xs ys : Array Value} {Q : Value → Shared → Prop} (hh : A.handled = none) (Z : ZipT s.heap z TI TO i1 i2 l1 l2 0 .none (.bool false) xs ys)
    (kvs : List (Str × Value)) (hk : (xs = #[] ∧ kvs = []) ∨ ∃ x1 u1 x2 u2 v1 v2, xs = #[.str x1 u1, .str x2 u2] ∧ ys = #[v1, v2] ∧ x1 ≠ x2 ∧ kvs = [(x1, v1), (x2, v2)])
    (h : ∀ h' tk, h'.DictOf (PySem.strKind prog w) s.heap.objs.size kvs → (∀ c o, c ≠ z → c ≠ TO → c ≠ i1 → c ≠ i2 → s.heap.get? c = some o → h'.get? c = some o) → Q (.ref s.heap.objs.size) { s with heap := h', toks := tk }) :
    wpAny (model prog w) A (call (.type "dict") [.ref z]) Q E s := by
  refine callType_codes (Q₁ := fun obj s₁ => obj = .ref s.heap.objs.size ∧ s₁ = { s with heap := s.heap.push { cls := .type "dict", data := .dict #[] } }) F.kt_called_dict (F.kt_typeCall_dict_1 _) F.entry_dict_init (kt_code_dict_new _ ⟨rfl, rfl⟩) ?_
  rintro obj s₁ ⟨rfl, rfl⟩
  have hnew : (s.heap.push { cls := .type "dict", data := .dict #[] }).DictOf (PySem.strKind prog w) s.heap.objs.size [] := Heap.DictOf.new s.heap
  have up : ∀ c o, s.heap.get? c = some o → (s.heap.push { cls := .type "dict", data := .dict #[] }).get? c = some o := fun c o e => Heap.get?_push_of_some _ e
  have lt : ∀ c o, s.heap.get? c = some o → c ≠ s.heap.objs.size := fun c o e => Nat.ne_of_lt (Heap.lt_size e)
  have Zu : ∀ h', (∀ c o, s.heap.get? c = some o → h'.get? c = some o) → ZipT h' z TI TO i1 i2 l1 l2 0 .none (.bool false) xs ys := fun h' up => ⟨up _ _ Z.hz, up _ _ Z.hI, (let ⟨a, b, e⟩ := Z.hO; ⟨a, b, up _ _ e⟩), (let ⟨o, e, r⟩ := Z.h1; ⟨o, up _ _ e, r⟩), (let ⟨o, e, r⟩ := Z.h2; ⟨o, up _ _ e, r⟩), Z.t1.keeps up, Z.t2.keeps up, Z.D⟩
  have dn : ∀ c ∈ [z, TI, TO, i1, i2, l1, l2], c ≠ s.heap.objs.size := fun c hc => by
    simp only [List.mem_cons, List.not_mem_nil, or_false] at hc
    rcases hc with rfl | rfl | rfl | rfl | rfl | rfl | rfl
    · exact lt _ _ Z.hz
    · exact lt _ _ Z.hI
    · obtain ⟨_, _, e⟩ := Z.hO; exact lt _ _ e
    · obtain ⟨_, e, _⟩ := Z.h1; exact lt _ _ e
    · obtain ⟨_, e, _⟩ := Z.h2; exact lt _ _ e
    · exact Nat.ne_of_lt Z.t1.lt
    · exact Nat.ne_of_lt Z.t2.lt
  refine ⟨hnew.typeIs, F.args_dict_init_2 _ _, ?_⟩
  unfold Builtin.«dict.__init__»
  refine wpAny_bind ?_
  unfold Builtin.Dict.selfAndRest
  refine wpAny_bind (wpAny_notOrdered_dict hnew.typeIs ?_)
  show wpAny _ _ (pure (s.heap.objs.size, [Value.ref z])) _ _ _
  refine wpAny_pure ?_
  show wpAny _ _ (Builtin.Dict.updateFrom "dict.__init__" s.heap.objs.size (.ref z) [] .none) _ _ _
  unfold Builtin.Dict.updateFrom
  have hzT : (Shared.mk (s.heap.push { cls := .type "dict", data := .dict #[] }) s.gens s.drawn s.toks s.os).TypeIs (.ref z) "zip" := ⟨_, up _ _ Z.hz, rfl⟩
  refine wpAny_bind (wpAny_typeOf hzT ?_)
  rw [if_pos (by decide)]
  refine wpAny_bind (zip_keys (up _ _ Z.hz) (by first | exact hh | (simp; exact hh)) fun h1 tk1 k1 => ?_)
  simp only [Option.isNone_none, if_true]
  refine wpAny_bind (wpAny_rule ?_)
  have up1 : ∀ c o, s.heap.get? c = some o → h1.get? c = some o := fun c o e => k1 c o (up c o e)
  have Z1 := Zu h1 up1
  refine wpAny_bind (iter_zip (s := ⟨h1, s.gens, s.drawn, tk1, s.os⟩) Z1 ?_)
  refine wpAny_pure ⟨Code.quiet_builtin _ (by decide +kernel), ?_⟩
  have hd1 : h1.DictOf (PySem.strKind prog w) s.heap.objs.size [] := let ⟨o, es, ep, e, r⟩ := hnew; ⟨o, es, ep, k1 _ _ e, r⟩
  have nd : ∀ c ∈ [z, TI, TO, i1, i2, l1, l2], s.heap.objs.size ≠ c := fun c hc q => dn c hc q.symm
  rcases hk with ⟨rfl, rfl⟩ | ⟨x1, u1, x2, u2, v1, v2, rfl, rfl, hne, rfl⟩
  · refine loop_end (s := ⟨h1, s.gens, s.drawn, tk1, s.os⟩) (by first | exact hh | (simp; exact hh)) Z1 (.inl rfl) rfl fun h2 k2 => ?_
    refine ⟨rfl, h h2 tk1 ?_ fun c o c1 c2 c3 c4 e => k2 c o c1 c2 c3 c4 (up1 c o e)⟩
    obtain ⟨o, es, ep, e, r⟩ := hd1
    exact ⟨o, es, ep, k2 _ _ (nd z (by simp)) (nd TO (by simp)) (nd i1 (by simp)) (nd i2 (by simp)) e, r⟩
  · refine loop_turn (v := v1) (s := ⟨h1, s.gens, s.drawn, tk1, s.os⟩) (by first | exact hh | (simp; exact hh)) Z1 (.inl rfl) rfl rfl hd1 (by simp) dn fun h2 tk2 f2 f2' Z2 a1 _ e2 hd2 k2 => ?_
    obtain ⟨rfl, rfl⟩ := a1 rfl
    refine loop_turn (v := v2) (s := ⟨h2, s.gens, s.drawn, tk2, s.os⟩) (by first | exact hh | (simp; exact hh)) Z2 (.inr ⟨_, _, rfl, e2, rfl⟩) rfl rfl hd2 (by simp [stored]) dn fun h3 tk3 f3 f3' Z3 _ a3 e3 hd3 k3 => ?_
    obtain ⟨rfl, rfl⟩ := a3 (by simp [rawInt])
    have n1 : ∀ c ∈ [z, TI, TO, i1, i2, l1, l2], h1.objs.size ≠ c := fun c hc q => by
      have : ∃ o, h1.get? c = some o := by
        simp only [List.mem_cons, List.not_mem_nil, or_false] at hc
        rcases hc with rfl | rfl | rfl | rfl | rfl | rfl | rfl
        · exact ⟨_, Z1.hz⟩
        · exact ⟨_, Z1.hI⟩
        · obtain ⟨_, _, e⟩ := Z1.hO; exact ⟨_, e⟩
        · obtain ⟨_, e, _⟩ := Z1.h1; exact ⟨_, e⟩
        · obtain ⟨_, e, _⟩ := Z1.h2; exact ⟨_, e⟩
        · obtain ⟨_, e, _⟩ := Z1.t1; exact ⟨_, e⟩
        · obtain ⟨_, e, _⟩ := Z1.t2; exact ⟨_, e⟩
      obtain ⟨o, e⟩ := this
      exact absurd (Heap.lt_size e) (by rw [← q]; exact Nat.lt_irrefl _)
    have n2 : h1.objs.size ≠ s.heap.objs.size := fun q => by
      obtain ⟨o, es, ep, e, _⟩ := hd1
      exact absurd (Heap.lt_size e) (by rw [← q]; exact Nat.lt_irrefl _)
    have e2' := k3 _ _ (n1 z (by simp)) (n1 TO (by simp)) (n1 i1 (by simp)) (n1 i2 (by simp)) n2 e2
    refine loop_end (s := ⟨h3, s.gens, s.drawn, tk3, s.os⟩) (by first | exact hh | (simp; exact hh)) Z3 (.inr ⟨_, _, rfl, e2', rfl⟩) rfl fun h4 k4 => ?_
    refine ⟨rfl, h h4 tk3 ?_ fun c o c1 c2 c3 c4 e => k4 c o c1 c2 c3 c4 (k3 c o c1 c2 c3 c4 (lt c o e) (k2 c o c1 c2 c3 c4 (lt c o e) (up1 c o e)))⟩
    have e5 : stored (stored [] x1 v1) x2 v2 = [(x1, v1), (x2, v2)] := by simp [stored, hne]
    rw [e5] at hd3
    obtain ⟨o, es, ep, e, r⟩ := hd3
    exact ⟨o, es, ep, k4 _ _ (nd z (by simp)) (nd TO (by simp)) (nd i1 (by simp)) (nd i2 (by simp)) e, r⟩
end

section
variable {prog : Program} {w : World} {A : Around} {s : Shared} {K : Frag} {R : Result → Shared → Prop}
  {name qual : Str} {params : Arguments} {body : List Stmt} {scope : Scope} {dV kV doc pm cdv ct oc : Value} {an od : Option Addr} {osl : Array (Option Value)} {f : Addr} {args : Args} {binds : List (Str × Value)}
/-- a def with captured names is entered; what stood is the base, but what lies at as -/
theorem enterPC (as : List Addr) (X : K.In s.heap) (hlim : s.heap.NoLimit) (hroom : A.depth < recursionLimit)
    (ho : K.lookup f = some ⟨oc, od, .func (fnOf name qual params body scope dV kV doc pm an cdv ct), osl⟩) (hcd : codeIn K cdv qual = true)
    (hbind : BindsTo s (fnOf name qual params body scope dV kV doc pm an cdv ct) args binds) (hkind : (binds.all fun y => scope.names.lookup y.1 == some .local || scope.names.lookup y.1 == some .cell) = true) (hnd : ((cellsFrom 0 scope.names []).map (·.1)).Nodup)
    (h : ∀ L h₁ tk cells, L = s.heap.objs.size → Fr (hideAll s.heap as) L h₁ (bindL (envOfC qual scope L f cdv).kindOf binds fun _ => none) → (∀ b o, s.heap.get? b = some o → h₁.get? b = some o) → News (hideAll s.heap as) L h₁ cells →
      CellsAre (bindC (envOfC qual scope L f cdv).kindOf binds fun _ => none) (cellsFrom (L + 1) scope.names []) cells →
      wpAny (model prog w) (A.deeper (envOfC qual scope L f cdv)) (execs body (envOfC qual scope L f cdv))
        (fun fl s' => R (.ok (.ret (match fl with | .ret v => v | _ => .none))) s')
        (fun e s' => wpAny (model prog w) (A.deeper (envOfC qual scope L f cdv)) (leaving (envOfC qual scope L f cdv) e) (fun _ s'' => R (.error e) s'') (fun e' s'' => R (.error e') s'') s')
        { s with heap := h₁, toks := tk })
    (hco : scope.isCoroutine = false) (hgen : scope.isGenerator = false) (hk : scope.kind = .function) : codeAny (model prog w) A (.call (.ref f) args) R s := by
  refine codeAny_call_function (fd := fnOf name qual params body scope dV kV doc pm an cdv ct) (body := body) hroom (X _ _ ho) rfl hco hgen rfl (codeRec_of X hcd) (hbind _ _ _ _ ?_)
  refine wpAny_newFunctionEnv_cells hk (kindsX hkind _) fun env' he s' x => ?_
  subst he
  refine ⟨hlim.keeps x.toInCall.keep, codeAny_func ?_⟩
  obtain ⟨h₁, tk, rfl, _⟩ := x.done
  have hk₁ := x.toInCall.keep
  obtain ⟨cells, NC, Y⟩ := Cl.news (h₀ := s.heap) (Nat.le_refl _) fun n c hm => ⟨x.cell n c (lookup_of_mem_nodup (cellsFrom_names scope.names 0 (s.heap.objs.size + 1) [] [] rfl ▸ hnd) hm), x.above n c hm⟩
  refine h _ h₁ tk cells rfl ⟨x.toInCall.ns, fun b o e => hk₁ b o (of_hideAll _ e), Nat.le_of_eq (hideAll_size _ _)⟩ hk₁ (fun p hp => ⟨(NC p hp).1, (NC p hp).2.1, ?_⟩) Y
  cases q : (hideAll s.heap as).get? p.1 with
  | none => rfl
  | some o => have := of_hideAll _ q; rw [(NC p hp).2.2] at this; cases this
end
section
variable {h h₁ : Heap} {as : List Addr} {L : Addr} {m : Str → Option Value}
theorem news_add {a : Addr} {o : Obj} {l : List (Addr × Obj)} (ha : a ∈ as) (hL : L = h.objs.size) (e : h.get? a = some o) (k : ∀ b o, h.get? b = some o → h₁.get? b = some o) (N : News (hideAll h as) L h₁ l) : News (hideAll h as) L h₁ (l ++ [(a, o)]) := by
  intro p hp
  rcases List.mem_append.mp hp with hp | hp
  · exact N p hp
  · exact news_one ha hL e k p hp
end
/-- an instance of the base: its attribute -/
inductive BA (h : Heap) (x C : Addr) (name : Str) (v : Value) : Prop
  | mk (dx : _) (es : _) (n : _) (z1 : h.get? x = some (instObj C dx)) (z2 : h.get? dx = some (dictOf es n)) (z3 : getL name es = some (some v))
/-- a dict of the base with text keys -/
def BD (prog : Program) (w : World) (h : Heap) (a : Addr) (kvs : List (Str × Value)) : Prop := ∃ o, h.get? a = some o ∧ o.IsDictOf (PySem.strKind prog w) kvs ∧ (a == sysModules) = false
theorem BA.keeps {h h' : Heap} {x C : Addr} {name : Str} {v : Value} (b : BA h x C name v) (k : ∀ b o, h.get? b = some o → h'.get? b = some o) : BA h' x C name v := let ⟨dx, es, n, e1, e2, e3⟩ := b; ⟨dx, es, n, k _ _ e1, k _ _ e2, e3⟩
theorem BD.keeps {prog : Program} {w : World} {h h' : Heap} {a : Addr} {kvs : List (Str × Value)} (b : BD prog w h a kvs) (k : ∀ b o, h.get? b = some o → h'.get? b = some o) : BD prog w h' a kvs := let ⟨o, e, r⟩ := b; ⟨o, k _ _ e, r⟩
section
variable {prog : Program} {w : World} {A : Around} {E : Value → Shared → Prop} {s : Shared} {h₀ : Heap} {L x C a : Addr} {m : Str → Option Value} {news : List (Addr × Obj)} {K : Frag} {name : Str} {v : Value} {Q : Value → Shared → Prop} {kvs : List (Str × Value)}
theorem attr_BA {expr : Bool} {attr : Option Value} (F : Fr h₀ L s.heap m) (X₀ : K.In h₀) (B : BA h₀ x C name v) (hg : plainGet K C name = true) (hh : hasDictIn K C = true) (ha : findIn K (.ref C) name = some attr) (hn : noGet K attr = true) (hv : handedIn v = true) (h : Q v { s with toks := s.toks + 1 }) :
    wpAny (model prog w) A (getAttr (.ref x) name expr) Q E s := by
  obtain ⟨dx, es, n, e1, e2, e3⟩ := B
  exact get_own F X₀ ⟨F.keep _ _ e1, rfl, rfl, F.keep _ _ e2⟩ hg hh ha hn e3 hv h
theorem BD.dict (F : Fr h₀ L s.heap m) (B : BD prog w h₀ a kvs) : s.heap.DictOf (PySem.strKind prog w) a kvs := Heap.dictOf_iff.mpr (let ⟨o, e, r, _⟩ := B; ⟨o, F.keep _ _ e, r⟩)
end

/-- a dict of the base with text keys, for reading by [] alone -/
inductive BE (prog : Program) (w : World) (h : Heap) (a : Addr) (kvs : List (Str × Value)) : Prop
  | mk (o : _) (z1 : h.get? a = some o) (z2 : o.IsDictOf (PySem.strKind prog w) kvs)
theorem BE.keeps {prog : Program} {w : World} {h h' : Heap} {a : Addr} {kvs : List (Str × Value)} (b : BE prog w h a kvs) (k : ∀ b o, h.get? b = some o → h'.get? b = some o) : BE prog w h' a kvs := let ⟨o, e, r⟩ := b; ⟨o, k _ _ e, r⟩
theorem BE.dict {prog : Program} {w : World} {s : Shared} {h₀ : Heap} {L a : Addr} {m : Str → Option Value} {kvs : List (Str × Value)} (F : Fr h₀ L s.heap m) (B : BE prog w h₀ a kvs) : s.heap.DictOf (PySem.strKind prog w) a kvs := Heap.dictOf_iff.mpr (let ⟨o, e, r⟩ := B; ⟨o, F.keep _ _ e, r⟩)
section
variable {prog : Program} {w : World} {A : Around} {E : Value → Shared → Prop} {s : Shared} {h₀ : Heap} {L a d : Addr} {m : Str → Option Value} {news : List (Addr × Obj)} {x : Str} {t : Tok} {v dflt : Value} {Q : Value → Shared → Prop} {kvs : List (Str × Value)} {o : Obj}
theorem item_BE {value slice : PySem.Expr} (F : Fr h₀ L s.heap m) (B : BE prog w h₀ a kvs) (hv : valueAt kvs x = some v) (h : Q v { s with toks := s.toks + 1 })
    (hs : subscripted slice false (.ref a) (.str x t) = operate [.ref a, .str x t] (getItem (.ref a) (.str x t)) := by with_unfolding_all rfl) : wpAny (model prog w) A (subscriptTail value slice (.ref a) (.str x t)) Q E s :=
  tail_any (B.dict F).typeIs slot_dict_getitem.lookup (wpAny_getItem_of (strKind_is prog w x t) (B.dict F).mapOf hv h) hs
theorem dictN (N : News h₀ L s.heap news) (hm : (d, o) ∈ news) (hd' : o.IsDictOf (PySem.strKind prog w) kvs) : s.heap.DictOf (PySem.strKind prog w) d kvs := Heap.dictOf_iff.mpr ⟨o, N.get hm, hd'⟩
theorem getM_N {pl : Sem Bool} {Q : Value × List Value → Shared → Prop} (N : News h₀ L s.heap news) (hm : (d, o) ∈ news) (hd' : o.IsDictOf (PySem.strKind prog w) kvs) (h : Q (.builtin "dict.get", [.ref d]) s) : wpAny (model prog w) A (getMethod (.ref d) "get" pl) Q E s :=
  getMethod_builtin (dictN N hm hd').typeIs PySem.F.plainAttrs_dict PySem.F.slot_dict_get PySem.F.type_dict_get (dictN N hm hd').mapOf.noDict h
theorem get_N (N : News h₀ L s.heap news) (hm : (d, o) ∈ news) (hd' : o.IsDictOf (PySem.strKind prog w) kvs) (lo : (d == sysModules) = false) (hv : (valueAt kvs x).getD dflt = v) (h : Q v { s with toks := s.toks + 1 }) :
    wpAny (model prog w) A (call (.builtin "dict.get") [.ref d, .str x t, dflt]) Q E s :=
  call_meetsIn PySem.F.slot_dict_get (dictN N hm hd').typeIs PySem.F.entry_dict_get (PySem.F.args_dict_get_3 _ _ _) (meets_dict_get_default (PySem.strKind prog w) d (strKind_is prog w x t) lo dflt) ⟨_, (dictN N hm hd').mapOf, by subst hv; exact h⟩
end
section
variable {prog : Program} {w : World} {A : Around} {E : Value → Shared → Prop} {s : Shared} {h₀ : Heap} {L l1 l2 : Addr} {m : Str → Option Value} {news : List (Addr × Obj)} {Q : Value → Shared → Prop} {xs ys : Array Value}
/-- a zip over two tuples that nothing else knows -/
inductive NewZip (h₀ h : Heap) (L z l1 l2 : Addr) (news : List (Addr × Obj)) (xs ys : Array Value) : Prop
  | mk (TI : _) (TO : _) (i1 : _) (i2 : _) (z1 : ZipT h z TI TO i1 i2 l1 l2 0 .none (.bool false) xs ys) (z2 : ∀ c ∈ [z, TO, i1, i2], h₀.get? c = none ∧ c ≠ L ∧ ∀ q ∈ news, q.1 ≠ c)
theorem zip_K (F : Fr h₀ L s.heap m) (N : News h₀ L s.heap news) (t1 : IsTup h₀ l1 xs) (t2 : IsTup h₀ l2 ys) (ret : ∀ z h', Fr h₀ L h' m → News h₀ L h' news → NewZip h₀ h' L z l1 l2 news xs ys → Q (.ref z) { s with heap := h' }) :
    wpAny (model prog w) A (call (.type "zip") [.ref l1, .ref l2]) Q E s :=
  call_zipT (t1.keeps F.keep) (t2.keeps F.keep) fun h' z TI TO i1 i2 Z hn k => ret z h' (Kp.frame F fun b o e _ => k b o e) (News.kp N fun b o e _ => k b o e) ⟨TI, TO, i1, i2, Z, fun c hc => by
    have e := hn c (by simp only [List.mem_cons, List.not_mem_nil, or_false] at hc ⊢; rcases hc with h | h | h | h <;> simp [h])
    refine ⟨fresh_of_stays F.keep e, fun q => ?_, fun q hq q' => ?_⟩
    · obtain ⟨oL, _, _, eL, _⟩ := F.ns
      rw [← q, e] at eL; cases eL
    · have := (N q hq).1
      rw [q', e] at this; cases this⟩
theorem dict_K {z : Addr} (hh : A.handled = none) (hb : h₀.NoLimit) (F : Fr h₀ L s.heap m) (N : News h₀ L s.heap news) (Z : NewZip h₀ s.heap L z l1 l2 news xs ys)
    (kvs : List (Str × Value)) (hk : (xs = #[] ∧ kvs = []) ∨ ∃ x1 u1 x2 u2 v1 v2, xs = #[.str x1 u1, .str x2 u2] ∧ ys = #[v1, v2] ∧ x1 ≠ x2 ∧ kvs = [(x1, v1), (x2, v2)])
    (ret : ∀ d o h' tk, Fr h₀ L h' m → News h₀ L h' ((d, o) :: news) → o.IsDictOf (PySem.strKind prog w) kvs → (d == sysModules) = false → (∀ q ∈ news, q.1 < d) → Q (.ref d) { s with heap := h', toks := tk }) :
    wpAny (model prog w) A (call (.type "dict") [.ref z]) Q E s := by
  obtain ⟨TI, TO, i1, i2, Z, hn⟩ := Z
  refine call_dict_zip hh Z kvs hk fun h' tk hd' k => ?_
  have kk : ∀ c o, h₀.get? c = some o ∨ c = L ∨ (∃ q ∈ news, q.1 = c) → s.heap.get? c = some o → h'.get? c = some o := fun c o hc e => by
    have ne : ∀ c' ∈ [z, TO, i1, i2], c ≠ c' := fun c' hc' q => by
      obtain ⟨a1, a2, a3⟩ := hn c' hc'
      rcases hc with hc | hc | ⟨q', hq', hc⟩
      · rw [q, a1] at hc; cases hc
      · exact a2 (q.symm.trans hc)
      · exact a3 q' hq' (hc.trans q)
    exact k c o (ne z (by simp)) (ne TO (by simp)) (ne i1 (by simp)) (ne i2 (by simp)) e
  obtain ⟨oL, a1, a2, eL, a3⟩ := F.ns
  obtain ⟨od, ed, hdd⟩ := Heap.dictOf_iff.mp hd'
  have Ll : L < s.heap.objs.size := Heap.lt_size eL
  refine ret _ od h' tk ⟨⟨oL, a1, a2, kk L _ (.inr (.inl rfl)) eL, a3⟩, fun b o e => kk b o (.inl e) (F.keep b o e), F.above⟩ (fun q hq => ?_) hdd (F.notModules (modules_low hb)) fun q hq => Heap.lt_size (N q hq).1
  rcases List.mem_cons.mp hq with rfl | hq
  · exact ⟨ed, Nat.ne_of_gt Ll, Fr.fresh F⟩
  · exact ⟨kk q.1 _ (.inr (.inr ⟨q, hq, rfl⟩)) (N q hq).1, (N q hq).2⟩
end
/-- the law's world stands in h: what fields_of asks of it -/
inductive WorldAt (prog : Program) (w : World) (h : Heap) (wd : Addr) : Prop
  | mk (ad : Addr) (ax : Addr) (rgn : Addr) (prm : Addr) (vs : Addr) (v0 : Addr) (rows : Addr) (r0 : Addr) (r1 : Addr) (p0 : Addr) (p1 : Addr) (u1 : Tok) (u2 : Tok) (u3 : Tok) (u4 : Tok) (u5 : Tok) (u6 : Tok) (u7 : Tok) (u8 : Tok) (u9 : Tok) (ua : Tok) (z1 : BA h wd 251 "adts" (.ref ad)) (z2 : BE prog w h ad [("P", .ref ax)]) (z3 : BA h ax 222 "regions" (.ref rgn)) (z4 : BA h ax 222 "params" (.ref prm)) (z5 : BA h ax 222 "variants" (.ref vs)) (z6 : IsTup h rgn #[]) (z7 : IsTup h prm #[.str "T" u1, .str "U" u2]) (z8 : h.IsList vs #[.ref v0]) (z9 : IsTup h v0 #[.str "P" u3, .str "tuple" u4, .ref rows]) (z10 : h.IsList rows #[.ref r0, .ref r1]) (z11 : IsTup h r0 #[.str "0" u5, .ref p0]) (z12 : IsTup h r1 #[.str "1" u6, .ref p1]) (z13 : IsTup h p0 #[.str "param" u7, .str "U" u8]) (z14 : IsTup h p1 #[.str "param" u9, .str "T" ua])
theorem WorldAt.keeps {prog : Program} {w : World} {h h' : Heap} {wd : Addr} (x : WorldAt prog w h wd) (k : ∀ b o, h.get? b = some o → h'.get? b = some o) : WorldAt prog w h' wd := by
  obtain ⟨ad, ax, rgn, prm, vs, v0, rows, r0, r1, p0, p1, u1, u2, u3, u4, u5, u6, u7, u8, u9, ua, a1, a2, a3, a4, a5, a6, a7, a8, a9, b1, b2, b3, b4, b5⟩ := x
  exact ⟨ad, ax, rgn, prm, vs, v0, rows, r0, r1, p0, p1, u1, u2, u3, u4, u5, u6, u7, u8, u9, ua, a1.keeps k, a2.keeps k, a3.keeps k, a4.keeps k, a5.keeps k, a6.keeps k, a7.keeps k, (let ⟨o, e, r⟩ := a8; ⟨o, k _ _ e, r⟩), a9.keeps k, (let ⟨o, e, r⟩ := b1; ⟨o, k _ _ e, r⟩), b2.keeps k, b3.keeps k, b4.keeps k, b5.keeps k⟩

theorem reg32 : True := by
  (k_with "M mem0" => ((first | exact List.Mem.head _ | assumption)))
  (k_with "getAttr ref" => ((k_here; (k_dflt (refine' attr_BA ?F_q75 ?X_q75 ?B_q75 ?g_q75 ?h_q75 ?a_q75 ?n_q75 ?v_q75 ?_; (case F_q75 => k_asm); (case X_q75 => k_asm); (case B_q75 => assumption); (case g_q75 => k_is); (case h_q75 => k_is); (case a_q75 => k_is); (case n_q75 => k_is); (case v_q75 => exact rfl); k_whole)))))
  (k_with "subscriptTail Name Subscript ref str" => ((k_here; (with_reducible show wpAny _ _ (subscriptTail _ _ (Value.ref _) (Value.str _ _)) _ _ _); (k_dflt (refine' item_BE ?F_q76 ?B_q76 ?v_q76 ?_ ?q_q76; (case F_q76 => k_asm); (case B_q76 => assumption); (case v_q76 => exact rfl); (case q_q76 => with_unfolding_all rfl); k_whole)))))
  (k_with "M enterC" => ((
  (case k6 => k_is); (case k7 => k_is); (case k2 => exact TopRead.nolimit (by assumption)); (case k3 => first | assumption | (simp only [recursionLimit] at *; omega)); (case k9 => exact BindsTo.of_eq rfl); (case kB => exact rfl); (case kD => decide +kernel)
  ; (case c2 => exact rfl); (case c3 => exact rfl); (case c4 => exact rfl))))
  (k_with "M partsK" => ((first | k_asm | assumption)))
  exact True.intro
theorem item_BL {prog : Program} {w : World} {A : Around} {E : Value → Shared → Prop} {s : Shared} {value slice : PySem.Expr} {h₀ : Heap} {L l : Addr} {m : Str → Option Value} {its : Array Value} {k : Int} {u : Tok} {v : Value} {Q : Value → Shared → Prop}
    (F : Fr h₀ L s.heap m) (hl : h₀.IsList l its) (h0 : 0 ≤ k) (hhi : k < 2 ^ 63) (hx : its[k.toNat]? = some v) (h : Q v s)
    (hs : subscripted slice false (.ref l) (.int k u) = operate [.ref l, .int k u] (getItem (.ref l) (.int k u)) := by with_unfolding_all rfl) : wpAny (model prog w) A (subscriptTail value slice (.ref l) (.int k u)) Q E s :=
  tail_any (isList_fr hl F).typeIs slot_list_getitem.lookup (wpAny_getItem_list (isList_fr hl F) h0 hhi hx h) hs
theorem reg33 : True := by
  (k_with "subscriptTail Attribute Name ref int" => ((k_here; (with_reducible show wpAny _ _ (subscriptTail _ _ (Value.ref _) (Value.int _ _)) _ _ _); (k_dflt (refine' item_BL ?F_q79 ?B_q79 ?a_q79 ?b_q79 ?v_q79 ?_ ?q_q79; (case F_q79 => k_asm); (case B_q79 => assumption); (case a_q79 => decide); (case b_q79 => decide); (case v_q79 => exact rfl); (case q_q79 => with_unfolding_all rfl); k_whole)))))
  exact True.intro
section
variable {prog : Program} {w : World} {p : Program} {loose : List Str} {mg mb : Str → Option Value} {dp un : Nat} {fr : Option (List Env)} {gd : Option (List Code)} {s : Shared} {h₀ h h' : Heap} {L : Addr} {m : Str → Option Value} {news : List (Addr × Obj)} {Q E : Value → Shared → Prop}
theorem frows_ {wd ta : Addr} {rows : Addr} {u0 : Tok} {its : Array Value} (X : (hd.heap_1 w.params).In s.heap) (T : TopRead p loose mg mb s.heap) (hdp : dp + 5 < recursionLimit) (hu : un + 60 < cLine)
    (hT : ∃ t1 t2 v3 v4, IsTup s.heap ta #[.str "adt" t1, .str "P" t2, v3, v4])
    (hW : ∃ ad ax vs v0 : Addr, ∃ u3 u4, BA s.heap wd 251 "adts" (.ref ad) ∧ BE prog w s.heap ad [("P", .ref ax)] ∧ BA s.heap ax 222 "variants" (.ref vs) ∧ s.heap.IsList vs #[.ref v0] ∧ IsTup s.heap v0 #[.str "P" u3, .str "tuple" u4, .ref rows])
    (hret : ∀ h' tk', Kp [] s.heap h' → Q (.ref rows) { s with heap := h', toks := tk' }) :
    wpAny (model prog w) (AA dp un fr gd) (call (.ref 121) [.ref ta, .int 0 u0, .ref wd]) Q E s := by
  obtain ⟨t1, t2, v3, v4, hT⟩ := hT
  obtain ⟨ad, ax, vs, v0, u3, u4, w1, w2, w3, w4, w5⟩ := hW
  have hT₀ : IsTup (hideAll s.heap []) ta #[.str "adt" t1, .str "P" t2, v3, v4] := hT
  have w1 : BA (hideAll s.heap []) wd 251 "adts" (.ref ad) := w1
  have w2 : BE prog w (hideAll s.heap []) ad [("P", .ref ax)] := w2
  have w3 : BA (hideAll s.heap []) ax 222 "variants" (.ref vs) := w3
  have w4 : (hideAll s.heap []).IsList vs #[.ref v0] := w4
  have w5 : IsTup (hideAll s.heap []) v0 #[.str "P" u3, .str "tuple" u4, .ref rows] := w5
  refine wpAny_call ?_
  k_dflt (refine' enterP (binds := [("told", .ref ta), ("variant", .int 0 u0), ("world", .ref wd)]) [] X ?k2 ?k3 ?k6 ?k7 ?k9 ?kB ?_ ?c2 ?c3 ?c4 ?c5)
  walk_at "M enter"
  intro L h₁ hL F hk
  clear hk
  have X₀ : (hd.heap_1 w.params).In (hideAll s.heap []) := X
  have T₀ : TopRead p loose mg mb (hideAll s.heap []) := T
  have N : News (hideAll s.heap []) L h₁ [] := News.nil
  clear X T
  clear hT
  all_goals (try dsimp only)
  all_goals (try k_fold)
  all_goals walk_at "M steps"
  all_goals exact hret _ _ (Kp.of_fr (by assumption))
end

theorem call_frows {prog : Program} {w : World} {p : Program} {loose : List Str} {mg mb : Str → Option Value} {dp un : Nat} {fr : Option (List Env)} {gd : Option (List Code)} {s : Shared} {h₀ : Heap} {L : Addr} {m : Str → Option Value} {news : List (Addr × Obj)} {Q E : Value → Shared → Prop}
    {wd ta : Addr} {rows : Addr} {u0 : Tok} (F : Fr h₀ L s.heap m) (X : (hd.heap_1 w.params).In h₀) (T : TopRead p loose mg mb h₀) (N : News h₀ L s.heap news) (hdp : dp + 5 < recursionLimit) (hu : un + 60 < cLine)
    (hT : ∃ t1 t2 v3 v4, IsTup h₀ ta #[.str "adt" t1, .str "P" t2, v3, v4])
    (hW : ∃ ad ax vs v0 : Addr, ∃ u3 u4, BA h₀ wd 251 "adts" (.ref ad) ∧ BE prog w h₀ ad [("P", .ref ax)] ∧ BA h₀ ax 222 "variants" (.ref vs) ∧ h₀.IsList vs #[.ref v0] ∧ IsTup h₀ v0 #[.str "P" u3, .str "tuple" u4, .ref rows])
    (ret : ∀ h' tk', Fr h₀ L h' m → News h₀ L h' news → Q (.ref rows) { s with heap := h', toks := tk' }) :
    wpAny (model prog w) (AA dp un fr gd) (call (.ref 121) [.ref ta, .int 0 u0, .ref wd]) Q E s :=
  frows_ (its := #[]) (X.keeps F.keep) (T.keeps F.keep) hdp hu (let ⟨t1, t2, v3, v4, h⟩ := hT; ⟨t1, t2, v3, v4, h.keeps F.keep⟩) (let ⟨ad, ax, vs, v0, u3, u4, a, b, c, d, e⟩ := hW; ⟨ad, ax, vs, v0, u3, u4, a.keeps F.keep, b.keeps F.keep, c.keeps F.keep, isList_fr d F, e.keeps F.keep⟩)
    fun h' tk' k => ret h' tk' (Kp.frame F k) (News.kp N k)
section
variable {prog : Program} {w : World} {p : Program} {loose : List Str} {mg mb : Str → Option Value} {dp un : Nat} {fr : Option (List Env)} {gd : Option (List Code)} {s : Shared} {h₀ h h' : Heap} {L : Addr} {m : Str → Option Value} {news : List (Addr × Obj)} {Q E : Value → Shared → Prop}
theorem pof_ {ta : Addr} {t1 t2 : Tok} {x : Str} (X : (hd.heap_1 w.params).In s.heap) (T : TopRead p loose mg mb s.heap) (hdp : dp + 5 < recursionLimit) (hu : un + 60 < cLine) (hT : IsTup s.heap ta #[.str "param" t1, .str x t2])
    (hret : ∀ a h' tk', Kp [] s.heap h' → h'.get? a = some (tupO #[]) → s.heap.get? a = none → Q (.ref a) { s with heap := h', toks := tk' }) :
    wpAny (model prog w) (AA dp un fr gd) (call (.ref 97) [.ref ta]) Q E s := by
  have hT₀ : IsTup (hideAll s.heap []) ta #[.str "param" t1, .str x t2] := hT
  refine wpAny_call ?_
  k_dflt (refine' enterP (binds := [("told", .ref ta)]) [] X ?k2 ?k3 ?k6 ?k7 ?k9 ?kB ?_ ?c2 ?c3 ?c4 ?c5)
  walk_at "M enter"
  intro L h₁ hL F hk
  clear hk
  have X₀ : (hd.heap_1 w.params).In (hideAll s.heap []) := X
  have T₀ : TopRead p loose mg mb (hideAll s.heap []) := T
  have N : News (hideAll s.heap []) L h₁ [] := News.nil
  clear X T
  clear hT
  all_goals (try dsimp only)
  all_goals (try k_fold)
  all_goals walk_at "M steps"
  all_goals exact hret _ _ _ (Kp.of_fr (by assumption)) (News.get (by assumption) (.head _)) (News.fresh (h₀ := hideAll s.heap []) (by assumption) (.head _))
theorem reb_ {ta : Addr} {t1 t2 : Tok} {x : Str} {pv : Value} (X : (hd.heap_1 w.params).In s.heap) (T : TopRead p loose mg mb s.heap) (hdp : dp + 5 < recursionLimit) (hu : un + 60 < cLine) (hT : IsTup s.heap ta #[.str "param" t1, .str x t2])
    (hret : ∀ h' tk', Kp [] s.heap h' → Q (.ref ta) { s with heap := h', toks := tk' }) :
    wpAny (model prog w) (AA dp un fr gd) (call (.ref 104) [.ref ta, pv]) Q E s := by
  have hT₀ : IsTup (hideAll s.heap []) ta #[.str "param" t1, .str x t2] := hT
  refine wpAny_call ?_
  k_dflt (refine' enterP (binds := [("told", .ref ta), ("parts", pv)]) [] X ?k2 ?k3 ?k6 ?k7 ?k9 ?kB ?_ ?c2 ?c3 ?c4 ?c5)
  walk_at "M enter"
  intro L h₁ hL F hk
  clear hk
  have X₀ : (hd.heap_1 w.params).In (hideAll s.heap []) := X
  have T₀ : TopRead p loose mg mb (hideAll s.heap []) := T
  have N : News (hideAll s.heap []) L h₁ [] := News.nil
  clear X T
  clear hT
  all_goals (try dsimp only)
  all_goals (try k_fold)
  all_goals walk_at "M steps"
  all_goals exact hret _ _ (Kp.of_fr (by assumption))
theorem call_pof {ta : Addr} {t1 t2 : Tok} {x : Str} (F : Fr h₀ L s.heap m) (X : (hd.heap_1 w.params).In h₀) (T : TopRead p loose mg mb h₀) (N : News h₀ L s.heap news) (hdp : dp + 5 < recursionLimit) (hu : un + 60 < cLine) (hT : IsTup h₀ ta #[.str "param" t1, .str x t2])
    (ret : ∀ a h' tk', Fr h₀ L h' m → News h₀ L h' ((a, tupO #[]) :: news) → (∀ q ∈ news, @Ne Nat q.1 a) → Q (.ref a) { s with heap := h', toks := tk' }) :
    wpAny (model prog w) (AA dp un fr gd) (call (.ref 97) [.ref ta]) Q E s :=
  pof_ (X.keeps F.keep) (T.keeps F.keep) hdp hu (hT.keeps F.keep) fun a h' tk' k e n => ret a h' tk' (Kp.frame F k) (News.cons F N k e n) (ne_new N n)
theorem call_reb {ta : Addr} {t1 t2 : Tok} {x : Str} {pv : Value} (F : Fr h₀ L s.heap m) (X : (hd.heap_1 w.params).In h₀) (T : TopRead p loose mg mb h₀) (N : News h₀ L s.heap news) (hdp : dp + 5 < recursionLimit) (hu : un + 60 < cLine) (hT : IsTup h₀ ta #[.str "param" t1, .str x t2])
    (ret : ∀ h' tk', Fr h₀ L h' m → News h₀ L h' news → Q (.ref ta) { s with heap := h', toks := tk' }) :
    wpAny (model prog w) (AA dp un fr gd) (call (.ref 104) [.ref ta, pv]) Q E s :=
  reb_ (X.keeps F.keep) (T.keeps F.keep) hdp hu (hT.keeps F.keep) fun h' tk' k => ret h' tk' (Kp.frame F k) (News.kp N k)
theorem reg34 : True := by
  (k_with "call ref" => ((k_here; (with_reducible show wpAny _ _ (call (Value.ref 97) _) _ _ _); (k_dflt (refine' call_pof ?F_q80 ?X_q80 ?T_q80 ?N_q80 ?hdp_q80 ?hu_q80 ?hT_q80 ?_; (case F_q80 => k_asm); (case X_q80 => k_asm); (case T_q80 => k_asm); (case N_q80 => k_asm); (case hdp_q80 => walk_at "M lt"); (case hu_q80 => walk_at "M lt"); (case hT_q80 => assumption); k_whole)); intro a9 h9 t9 F9 N9 ne9)))
  (k_with "call ref" => ((k_here; (with_reducible show wpAny _ _ (call (Value.ref 104) _) _ _ _); (k_dflt (refine' call_reb ?F_q81 ?X_q81 ?T_q81 ?N_q81 ?hdp_q81 ?hu_q81 ?hT_q81 ?_; (case F_q81 => k_asm); (case X_q81 => k_asm); (case T_q81 => k_asm); (case N_q81 => k_asm); (case hdp_q81 => walk_at "M lt"); (case hu_q81 => walk_at "M lt"); (case hT_q81 => assumption); k_whole)); intro h9 t9 F9 N9)))
  exact True.intro
end

/-- what a comprehension over an empty tuple asks of its source -/
inductive ESrc (h₀ : Heap) (L : Addr) (m : Str → Option Value) (Q : Value → Shared → Prop) (xv : Value) (s : Shared) : Prop
  | mk (ax : _) (news : _) (z1 : xv = .ref ax) (z2 : (∃ o, (ax, o) ∈ news ∧ o.cls = .type "tuple" ∧ ∃ n, o.data = .seq #[] n)) (z3 : Fr h₀ L s.heap m) (z4 : News h₀ L s.heap news) (z5 : ∀ D h' tk, Fr h₀ L h' m → News h₀ L h' ((D, LCg.lst []) :: news) → LCg.Off1 D news → Q (.ref D) { s with heap := h', toks := tk })
section
variable {prog : Program} {w : World} {A : Around} {E : Value → Shared → Prop} {s : Shared} {h₀ : Heap} {L : Addr} {m : Str → Option Value} {env : Env}
theorem tup_st {ax I : Addr} {its : Array Value} : ∀ i (h h' : Heap) (o : Obj) (nw : List (Addr × Obj)), (h.IsTupleIter I ax i ∧ h.IsTuple ax its) → h.get? I = some o → h'.get? I = some o → (∀ b o, h₀.get? b = some o → h'.get? b = some o) → News h₀ L h' nw → (∃ o, (ax, o) ∈ nw ∧ o.cls = .type "tuple" ∧ ∃ n, o.data = .seq its n) → (h'.IsTupleIter I ax i ∧ h'.IsTuple ax its) :=
  fun i h h' o nw st e e' k N S => ⟨by obtain ⟨o', q, r⟩ := st.1; rw [e] at q; cases q; exact ⟨o, e', r⟩, by obtain ⟨o, hm, r⟩ := S; exact ⟨o, (N _ hm).1, r⟩⟩
theorem comp_empty {elt iter : PySem.Expr} {x : Str} {px : Pos} {scope : Scope} {cl : List (Str × Addr)} {pos : Pos} {Q : Value → Shared → Prop} (F₀ : Fr h₀ L s.heap m)
    (hclos : closureFor scope env = pure cl) (hcell : ∀ y ∈ scope.names, y.2 ≠ .cell) (hkind : scope.kind = .function)
    (hnames : ∀ y ∈ scope.names, y.2 = .local → scope.names.lookup y.1 = some .local) (hx : scope.names.lookup x = some .local) (hh : A.handled = none)
    (h : wpAny (model prog w) A (eval iter env) (ESrc h₀ L m Q) E s)
    (hs : ∀ x, foldedSetIterable iter env x = pure x := by intro _; rfl) :
    wpAny (model prog w) A (eval (.ListComp elt [⟨.Name x px, iter, [], 0⟩] scope pos) env) Q E s := by
  rw [eval_ListComp]
  refine wpAny_comprehension_free (use := none) rfl hs hclos hkind hnames (wpAny_mono h (fun xv s₁ h₁ => ?_) fun _ _ e => e)
  obtain ⟨ax, news, rfl, S, F, N, k⟩ := h₁
  have ht : s₁.heap.IsTuple ax #[] := let ⟨o, hm, r⟩ := S; ⟨o, N.get hm, r⟩
  have hlt : ax < s₁.heap.objs.size := by obtain ⟨_, e, _⟩ := ht; exact Heap.lt_size e
  refine wpAny_pyIter_tuple ht ?_
  have up : ∀ b o, s₁.heap.get? b = some o → (s₁.heap.push { cls := .type "tuple_iterator", data := .fields #[.ref ax, .int 0 0] }).get? b = some o := fun b o e => Heap.get?_push_of_some _ e
  refine LCg.block_U (h₀ := h₀) (L := L) (m := m) (Fin := fun ys nw => ys = [] ∧ nw = news) (S := fun nw => ∃ o, (ax, o) ∈ nw ∧ o.cls = .type "tuple" ∧ ∃ n, o.data = .seq #[] n) (Walks.tuple hh s₁.heap.objs.size ax (Nat.ne_of_lt hlt) #[]) (by show 0 ≤ _; exact Nat.zero_le _) (fun i h st => by obtain ⟨o, e, _⟩ := st.1; exact ⟨o, e⟩) tup_st hcell hkind hx ⟨⟨_, Heap.get?_push_size _ rfl, rfl, rfl⟩, ht.push _⟩ (fun b hb => ?_)
    (F.keeps up) (N.grown up) (Nat.ne_of_lt F.ns.lt) (next_is_new F) (fun p hp => Nat.ne_of_lt (Heap.lt_size (N p hp).1)) S (LCg.CompRest.zero ⟨rfl, rfl⟩) ?_
  · show b < (s₁.heap.push _).objs.size
    rw [Heap.size_push]
    rcases List.mem_cons.mp hb with rfl | hb
    · exact Nat.lt_succ_self _
    · rw [List.mem_singleton.mp hb]; exact Nat.lt_succ_of_lt hlt
  · rintro D C h tk m' ys news' F' N' o1 hn hC₀ hD₀ hCL hDL hCD offC ⟨rfl, rfl⟩
    refine ⟨m', hn, fun h'' hs'' => k D h'' tk (F'.change hs'' hCL hC₀) (fun p hp => ?_) o1⟩
    refine ⟨hs''.extBut _ _ ?_ (N' p hp).1, (N' p hp).2⟩
    rcases List.mem_cons.mp hp with rfl | hp
    · exact Ne.symm hCD
    · exact offC p hp
end
theorem ESrc.intro {h₀ : Heap} {L a : Addr} {m : Str → Option Value} {Q : Value → Shared → Prop} {s : Shared} {news : List (Addr × Obj)} {c : Nat} (N : News h₀ L s.heap news) (F : Fr h₀ L s.heap m) (hm : (a, ({ cls := .type "tuple", data := .seq #[] c } : Obj)) ∈ news)
    (k : ∀ D h' tk, Fr h₀ L h' m → News h₀ L h' ((D, LCg.lst []) :: news) → LCg.Off1 D news → Q (.ref D) { s with heap := h', toks := tk }) : ESrc h₀ L m Q (.ref a) s := ⟨_, _, rfl, ⟨_, hm, rfl, _, rfl⟩, F, N, k⟩
theorem reg35 : True := by
  (k_with "eval ListComp" => ((k_here; (with_reducible show wpAny _ _ (eval (Expr.ListComp _ [⟨_, Expr.Call (Expr.Name (Str.ofString "parts_of") _) _ _ _, _, _⟩] _ _) _) _ _ _); k_dflt (refine comp_empty (F₀ := by k_asm) (by with_unfolding_all rfl) (by decide) (by rfl) (by decide) (by rfl) (by rfl) ?_))))
  (k_with "ESrc" => (((k_dflt (refine' ESrc.intro ?N_q83 ?F_q83 ?m_q83 ?_; (case N_q83 => k_asm); (case F_q83 => k_asm); (case m_q83 => k_mem))); intro D9 h9 t9 F9 N9 o9; (try simp only [LCg.Off1, and_true] at o9))))
  exact True.intro

section
variable {prog : Program} {w : World} {p : Program} {loose : List Str} {mg mb : Str → Option Value} {dp un : Nat} {fr : Option (List Env)} {gd : Option (List Code)} {s : Shared} {h₀ h h' : Heap} {L : Addr} {m : Str → Option Value} {news : List (Addr × Obj)} {Q E : Value → Shared → Prop}
theorem wreg_ {ta : Addr} {t1 t2 : Tok} {x : Str} {fv : Value} (X : (hd.heap_1 w.params).In s.heap) (T : TopRead p loose mg mb s.heap) (hdp : dp + 10 < recursionLimit) (hu : un + 150 < cLine) (hT : IsTup s.heap ta #[.str "param" t1, .str x t2])
    (hret : ∀ h' tk', Kp [] s.heap h' → Q (.ref ta) { s with heap := h', toks := tk' }) :
    wpAny (model prog w) (AA dp un fr gd) (call (.ref 114) [.ref ta, fv]) Q E s := by
  have hT₀ : IsTup (hideAll s.heap []) ta #[.str "param" t1, .str x t2] := hT
  refine wpAny_call ?_
  k_dflt (refine' enterPC (binds := [("told", .ref ta), ("change", fv)]) [] X ?k2 ?k3 ?k6 ?k7 ?k9 ?kB ?kD ?_ ?c2 ?c3 ?c4)
  walk_at "M enterC"
  intro L h₁ tk cells hL F hk N Y
  clear hk hL
  have X₀ : (hd.heap_1 w.params).In (hideAll s.heap []) := X
  have T₀ : TopRead p loose mg mb (hideAll s.heap []) := T
  clear X T hT
  k_cells Y
  all_goals (try dsimp only)
  all_goals (try k_fold)
  all_goals walk_at "M steps"
  all_goals exact hret _ _ (Kp.of_fr (by assumption))
end

section
variable {prog : Program} {w : World} {A : Around} {E : Value → Shared → Prop} {s : Shared} {h₀ : Heap} {L d : Addr} {m : Str → Option Value} {x : Str} {t : Tok} {v dflt : Value} {Q : Value → Shared → Prop} {kvs : List (Str × Value)}
theorem getM_BD {pl : Sem Bool} {Q : Value × List Value → Shared → Prop} (F : Fr h₀ L s.heap m) (B : BD prog w h₀ d kvs) (h : Q (.builtin "dict.get", [.ref d]) s) : wpAny (model prog w) A (getMethod (.ref d) "get" pl) Q E s :=
  getMethod_builtin (B.dict F).typeIs PySem.F.plainAttrs_dict PySem.F.slot_dict_get PySem.F.type_dict_get (B.dict F).mapOf.noDict h
theorem get_BD (F : Fr h₀ L s.heap m) (B : BD prog w h₀ d kvs) (hv : valueAt kvs x = some v) (h : Q v { s with toks := s.toks + 1 }) :
    wpAny (model prog w) A (call (.builtin "dict.get") [.ref d, .str x t, dflt]) Q E s :=
  call_meetsIn PySem.F.slot_dict_get (B.dict F).typeIs PySem.F.entry_dict_get (PySem.F.args_dict_get_3 _ _ _) (meets_dict_get_default (PySem.strKind prog w) d (strKind_is prog w x t) (let ⟨_, _, _, lo⟩ := B; lo) dflt) ⟨_, (B.dict F).mapOf, by rw [hv]; exact h⟩
end
section
variable {prog : Program} {w : World} {A : Around} {E : Value → Shared → Prop} {s : Shared} {h₀ : Heap} {L l1 l2 z : Addr} {m : Str → Option Value} {news : List (Addr × Obj)} {Q : Value → Shared → Prop} {ys : Array Value}
theorem dict_K0 (hh : A.handled = none) (hb : h₀.NoLimit) (F : Fr h₀ L s.heap m) (N : News h₀ L s.heap news) (Z : NewZip h₀ s.heap L z l1 l2 news #[] ys)
    (ret : ∀ d o h' tk, Fr h₀ L h' m → News h₀ L h' ((d, o) :: news) → o.IsDictOf (PySem.strKind prog w) [] → (d == sysModules) = false → (∀ q ∈ news, q.1 < d) → Q (.ref d) { s with heap := h', toks := tk }) :
    wpAny (model prog w) A (call (.type "dict") [.ref z]) Q E s := dict_K hh hb F N Z [] (.inl ⟨rfl, rfl⟩) ret
theorem dict_K2 {x1 x2 : Str} {u1 u2 : Tok} {v1 v2 : Value} (hh : A.handled = none) (hb : h₀.NoLimit) (F : Fr h₀ L s.heap m) (N : News h₀ L s.heap news) (Z : NewZip h₀ s.heap L z l1 l2 news #[.str x1 u1, .str x2 u2] #[v1, v2]) (hk : x1 ≠ x2)
    (ret : ∀ d o h' tk, Fr h₀ L h' m → News h₀ L h' ((d, o) :: news) → o.IsDictOf (PySem.strKind prog w) [(x1, v1), (x2, v2)] → (d == sysModules) = false → (∀ q ∈ news, q.1 < d) → Q (.ref d) { s with heap := h', toks := tk }) :
    wpAny (model prog w) A (call (.type "dict") [.ref z]) Q E s := dict_K hh hb F N Z _ (.inr ⟨_, _, _, _, _, _, rfl, rfl, hk, rfl⟩) ret
end
theorem reg36 : True := by
  (k_with "getMethod ref" => ((k_here; (with_reducible show wpAny _ _ (getMethod (Value.ref _) (PySem.Str.ofString "get") _) _ _ _); (k_dflt (refine' getM_BD ?F_q84 ?B_q84 ?_; (case F_q84 => k_asm); (case B_q84 => assumption); k_whole)))))
  (k_with "call builtin:dict.get" => ((k_here; (k_dflt (refine' get_BD ?F_q85 ?B_q85 ?v_q85 ?_; (case F_q85 => k_asm); (case B_q85 => assumption); (case v_q85 => assumption); k_whole)))))
  exact True.intro
section
variable {prog : Program} {w : World} {p : Program} {loose : List Str} {mg mb : Str → Option Value} {dp un : Nat} {fr : Option (List Env)} {gd : Option (List Code)} {s : Shared} {h₀ h h' : Heap} {L : Addr} {m : Str → Option Value} {news : List (Addr × Obj)} {Q E : Value → Shared → Prop}
theorem subst_ {ta d : Addr} {t1 t2 : Tok} {x : Str} {v : Value} {kvs : List (Str × Value)} (X : (hd.heap_1 w.params).In s.heap) (T : TopRead p loose mg mb s.heap) (hdp : dp + 10 < recursionLimit) (hu : un + 150 < cLine) (hT : IsTup s.heap ta #[.str "param" t1, .str x t2]) (hD : BD prog w s.heap d kvs) (hv : valueAt kvs x = some v)
    (hret : ∀ h' tk', Kp [] s.heap h' → Q v { s with heap := h', toks := tk' }) :
    wpAny (model prog w) (AA dp un fr gd) (call (.ref 109) [.ref ta, .ref d]) Q E s := by
  have hT₀ : IsTup (hideAll s.heap []) ta #[.str "param" t1, .str x t2] := hT
  have hD₀ : BD prog w (hideAll s.heap []) d kvs := hD
  refine wpAny_call ?_
  k_dflt (refine' enterPC (binds := [("told", .ref ta), ("table", .ref d)]) [] X ?k2 ?k3 ?k6 ?k7 ?k9 ?kB ?kD ?_ ?c2 ?c3 ?c4)
  walk_at "M enterC"
  intro L h₁ tk cells hL F hk N Y
  clear hk hL
  have X₀ : (hd.heap_1 w.params).In (hideAll s.heap []) := X
  have T₀ : TopRead p loose mg mb (hideAll s.heap []) := T
  clear X T hT hD
  k_cells Y
  all_goals (try dsimp only)
  all_goals (try k_fold)
  all_goals walk_at "M steps"
  all_goals exact hret _ _ (Kp.of_fr (by assumption))
theorem call_wreg {ta : Addr} {t1 t2 : Tok} {x : Str} {fv : Value} (F : Fr h₀ L s.heap m) (X : (hd.heap_1 w.params).In h₀) (T : TopRead p loose mg mb h₀) (N : News h₀ L s.heap news) (hdp : dp + 10 < recursionLimit) (hu : un + 150 < cLine) (hT : IsTup h₀ ta #[.str "param" t1, .str x t2])
    (ret : ∀ h' tk', Fr h₀ L h' m → News h₀ L h' news → Q (.ref ta) { s with heap := h', toks := tk' }) :
    wpAny (model prog w) (AA dp un fr gd) (call (.ref 114) [.ref ta, fv]) Q E s :=
  wreg_ (X.keeps F.keep) (T.keeps F.keep) hdp hu (hT.keeps F.keep) fun h' tk' k => ret h' tk' (Kp.frame F k) (News.kp N k)
theorem call_subst {ta d : Addr} {t1 t2 : Tok} {x : Str} {v : Value} {o : Obj} {kvs : List (Str × Value)} (F : Fr h₀ L s.heap m) (X : (hd.heap_1 w.params).In h₀) (T : TopRead p loose mg mb h₀) (N : News h₀ L s.heap news) (hdp : dp + 10 < recursionLimit) (hu : un + 150 < cLine) (hT : IsTup h₀ ta #[.str "param" t1, .str x t2]) (hm : (d, o) ∈ news) (hD : o.IsDictOf (PySem.strKind prog w) kvs) (lo : (d == sysModules) = false) (hv : valueAt kvs x = some v)
    (ret : ∀ h' tk', Fr h₀ L h' m → News h₀ L h' news → Q v { s with heap := h', toks := tk' }) :
    wpAny (model prog w) (AA dp un fr gd) (call (.ref 109) [.ref ta, .ref d]) Q E s :=
  subst_ (X.keeps F.keep) (T.keeps F.keep) hdp hu (hT.keeps F.keep) ⟨o, N.get hm, hD, lo⟩ hv fun h' tk' k => ret h' tk' (Kp.frame F k) (News.kp N k)
theorem reg37 : True := by
  (k_with "call ref" => ((k_here; (with_reducible show wpAny _ _ (call (Value.ref 114) _) _ _ _); (k_dflt (refine' call_wreg ?F_q86 ?X_q86 ?T_q86 ?N_q86 ?hdp_q86 ?hu_q86 ?hT_q86 ?_; (case F_q86 => k_asm); (case X_q86 => k_asm); (case T_q86 => k_asm); (case N_q86 => k_asm); (case hdp_q86 => walk_at "M room"); (case hu_q86 => walk_at "M unit"); (case hT_q86 => assumption); k_whole)); intro h9 t9 F9 N9)))
  (k_with "call ref" => ((k_here; (with_reducible show wpAny _ _ (call (Value.ref 109) _) _ _ _); (k_dflt (refine' call_subst ?F_q87 ?X_q87 ?T_q87 ?N_q87 ?hdp_q87 ?hu_q87 ?hT_q87 ?hm_q87 ?hD_q87 ?lo_q87 ?hv_q87 ?_; (case F_q87 => k_asm); (case X_q87 => k_asm); (case T_q87 => k_asm); (case N_q87 => k_asm); (case hdp_q87 => walk_at "M room"); (case hu_q87 => walk_at "M unit"); (case hT_q87 => assumption); (case hm_q87 => k_mem); (case hD_q87 => assumption); (case lo_q87 => assumption); (case hv_q87 => exact rfl); k_whole)); intro h9 t9 F9 N9)))
  (k_with "call ref" => ((k_here; (with_reducible show wpAny _ _ (call (Value.ref 121) _) _ _ _); (k_dflt (refine' call_frows ?F_q88 ?X_q88 ?T_q88 ?N_q88 ?hdp_q88 ?hu_q88 ?hT_q88 ?hW_q88 ?_; (case F_q88 => k_asm); (case X_q88 => k_asm); (case T_q88 => k_asm); (case N_q88 => k_asm); (case hdp_q88 => walk_at "M room"); (case hu_q88 => walk_at "M unit"); (case hT_q88 => assumption); (case hW_q88 => assumption); k_whole)); intro h9 t9 F9 N9)))
  (k_with "call type:zip" => ((k_here; (k_dflt (refine' zip_K ?F_q89 ?N_q89 ?a_q89 ?b_q89 ?_; (case F_q89 => k_asm); (case N_q89 => k_asm); (case a_q89 => assumption); (case b_q89 => assumption); k_whole)); intro z9 h9 F9 N9 Z9)))
  (k_with "call type:dict" => ((k_here; (k_dflt (first
  | (refine' dict_K2 ?hh_q90 ?hb_q90 ?F_q90 ?N_q90 ?Z_q90 ?hk_q90 ?_; (case F_q90 => k_asm); (case N_q90 => k_asm); (case Z_q90 => assumption); (case hh_q90 => exact rfl); (case hb_q90 => exact TopRead.nolimit (by assumption)); (case hk_q90 => decide); k_whole)
  | (refine' dict_K0 ?hh_q90 ?hb_q90 ?F_q90 ?N_q90 ?Z_q90 ?_; (case F_q90 => k_asm); (case N_q90 => k_asm); (case Z_q90 => assumption); (case hh_q90 => exact rfl); (case hb_q90 => exact TopRead.nolimit (by assumption)); k_whole))); intro d9 o9 h9 t9 F9 N9 D9 lo9 l9; (try k_lt l9))))
  exact True.intro
end

def nul (h : Heap) : Heap := ⟨#[], h.life⟩
theorem nul_get (h : Heap) (a : Addr) : (nul h).get? a = none := Heap.get?_none_of_le (Nat.zero_le _)
/-- all objects of h -/
def allOf (h : Heap) : List (Addr × Obj) := (List.range h.objs.size).filterMap fun a => (h.get? a).map fun o => (a, o)
theorem mem_all {h : Heap} {q : Addr × Obj} : q ∈ allOf h ↔ h.get? q.1 = some q.2 := by
  unfold allOf
  rw [List.mem_filterMap]
  constructor
  · rintro ⟨a, _, e⟩
    obtain ⟨o, e1, e2⟩ := Option.map_eq_some_iff.mp e
    subst e2
    exact e1
  · intro e
    exact ⟨q.1, List.mem_range.mpr (Heap.lt_size e), by rw [e]; rfl⟩
section
variable {h₀ h : Heap} {L : Addr} {m : Str → Option Value} {news l : List (Addr × Obj)}
theorem to_nul (F : Fr h₀ L h m) (N : News h₀ L h news) : Fr (nul h₀) L h m ∧ News (nul h₀) L h (news ++ allOf h₀) := by
  refine ⟨⟨F.ns, fun b o e => (by rw [nul_get] at e; cases e), Nat.zero_le _⟩, fun q hq => ?_⟩
  rcases List.mem_append.mp hq with hq | hq
  · exact ⟨(N q hq).1, (N q hq).2.1, nul_get _ _⟩
  · have e := mem_all.mp hq
    exact ⟨F.keep _ _ e, Nat.ne_of_lt (Nat.lt_of_lt_of_le (Heap.lt_size e) F.above), nul_get _ _⟩
theorem of_nul (F : Fr (nul h₀) L h m) (N : News (nul h₀) L h l) (ab : h₀.objs.size ≤ L) (s : ∀ q ∈ allOf h₀, q ∈ l) : Fr h₀ L h m :=
  ⟨F.ns, fun b o e => (N (b, o) (s _ (mem_all.mpr e))).1, ab⟩
theorem off_all {I C D : Addr} (o : LCg.Off3 I C D l) (s : ∀ q ∈ allOf h₀, q ∈ l) : h₀.get? I = none ∧ h₀.get? C = none ∧ h₀.get? D = none := by
  have k : ∀ a, (∀ q ∈ l, q.1 ≠ a) → h₀.get? a = none := fun a ha => by
    cases e : h₀.get? a with
    | none => rfl
    | some o => exact absurd rfl (ha (a, o) (s _ (mem_all.mpr e)))
  have z := LCg.Off3.mem o
  exact ⟨k I fun q hq => (z q hq).1, k C fun q hq => (z q hq).2.1, k D fun q hq => (z q hq).2.2⟩
theorem off1_of {D : Addr} : ∀ {l : List (Addr × Obj)}, LCg.Off1 D l ↔ ∀ q ∈ l, @Ne Nat q.1 D
  | [] => ⟨fun _ q hq => (nomatch hq), fun _ => trivial⟩
  | p :: r => ⟨fun h q hq => by
      rcases List.mem_cons.mp hq with rfl | hq
      · exact h.1
      · exact off1_of.mp h.2 q hq, fun h => ⟨h p (.head _), off1_of.mpr fun q hq => h q (.tail _ hq)⟩⟩
end
/-- the turns that are left of a comprehension over pairs of the base -/
def PRest (prog : Program) (w : World) (A : Around) (h₀ : Heap) (L : Addr) (m : Str → Option Value) (env : Env) (elt : PySem.Expr) (x x₂ : Str) (scope : Scope) (cl : List (Str × Addr)) (Q : Value → Shared → Prop) (s : Shared) : List Value → List Value → List (Addr × Obj) → Prop
  | [], ys, news => ∀ D h tk, Fr h₀ L h m → News h₀ L h ((D, LCg.lst ys) :: news) → LCg.Off1 D news → Q (.ref D) { s with heap := h, toks := tk }
  | v :: r, ys, news => ∃ (t : Addr) (v₁ v₂ : Value), v = .ref t ∧ IsTup h₀ t #[v₁, v₂] ∧
      ∀ I oI C oC D m₂ h tk (E' : Value → Shared → Prop), LCg.NsObj oC m₂ → m₂ x = some v₁ → m₂ x₂ = some v₂ → Fr h₀ L h m → News h₀ L h ((I, oI) :: (C, oC) :: (D, LCg.lst ys) :: news) → LCg.Off3 I C D news → ((@Ne Nat I C) ∧ (@Ne Nat I D) ∧ (@Ne Nat C D)) →
      wpAny (model prog w) A (eval elt (compEnvC scope cl C env)) (fun y s' => ∃ h' tk' news', s' = { s with heap := h', toks := tk' } ∧ Fr h₀ L h' m ∧ News h₀ L h' ((I, oI) :: (C, oC) :: (D, LCg.lst ys) :: news') ∧ LCg.Off3 I C D news' ∧ PRest prog w A h₀ L m env elt x x₂ scope cl Q s r (ys ++ [y]) news') E' { s with heap := h, toks := tk }
def PSrc (prog : Program) (w : World) (A : Around) (h₀ : Heap) (L : Addr) (m : Str → Option Value) (env : Env) (elt : PySem.Expr) (x x₂ : Str) (scope : Scope) (cl : List (Str × Addr)) (Q : Value → Shared → Prop) (xv : Value) (s : Shared) : Prop :=
  ∃ ax its news, xv = .ref ax ∧ Fr h₀ L s.heap m ∧ News h₀ L s.heap news ∧ h₀.IsList ax its ∧ its.size ≤ sizeLine ∧ PRest prog w A h₀ L m env elt x x₂ scope cl Q s its.toList [] news
section
variable {prog : Program} {w : World} {A : Around} {E : Value → Shared → Prop} {s : Shared} {h₀ : Heap} {L : Addr} {m : Str → Option Value} {env : Env}
theorem rest_P {elt : PySem.Expr} {x x₂ : Str} {scope : Scope} {cl : List (Str × Addr)} {Q : Value → Shared → Prop} {g : Heap} {ax : Addr} {its : Array Value} (ab : h₀.objs.size ≤ L) (hl : h₀.IsList ax its) : ∀ (r : List Value) (i : Nat) (ys : List Value) (news : List (Addr × Obj)), its.toList.drop i = r → (∀ q ∈ news, h₀.get? q.1 = none) → PRest prog w A h₀ L m env elt x x₂ scope cl Q s r ys news →
    LCp.CompRestP prog w A (nul h₀) L m env elt x x₂ scope cl { s with heap := g } (LCg.SrcAt (nul h₀) ax its) (fun i v => its[i]? = some v) (LCg.FinE (nul h₀) L m { s with heap := g } Q) r.length i ys (news ++ allOf h₀)
  | [], i, ys, news, hd', fr, R => by
    refine LCp.CompRestP.zero ?_
    intro D h tk F N o
    have sub : ∀ q ∈ allOf h₀, q ∈ (D, LCg.lst ys) :: (news ++ allOf h₀) := fun q hq => .tail _ (List.mem_append_right _ hq)
    have hD : h₀.get? D = none := by
      cases e : h₀.get? D with
      | none => rfl
      | some o' => exact absurd rfl (off1_of.mp o (D, o') (List.mem_append_right _ (mem_all.mpr e)))
    refine R D h tk (of_nul F N ab sub) (fun q hq => ?_) (off1_of.mpr fun q hq => off1_of.mp o q (List.mem_append_left _ hq))
    rcases List.mem_cons.mp hq with rfl | hq
    · exact ⟨(N _ (.head _)).1, (N _ (.head _)).2.1, hD⟩
    · have z := N q (.tail _ (List.mem_append_left _ hq))
      exact ⟨z.1, z.2.1, fr q hq⟩
  | v :: r, i, ys, news, hd', fr, R => by
    refine LCp.CompRestP.succ fun v' hv' => ?_
    have hi : its[i]? = some v := by rw [← Array.getElem?_toList, ← List.head?_drop, hd']; rfl
    have hr : its.toList.drop (i + 1) = r := by rw [← List.drop_drop, hd']; rfl
    obtain rfl : v' = v := Option.some.inj (hv'.symm.trans hi)
    obtain ⟨t, v₁, v₂, rfl, ⟨ot, e1, e2, nt, e3⟩, R⟩ := R
    refine ⟨t, ot, v₁, v₂, nt, rfl, List.mem_append_right _ (mem_all.mpr e1), e2, e3, fun I oI C oC D m₂ h tk E' hC hx hy F N off ne => ?_⟩
    have sub : ∀ q ∈ allOf h₀, q ∈ news ++ allOf h₀ := fun q hq => List.mem_append_right _ hq
    obtain ⟨nI, nC, nD⟩ := off_all off sub
    have offm := LCg.Off3.mem off
    refine wpAny_mono (R I oI C oC D m₂ h tk E' hC hx hy (of_nul F N ab fun q hq => .tail _ (.tail _ (.tail _ (sub q hq)))) (fun q hq => ?_) (LCg.Off3.of fun q hq => offm q (List.mem_append_left _ hq)) ne) (fun y s' hs => ?_) fun _ _ z => z
    · have z := N q (by
        simp only [List.mem_cons] at hq ⊢
        rcases hq with h | h | h | h
        · exact .inl h
        · exact .inr (.inl h)
        · exact .inr (.inr (.inl h))
        · exact .inr (.inr (.inr (List.mem_append_left _ h))))
      refine ⟨z.1, z.2.1, ?_⟩
      simp only [List.mem_cons] at hq
      rcases hq with rfl | rfl | rfl | h
      · exact nI
      · exact nC
      · exact nD
      · exact fr q h
    · obtain ⟨h', tk', news', rfl, F', N', off', R'⟩ := hs
      have fr' : ∀ q ∈ news', h₀.get? q.1 = none := fun q hq => (N' q (.tail _ (.tail _ (.tail _ hq)))).2.2
      have off2 := LCg.Off3.mem off'
      refine ⟨h', tk', news' ++ allOf h₀, rfl, (to_nul F' N').1, (to_nul F' N').2, LCg.Off3.of fun q hq => ?_, .inr ?_, rest_P ab hl r (i + 1) _ news' hr fr' R'⟩
      · rcases List.mem_append.mp hq with hq | hq
        · exact off2 q hq
        · exact offm q (sub q hq)
      · obtain ⟨o, e, hc, hn⟩ := hl
        exact ⟨o, List.mem_append_right _ (mem_all.mpr e), hc, hn⟩
theorem comp_pairs {elt iter : PySem.Expr} {x x₂ : Str} {px px₂ tp : Pos} {tk} {scope : Scope} {cl : List (Str × Addr)} {pos : Pos} {Q : Value → Shared → Prop} (F₀ : Fr h₀ L s.heap m)
    (hclos : closureFor scope env = pure cl) (hcell : ∀ y ∈ scope.names, y.2 ≠ .cell) (hkind : scope.kind = .function)
    (hnames : ∀ y ∈ scope.names, y.2 = .local → scope.names.lookup y.1 = some .local) (hx : scope.names.lookup x = some .local) (hx₂ : scope.names.lookup x₂ = some .local) (hxx : x ≠ x₂) (hh : A.handled = none)
    (h : wpAny (model prog w) A (eval iter env) (PSrc prog w A h₀ L m env elt x x₂ scope cl Q) E s)
    (hs : ∀ x, foldedSetIterable iter env x = pure x := by intro _; rfl) :
    wpAny (model prog w) A (eval (.ListComp elt [⟨.Tuple [.Name x px, .Name x₂ px₂] tk tp, iter, [], 0⟩] scope pos) env) Q E s := by
  refine LCp.ListComp_P (h₀ := nul h₀) (to_nul F₀ News.nil).1 hclos hcell hkind hnames hx hx₂ hxx (wpAny_mono h (fun xv s₁ h₁ => ?_) fun _ _ z => z) hs
  obtain ⟨ax, its, news, rfl, F, N, hl, hsz, R⟩ := h₁
  obtain ⟨FN, NN⟩ := to_nul F N
  refine ⟨ax, its, news ++ allOf h₀, rfl, hh, FN, NN, .inr ?_, hsz, fun s₂ ⟨g, e⟩ => ?_⟩
  · obtain ⟨o, e, hc, hn⟩ := hl
    exact ⟨o, List.mem_append_right _ (mem_all.mpr e), hc, hn⟩
  · subst e
    have := rest_P (prog := prog) (w := w) (A := A) (m := m) (env := env) (elt := elt) (x := x) (x₂ := x₂) (scope := scope) (cl := cl) (Q := Q) (s := s₁) (g := g) F₀.above hl its.toList 0 [] news rfl (fun q hq => (N q hq).2.2) R
    rwa [Array.length_toList] at this
end
def PEnd (h₀ : Heap) (L : Addr) (m : Str → Option Value) (s : Shared) (I : Addr) (oI : Obj) (C : Addr) (oC : Obj) (D : Addr) (oD : Obj) (rest : Value → List (Addr × Obj) → Prop) (y : Value) (s' : Shared) : Prop :=
  ∃ h' tk' news', s' = { s with heap := h', toks := tk' } ∧ Fr h₀ L h' m ∧ News h₀ L h' ((I, oI) :: (C, oC) :: (D, oD) :: news') ∧ LCg.Off3 I C D news' ∧ rest y news'
section
variable {prog : Program} {w : World} {A : Around} {E : Value → Shared → Prop} {s : Shared} {h₀ : Heap} {L : Addr} {m : Str → Option Value} {env : Env} {elt : PySem.Expr} {x x₂ : Str} {scope : Scope} {cl : List (Str × Addr)} {Q : Value → Shared → Prop} {ys r : List Value} {news : List (Addr × Obj)}
theorem PSrc.intro {ax : Addr} {its : Array Value} (F : Fr h₀ L s.heap m) (N : News h₀ L s.heap news) (hl : h₀.IsList ax its) (hsz : its.size ≤ sizeLine) (R : PRest prog w A h₀ L m env elt x x₂ scope cl Q s its.toList [] news) :
    PSrc prog w A h₀ L m env elt x x₂ scope cl Q (.ref ax) s := ⟨ax, its, news, rfl, F, N, hl, hsz, R⟩
theorem PRest.cons {t : Addr} {v₁ v₂ : Value} (ht : IsTup h₀ t #[v₁, v₂])
    (h : ∀ I oI C oC D m₂ h tk (E' : Value → Shared → Prop), LCg.NsObj oC m₂ → m₂ x = some v₁ → m₂ x₂ = some v₂ → Fr h₀ L h m → News h₀ L h ((I, oI) :: (C, oC) :: (D, LCg.lst ys) :: news) → LCg.Off3 I C D news → ((@Ne Nat I C) ∧ (@Ne Nat I D) ∧ (@Ne Nat C D)) →
      wpAny (model prog w) A (eval elt (compEnvC scope cl C env)) (PEnd h₀ L m s I oI C oC D (LCg.lst ys) fun y news' => PRest prog w A h₀ L m env elt x x₂ scope cl Q s r (ys ++ [y]) news') E' { s with heap := h, toks := tk }) :
    PRest prog w A h₀ L m env elt x x₂ scope cl Q s (.ref t :: r) ys news := ⟨t, v₁, v₂, rfl, ht, h⟩
theorem PRest.done (h : ∀ D h tk, Fr h₀ L h m → News h₀ L h ((D, LCg.lst ys) :: news) → LCg.Off1 D news → Q (.ref D) { s with heap := h, toks := tk }) : PRest prog w A h₀ L m env elt x x₂ scope cl Q s [] ys news := h
theorem PEnd.one {I C D : Addr} {oI oC oD : Obj} {rest : Value → List (Addr × Obj) → Prop} {y : Value} {h' : Heap} {tk : Nat} {q : Addr × Obj} (F : Fr h₀ L h' m) (N : News h₀ L h' (q :: (I, oI) :: (C, oC) :: (D, oD) :: news)) (a : @Ne Nat q.1 I) (b : @Ne Nat q.1 C) (c : @Ne Nat q.1 D) (off : LCg.Off3 I C D news) (R : rest y (q :: news)) :
    PEnd h₀ L m s I oI C oC D oD rest y { s with heap := h', toks := tk } := ⟨h', tk, q :: news, rfl, F, fun p hp => N p (by
      simp only [List.mem_cons] at hp ⊢
      rcases hp with h | h | h | h | h
      · exact .inr (.inl h)
      · exact .inr (.inr (.inl h))
      · exact .inr (.inr (.inr (.inl h)))
      · exact .inl h
      · exact .inr (.inr (.inr (.inr h)))), ⟨⟨a, b, c⟩, off⟩, R⟩
end
theorem reg38 : True := by
  (k_with "eval ListComp" => ((k_here; (with_reducible show wpAny _ _ (eval (Expr.ListComp _ [⟨_, Expr.Call (Expr.Name (Str.ofString "field_rows") _) _ _ _, _, _⟩] _ _) _) _ _ _); k_dflt (refine comp_pairs (F₀ := by k_asm) (by with_unfolding_all rfl) (by decide) (by rfl) (by decide) (by rfl) (by rfl) (by decide) (by rfl) ?_))))
  (k_with "PSrc" => ((k_dflt (refine' PSrc.intro ?N_q92 ?F_q92 ?m_q92 ?z_q92 ?_; (case N_q92 => k_asm); (case F_q92 => k_asm); (case m_q92 => assumption); (case z_q92 => exact Nat.le_of_ble_eq_true rfl); k_whole))))
  (k_with "PRest" => ((k_dflt (first
  | (refine PRest.done ?_; intro D9 h9 t9 F9 N9 o9; (try simp only [LCg.Off1, and_true] at o9))
  | (refine' PRest.cons ?t_q93 ?_; (case t_q93 => assumption); intro I9 oI9 C9 oC9 D9 m9 h9 t9 E9 hC9 hx9 hy9 F9 N9 off9 ne9; have offS := off9; (try simp only [LCg.Off3, and_true] at offS))))))
  (k_with "PEnd" => ((k_dflt (refine' PEnd.one ?F_q94 ?N_q94 ?a_q94 ?b_q94 ?c_q94 ?o_q94 ?_; (case F_q94 => k_asm); (case N_q94 => k_asm); (case a_q94 => k_ne); (case b_q94 => k_ne); (case c_q94 => k_ne); (case o_q94 => assumption); k_whole))))
  exact True.intro

section
variable {prog : Program} {w : World} {p : Program} {loose : List Str} {mg mb : Str → Option Value} {dp un : Nat} {fr : Option (List Env)} {gd : Option (List Code)} {s : Shared} {h₀ h h' : Heap} {L : Addr} {m : Str → Option Value} {news : List (Addr × Obj)} {Q E : Value → Shared → Prop}
theorem fields_ {mean : ExcName → Option Value} {ta rg ty bb wd : Addr} {vT : Value} {t1 t2 u0 : Tok} {tb : Array Value} (X : (hd.heap_1 w.params).In (hideAll s.heap [123])) (TT : Top p loose mean mg mb (hideAll s.heap [123])) (h123 : s.heap.get? 123 = some (tabObj tb)) (ok : TabOk tb) (hdp : dp + 20 < recursionLimit) (hu : un + 200 < cLine)
    (hW : WorldAt prog w (hideAll s.heap [123]) wd) (hT : IsTup (hideAll s.heap [123]) ta #[.str "adt" t1, .str "P" t2, .ref rg, .ref ty]) (hrg : IsTup (hideAll s.heap [123]) rg #[]) (hty : IsTup (hideAll s.heap [123]) ty #[.ref bb, vT])
    (hret : ∀ a n r0 r1 tb' h' tk' u1 u2, Kp [123] s.heap h' → h'.get? a = some (listOf #[.ref r0, .ref r1] n) → h'.get? r0 = some (tupO #[.str "0" u1, vT]) → h'.get? r1 = some (tupO #[.str "1" u2, .ref bb]) → h'.get? 123 = some (tabObj tb') → TabOk tb' →
      s.heap.get? a = none → s.heap.get? r0 = none → s.heap.get? r1 = none → Q (.ref a) { s with heap := h', toks := tk' }) :
    wpAny (model prog w) (AA dp un fr gd) (call (.ref 126) [.ref ta, .int 0 u0, .ref wd]) Q E s := by
  have T₀ := topRead_of TT
  have T' : TopRead p loose mg mb s.heap := T₀.keeps fun b o e => of_hideAll _ e
  obtain ⟨ad, ax, rgn, prm, vs, v0, rows, r0, r1, p0, p1, w1, w2, w3, w4, w5, w6, w7, w8, w9, wa, a1, a2, a3, a4, a5, a6, a7, a8, a9, b1, b2, b3, b4, b5⟩ := hW
  have hT' : ∃ t1 t2 v3 v4, IsTup (hideAll s.heap [123]) ta #[.str "adt" t1, .str "P" t2, v3, v4] := ⟨_, _, _, _, hT⟩
  have hW' : ∃ ad ax vs v0 : Addr, ∃ u3 u4, BA (hideAll s.heap [123]) wd 251 "adts" (.ref ad) ∧ BE prog w (hideAll s.heap [123]) ad [("P", .ref ax)] ∧ BA (hideAll s.heap [123]) ax 222 "variants" (.ref vs) ∧ (hideAll s.heap [123]).IsList vs #[.ref v0] ∧ IsTup (hideAll s.heap [123]) v0 #[.str "P" u3, .str "tuple" u4, .ref rows] := ⟨_, _, _, _, _, _, a1, a2, a5, a8, a9⟩
  have C9 : CodeHd (hideAll s.heap [123]) 125 123 := codeHd_of_K X (by kernel_rfl)
  refine wpAny_call ?_
  k_dflt (refine' enterPC (binds := [("told", .ref ta), ("variant", .int 0 u0), ("world", .ref wd)]) [123] (fun b o e => of_hideAll _ (X b o e)) ?k2 ?k3 ?k6 ?k7 ?k9 ?kB ?kD ?_ ?c2 ?c3 ?c4)
  walk_at "M enterC"
  clear T'
  intro L h₁ tk cells hL F hk N Y
  have N := news_add (.head _) hL h123 hk N
  have l0 : @LT.lt Nat _ 123 L := by rw [hL]; exact Heap.lt_size h123
  clear hk hL
  k_cells Y
  simp only [List.cons_append, List.nil_append] at N
  rcases ok with rfl | ⟨kc, rfl⟩
  · skip
    all_goals (try dsimp only)
    all_goals (try k_fold)
    all_goals walk_at "M steps"
    all_goals
      rename Fr _ _ _ _ => FN
      rename News _ _ _ _ => NN
      exact hret _ _ _ _ _ _ _ _ _ (Kp.of_fr FN) (News.get NN (.head _)) (News.get NN (.tail _ (.tail _ (.head _)))) (News.get NN (.tail _ (.head _))) (News.get NN (by k_mem)) (.inr ⟨_, rfl⟩) (fresh_h (News.fresh (h₀ := hideAll s.heap [123]) NN (.head _)) (by k_ne)) (fresh_h (News.fresh (h₀ := hideAll s.heap [123]) NN (.tail _ (.tail _ (.head _)))) (by k_ne)) (fresh_h (News.fresh (h₀ := hideAll s.heap [123]) NN (.tail _ (.head _))) (by k_ne))
  · skip
    all_goals (try dsimp only)
    all_goals (try k_fold)
    all_goals walk_at "M steps"
    all_goals
      rename Fr _ _ _ _ => FN
      rename News _ _ _ _ => NN
      exact hret _ _ _ _ _ _ _ _ _ (Kp.of_fr FN) (News.get NN (.head _)) (News.get NN (.tail _ (.tail _ (.head _)))) (News.get NN (.tail _ (.head _))) (News.get NN (by k_mem)) (.inr ⟨_, rfl⟩) (fresh_h (News.fresh (h₀ := hideAll s.heap [123]) NN (.head _)) (by k_ne)) (fresh_h (News.fresh (h₀ := hideAll s.heap [123]) NN (.tail _ (.tail _ (.head _)))) (by k_ne)) (fresh_h (News.fresh (h₀ := hideAll s.heap [123]) NN (.tail _ (.head _))) (by k_ne))
end

theorem News.add {h₀ h h' : Heap} {L b : Addr} {m : Str → Option Value} {o : Obj} {news : List (Addr × Obj)} (F : Fr h₀ L h m) (N : News h₀ L h' news) (e : h'.get? b = some o) (hn : h.get? b = none) : News h₀ L h' ((b, o) :: news) := by
  intro q hq
  rcases List.mem_cons.mp hq with rfl | hq
  · refine ⟨e, fun z => ?_, fresh_of_stays F.keep hn⟩
    obtain ⟨oL, _, _, eL, _⟩ := F.ns
    rw [← z] at eL
    rw [hn] at eL; cases eL
  · exact N q hq
section
variable {prog : Program} {w : World} {A : Around} {E : Value → Shared → Prop} {s : Shared} {h₀ : Heap} {L r : Addr} {m : Str → Option Value} {news : List (Addr × Obj)} {Q : Value → Shared → Prop}
theorem list_r1 {n : Int} {t u v : Tok} (hh : A.handled = none) (F : Fr h₀ L s.heap m) (N : News h₀ L s.heap news) (hr : IsRange s.heap r 0 n 1 t u v) (hn : n = 1)
    (ret : ∀ l c t' h' tk, Fr h₀ L h' m → News h₀ L h' ((l, listOf #[.int 0 t'] c) :: news) → (∀ q ∈ news, q.1 < l) → Q (.ref l) { s with heap := h', toks := tk }) : wpAny (model prog w) A (call (.type "list") [.ref r]) Q E s := by
  subst hn
  refine call_list_range (n := 1) hh hr (by decide) (by decide) (by decide) fun h' tk acc' c' k e it => ?_
  obtain ⟨a1, a2⟩ := it
  have hx := a2 0 (acc'[0]'(by rw [a1]; decide)) (by rw [Array.getElem?_eq_getElem])
  obtain ⟨t', e'⟩ := hx
  have ea : acc' = #[.int 0 t'] := by
    apply Array.ext
    · rw [a1]; rfl
    · intro i h1 h2
      have : i = 0 := by rw [a1] at h1; omega
      subst this
      rw [e']; rfl
  subst ea
  refine ret _ c' t' h' tk (F.keeps k) (fun q hq => ?_) fun q hq => Heap.lt_size (N q hq).1
  rcases List.mem_cons.mp hq with rfl | hq
  · exact ⟨e, Nat.ne_of_gt F.ns.lt, Fr.fresh F⟩
  · exact ⟨k _ _ (N q hq).1, (N q hq).2⟩
end
theorem reg39 : True := by
  (k_with "call type:list" => ((k_here; (k_dflt (refine' list_r1 ?hh_q95 ?F_q95 ?N_q95 ?R_q95 ?n_q95 ?_; (case hh_q95 => exact rfl); (case F_q95 => k_asm); (case N_q95 => k_asm); (case R_q95 => assumption); (case n_q95 => exact rfl); k_whole)); intro l9 c9 u9 h9 t9 F9 N9 l8; (try k_lt l8))))
  exact True.intro
theorem comp_same {h₀ : Heap} {L I C D : Addr} {m : Str → Option Value} {s₁ : Shared} {oI oC oD : Obj} {S : List (Addr × Obj) → Prop} {rest : Value → List (Addr × Obj) → Prop} {y : Value} {h' : Heap} {tk : Nat} {news : List (Addr × Obj)}
    (F : Fr h₀ L h' m) (N : News h₀ L h' ((I, oI) :: (C, oC) :: (D, oD) :: news)) (off : LCg.Off3 I C D news) (hS : S news) (r : rest y news) : LCg.CompEnd h₀ L m s₁ I oI C oC D oD S rest y { s₁ with heap := h', toks := tk } := ⟨h', tk, news, rfl, F, N, off, hS, r⟩
section
variable {prog : Program} {w : World} {p : Program} {loose : List Str} {mg mb : Str → Option Value} {dp un : Nat} {fr : Option (List Env)} {gd : Option (List Code)} {s : Shared} {h₀ h h' : Heap} {L : Addr} {m : Str → Option Value} {news : List (Addr × Obj)} {Q E : Value → Shared → Prop}
variable {g : Obj → List (Addr × Obj)}
theorem call_fields {mean : ExcName → Option Value} {ta rg ty bb wd : Addr} {vT : Value} {t1 t2 u0 : Tok} {tb : Array Value} (F : Fr h₀ L s.heap m) (X : (hd.heap_1 w.params).In h₀) (TT : Top p loose mean mg mb h₀) (N : News h₀ L s.heap news) (U : UpdF 123 (tabObj tb) news g) (ok : TabOk tb) (hdp : dp + 20 < recursionLimit) (hu : un + 200 < cLine)
    (hW : WorldAt prog w h₀ wd) (hT : IsTup h₀ ta #[.str "adt" t1, .str "P" t2, .ref rg, .ref ty]) (hrg : IsTup h₀ rg #[]) (hty : IsTup h₀ ty #[.ref bb, vT])
    (ret : ∀ a n r0 r1 tb' h' tk' u1 u2, Fr h₀ L h' m → News h₀ L h' ((a, listOf #[.ref r0, .ref r1] n) :: (r0, tupO #[.str "0" u1, vT]) :: (r1, tupO #[.str "1" u2, .ref bb]) :: g (tabObj tb')) → TabOk tb' → (∀ q ∈ news, @Ne Nat q.1 a) → (∀ q ∈ news, @Ne Nat q.1 r0) → (∀ q ∈ news, @Ne Nat q.1 r1) → (@Ne Nat a r0 ∧ @Ne Nat a r1 ∧ @Ne Nat r0 r1) → Q (.ref a) { s with heap := h', toks := tk' }) :
    wpAny (model prog w) (AA dp un fr gd) (call (.ref 126) [.ref ta, .int 0 u0, .ref wd]) Q E s := by
  have hm := N _ (UpdF.mem U)
  have hn : ∀ a ∈ ([123] : List Addr), h₀.get? a = none := fun a ha => by rw [List.mem_singleton.mp ha]; exact hm.2.2
  have hL : L ∉ ([123] : List Addr) := fun q => hm.2.1 (List.mem_singleton.mp q).symm
  have st := hid F hn
  refine fields_ (X.keeps st) (TT.keeps st) hm.1 ok hdp hu (hW.keeps st) (hT.keeps st) (hrg.keeps st) (hty.keeps st) fun a n r0 r1 tb' h' tk' u1 u2 k ea e0 e1 et ok' na n0 n1 => ?_
  have F' := Fr.after F k hn hL
  have NT := News.turn N U k et
  refine ret a n r0 r1 tb' h' tk' u1 u2 F' (News.add F (News.add F (News.add F NT e1 n1) e0 n0) ea na) ok' (ne_new N na) (ne_new N n0) (ne_new N n1) ⟨fun q => ?_, fun q => ?_, fun q => ?_⟩
  · rw [q, e0] at ea; simp at ea
  · rw [q, e1] at ea; simp at ea
  · rw [q, e1] at e0
    have := congrArg (fun o : Option Obj => o.map fun o => o.data) e0
    simp only [Option.map_some, Option.some.injEq, Data.seq.injEq, Array.mk.injEq, List.cons.injEq, Value.str.injEq] at this
    exact absurd this.1.1.1 (by decide)
theorem reg40 : True := by
  (k_with "CompRestP" => ((k_dflt (with_unfolding_all
  (refine LCp.CompRestP.succ ?_; intro v' hv'; lcg_open hv'; refine ⟨_, _, _, _, _, rfl, by k_mem, rfl, rfl, ?_⟩; intro I' oI' C' oC' D' m' h' tk' E' hC' hx' hy' F' N' off' ne'; have offS := off'; (try simp only [LCg.Off3, and_true] at offS))))))
  (k_with "CompEnd" => ((k_dflt (refine' comp_same ?F_q97 ?N_q97 ?o_q97 ?S_q97 ?_; (case F_q97 => k_asm); (case N_q97 => k_asm); (case o_q97 => assumption); (case S_q97 => exact Or.inr ⟨_, by k_mem, rfl, _, rfl⟩); k_whole))))
  (k_with "call ref" => ((k_here; (with_reducible show wpAny _ _ (call (Value.ref 126) _) _ _ _); (k_dflt (refine' call_fields ?F_q98 ?X_q98 ?T_q98 ?N_q98 ?U_q98 ?ok_q98 ?hdp_q98 ?hu_q98 ?hW_q98 ?hT_q98 ?hr_q98 ?hy_q98 ?_; (case F_q98 => k_asm); (case X_q98 => k_asm); (case T_q98 => assumption); (case N_q98 => k_asm); (case U_q98 => k_updF); (case ok_q98 => assumption); (case hdp_q98 => walk_at "M room"); (case hu_q98 => walk_at "M unit"); (case hW_q98 => assumption); (case hT_q98 => assumption); (case hr_q98 => assumption); (case hy_q98 => assumption); k_whole)); intro a9 n9 r9 s9 tb9 h9 t9 u9 v9 F9 N9 ok9 ne9 nf9 ng9 nh9; (try dsimp only at N9))))
  exact True.intro
theorem partsD_ {mean : ExcName → Option Value} {ta va tp rg ty bb wd : Addr} {vT vt1 vt2 : Value} {t1 t2 u0 : Tok} {tb : Array Value} (X : (hd.heap_1 w.params).In (hideAll s.heap [123])) (TT : Top p loose mean mg mb (hideAll s.heap [123])) (h123 : s.heap.get? 123 = some (tabObj tb)) (ok : TabOk tb) (hdp : dp + 30 < recursionLimit) (hu : un + 250 < cLine)
    (hW : WorldAt prog w (hideAll s.heap [123]) wd) (hT : IsTup (hideAll s.heap [123]) ta #[.str "adt" t1, .str "P" t2, .ref rg, .ref ty]) (hrg : IsTup (hideAll s.heap [123]) rg #[]) (hty : IsTup (hideAll s.heap [123]) ty #[.ref bb, vT])
    (ht : IsTup (hideAll s.heap [123]) va #[.int 0 u0, .ref tp]) (htp : IsTup (hideAll s.heap [123]) tp #[vt1, vt2])
    (hret : ∀ a c n tb' h' tk', Kp [123] s.heap h' → h'.get? a = some (tupO #[.int 0 u0, .ref tp, .ref c]) → h'.get? c = some (listOf #[vT, .ref bb] n) → h'.get? 123 = some (tabObj tb') → TabOk tb' → s.heap.get? a = none → s.heap.get? c = none → Q (.ref a) { s with heap := h', toks := tk' }) :
    wpAny (model prog w) (AA dp un fr gd) (call (.ref 160) [.ref va, .ref ta, .ref wd]) Q E s := by
  have T₀ := topRead_of TT
  have T' : TopRead p loose mg mb s.heap := T₀.keeps fun b o e => of_hideAll _ e
  have hW₀ := hW
  obtain ⟨ad, ax, rgn, prm, vs, v0, rows, r0, r1, p0, p1, w1, w2, w3, w4, w5, w6, w7, w8, w9, wa, a1, a2, a3, a4, a5, a6, a7, a8, a9, b1, b2, b3, b4, b5⟩ := hW
  refine wpAny_call ?_
  k_dflt (refine' enterP (binds := [("told", .ref va), ("T", .ref ta), ("world", .ref wd)]) [123] (fun b o e => of_hideAll _ (X b o e)) ?k2 ?k3 ?k6 ?k7 ?k9 ?kB ?_ ?c2 ?c3 ?c4 ?c5)
  walk_at "M enter"
  clear T'
  intro L h₁ hL F hk
  have N := news_one (as := [123]) (.head _) hL h123 hk
  have l0 : @LT.lt Nat _ 123 L := by rw [hL]; exact Heap.lt_size h123
  clear hk hL a3 a4 a6 a7 a9 b1 b2 b3 b4 b5
  all_goals (try dsimp only)
  all_goals (try k_fold)
  all_goals walk_at "M steps"
  all_goals
    rename Fr _ _ _ _ => FN
    rename News _ _ _ _ => NN
    exact hret _ _ _ _ _ _ (Kp.of_fr FN) (News.get NN (.head _)) (News.get NN (by k_mem)) (News.get NN (by k_mem)) (by assumption) (fresh_h (News.fresh (h₀ := hideAll s.heap [123]) NN (.head _)) (by k_ne)) (fresh_h (News.fresh (h₀ := hideAll s.heap [123]) NN (.tail _ (.head _))) (by k_ne))
end

theorem unrEnd1 {h₀ : Heap} {L I : Addr} {s₁ : Shared} {it : Obj} {rest : (Str → Option Value) → List (Addr × Obj) → Prop} {h' : Heap} {tk : Nat} {m' : Str → Option Value} {x : Addr × Obj} {news : List (Addr × Obj)} (F : Fr h₀ L h' m') (N : News h₀ L h' (x :: (I, it) :: news)) (hx : @Ne Nat x.1 I) (hn : ∀ p ∈ news, p.1 ≠ I) (hr : rest m' (x :: news)) :
    UnrEnd h₀ L s₁ I it rest { s₁ with heap := h', toks := tk } :=
  ⟨h', tk, m', x :: news, rfl, F, fun p hp => N p (by
    rcases List.mem_cons.mp hp with rfl | hp
    · exact .tail _ (.head _)
    · rcases List.mem_cons.mp hp with rfl | hp
      · exact .head _
      · exact .tail _ (.tail _ hp)), fun p hp => by
    rcases List.mem_cons.mp hp with rfl | hp
    · exact hx
    · exact hn p hp, hr⟩
theorem neLtAll {d : Addr} {l : List (Addr × Obj)} (h : ∀ p ∈ l, p.1 < d) : ∀ q ∈ l, @Ne Nat q.1 d := fun q hq => Nat.ne_of_lt (h q hq)
theorem close1 {w : World} {p : Program} {loose : List Str} {mean : ExcName → Option Value} {mg mb : Str → Option Value} {h₀ h : Heap} {L dn wt i1 i2 ta : Addr} {wv vt vT : Value} {m : Str → Option Value} {news rest : List (Addr × Obj)} {nd nw : Nat} {tb : Array Value} {way : Way} {u : Tok} {ws : List Value} {dws : List PyData} {dT dt : PyData} (hw1 : way.two = false)
    (X : (hd.heap_1 w.params).In h₀) (TT : Top p loose mean mg mb h₀) (F : Fr h₀ L h m) (N : News h₀ L h news) (hd1 : (dn, wlist [] nd) ∈ news) (hw : (wt, wlist (ws ++ [.ref i1] ++ [.ref i2]) nw) ∈ news) (ht : (123, tabObj tb) ∈ news) (ok : TabOk tb)
    (ne : @Ne Nat dn wt ∧ @Ne Nat dn 123 ∧ @Ne Nat wt 123) (hsub : ∀ q ∈ rest, q ∈ news ∧ @Ne Nat q.1 dn ∧ @Ne Nat q.1 wt ∧ @Ne Nat q.1 123)
    (m1 : (i1, tupO #[.bool true, .int 1 u, .ref ta, .none]) ∈ news) (m2 : (i2, tupO #[.bool false, vt, vT, .none]) ∈ news) (e1 : @Ne Nat i1 dn ∧ @Ne Nat i1 wt ∧ @Ne Nat i1 123) (e2 : @Ne Nat i2 dn ∧ @Ne Nat i2 wt ∧ @Ne Nat i2 123)
    {y : Value} (via : Via h₀ rest (HDs · (ws ++ [y]) dws)) (lay : (PyData.list dws).canLay0 = true) (hTt : HD h₀ (.ref ta) (wT way dT)) (hvt : HD h₀ vt dt) (hvT : HD h₀ vT dT) (hlT : dT.canLay0 = true) (hlt : dt.canLay0 = true) (hwl : ws.length < 800)
    (h1 : m (Str.ofString "done") = some (.ref dn)) (h2 : m (Str.ofString "waiting") = some (.ref wt)) (h3 : m (Str.ofString "world") = some wv) :
    ∃ rest', Inv w p loose mean mg mb h₀ h L dn wt wv [] (ws ++ [.ref i1] ++ [] ++ [.ref i2]) rest' ∧ (∀ q ∈ rest, q ∈ rest') ∧ Seen way rest' i1 ta ∧ Mid way h₀ rest' [] ∧ (i2, tupO #[.bool false, vt, vT, .none]) ∈ rest' := by
  rw [List.append_nil]
  have hT' := lay_T (way := way) hlT
  have q1 : (PyData.list [.tuple [.bool true, .int 1, wT way dT, .none]]).canLay0 = true := by simp [PyData.canLay0, PyData.canLayAll0, hT']
  have q2 : (PyData.list [.tuple [.bool false, dt, dT, .none]]).canLay0 = true := by simp [PyData.canLay0, PyData.canLayAll0, hlT, hlt]
  obtain ⟨rest', I', sub, new⟩ := rebase (rest := rest) (dws := dws.dropLast ++ [.tuple [.bool true, .int 1, wT way dT, .none]] ++ [.tuple [.bool false, dt, dT, .none]]) X TT F N hd1 hw ht ok ne hsub
    (fun h' b r => HDs.app (HDs.app (HDs.init (via h' b fun q hq => r q (hsub q hq).1 (hsub q hq).2.1 (hsub q hq).2.2.1 (hsub q hq).2.2.2))
      (HDs.cons (HD.tuple (r _ m1 e1.1 e1.2.1 e1.2.2) rfl rfl (HDs.cons HD.bool (HDs.cons HD.int (HDs.cons (hTt.keeps b) (HDs.cons HD.none HDs.nil))))) HDs.nil))
      (HDs.cons (HD.tuple (r _ m2 e2.1 e2.2.1 e2.2.2) rfl rfl (HDs.cons HD.bool (HDs.cons (hvt.keeps b) (HDs.cons (hvT.keeps b) (HDs.cons HD.none HDs.nil))))) HDs.nil))
    (lay_app (lay_app (lay_init lay) q1) q2) (by simp only [List.length_append, List.length_cons, List.length_nil]; omega) h1 h2 h3
  refine ⟨rest', I', sub, ⟨u, .none, ?_, fun e => ?_⟩, ?_, new _ m2 e2.1 e2.2.1 e2.2.2⟩
  · have := new _ m1 e1.1 e1.2.1 e1.2.2
    unfold Way.cnt
    rw [hw1]
    exact this
  · rw [e] at hw1; cases hw1
  · simp only [Mid, hw1, Bool.false_eq_true, if_false]
theorem close2 {w : World} {p : Program} {loose : List Str} {mean : ExcName → Option Value} {mg mb : Str → Option Value} {h₀ h : Heap} {L dn wt i1 i2 i3 ta bb : Addr} {wv vr vt vT : Value} {m : Str → Option Value} {news rest : List (Addr × Obj)} {nd nw : Nat} {tb : Array Value} {way : Way} {u u7 t1 t2 : Tok} {ws : List Value} {dws : List PyData} {dT dt dr : PyData} (hw1 : way.two = true)
    (X : (hd.heap_1 w.params).In h₀) (TT : Top p loose mean mg mb h₀) (F : Fr h₀ L h m) (N : News h₀ L h news) (hd1 : (dn, wlist [] nd) ∈ news) (hw : (wt, wlist (ws ++ [.ref i1] ++ [.ref i3] ++ [.ref i2]) nw) ∈ news) (ht : (123, tabObj tb) ∈ news) (ok : TabOk tb)
    (ne : @Ne Nat dn wt ∧ @Ne Nat dn 123 ∧ @Ne Nat wt 123) (hsub : ∀ q ∈ rest, q ∈ news ∧ @Ne Nat q.1 dn ∧ @Ne Nat q.1 wt ∧ @Ne Nat q.1 123)
    (m1 : (i1, tupO #[.bool true, .int 2 u, .ref ta, vr]) ∈ news) (m3 : (i3, tupO #[.bool false, .int 7 u7, .ref bb, .none]) ∈ news) (m2 : (i2, tupO #[.bool false, vt, vT, .none]) ∈ news) (e1 : @Ne Nat i1 dn ∧ @Ne Nat i1 wt ∧ @Ne Nat i1 123) (e3 : @Ne Nat i3 dn ∧ @Ne Nat i3 wt ∧ @Ne Nat i3 123) (e2 : @Ne Nat i2 dn ∧ @Ne Nat i2 wt ∧ @Ne Nat i2 123)
    {y : Value} (via : Via h₀ rest (HDs · (ws ++ [y]) dws)) (lay : (PyData.list dws).canLay0 = true) (hTt : HD h₀ (.ref ta) (wT way dT)) (hvt : HD h₀ vt dt) (hvT : HD h₀ vT dT) (hb : IsTup h₀ bb #[.str "int" t1, .str "u8" t2]) (hvr : ∀ h', HD h' vr dr) (hlr : dr.canLay0 = true) (ha : way = .adt → ∃ u0, vr = .int 0 u0) (hlT : dT.canLay0 = true) (hlt : dt.canLay0 = true) (hwl : ws.length < 800)
    (h1 : m (Str.ofString "done") = some (.ref dn)) (h2 : m (Str.ofString "waiting") = some (.ref wt)) (h3 : m (Str.ofString "world") = some wv) :
    ∃ rest', Inv w p loose mean mg mb h₀ h L dn wt wv [] (ws ++ [.ref i1] ++ [.ref i3] ++ [.ref i2]) rest' ∧ (∀ q ∈ rest, q ∈ rest') ∧ Seen way rest' i1 ta ∧ Mid way h₀ rest' [.ref i3] ∧ (i2, tupO #[.bool false, vt, vT, .none]) ∈ rest' := by
  have hT' := lay_T (way := way) hlT
  have s6 : PyData.strOk "int" = true := by decide +kernel
  have s7 : PyData.strOk "u8" = true := by decide +kernel
  have q1 : (PyData.list [.tuple [.bool true, .int 2, wT way dT, dr]]).canLay0 = true := by simp [PyData.canLay0, PyData.canLayAll0, hT', hlr]
  have q3 : (PyData.list [.tuple [.bool false, .int 7, .tuple [.str "int", .str "u8"], .none]]).canLay0 = true := by simp [PyData.canLay0, PyData.canLayAll0, s6, s7]
  have q2 : (PyData.list [.tuple [.bool false, dt, dT, .none]]).canLay0 = true := by simp [PyData.canLay0, PyData.canLayAll0, hlT, hlt]
  have hbb : HD h₀ (.ref bb) (.tuple [.str "int", .str "u8"]) := by
    obtain ⟨o, e, c, n, d⟩ := hb
    exact HD.tuple (l := [.str "int" t1, .str "u8" t2]) e c d (HDs.cons HD.str (HDs.cons HD.str HDs.nil))
  obtain ⟨rest', I', sub, new⟩ := rebase (rest := rest) (dws := dws.dropLast ++ [.tuple [.bool true, .int 2, wT way dT, dr]] ++ [.tuple [.bool false, .int 7, .tuple [.str "int", .str "u8"], .none]] ++ [.tuple [.bool false, dt, dT, .none]]) X TT F N hd1 hw ht ok ne hsub
    (fun h' b r => HDs.app (HDs.app (HDs.app (HDs.init (via h' b fun q hq => r q (hsub q hq).1 (hsub q hq).2.1 (hsub q hq).2.2.1 (hsub q hq).2.2.2))
      (HDs.cons (HD.tuple (r _ m1 e1.1 e1.2.1 e1.2.2) rfl rfl (HDs.cons HD.bool (HDs.cons HD.int (HDs.cons (hTt.keeps b) (HDs.cons (hvr h') HDs.nil))))) HDs.nil))
      (HDs.cons (HD.tuple (r _ m3 e3.1 e3.2.1 e3.2.2) rfl rfl (HDs.cons HD.bool (HDs.cons HD.int (HDs.cons (hbb.keeps b) (HDs.cons HD.none HDs.nil))))) HDs.nil))
      (HDs.cons (HD.tuple (r _ m2 e2.1 e2.2.1 e2.2.2) rfl rfl (HDs.cons HD.bool (HDs.cons (hvt.keeps b) (HDs.cons (hvT.keeps b) (HDs.cons HD.none HDs.nil))))) HDs.nil))
    (lay_app (lay_app (lay_app (lay_init lay) q1) q3) q2) (by simp only [List.length_append, List.length_cons, List.length_nil]; omega) h1 h2 h3
  refine ⟨rest', I', sub, ⟨u, vr, ?_, ha⟩, ?_, new _ m2 e2.1 e2.2.1 e2.2.2⟩
  · have := new _ m1 e1.1 e1.2.1 e1.2.2
    unfold Way.cnt
    rw [hw1]
    exact this
  · simp only [Mid, hw1, if_true]
    exact ⟨i3, u7, bb, t1, t2, rfl, new _ m3 e3.1 e3.2.1 e3.2.2, hb⟩
theorem item_NL {prog : Program} {w : World} {A : Around} {E : Value → Shared → Prop} {s : Shared} {value slice : PySem.Expr} {h₀ : Heap} {L l : Addr} {news : List (Addr × Obj)} {its : Array Value} {c : Nat} {k : Int} {u : Tok} {v : Value} {Q : Value → Shared → Prop}
    (N : News h₀ L s.heap news) (hm : (l, listOf its c) ∈ news) (h0 : 0 ≤ k) (hhi : k < 2 ^ 63) (hx : its[k.toNat]? = some v) (h : Q v s)
    (hs : subscripted slice false (.ref l) (.int k u) = operate [.ref l, .int k u] (getItem (.ref l) (.int k u)) := by with_unfolding_all rfl) : wpAny (model prog w) A (subscriptTail value slice (.ref l) (.int k u)) Q E s :=
  have hl : s.heap.IsList l its := ⟨_, N.get hm, rfl, _, rfl⟩
  tail_any hl.typeIs slot_list_getitem.lookup (wpAny_getItem_list hl h0 hhi hx h) hs
local macro_rules | `(tactic| walk_at "M allne") => `(tactic| first | exact List.forall_mem_nil _ | exact neLtAll (by assumption) | assumption | (refine' List.forall_mem_cons.mpr ⟨?a, ?b⟩; (case a => k_ne); (case b => walk_at "M allne")) | (intro q hq; walk_at "M nq"))
local macro_rules | `(tactic| walk_at "pyIter ref") => `(tactic| first | exact absurd ‹(2 : Int) - 1 = 0› (by decide) | exact absurd ‹(2 : Nat) - 1 = 0› (by decide) | ((with_reducible show wpAny _ _ (pyIter (Value.ref _)) (fun it s₂ => LoopAtV _ _ _ _ _ _ _ _ _ it s₂) _ _); k_here; l_hasStore; krs_unr)) /- a macro, kept: walk_at "pyIter ref" -/
theorem reg41 : True := by
  (k_with "M lt" => (first | assumption | decide | omega | (simp only [List.length_append, List.length_cons, List.length_nil]; omega) | (simp only [recursionLimit, cLine] at *; omega)))
  (k_with "subscriptTail Name Name ref int" => ((k_here; k_dflt (first
  | (refine' item_NT ?F_q100 ?t_q100 ?a_q100 ?b_q100 ?j_q100 ?v_q100 ?_ ?s_q100; (case F_q100 => k_asm); (case t_q100 => k_mem); (case a_q100 => decide); (case b_q100 => decide); (case j_q100 => exact rfl); (case v_q100 => exact rfl); (case s_q100 => with_unfolding_all rfl); k_whole)
  | (refine' item_NL ?F_q100 ?t_q100 ?a_q100 ?b_q100 ?v_q100 ?_ ?s_q100; (case F_q100 => k_asm); (case t_q100 => k_mem); (case a_q100 => decide); (case b_q100 => decide); (case v_q100 => exact rfl); (case s_q100 => with_unfolding_all rfl); k_whole)
  | (refine' item_BT ?F_q100 ?t_q100 ?a_q100 ?b_q100 ?j_q100 ?v_q100 ?_ ?s_q100; (case F_q100 => k_asm); (case t_q100 => assumption); (case a_q100 => decide); (case b_q100 => decide); (case j_q100 => exact rfl); (case v_q100 => exact rfl); (case s_q100 => with_unfolding_all rfl); k_whole)))))
  (k_with "M split" => (repeat (cases ‹_ ∧ _›)))
  (k_with "UnrEnd" => ((refine unrEnd1 (by assumption) (by assumption) (by k_ne) (by walk_at "M allne") ?_)))
  exact True.intro
section
variable {prog : Program} {w : World} {p : Program} {loose : List Str} {mg mb : Str → Option Value} {dp un : Nat} {fr : Option (List Env)} {gd : Option (List Code)} {s : Shared} {h₀ h h' : Heap} {L : Addr} {m : Str → Option Value} {news : List (Addr × Obj)} {Q E : Value → Shared → Prop}
variable {mean : ExcName → Option Value} {tb0 : Array Value} {wv : Value} {L wt : Addr} {base : Heap} {l : List Env} {test : PySem.Expr} {body orelse : List Stmt} {env : Env} {R : Result → Shared → Prop} {tk dn it ta : Addr} {rest : List (Addr × Obj)} {ds ws : List Value}
theorem inv_l1 {B : Heap} {dt : PyData} {va : Addr} (x : HD B (.ref va) (.tuple [dt])) : ∃ vt, IsTup B va #[vt] ∧ HD B vt dt := by
  obtain ⟨a, l, e, ht, hl⟩ := HD.inv_tuple x
  cases e
  obtain ⟨v1, r1, rfl, h1, hl⟩ := HDs.inv_cons hl
  obtain rfl := HDs.inv_nil hl
  exact ⟨v1, ht, h1⟩
theorem inv_l2 {B : Heap} {dt : PyData} {va : Addr} (x : HD B (.ref va) (.tuple [dt, .int 7])) : ∃ vt u, IsTup B va #[vt, .int 7 u] ∧ HD B vt dt := by
  obtain ⟨a, l, e, ht, hl⟩ := HD.inv_tuple x
  cases e
  obtain ⟨v1, r1, rfl, h1, hl⟩ := HDs.inv_cons hl
  obtain ⟨v2, r2, rfl, h2, hl⟩ := HDs.inv_cons hl
  obtain rfl := HDs.inv_nil hl
  obtain ⟨u, rfl⟩ := HD.inv_int h2
  exact ⟨v1, u, ht, h1⟩
theorem inv_l3 {B : Heap} {dt : PyData} {va : Addr} (x : HD B (.ref va) (.tuple [.int 0, .tuple [dt, .int 7]])) : ∃ u0 tp vt u, IsTup B va #[.int 0 u0, .ref tp] ∧ IsTup B tp #[vt, .int 7 u] ∧ HD B vt dt := by
  obtain ⟨a, l, e, ht, hl⟩ := HD.inv_tuple x
  cases e
  obtain ⟨v1, r1, rfl, h1, hl⟩ := HDs.inv_cons hl
  obtain ⟨v2, r2, rfl, h2, hl⟩ := HDs.inv_cons hl
  obtain rfl := HDs.inv_nil hl
  obtain ⟨u0, rfl⟩ := HD.inv_int h1
  obtain ⟨tp, l, rfl, htp, hl⟩ := HD.inv_tuple h2
  obtain ⟨v1, r1, rfl, h1, hl⟩ := HDs.inv_cons hl
  obtain ⟨v2, r2, rfl, h2, hl⟩ := HDs.inv_cons hl
  obtain rfl := HDs.inv_nil hl
  obtain ⟨u, rfl⟩ := HD.inv_int h2
  exact ⟨u0, tp, v1, u, ht, htp, h1⟩
theorem turn_layB (lp : LoopIs w.params 174 (.ref 173) L test body orelse env) (hdp : dp + 40 < recursionLimit) (hu : un + 300 < cLine)
    {h : Heap} {va : Addr} {dT dt : PyData} (I : Inv w p loose mean mg mb h₀ h L dn wt wv [] (ws ++ [.ref it]) rest) (hin : (it, tupO #[.bool false, .ref va, .ref ta, .none]) ∈ rest) (hTt : HD h₀ (.ref ta) (wT .box dT)) (htt : HD h₀ (.ref va) (wTold false .box dt)) (hlT : dT.canLay0 = true) (hlt : dt.canLay0 = true) (hwl : ws.length < 800)
    (hq : ∀ h' tk' rest' i1 i2 vt vT mid, Inv w p loose mean mg mb h₀ h' L dn wt wv [] (ws ++ [.ref i1] ++ mid ++ [.ref i2]) rest' → (∀ q ∈ rest, q ∈ rest') → Seen .box rest' i1 ta → Mid .box h₀ rest' mid → (i2, tupO #[.bool false, vt, vT, .none]) ∈ rest' → HD h₀ vt dt → HD h₀ vT dT → codeAny (model prog w) ((AA dp un (some l) gd).deeper env) (.whileLoop test body orelse env) R { s with heap := h', toks := tk' }) :
    codeAny (model prog w) ((AA dp un (some l) gd).deeper env) (.whileLoop test body orelse env) R { s with heap := h, toks := tk } := by
  revert hq
  obtain ⟨fd, b, e1, e2, e3, e4⟩ := lp
  cases e1
  cases e2
  cases e3
  subst e4
  intro hq
  obtain ⟨X, TT, ⟨m0, F⟩, ⟨nd, nw, tb, N, ok⟩, ⟨n1, n2, n3⟩, n4, n5, n6, ⟨dws, via, lay⟩, wl⟩ := I
  refine while_turn2 fun QT QB EB hTT hTF hBN hBR hEB hEO => ?_
  have N := News.dup N hin
  have a1 : @Ne Nat it dn := n4 _ hin
  have a2 : @Ne Nat it wt := n5 _ hin
  have a3 : @Ne Nat it 123 := n6 _ hin
  have wl' : ws.length < 899 := by
    rw [List.length_append] at wl
    exact Nat.lt_of_succ_lt_succ wl
  have TR := topRead_of TT
  try dsimp only
  try k_fold
  obtain ⟨t1, vT, hTy, hvT⟩ := inv_box hTt
  obtain ⟨t2, vt, hty, hvt⟩ := inv_box (dT := dt) htt
  walk_at "M steps"
  rename Fr _ _ _ _ => FN
  rename News _ _ _ _ => NN
  refine partsB_ (vt := vt) (X.keeps FN.keep) (TR.keeps FN.keep) ?_ ?_ (hTy.keeps FN.keep) (hty.keeps FN.keep) fun h8 tk8 a8 b8 c8 n8 k8 ea eb ec na nb nc => ?_
  · walk_at "M lt"
  · walk_at "M lt"
  have F8 := Kp.frame FN k8
  have N8 := News.add FN (News.add FN (News.cons FN NN k8 ea na) eb nb) ec nc
  have nea := ne_new NN na
  have neb := ne_new NN nb
  have nec := ne_new NN nc
  clear FN NN
  try dsimp only at N8
  walk_at "M steps"
  rename Fr _ _ _ _ => FN
  rename News _ _ _ _ => NN
  obtain ⟨rest', I', sub, se, mi, m2⟩ := close1 (way := .box) (rest := rest) (dn := dn) (wt := wt) rfl X TT FN NN (by k_mem) (by k_mem) (by k_mem) ok ⟨n1, n2, n3⟩ (fun q hq => ⟨by walk_at "M sub", n4 q hq, n5 q hq, n6 q hq⟩) (by k_mem) (by k_mem) ⟨by k_ne, by k_ne, by k_ne⟩ ⟨by k_ne, by k_ne, by k_ne⟩ via lay hTt hvt hvT hlT hlt hwl rfl rfl rfl
  exact hq _ _ rest' _ _ vt vT [] I' sub se mi m2 hvt hvT
theorem turn_layA (lp : LoopIs w.params 174 (.ref 173) L test body orelse env) (hdp : dp + 40 < recursionLimit) (hu : un + 300 < cLine)
    {h : Heap} {va : Addr} {dT dt : PyData} (I : Inv w p loose mean mg mb h₀ h L dn wt wv [] (ws ++ [.ref it]) rest) (hin : (it, tupO #[.bool false, .ref va, .ref ta, .none]) ∈ rest) (hTt : HD h₀ (.ref ta) (wT .arr dT)) (htt : HD h₀ (.ref va) (wTold false .arr dt)) (hlT : dT.canLay0 = true) (hlt : dt.canLay0 = true) (hwl : ws.length < 800)
    (hq : ∀ h' tk' rest' i1 i2 vt vT mid, Inv w p loose mean mg mb h₀ h' L dn wt wv [] (ws ++ [.ref i1] ++ mid ++ [.ref i2]) rest' → (∀ q ∈ rest, q ∈ rest') → Seen .arr rest' i1 ta → Mid .arr h₀ rest' mid → (i2, tupO #[.bool false, vt, vT, .none]) ∈ rest' → HD h₀ vt dt → HD h₀ vT dT → codeAny (model prog w) ((AA dp un (some l) gd).deeper env) (.whileLoop test body orelse env) R { s with heap := h', toks := tk' }) :
    codeAny (model prog w) ((AA dp un (some l) gd).deeper env) (.whileLoop test body orelse env) R { s with heap := h, toks := tk } := by
  revert hq
  obtain ⟨fd, b, e1, e2, e3, e4⟩ := lp
  cases e1
  cases e2
  cases e3
  subst e4
  intro hq
  obtain ⟨X, TT, ⟨m0, F⟩, ⟨nd, nw, tb, N, ok⟩, ⟨n1, n2, n3⟩, n4, n5, n6, ⟨dws, via, lay⟩, wl⟩ := I
  refine while_turn2 fun QT QB EB hTT hTF hBN hBR hEB hEO => ?_
  have N := News.dup N hin
  have a1 : @Ne Nat it dn := n4 _ hin
  have a2 : @Ne Nat it wt := n5 _ hin
  have a3 : @Ne Nat it 123 := n6 _ hin
  have wl' : ws.length < 899 := by
    rw [List.length_append] at wl
    exact Nat.lt_of_succ_lt_succ wl
  have TR := topRead_of TT
  try dsimp only
  try k_fold
  obtain ⟨t1, vT, t2, hTy, hvT⟩ := inv_arr hTt
  obtain ⟨vt, hty, hvt⟩ := inv_l1 (dt := dt) htt
  walk_at "M steps"
  rename Fr _ _ _ _ => FN
  rename News _ _ _ _ => NN
  refine partsA_ (vt := vt) (X.keeps FN.keep) (TR.keeps FN.keep) ?_ ?_ (hTy.keeps FN.keep) (hty.keeps FN.keep) fun h8 tk8 a8 c8 n8 k8 ea ec na nc => ?_
  · walk_at "M lt"
  · walk_at "M lt"
  have F8 := Kp.frame FN k8
  have N8 := News.add FN (News.cons FN NN k8 ea na) ec nc
  have nea := ne_new NN na
  have nec := ne_new NN nc
  clear FN NN
  try dsimp only at N8
  walk_at "M steps"
  rename Fr _ _ _ _ => FN
  rename News _ _ _ _ => NN
  obtain ⟨rest', I', sub, se, mi, m2⟩ := close1 (way := .arr) (rest := rest) (dn := dn) (wt := wt) rfl X TT FN NN (by k_mem) (by k_mem) (by k_mem) ok ⟨n1, n2, n3⟩ (fun q hq => ⟨by walk_at "M sub", n4 q hq, n5 q hq, n6 q hq⟩) (by k_mem) (by k_mem) ⟨by k_ne, by k_ne, by k_ne⟩ ⟨by k_ne, by k_ne, by k_ne⟩ via lay hTt hvt hvT hlT hlt hwl rfl rfl rfl
  exact hq _ _ rest' _ _ vt vT [] I' sub se mi m2 hvt hvT
end

section
variable {prog : Program} {w : World} {p : Program} {loose : List Str} {mg mb : Str → Option Value} {dp un : Nat} {fr : Option (List Env)} {gd : Option (List Code)} {s : Shared} {h₀ h h' : Heap} {L : Addr} {m : Str → Option Value} {news : List (Addr × Obj)} {Q E : Value → Shared → Prop}
variable {mean : ExcName → Option Value} {tb0 : Array Value} {wv : Value} {L wt : Addr} {base : Heap} {l : List Env} {test : PySem.Expr} {body orelse : List Stmt} {env : Env} {R : Result → Shared → Prop} {tk dn it ta : Addr} {rest : List (Addr × Obj)} {ds ws : List Value}
theorem turn_layT (lp : LoopIs w.params 174 (.ref 173) L test body orelse env) (hdp : dp + 40 < recursionLimit) (hu : un + 300 < cLine)
    {h : Heap} {va : Addr} {dT dt : PyData} (I : Inv w p loose mean mg mb h₀ h L dn wt wv [] (ws ++ [.ref it]) rest) (hin : (it, tupO #[.bool false, .ref va, .ref ta, .none]) ∈ rest) (hTt : HD h₀ (.ref ta) (wT .tup dT)) (htt : HD h₀ (.ref va) (wTold false .tup dt)) (hlT : dT.canLay0 = true) (hlt : dt.canLay0 = true) (hwl : ws.length < 800)
    (hq : ∀ h' tk' rest' i1 i2 vt vT mid, Inv w p loose mean mg mb h₀ h' L dn wt wv [] (ws ++ [.ref i1] ++ mid ++ [.ref i2]) rest' → (∀ q ∈ rest, q ∈ rest') → Seen .tup rest' i1 ta → Mid .tup h₀ rest' mid → (i2, tupO #[.bool false, vt, vT, .none]) ∈ rest' → HD h₀ vt dt → HD h₀ vT dT → codeAny (model prog w) ((AA dp un (some l) gd).deeper env) (.whileLoop test body orelse env) R { s with heap := h', toks := tk' }) :
    codeAny (model prog w) ((AA dp un (some l) gd).deeper env) (.whileLoop test body orelse env) R { s with heap := h, toks := tk } := by
  revert hq
  obtain ⟨fd, b, e1, e2, e3, e4⟩ := lp
  cases e1
  cases e2
  cases e3
  subst e4
  intro hq
  obtain ⟨X, TT, ⟨m0, F⟩, ⟨nd, nw, tb, N, ok⟩, ⟨n1, n2, n3⟩, n4, n5, n6, ⟨dws, via, lay⟩, wl⟩ := I
  refine while_turn2 fun QT QB EB hTT hTF hBN hBR hEB hEO => ?_
  have N := News.dup N hin
  have a1 : @Ne Nat it dn := n4 _ hin
  have a2 : @Ne Nat it wt := n5 _ hin
  have a3 : @Ne Nat it 123 := n6 _ hin
  have wl' : ws.length < 899 := by
    rw [List.length_append] at wl
    exact Nat.lt_of_succ_lt_succ wl
  have TR := topRead_of TT
  try dsimp only
  try k_fold
  obtain ⟨t1, tb7, vT, bb, t2, t3, hTy, hTb, hvT, hbb⟩ := inv_tup hTt
  obtain ⟨vt, u7, hty, hvt⟩ := inv_l2 (dt := dt) htt
  walk_at "M steps"
  rename Fr _ _ _ _ => FN
  rename News _ _ _ _ => NN
  refine partsT_ (vt := vt) (t2 := t1) (X.keeps FN.keep) (TR.keeps FN.keep) ?_ ?_ (hTy.keeps FN.keep) (hTb.keeps FN.keep) (hty.keeps FN.keep) fun h8 tk8 a8 c8 n8 k8 ea ec na nc => ?_
  · walk_at "M lt"
  · walk_at "M lt"
  have F8 := Kp.frame FN k8
  have N8 := News.add FN (News.cons FN NN k8 ea na) ec nc
  have nea := ne_new NN na
  have nec := ne_new NN nc
  clear FN NN
  try dsimp only at N8
  walk_at "M steps"
  rename Fr _ _ _ _ => FN
  rename News _ _ _ _ => NN
  obtain ⟨rest', I', sub, se, mi, m2⟩ := close2 (way := .tup) (rest := rest) (dn := dn) (wt := wt) rfl X TT FN NN (by k_mem) (by k_mem) (by k_mem) ok ⟨n1, n2, n3⟩ (fun q hq => ⟨by walk_at "M sub", n4 q hq, n5 q hq, n6 q hq⟩) (by k_mem) (by k_mem) (by k_mem) ⟨by k_ne, by k_ne, by k_ne⟩ ⟨by k_ne, by k_ne, by k_ne⟩ ⟨by k_ne, by k_ne, by k_ne⟩ via lay hTt hvt hvT hbb (fun _ => HD.none) rfl (fun e => by cases e) hlT hlt hwl rfl rfl rfl
  exact hq _ _ rest' _ _ vt vT [_] I' sub se mi m2 hvt hvT
end

section
variable {prog : Program} {w : World} {p : Program} {loose : List Str} {mg mb : Str → Option Value} {dp un : Nat} {fr : Option (List Env)} {gd : Option (List Code)} {s : Shared} {h₀ h h' : Heap} {L : Addr} {m : Str → Option Value} {news : List (Addr × Obj)} {Q E : Value → Shared → Prop}
variable {mean : ExcName → Option Value} {tb0 : Array Value} {wv : Value} {L wt : Addr} {base : Heap} {l : List Env} {test : PySem.Expr} {body orelse : List Stmt} {env : Env} {R : Result → Shared → Prop} {tk dn it ta : Addr} {rest : List (Addr × Obj)} {ds ws : List Value}
theorem turn_layD (lp : LoopIs w.params 174 (.ref 173) L test body orelse env) (hdp : dp + 40 < recursionLimit) (hu : un + 300 < cLine)
    {h : Heap} {va wd : Addr} (hW : WorldAt prog w h₀ wd) {dT dt : PyData} (I : Inv w p loose mean mg mb h₀ h L dn wt (.ref wd) [] (ws ++ [.ref it]) rest) (hin : (it, tupO #[.bool false, .ref va, .ref ta, .none]) ∈ rest) (hTt : HD h₀ (.ref ta) (wT .adt dT)) (htt : HD h₀ (.ref va) (wTold false .adt dt)) (hlT : dT.canLay0 = true) (hlt : dt.canLay0 = true) (hwl : ws.length < 800)
    (hq : ∀ h' tk' rest' i1 i2 vt vT mid, Inv w p loose mean mg mb h₀ h' L dn wt (.ref wd) [] (ws ++ [.ref i1] ++ mid ++ [.ref i2]) rest' → (∀ q ∈ rest, q ∈ rest') → Seen .adt rest' i1 ta → Mid .adt h₀ rest' mid → (i2, tupO #[.bool false, vt, vT, .none]) ∈ rest' → HD h₀ vt dt → HD h₀ vT dT → codeAny (model prog w) ((AA dp un (some l) gd).deeper env) (.whileLoop test body orelse env) R { s with heap := h', toks := tk' }) :
    codeAny (model prog w) ((AA dp un (some l) gd).deeper env) (.whileLoop test body orelse env) R { s with heap := h, toks := tk } := by
  revert hq
  obtain ⟨fd, b, e1, e2, e3, e4⟩ := lp
  cases e1
  cases e2
  cases e3
  subst e4
  intro hq
  obtain ⟨X, TT, ⟨m0, F⟩, ⟨nd, nw, tb, N, ok⟩, ⟨n1, n2, n3⟩, n4, n5, n6, ⟨dws, via, lay⟩, wl⟩ := I
  refine while_turn2 fun QT QB EB hTT hTF hBN hBR hEB hEO => ?_
  have N := News.dup N hin
  have a1 : @Ne Nat it dn := n4 _ hin
  have a2 : @Ne Nat it wt := n5 _ hin
  have a3 : @Ne Nat it 123 := n6 _ hin
  have wl' : ws.length < 899 := by
    rw [List.length_append] at wl
    exact Nat.lt_of_succ_lt_succ wl
  have TR := topRead_of TT
  try dsimp only
  try k_fold
  obtain ⟨t1, t2, rg, ty, bb, vT, t3, t4, hTy, hrg, hTb, hvT, hbb⟩ := inv_adt hTt
  obtain ⟨u0, tp, vt, u7, hty, htp, hvt⟩ := inv_l3 (dt := dt) htt
  walk_at "M steps"
  rename Fr _ _ _ _ => FN
  rename News _ _ _ _ => NN
  have hm := NN.get (a := 123) (o := tabObj tb) (by k_mem)
  have hn : ∀ a ∈ ([123] : List Addr), h₀.get? a = none := fun a ha => by rw [List.mem_singleton.mp ha]; exact (NN _ (by k_mem : (123, tabObj tb) ∈ _)).2.2
  have hL : L ∉ ([123] : List Addr) := fun q => (NN _ (by k_mem : (123, tabObj tb) ∈ _)).2.1 (List.mem_singleton.mp q).symm
  have st := hid FN hn
  refine partsD_ (wd := wd) (vt1 := vt) (X.keeps st) (TT.keeps st) hm ok ?_ ?_ (hW.keeps st) (hTy.keeps st) (hrg.keeps st) (hTb.keeps st) (hty.keeps st) (htp.keeps st) fun a8 c8 n8 tb8 h8 tk8 k8 ea ec et ok8 na nc => ?_
  · walk_at "M lt"
  · walk_at "M lt"
  have F8 := Fr.after FN k8 hn hL
  have N8 := News.add FN (News.add FN (News.turn NN (g := fun o => _) (by k_updF) k8 et) ea na) ec nc
  have nea := ne_new NN na
  have nec := ne_new NN nc
  clear FN NN
  try dsimp only at N8
  walk_at "M steps"
  rename Fr _ _ _ _ => FN
  rename News _ _ _ _ => NN
  obtain ⟨rest', I', sub, se, mi, m2⟩ := close2 (way := .adt) (rest := rest) (dn := dn) (wt := wt) rfl X TT FN NN (by k_mem) (by k_mem) (by k_mem) ok8 ⟨n1, n2, n3⟩ (fun q hq => ⟨by walk_at "M sub", n4 q hq, n5 q hq, n6 q hq⟩) (by k_mem) (by k_mem) (by k_mem) ⟨by k_ne, by k_ne, by k_ne⟩ ⟨by k_ne, by k_ne, by k_ne⟩ ⟨by k_ne, by k_ne, by k_ne⟩ via lay hTt hvt hvT hbb (fun _ => HD.int) rfl (fun _ => ⟨_, rfl⟩) hlT hlt hwl rfl rfl rfl
  exact hq _ _ rest' _ _ vt vT [_] I' sub se mi m2 hvt hvT
end

section
variable {M : Model} {A : Around} {E : Value → Shared → Prop} {s : Shared} {base H : Heap} {env : Env} {outer l : List Env} {L e dx : Addr} {Q : Unit → Shared → Prop} {fl : Value} {P : Params} {k : Str}
theorem set_own (hf : env.frame = some L) (x : FlyD base l e dx fl s.heap) (h : ∀ h', FlyD base l e dx (rawInt L) h' → s.heap.UpToSlots h' → Q () { s with heap := h' }) : wpAny M A (setFlight (.ref e) env.frame) Q E s := by
  obtain ⟨hkb, hen, hl, vs, T, oT, ts, sl, he, h1, hnT, hTe, hT, hdT, h3⟩ := x
  rw [hf]
  have hsz3 : 3 < ts.size := (Array.getElem?_eq_some_iff.mp h3).1
  have other : ∀ b, b ≠ T → (s.heap.update T (Obj.mapFields (·.setIfInBounds 3 ((some L : Option Addr).elim Value.none fun f => rawInt f)))).get? b = s.heap.get? b := fun b hb => Heap.get?_update_other _ _ (Ne.symm hb)
  unfold setFlight
  refine wpAny_bind (wpAny_field he rfl h1 ?_)
  rw [if_pos (show (Value.ref T != Value.none) = true from by simp)]
  refine wpAny_setField hT hdT hsz3 (h _ ⟨fun b o hbo => (other b fun q => by rw [q, hnT] at hbo; cases hbo).trans (hkb b o hbo), hen, hl.of_keeps fun b o hb hnf => ⟨o, (other b fun q => ?_).trans hb, rfl⟩, vs, T, _, _, sl, (other e (Ne.symm hTe)).trans he, h1, hnT, hTe, Heap.get?_update_self _ hT (Obj.isFreed_of_fields (Obj.data_mapFields hdT _)), Obj.data_mapFields hdT _, by simp [hsz3]⟩ fun b o hb hnf => ⟨o.slots, (other b fun q => by rw [q, hT] at hb; injection hb with hb; subst hb; exact hnf ts hdT).trans hb⟩)
  rw [q, hT] at hb; injection hb with hb; subst hb; exact hnf ts hdT
theorem came_noted (hf : env.frame = some L) (x : Thrown P base H (env :: l) (rawInt L) e k s.heap)
    (hq : ∀ h', Thrown P base H (env :: l) (rawInt L) e k h' → E (.ref e) { s with heap := h' }) : cameBackBy M A env E (.ref e) s := by
  obtain ⟨dx, B, t1, v1, t2, v2, t3, t4, hu, hB, fd, hd'⟩ := x
  have fd' := fd
  obtain ⟨hkb, hen, hl, vs, T, oT, ts, sl, he, h1, hnT, hTe, hT, hdT, h3⟩ := fd'
  unfold cameBackBy
  refine wpAny_bind (wpAny_field he rfl h1 ?_)
  rw [if_neg (show ¬ ((Value.ref T == Value.none) = true) from by simp)]
  exact set_own hf fd fun h' y u => hq h' ⟨dx, B, t1, v1, t2, v2, t3, t4, hu.trans u, hB, y, hd'⟩
end
theorem reg42 : True := by
  (k_with "subscriptTail Name Constant ref int" => ((k_here; k_dflt (refine' item_NL ?F_q103 ?t_q103 ?a_q103 ?b_q103 ?v_q103 ?_ ?s_q103; (case F_q103 => k_asm); (case t_q103 => k_mem); (case a_q103 => decide); (case b_q103 => decide); (case v_q103 => exact rfl); (case s_q103 => with_unfolding_all rfl); k_whole))))
  exact True.intro
section
variable {prog : Program} {w : World} {p : Program} {loose : List Str} {mg mb : Str → Option Value} {dp un : Nat} {fr : Option (List Env)} {gd : Option (List Code)} {s : Shared} {h₀ h h' : Heap} {L : Addr} {m : Str → Option Value} {news : List (Addr × Obj)} {Q E : Value → Shared → Prop}
theorem came_notedT {M : Model} {A : Around} {E : Value → Shared → Prop} {s : Shared} {base H : Heap} {env : Env} {l : List Env} {L e : Addr} {P : Params} {k : Str} (hf : env.frame = some L) (x : ThrownT P base H (env :: l) (rawInt L) e k s.heap)
    (hq : ∀ h', ThrownT P base H (env :: l) (rawInt L) e k h' → E (.ref e) { s with heap := h' }) : cameBackBy M A env E (.ref e) s :=
  let ⟨b', tb, a1, a2, a3, x⟩ := x
  came_noted hf x fun h' y => hq h' ⟨b', tb, a1, a2, a3, y⟩
theorem value_ {mean : ExcName → Option Value} {wd : Addr} {vt vT : Value} {tb : Array Value} {T t : PyData} {k : Nat} (hk : k < 300)
    (X : (hd.heap_1 w.params).In (hideAll s.heap [123])) (TT : Top p loose mean mg mb (hideAll s.heap [123])) (h123 : s.heap.get? 123 = some (tabObj tb)) (ok : TabOk tb) (hdp : dp + 40 < recursionLimit) (hu : un + 300 < cLine)
    {base : Heap} {l : List Env} (hl : s.heap.FunFrames base l) (hkb : base.StaysIn (hideAll s.heap [123])) (hne : ∀ b ∈ l.filterMap (·.frame), @Ne Nat b 123)
    (hW : WorldAt prog w (hideAll s.heap [123]) wd) (hT : HD (hideAll s.heap [123]) vT T) (ht : HD (hideAll s.heap [123]) vt t)
    (O : (∃ m, Good k T t m ∧ ∀ h' tk' v tb', Kp [123] s.heap h' → HD h' v m → h'.get? 123 = some (tabObj tb') → TabOk tb' → Q v { s with heap := h', toks := tk' }) ∨
      (Bad k T t ∧ ∀ e h' tk', ThrownT w.params base (hideAll s.heap [123]) l .none e "kind" h' → E (.ref e) { s with heap := h', toks := tk' })) :
    wpAny (model prog w) (AA dp un (some l) gd) (call (.ref 174) [vt, vT, .ref wd]) Q E s := by
  have T₀ := topRead_of TT
  have T' : TopRead p loose mg mb s.heap := T₀.keeps fun b o e => of_hideAll _ e
  refine wpAny_call ?_
  k_dflt (refine' enterP (binds := [("told", vt), ("T", vT), ("world", .ref wd)]) [123] (fun b o e => of_hideAll _ (X b o e)) ?k2 ?k3 ?k6 ?k7 ?k9 ?kB ?_ ?c2 ?c3 ?c4 ?c5)
  walk_at "M enter"
  clear T'
  intro L h₁ hL F hkk
  have N := news_one (as := [123]) (.head _) hL h123 hkk
  have l0 : @LT.lt Nat _ 123 L := by rw [hL]; exact Heap.lt_size h123
  clear hkk
  try dsimp only
  try k_fold
  walk_at "M steps"
  rename_i dn _ l1 _ _ it _ l2 _ _ wtA _ l3 _ _ _ _ _ _ _ _ _ _ _ _ _ _ F N
  have lay : T.canLay0 = true ∧ t.canLay0 = true := by
    rcases O with ⟨m, g, _⟩ | ⟨g, _⟩
    · exact g.lay
    · exact g.lay
  have hl1 := frames_hid hl h123
  have hLn := none_L hkb F.above
  refine loop_any (s := s) (B := hideAll s.heap [123]) (L := L) (wt := wtA) (wv := .ref wd) (dn := dn) (it := it) (mean := mean) (mg := mg) (mb := mb) (p := p) (loose := loose) (vt := vt) (vT := vT) (T := T) (t := t) (rest := [(it, tupO #[.bool false, vt, vT, .none])]) (base := base) (l := l) ?S hk ?I (.head _) hT ht ?O
  case S =>
    clear O
    intro R
    have lp : LoopIs w.params 174 (.ref 173) L _ _ _ _ := ⟨_, _, rfl, rfl, rfl, rfl⟩
    refine ⟨?_, ?_, ?_, ?_, ?_⟩
    · intro h tk dn ds rest I hq
      exact turn_end lp hdp hu I hq
    · intro h tk dn ds ws rest it ta n u t1 t2 κ lo hi hds I hi hTt hκ hgood hbad
      exact turn_int lp hdp hu hl1 hkb hLn hne hds I hi hTt hκ hgood hbad
    · intro way h tk dn ws rest it va ta dT dt I hin hTt htt hlT hlt hwl hq
      cases way
      · exact turn_layB lp hdp hu I hin hTt htt hlT hlt hwl hq
      · exact turn_layT lp hdp hu I hin hTt htt hlT hlt hwl hq
      · exact turn_layA lp hdp hu I hin hTt htt hlT hlt hwl hq
      · exact turn_layD lp hdp hu hW I hin hTt htt hlT hlt hwl hq
    · intro way h tk dn ds ws rest i1 ta mv dT dm I hse hTt hds hmv hq
      exact turn_seen lp hdp hu I hse hTt hds hmv hq
    · intro way h tk dn ws rest it va ta dT I hi hTt hL hbad
      exact turn_bad lp hdp hu hl1 hkb hLn hne I hi hTt hL hbad
  case I =>
    refine ⟨X, TT, ⟨_, fr_norm F rfl rfl rfl⟩, ⟨0, 0, tb, fun q hq => ?_, ok⟩, ⟨by k_ne, by k_ne, by k_ne⟩, fun q hq => ?_, fun q hq => ?_, fun q hq => ?_, ⟨[.tuple [.bool false, t, T, .none]], fun h b r => ?_, ?_⟩, Nat.le_of_ble_eq_true rfl⟩
    · simp only [List.mem_cons, List.not_mem_nil, or_false] at hq
      rcases hq with rfl | rfl | rfl | rfl
      · exact N _ (by k_mem)
      · exact N _ (by k_mem)
      · exact N _ (by k_mem)
      · exact N _ (by k_mem)
    · rw [List.mem_singleton.mp hq]; k_ne
    · rw [List.mem_singleton.mp hq]; k_ne
    · rw [List.mem_singleton.mp hq]; k_ne
    · exact HDs.cons (HD.tuple (r _ (.head _)) rfl rfl (HDs.cons HD.bool (HDs.cons (ht.keeps b) (HDs.cons (hT.keeps b) (HDs.cons HD.none HDs.nil))))) HDs.nil
    · simp [PyData.canLay0, PyData.canLayAll0, lay.1, lay.2]
  case O =>
    rcases O with ⟨m, g, hq⟩ | ⟨g, hq⟩
    · refine .inl ⟨m, g, fun h' tk' dn' rest' mv I' via => ?_⟩
      have hm := I'.via via
      clear N F
      obtain ⟨_, _, ⟨m0, F⟩, ⟨nd, nw, tb', N, ok'⟩, _⟩ := I'
      replace N : News (hideAll s.heap [123]) L h' ((dn', listOf #[mv] nd) :: (wtA, wlist [] nw) :: (123, tabObj tb') :: rest') := N
      try dsimp only
      walk_at "M steps"
      all_goals exact hq _ _ _ _ (Kp.of_fr (by assumption)) hm (News.get (by assumption) (by k_mem)) ok'
    · refine .inr ⟨g, fun e h' tk' th => ?_⟩
      exact came_notedT rfl th fun h8 th8 => leave_notedT rfl th8 fun h9 th9 => hq _ _ _ th9
end

section
variable {prog : Program} {w : World} {p : Program} {loose : List Str} {mg mb : Str → Option Value} {dp un : Nat} {fr : Option (List Env)} {gd : Option (List Code)} {s : Shared} {h₀ h h' : Heap} {L : Addr} {m : Str → Option Value} {news : List (Addr × Obj)} {Q E : Value → Shared → Prop}
theorem wld_ (X : (hd.heap_1 w.params).In s.heap) (T : TopRead p loose mg mb s.heap) (hdp : dp + 5 < recursionLimit) (hu : un + 60 < cLine)
    (hret : ∀ a h' tk' (rest : List (Addr × Obj)), Kp [] s.heap h' → (∀ q ∈ rest, h'.get? q.1 = some q.2 ∧ s.heap.get? q.1 = none) → (∀ H : Heap, (∀ q ∈ rest, H.get? q.1 = some q.2) → WorldAt prog w H a) → Q (.ref a) { s with heap := h', toks := tk' }) :
    wpAny (model prog w) (AA dp un fr gd) (call (.ref 297) []) Q E s := by
  refine wpAny_call ?_
  k_dflt (refine' enterP (binds := []) [] X ?k2 ?k3 ?k6 ?k7 ?k9 ?kB ?_ ?c2 ?c3 ?c4 ?c5)
  walk_at "M enter"
  intro L h₁ hL F hk
  clear hk
  have X₀ : (hd.heap_1 w.params).In (hideAll s.heap []) := X
  have T₀ : TopRead p loose mg mb (hideAll s.heap []) := T
  have N : News (hideAll s.heap []) L h₁ [] := News.nil
  clear X T
  all_goals (try dsimp only)
  all_goals (try k_fold)
  all_goals walk_at "M steps"
  rename Fr _ _ _ _ => FN
  rename News _ _ _ _ => NN
  rename Obj.IsDictOf _ _ _ => DD
  refine hret _ _ _ _ (Kp.of_fr FN) (fun q hq => ⟨(NN q hq).1, (NN q hq).2.2⟩) (fun H r => ?_)
  refine' ⟨_, _, _, _, _, _, _, _, _, _, _, _, _, _, _, _, _, _, _, _, _, ⟨_, _, _, r (_, _) ?a1, r (_, _) ?a2, ?a3⟩, ⟨_, r (_, _) ?b1, DD⟩, ⟨_, _, _, r (_, _) ?c1, r (_, _) ?c2, ?c3⟩, ⟨_, _, _, r (_, _) ?d1, r (_, _) ?d2, ?d3⟩, ⟨_, _, _, r (_, _) ?e1, r (_, _) ?e2, ?e3⟩,
    ⟨_, r (_, tupO _) ?f1, rfl, _, rfl⟩, ⟨_, r (_, tupO _) ?f2, rfl, _, rfl⟩, ⟨_, r (_, listOf _ _) ?f3, rfl, _, rfl⟩, ⟨_, r (_, tupO _) ?f4, rfl, _, rfl⟩, ⟨_, r (_, listOf _ _) ?f5, rfl, _, rfl⟩, ⟨_, r (_, tupO _) ?f6, rfl, _, rfl⟩, ⟨_, r (_, tupO _) ?f7, rfl, _, rfl⟩, ⟨_, r (_, tupO _) ?f8, rfl, _, rfl⟩, ⟨_, r (_, tupO _) ?f9, rfl, _, rfl⟩⟩
  case a1 => k_mem
  case a2 => k_mem
  case a3 => exact rfl
  case b1 => k_mem
  case c1 => k_mem
  case c2 => k_mem
  case c3 => exact rfl
  case d1 => k_mem
  case d2 => k_mem
  case d3 => exact rfl
  case e1 => k_mem
  case e2 => k_mem
  case e3 => exact rfl
  case f1 => k_mem
  case f2 => k_mem
  case f3 => k_mem
  case f4 => k_mem
  case f5 => k_mem
  case f6 => k_mem
  case f7 => k_mem
  case f8 => k_mem
  case f9 => k_mem
end

section
variable {prog : Program} {w : World} {A : Around} {E : Value → Shared → Prop} {s : Shared} {K : Frag} {x C : Addr} {ox : Obj} {od : Option Obj} {name : Str} {expr : Bool} {Q : Value → Shared → Prop}
theorem attr_E {cd : ClassData} {v : Value} (X : K.In s.heap) (I : PySem.W.InstAt s.heap x ox C od) (hc : clsIn K C = some cd) (ne : cd.mro.isEmpty = false) (hsub : cd.mro.contains (.type "BaseException") = true)
  (hga : findIn K (.ref C) "__getattribute__" = some (some (.builtin "BaseException.__getattribute__"))) (hhk : findIn K (.ref C) "__getattr__" = some none) (hf : findObj K C od name = some (.value v)) (hh : handedIn v = true) (h : Q v { s with toks := s.toks + 1 }) :
  wpAny (model prog w) A (getAttr (.ref x) name expr) Q E s := by
  obtain ⟨hh', g, d, t, os⟩ := s
  have L0 := I.type (M := model prog w)
  have L1 := looks_findIn (M := model prog w) X hga
  have L2 := looks_findIn (M := model prog w) X hhk
  have L3 := looks_find (M := model prog w) X I hf
  have sub : Looks (model prog w) hh' (isInstance (.ref x) (.type "BaseException")) true := L0.andThen (looks_mroIn X (by unfold mroIn; rw [hc, Option.bind_some, if_neg (by rw [ne]; decide), hsub]))
  have hk : builtinKind "BaseException.__getattribute__" = some .slot := by decide +kernel
  have hsplit : splitId "BaseException.__getattribute__" = some ("BaseException", "__getattribute__") := by decide +kernel
  have f3 := PySem.F.attr_Exception.ga.bind (.ref x)
  unfold getAttr getAttrBy
  refine wpAny_bind (wpAny_mkText (wpAny_holding (wpAny_bind (L0.at (wpAny_bind (L1.at ?_))))))
  show wpAny _ _ (if onTheHeap (.ref C) && (Value.builtin "BaseException.__getattribute__" == .builtin "object.__getattribute__") then _ else getAttrByItsOwn _ _ _ _ _ _) _ _ _
  rw [show (Value.builtin "BaseException.__getattribute__" == Value.builtin "object.__getattribute__") = false from by decide +kernel, Bool.and_false, if_neg Bool.false_ne_true]
  unfold getAttrByItsOwn
  refine wpAny_bind ?_
  show wpAny _ _ (typeLookup (.ref C) "__getattr__") _ _ _
  refine L2.at ?_
  refine wpAny_bind (wpAny_attempt (wpAny_holding ?_))
  unfold callGetattribute
  rw [if_neg (by cases expr <;> decide +kernel)]
  unfold boundAndCalled
  refine wpAny_bind ?_
  rw [f3]
  refine wpAny_pure ?_
  show wpAny _ _ (call (.builtin "BaseException.__getattribute__") [.ref x, .str name t]) _ _ _
  refine wpAny_call (codeAny_call_builtin PySem.F.attr_Exception.ga.plain PySem.F.entry_bexc_ga (@check_slot (model prog w) _ _ ⟨hh', g, d, t+1, os⟩ "BaseException.__getattribute__" "BaseException" "__getattribute__" (.ref x) [.str name t] [] _ hk hsplit sub (PySem.F.args_bexc_ga _ _) ?_))
  unfold Builtin.«object.__getattribute__»
  refine wpAny_bind (wpAny_pure (wpAny_bind (wpAny_pure (wpAny_bind (L0.at (wpAny_bind (L3.at ?_)))))))
  refine wpAny_pure ?_
  show wpAny _ _ (handedOut v) _ _ _
  rw [handedOut_of hh]; exact wpAny_pure h
end
theorem frames_rest {base h : Heap} {l : List Env} (FF : h.FunFrames base l) : ∃ rest : List (Addr × Obj), (∀ q ∈ rest, h.get? q.1 = some q.2 ∧ base.get? q.1 = none ∧ q.1 ∈ l.filterMap (·.frame)) ∧ ∀ a ∈ l.filterMap (·.frame), ∃ o, (a, o) ∈ rest := by
  refine ⟨(l.filterMap (·.frame)).filterMap fun a => (h.get? a).map fun o => (a, o), fun q hq => ?_, fun a ha => ?_⟩
  · obtain ⟨a, ha, e⟩ := List.mem_filterMap.mp hq
    obtain ⟨o, ho, rfl⟩ := Option.map_eq_some_iff.mp e
    exact ⟨ho, (FF.mem ha).1, ha⟩
  · obtain ⟨_, o, ho, _⟩ := FF.mem ha
    exact ⟨o, List.mem_filterMap.mpr ⟨a, ha, by rw [ho]; rfl⟩⟩
abbrev faultO (dx : Addr) (vs : Array Value) (sl : Array (Option Value)) : Obj := ⟨.ref 59, some dx, .fields vs, sl⟩
abbrev faultD (P : Params) (t1 t2 t3 t4 : Tok) (v1 v2 : Value) (k : Str) : Obj := dictOf [⟨PyData.keyHash P (Str.ofString "message"), .str (Str.ofString "message") t1, v1⟩, ⟨PyData.keyHash P (Str.ofString "spot"), .str (Str.ofString "spot") t2, v2⟩, ⟨PyData.keyHash P (Str.ofString "kind"), .str (Str.ofString "kind") t3, .str k t4⟩] 3
section
variable {prog : Program} {w : World} {p : Program} {loose : List Str} {mg mb : Str → Option Value} {dp un : Nat} {fr : Option (List Env)} {gd : Option (List Code)} {s : Shared} {h₀ h h' : Heap} {L : Addr} {m : Str → Option Value} {news : List (Addr × Obj)} {Q E : Value → Shared → Prop}
theorem attr_EL {A : Around} {P : Params} {x dx : Addr} {vs : Array Value} {sl : Array (Option Value)} {t1 t2 t3 t4 : Tok} {v1 v2 : Value} {k : Str} {expr : Bool} (F : Fr h₀ L s.heap m) (X : (hd.heap_1 w.params).In h₀) (N : News h₀ L s.heap news) (h1 : (x, faultO dx vs sl) ∈ news) (h2 : (dx, faultD P t1 t2 t3 t4 v1 v2 k) ∈ news)
    (h : Q (.str k t4) { s with toks := s.toks + 1 }) : wpAny (model prog w) A (getAttr (.ref x) "kind" expr) Q E s :=
  attr_E (K := hd.heap_1 w.params) (C := 59) (X.keeps F.keep) (od := some (faultD P t1 t2 t3 t4 v1 v2 k)) ⟨(N _ h1).1, rfl, rfl, (N _ h2).1⟩ rfl rfl (by kernel_rfl) (by kernel_rfl) (by kernel_rfl) (findObj_own (attr := none) (by kernel_rfl) (by kernel_rfl) (by kernel_rfl) (by rw [lookIn_dict]; kernel_rfl)) rfl h
/-- a MachineFault is caught by name; what stood stands, the callers' frames up to slots -/
theorem caughtX {A : Around} {env : Env} {P : Params} {H HU : Heap} {l : List Env} {name : Str} {scope : Scope} {a e : Addr} {cd : Value} {cl : List (Str × Addr)} {fl : Value} {kk n : Str} {b₀ : Stmt} {suite : List Stmt} {pos np : Pos} {rest : List ExceptHandler} {Q : Flow → Shared → Prop}
    (henv : env = envX name scope L a cd cl) (X : (hd.heap_1 w.params).In h₀) (T : TopRead p loose mg mb h₀) (FH : Fr h₀ L H m) {b' : Heap} (a1 : h₀.StaysIn b') (th : Thrown P b' H (env :: l) fl e kk s.heap)
    {ex : List (Addr × Obj)} (hex : ∀ q ∈ ex, b'.get? q.1 = some q.2 ∧ h₀.get? q.1 = none) (hLl : ∀ a ∈ l.filterMap (·.frame), @Ne Nat a L) (hHU : HU.UpToSlots H) (hsp : ∀ b o, HU.get? b = some o → b ∈ l.filterMap (·.frame) ∨ h₀.get? b = some o)
    (k : ∀ h' tk' dx vs sl t1 t2 t3 t4 v1 v2 rest, Fr h₀ L h' (fun y => if y = n then some (.ref e) else m y) → News h₀ L h' ((e, faultO dx vs sl) :: (dx, faultD P t1 t2 t3 t4 v1 v2 kk) :: (ex ++ rest)) →
      (∀ hz : Heap, h₀.StaysIn hz → (∀ q ∈ rest, hz.get? q.1 = some q.2) → HU.UpToSlots hz) →
      wpAny (model prog w) (A.mark (some (.ref e))) (execs (b₀ :: suite) env)
        (fun f s₄ => wpAny (model prog w) A (do bindName env n .none; unbindBehindTheSuite env n pos) (fun _ s₅ => Q f s₅) E s₄)
        (AsSuiteRaised (model prog w) (A.mark (some (.ref e))) env n pos (notedBy (model prog w) (A.mark (some (.ref e))) env (cameBackBy (model prog w) A env E)))
        { s with heap := h', toks := tk' })
    (hk : scope.kind = .function := by rfl) (hlo : env.kindOf n = some .local := by rfl) (hx : env.kindOf "MachineFault" = some .globalImplicit := by rfl) :
    wpAny (model prog w) A (setFlight (.ref e) none) (fun _ s₃ =>
        wpAny (model prog w) A (handleBy (.ref e) env (.ExceptHandler (some (.Name "MachineFault" np)) (some n) (b₀ :: suite) pos :: rest)) Q E s₃) E s := by
  subst henv
  refine flight_thrown th fun h5 th5 => ?_
  obtain ⟨dx, B, t1, v1, t2, v2, t3, t4, hu, hB, fd, hd', hdn⟩ := th5
  have F5 : Fr h₀ L h5 m := Fr.of_stays FH (fun b o q => fd.1 b o (hB _ _ (a1 _ _ q))) hu
  have fd' := fd
  obtain ⟨hkb, hen, hl, vs, T5, oT, ts, sl, he, _⟩ := fd'
  have hBL : B.get? L = none := (hl.mem (List.mem_filterMap.mpr ⟨_, .head _, rfl⟩)).1
  refine wpAny_handleBy_cons (codeAny_handlers_test (nameX_K F5 X T (by k_is) ?_ hk hx (by decide))) (by intro q; cases q)
  have C59 := (X.keeps F5.keep) 59 _ rfl
  refine wpAny_excMatches_sub_self (bm := [.ref 39, .type "Exception", .type "BaseException", .type "object"]) C59 he rfl (by decide +kernel) (codeAny_handlers_suite_as ?_)
  refine set_flight fd fun h6 fd6 u6 => ?_
  have k6 : h₀.StaysIn h6 := fun b o q => fd6.1 b o (hB _ _ (a1 _ _ q))
  have F6 : Fr h₀ L h6 m := Fr.of_stays F5 k6 u6
  obtain ⟨hkb6, hen6, hl6, vs6, T6, oT6, ts6, sl6, he6, _⟩ := fd6
  obtain ⟨rs, r1, r2⟩ := frames_rest hl6.2.2
  have neB : ∀ {b o}, B.get? b = some o → @Ne Nat b L := fun e q => by rw [q, hBL] at e; cases e
  have N6 : News h₀ L h6 ((e, faultO dx vs6 sl6) :: (dx, faultD P t1 t2 t3 t4 v1 v2 kk) :: (ex ++ rs)) := by
    intro q hq
    rcases List.mem_cons.mp hq with rfl | hq
    · refine ⟨he6, fun z => ?_, fresh_of_stays (fun b o q => hB _ _ (a1 _ _ q)) hen6⟩
      obtain ⟨oL, es, ep, hL, hLd, _⟩ := F6.ns
      rw [← z, he6] at hL
      cases hL; cases hLd
    rcases List.mem_cons.mp hq with rfl | hq
    · exact ⟨hkb6 _ _ hd', neB hd', fresh_of_stays a1 hdn⟩
    rcases List.mem_append.mp hq with hq | hq
    · exact ⟨hkb6 _ _ (hB _ _ (hex q hq).1), neB (hB _ _ (hex q hq).1), (hex q hq).2⟩
    · exact ⟨(r1 q hq).1, hLl _ (r1 q hq).2.2, fresh_of_stays (fun b o q => hB _ _ (a1 _ _ q)) (r1 q hq).2.1⟩
  refine storeX_L F6 N6 (fun h7 F7 N7 => ?_) hk hlo
  refine k h7 _ _ _ _ _ _ _ _ _ _ _ F7 N7 fun hz kz rz b o e1 e2 => ?_
  rcases hsp b o e1 with hf | e3
  · obtain ⟨o6, hm⟩ := r2 b hf
    obtain ⟨slx, e6⟩ := (hHU.trans (hu.trans u6)) b o e1 e2
    refine ⟨slx, ?_⟩
    rw [rz _ hm, ← e6]
    exact ((r1 _ hm).1).symm
  · exact ⟨o.slots, kz _ _ e3⟩
theorem goesX {A : Around} {env : Env} {n : Str} {pos : Pos} {Q : Unit → Shared → Prop} (F : Fr h₀ env.locals s.heap m) (N : News h₀ env.locals s.heap news)
    (h : ∀ h' v, Fr h₀ env.locals h' (fun x => if x = n then v else m x) → News h₀ env.locals h' news → Q () { s with heap := h', toks := s.toks + 1 })
    (hk : env.scope.kind = .function := by rfl) (hl : env.kindOf n = some .local := by rfl) :
    wpAny (model prog w) A (do bindName env n .none; unbindBehindTheSuite env n pos) Q E s :=
  wpAny_nameGoes_keeps hl F.ns (by rw [hk]; rfl) fun h' v hn hs => h h' v (F.set hn hs) (N.set hs)
end
theorem reg43 : True := by
  (k_with "bind" => ((k_here; (with_reducible show wpAny _ _ (do bindName _ _ Value.none; unbindBehindTheSuite _ _ _) _ _ _); k_dflt (refine goesX (by assumption) (by assumption) ?_); intro h9 v9 F9 N9)))
  (k_with "getAttr ref" => ((k_here; (with_reducible show wpAny _ _ (getAttr (Value.ref _) "kind" _) _ _ _); (k_dflt (refine' attr_EL ?F_q105 ?X_q105 ?N_q105 ?a_q105 ?b_q105 ?_; (case F_q105 => k_asm); (case X_q105 => k_asm); (case N_q105 => k_asm); (case a_q105 => k_mem); (case b_q105 => k_mem); k_whole)))))
  exact True.intro
section
variable {prog : Program} {w : World} {p : Program} {loose : List Str} {mg mb : Str → Option Value} {dp un : Nat} {fr : Option (List Env)} {gd : Option (List Code)} {s : Shared} {h₀ h h' : Heap} {L : Addr} {m : Str → Option Value} {news : List (Addr × Obj)} {Q E : Value → Shared → Prop}
theorem found_ {mean : ExcName → Option Value} {wd : Addr} {vt vT : Value} {tb : Array Value} {T t : PyData} {k : Nat} (hk : k < 300)
    {l : List Env} (hfl : ∀ a ∈ l.filterMap (·.frame), @Ne Nat a 123)
    (X : (hd.heap_1 w.params).In (hideAll s.heap (123 :: l.filterMap (·.frame)))) (TT : Top p loose mean mg mb (hideAll s.heap (123 :: l.filterMap (·.frame)))) (h123 : s.heap.get? 123 = some (tabObj tb)) (ok : TabOk tb) (hdp : dp + 45 < recursionLimit) (hu : un + 320 < cLine)
    (hl : s.heap.FunFrames (hideAll s.heap (123 :: l.filterMap (·.frame))) l)
    (hW : WorldAt prog w (hideAll s.heap (123 :: l.filterMap (·.frame))) wd) (hT : HD (hideAll s.heap (123 :: l.filterMap (·.frame))) vT T) (ht : HD (hideAll s.heap (123 :: l.filterMap (·.frame))) vt t)
    (O : (∃ m, Good k T t m ∧ ∀ h' tk' v tb', Kp [123] s.heap h' → HD h' v m → h'.get? 123 = some (tabObj tb') → TabOk tb' → Q v { s with heap := h', toks := tk' }) ∨
      (Bad k T t ∧ ∀ h' tk' tb', Kp (123 :: l.filterMap (·.frame)) s.heap h' → (hideAll s.heap [123]).UpToSlots h' → h'.get? 123 = some (tabObj tb') → TabOk tb' → Q .none { s with heap := h', toks := tk' })) :
    wpAny (model prog w) (AA dp un (some l) gd) (call (.ref 318) [vt, vT, .ref wd]) Q E s := by
  have T₀ := topRead_of TT
  have T' : TopRead p loose mg mb s.heap := T₀.keeps fun b o e => of_hideAll _ e
  refine wpAny_call ?_
  k_dflt (refine' enterP (binds := [("told", vt), ("T", vT), ("world", .ref wd)]) (123 :: l.filterMap (·.frame)) (fun b o e => of_hideAll _ (X b o e)) ?k2 ?k3 ?k6 ?k7 ?k9 ?kB ?_ ?c2 ?c3 ?c4 ?c5)
  walk_at "M enter"
  clear T'
  intro L h₁ hL F hkk
  have N := news_one (as := 123 :: l.filterMap (·.frame)) (.head _) hL h123 hkk
  have l0 : @LT.lt Nat _ 123 L := by rw [hL]; exact Heap.lt_size h123
  try dsimp only
  try k_fold
  walk_at "M steps"
  have hn : ∀ a ∈ ([123] : List Addr), (hideAll s.heap (123 :: l.filterMap (·.frame))).get? a = none := fun a ha => by
    rw [List.mem_singleton.mp ha]; exact hideAll_none _ (.head _)
  have st := hid F hn
  have X₀ := X
  have hLn := none_L (fun _ _ e => e) F.above
  refine value_ hk (X.keeps st) (TT.keeps st) (N.get (.head _)) ok ?_ ?_ (.cons (fun q => nomatch q) rfl F.ns hLn (hl.of_keeps fun b o e _ => ⟨o, hkk b o e, rfl⟩)) st (ne_cons rfl (Nat.ne_of_gt l0) hfl) (hW.keeps st) (hT.keeps st) (ht.keeps st) ?_
  · walk_at "M lt"
  · walk_at "M lt"
  rcases O with ⟨m, g, hq⟩ | ⟨g, hq⟩
  · refine .inl ⟨m, g, fun h' tk' v tb' k hd e ok' => ?_⟩
    exact hq _ _ _ _ (fun b o q hn => k b o (hkk b o q) hn) hd e ok'
  · refine .inr ⟨g, fun e h' tk' th => ?_⟩
    refine note_thrownT rfl rfl th fun h8 th8 => ?_
    have FH : Fr (hideAll s.heap (123 :: l.filterMap (·.frame))) L (hideAll h₁ [123]) _ := ⟨(let ⟨oL, a1, a2, eL, a3⟩ := F.ns; ⟨oL, a1, a2, hideAll_get [123] eL (fun q => absurd (List.mem_singleton.mp q) (Nat.ne_of_gt l0)), a3⟩), st, F.above⟩
    obtain ⟨b', tb', a1, ok', a3, th9⟩ := th8
    refine caughtX rfl (HU := hideAll s.heap [123]) (ex := [(123, tabObj tb')]) X T₀ FH a1 th9 (fun q hq => by rw [List.mem_singleton.mp hq]; exact ⟨a3, hideAll_none _ (.head _)⟩) (fun a ha => ?_) (Heap.UpToSlots.of_keeps fun b o q => ?_) (fun b o q => ?_) fun h' tk' dx vs sl t1 t2 t3 t4 v1 v2 rest F' N' up => ?_
    · obtain ⟨_, o, ho, _⟩ := hl.mem ha
      rw [hL]; exact Nat.ne_of_lt (Heap.lt_size ho)
    · by_cases z : b = 123
      · rw [z, hideAll_none _ (.head _)] at q; cases q
      · exact hideAll_get [123] (hkk _ _ (of_hideAll _ q)) fun hm => z (List.mem_singleton.mp hm)
    · by_cases z : b ∈ l.filterMap (·.frame)
      · exact .inl z
      · refine .inr (hideAll_get _ (of_hideAll _ q) fun hm => ?_)
        rcases List.mem_cons.mp hm with rfl | hm
        · rw [hideAll_none _ (.head _)] at q; cases q
        · exact z hm
    · clear F N th th9 FH hn st X₀
      simp only [List.cons_append, List.nil_append] at N'
      try dsimp only
      try k_fold
      walk_at "M steps"
      rename Fr _ _ _ _ => FN
      rename News _ _ _ _ => NN
      exact hq _ _ _ (Kp.of_fr FN) (up _ FN.keep fun q hq' => (NN q (by walk_at "M sub")).1) (NN.get (by k_mem)) ok'
end

section
variable {prog : Program} {w : World} {p : Program} {loose : List Str} {mg mb : Str → Option Value} {dp un : Nat} {fr : Option (List Env)} {gd : Option (List Code)} {s : Shared} {h₀ h h' : Heap} {L : Addr} {m : Str → Option Value} {news : List (Addr × Obj)} {Q E : Value → Shared → Prop}
theorem ptT_ {ta tb : Addr} {vT vT2 vr wv : Value} {t1 : Tok} (X : (hd.heap_1 w.params).In s.heap) (T : TopRead p loose mg mb s.heap) (hdp : dp + 20 < recursionLimit) (hu : un + 200 < cLine)
    (hT : IsTup s.heap ta #[.str "tuple" t1, .ref tb]) (hTT : IsTup s.heap tb #[vT, vT2])
    (hret : ∀ h' tk' c n, Kp [] s.heap h' → h'.get? c = some (listOf #[vT, vT2] n) → s.heap.get? c = none → Q (.ref c) { s with heap := h', toks := tk' }) :
    wpAny (model prog w) (AA dp un fr gd) (call (.ref 184) [.ref ta, vr, wv]) Q E s := by
  have hT₀ : IsTup (hideAll s.heap []) ta #[.str "tuple" t1, .ref tb] := hT
  have hT₁ : IsTup (hideAll s.heap []) tb #[vT, vT2] := hTT
  refine wpAny_call ?_
  k_dflt (refine' enterP (binds := [("t", .ref ta), ("variant", vr), ("world", wv)]) [] X ?k2 ?k3 ?k6 ?k7 ?k9 ?kB ?_ ?c2 ?c3 ?c4 ?c5)
  walk_at "M enter"
  intro L h₁ hL F hk
  clear hk
  have X₀ : (hd.heap_1 w.params).In (hideAll s.heap []) := X
  have T₀ : TopRead p loose mg mb (hideAll s.heap []) := T
  have N : News (hideAll s.heap []) L h₁ [] := News.nil
  clear X T
  clear hT hTT
  all_goals (try dsimp only)
  all_goals (try k_fold)
  all_goals walk_at "M steps"
  all_goals exact hret _ _ _ _ (Kp.of_fr (by assumption)) (News.get (by assumption) (.head _)) (News.fresh (h₀ := hideAll s.heap []) (by assumption) (.head _))
theorem ptA_ {ta : Addr} {vT vr wv : Value} {t1 t2 : Tok} (X : (hd.heap_1 w.params).In s.heap) (T : TopRead p loose mg mb s.heap) (hdp : dp + 20 < recursionLimit) (hu : un + 200 < cLine)
    (hT : IsTup s.heap ta #[.str "array" t1, vT, .int 1 t2])
    (hret : ∀ h' tk' c n, Kp [] s.heap h' → h'.get? c = some (listOf #[vT] n) → s.heap.get? c = none → Q (.ref c) { s with heap := h', toks := tk' }) :
    wpAny (model prog w) (AA dp un fr gd) (call (.ref 184) [.ref ta, vr, wv]) Q E s := by
  have hT₀ : IsTup (hideAll s.heap []) ta #[.str "array" t1, vT, .int 1 t2] := hT
  refine wpAny_call ?_
  k_dflt (refine' enterP (binds := [("t", .ref ta), ("variant", vr), ("world", wv)]) [] X ?k2 ?k3 ?k6 ?k7 ?k9 ?kB ?_ ?c2 ?c3 ?c4 ?c5)
  walk_at "M enter"
  intro L h₁ hL F hk
  clear hk
  have X₀ : (hd.heap_1 w.params).In (hideAll s.heap []) := X
  have T₀ : TopRead p loose mg mb (hideAll s.heap []) := T
  have N : News (hideAll s.heap []) L h₁ [] := News.nil
  clear X T
  clear hT
  all_goals (try dsimp only)
  all_goals (try k_fold)
  all_goals walk_at "M steps"
  all_goals exact hret _ _ _ _ (Kp.of_fr (by assumption)) (News.get (by assumption) (.head _)) (News.fresh (h₀ := hideAll s.heap []) (by assumption) (.head _))
theorem ptD_ {mean : ExcName → Option Value} {ta rg ty bb wd : Addr} {vT : Value} {t1 t2 u0 : Tok} {tb : Array Value} (X : (hd.heap_1 w.params).In (hideAll s.heap [123])) (TT : Top p loose mean mg mb (hideAll s.heap [123])) (h123 : s.heap.get? 123 = some (tabObj tb)) (ok : TabOk tb) (hdp : dp + 30 < recursionLimit) (hu : un + 250 < cLine)
    (hW : WorldAt prog w (hideAll s.heap [123]) wd) (hT : IsTup (hideAll s.heap [123]) ta #[.str "adt" t1, .str "P" t2, .ref rg, .ref ty]) (hrg : IsTup (hideAll s.heap [123]) rg #[]) (hty : IsTup (hideAll s.heap [123]) ty #[.ref bb, vT])
    (hret : ∀ c n tb' h' tk', Kp [123] s.heap h' → h'.get? c = some (listOf #[vT, .ref bb] n) → h'.get? 123 = some (tabObj tb') → TabOk tb' → s.heap.get? c = none → Q (.ref c) { s with heap := h', toks := tk' }) :
    wpAny (model prog w) (AA dp un fr gd) (call (.ref 184) [.ref ta, .int 0 u0, .ref wd]) Q E s := by
  have T₀ := topRead_of TT
  have T' : TopRead p loose mg mb s.heap := T₀.keeps fun b o e => of_hideAll _ e
  refine wpAny_call ?_
  k_dflt (refine' enterP (binds := [("t", .ref ta), ("variant", .int 0 u0), ("world", .ref wd)]) [123] (fun b o e => of_hideAll _ (X b o e)) ?k2 ?k3 ?k6 ?k7 ?k9 ?kB ?_ ?c2 ?c3 ?c4 ?c5)
  walk_at "M enter"
  clear T'
  intro L h₁ hL F hk
  have N := news_one (as := [123]) (.head _) hL h123 hk
  have l0 : @LT.lt Nat _ 123 L := by rw [hL]; exact Heap.lt_size h123
  clear hk hL
  all_goals (try dsimp only)
  all_goals (try k_fold)
  all_goals walk_at "M steps"
  all_goals
    rename Fr _ _ _ _ => FN
    rename News _ _ _ _ => NN
    exact hret _ _ _ _ _ (Kp.of_fr FN) (News.get NN (.head _)) (News.get NN (by k_mem)) (by assumption) (fresh_h (News.fresh (h₀ := hideAll s.heap [123]) NN (.head _)) (by k_ne))
end

theorem reg44 : True := by
  (k_with "eval ListComp" => ((k_here; (with_reducible show wpAny _ _ (eval (Expr.ListComp _ [⟨_, Expr.Call (Expr.Name (Str.ofString "range") _) _ _ _, _, _⟩] _ _) _) _ _ _); k_dflt (refine LCg.ListComp_U (F₀ := by k_asm) (by with_unfolding_all rfl) (by decide) (by rfl) (by decide) (by rfl) ?_); k_dflt lcg_toSrc)))
  (k_with "CompSrc" => ((k_here; k_dflt (refine LCg.CompSrc.range (by rfl) (by k_asm) (by k_asm) (by assumption) (by first | decide | rfl) (by first | rfl | decide) (by first | size_fits | exact Nat.le_of_ble_eq_true rfl) ?_; intro g9; lcg_lit))))
  exact True.intro
section
variable {prog : Program} {w : World} {p : Program} {loose : List Str} {mg mb : Str → Option Value} {dp un : Nat} {fr : Option (List Env)} {gd : Option (List Code)} {s : Shared} {h₀ h h' : Heap} {L : Addr} {m : Str → Option Value} {news : List (Addr × Obj)} {Q E : Value → Shared → Prop}
theorem pairT_ {ta tb va : Addr} {vT vT2 vt vt2 wv : Value} {t1 : Tok} (X : (hd.heap_1 w.params).In s.heap) (T : TopRead p loose mg mb s.heap) (hdp : dp + 30 < recursionLimit) (hu : un + 250 < cLine)
    (hT : IsTup s.heap ta #[.str "tuple" t1, .ref tb]) (hTT : IsTup s.heap tb #[vT, vT2]) (ht : IsTup s.heap va #[vt, vt2])
    (hret : ∀ h' tk' a n i1 i2, Kp [] s.heap h' → h'.get? a = some (listOf #[.ref i1, .ref i2] n) → h'.get? i1 = some (tupO #[vT, vt]) → h'.get? i2 = some (tupO #[vT2, vt2]) → s.heap.get? a = none → s.heap.get? i1 = none → s.heap.get? i2 = none → Q (.ref a) { s with heap := h', toks := tk' }) :
    wpAny (model prog w) (AA dp un fr gd) (call (.ref 203) [.ref ta, .none, .ref va, wv]) Q E s := by
  have hT₀ : IsTup (hideAll s.heap []) ta #[.str "tuple" t1, .ref tb] := hT
  have hT₁ : IsTup (hideAll s.heap []) tb #[vT, vT2] := hTT
  have ht₀ : IsTup (hideAll s.heap []) va #[vt, vt2] := ht
  refine wpAny_call ?_
  k_dflt (refine' enterPC (binds := [("t", .ref ta), ("variant", .none), ("values", .ref va), ("world", wv)]) [] X ?k2 ?k3 ?k6 ?k7 ?k9 ?kB ?kD ?_ ?c2 ?c3 ?c4)
  walk_at "M enterC"
  intro L h₁ tk cells hL F hk N Y
  clear hk hL
  have X₀ : (hd.heap_1 w.params).In (hideAll s.heap []) := X
  have T₀ : TopRead p loose mg mb (hideAll s.heap []) := T
  clear X T hT hTT ht
  k_cells Y
  all_goals (try dsimp only)
  all_goals (try k_fold)
  all_goals walk_at "M steps"
  rename Fr _ _ _ _ => FN
  rename News _ _ _ _ => NN
  refine ptT_ (X₀.keeps FN.keep) (T₀.keeps FN.keep) ?_ ?_ (hT₀.keeps FN.keep) (hT₁.keeps FN.keep) fun h8 tk8 c8 n8 k8 e8 f8 => ?_
  · walk_at "M lt"
  · walk_at "M lt"
  have F8 := Kp.frame FN k8
  have N8 := News.cons FN NN k8 e8 f8
  have ne8 := ne_new NN f8
  clear FN NN
  try dsimp only at N8
  walk_at "M steps"
  rename Fr _ _ _ _ => FN
  rename News _ _ _ _ => NN
  exact hret _ _ _ _ _ _ (Kp.of_fr FN) (NN.get (.head _)) (NN.get (by k_mem)) (NN.get (by k_mem)) (News.fresh (h₀ := hideAll s.heap []) NN (.head _)) (News.fresh (h₀ := hideAll s.heap []) NN (.tail _ (.tail _ (.head _)))) (News.fresh (h₀ := hideAll s.heap []) NN (.tail _ (.head _)))
theorem pairA_ {ta va : Addr} {vT vt wv : Value} {t1 t2 : Tok} (X : (hd.heap_1 w.params).In s.heap) (T : TopRead p loose mg mb s.heap) (hdp : dp + 30 < recursionLimit) (hu : un + 250 < cLine)
    (hT : IsTup s.heap ta #[.str "array" t1, vT, .int 1 t2]) (ht : IsTup s.heap va #[vt])
    (hret : ∀ h' tk' a n i1, Kp [] s.heap h' → h'.get? a = some (listOf #[.ref i1] n) → h'.get? i1 = some (tupO #[vT, vt]) → s.heap.get? a = none → s.heap.get? i1 = none → Q (.ref a) { s with heap := h', toks := tk' }) :
    wpAny (model prog w) (AA dp un fr gd) (call (.ref 203) [.ref ta, .none, .ref va, wv]) Q E s := by
  have hT₀ : IsTup (hideAll s.heap []) ta #[.str "array" t1, vT, .int 1 t2] := hT
  have ht₀ : IsTup (hideAll s.heap []) va #[vt] := ht
  refine wpAny_call ?_
  k_dflt (refine' enterPC (binds := [("t", .ref ta), ("variant", .none), ("values", .ref va), ("world", wv)]) [] X ?k2 ?k3 ?k6 ?k7 ?k9 ?kB ?kD ?_ ?c2 ?c3 ?c4)
  walk_at "M enterC"
  intro L h₁ tk cells hL F hk N Y
  clear hk hL
  have X₀ : (hd.heap_1 w.params).In (hideAll s.heap []) := X
  have T₀ : TopRead p loose mg mb (hideAll s.heap []) := T
  clear X T hT ht
  k_cells Y
  all_goals (try dsimp only)
  all_goals (try k_fold)
  all_goals walk_at "M steps"
  rename Fr _ _ _ _ => FN
  rename News _ _ _ _ => NN
  refine ptA_ (X₀.keeps FN.keep) (T₀.keeps FN.keep) ?_ ?_ (hT₀.keeps FN.keep) fun h8 tk8 c8 n8 k8 e8 f8 => ?_
  · walk_at "M lt"
  · walk_at "M lt"
  have F8 := Kp.frame FN k8
  have N8 := News.cons FN NN k8 e8 f8
  have ne8 := ne_new NN f8
  clear FN NN
  try dsimp only at N8
  walk_at "M steps"
  rename Fr _ _ _ _ => FN
  rename News _ _ _ _ => NN
  exact hret _ _ _ _ _ (Kp.of_fr FN) (NN.get (.head _)) (NN.get (by k_mem)) (News.fresh (h₀ := hideAll s.heap []) NN (.head _)) (News.fresh (h₀ := hideAll s.heap []) NN (.tail _ (.head _)))
theorem pairD_ {mean : ExcName → Option Value} {ta va rg ty bb wd : Addr} {vT vt vt2 : Value} {t1 t2 u0 : Tok} {tb : Array Value} (X : (hd.heap_1 w.params).In (hideAll s.heap [123])) (TT : Top p loose mean mg mb (hideAll s.heap [123])) (h123 : s.heap.get? 123 = some (tabObj tb)) (ok : TabOk tb) (hdp : dp + 40 < recursionLimit) (hu : un + 300 < cLine)
    (hW : WorldAt prog w (hideAll s.heap [123]) wd) (hT : IsTup (hideAll s.heap [123]) ta #[.str "adt" t1, .str "P" t2, .ref rg, .ref ty]) (hrg : IsTup (hideAll s.heap [123]) rg #[]) (hty : IsTup (hideAll s.heap [123]) ty #[.ref bb, vT]) (ht : IsTup (hideAll s.heap [123]) va #[vt, vt2])
    (hret : ∀ a n i1 i2 tb' h' tk', Kp [123] s.heap h' → h'.get? a = some (listOf #[.ref i1, .ref i2] n) → h'.get? i1 = some (tupO #[vT, vt]) → h'.get? i2 = some (tupO #[.ref bb, vt2]) → h'.get? 123 = some (tabObj tb') → TabOk tb' → s.heap.get? a = none → s.heap.get? i1 = none → s.heap.get? i2 = none → Q (.ref a) { s with heap := h', toks := tk' }) :
    wpAny (model prog w) (AA dp un fr gd) (call (.ref 203) [.ref ta, .int 0 u0, .ref va, .ref wd]) Q E s := by
  have T₀ := topRead_of TT
  have T' : TopRead p loose mg mb s.heap := T₀.keeps fun b o e => of_hideAll _ e
  refine wpAny_call ?_
  k_dflt (refine' enterPC (binds := [("t", .ref ta), ("variant", .int 0 u0), ("values", .ref va), ("world", .ref wd)]) [123] (fun b o e => of_hideAll _ (X b o e)) ?k2 ?k3 ?k6 ?k7 ?k9 ?kB ?kD ?_ ?c2 ?c3 ?c4)
  walk_at "M enterC"
  clear T'
  intro L h₁ tk cells hL F hk N Y
  have N := news_add (.head _) hL h123 hk N
  have l0 : @LT.lt Nat _ 123 L := by rw [hL]; exact Heap.lt_size h123
  clear hk hL
  k_cells Y
  simp only [List.cons_append, List.nil_append] at N
  all_goals (try dsimp only)
  all_goals (try k_fold)
  all_goals walk_at "M steps"
  rename Fr _ _ _ _ => FN
  rename News _ _ _ _ => NN
  have hm := NN.get (a := 123) (o := tabObj tb) (by k_mem)
  have hn : ∀ a ∈ ([123] : List Addr), (hideAll s.heap [123]).get? a = none := fun a ha => by rw [List.mem_singleton.mp ha]; exact (NN _ (by k_mem : (123, tabObj tb) ∈ _)).2.2
  have hL : L ∉ ([123] : List Addr) := fun q => (NN _ (by k_mem : (123, tabObj tb) ∈ _)).2.1 (List.mem_singleton.mp q).symm
  have st := hid FN hn
  refine ptD_ (wd := wd) (X.keeps st) (TT.keeps st) hm ok ?_ ?_ (hW.keeps st) (hT.keeps st) (hrg.keeps st) (hty.keeps st) fun c8 n8 tb8 h8 tk8 k8 ec et ok8 nc => ?_
  · walk_at "M lt"
  · walk_at "M lt"
  have F8 := Fr.after FN k8 hn hL
  have N8 := News.add FN (News.turn NN (g := fun o => _) (by k_updF) k8 et) ec nc
  have nec := ne_new NN nc
  clear FN NN
  try dsimp only at N8
  walk_at "M steps"
  rename Fr _ _ _ _ => FN
  rename News _ _ _ _ => NN
  exact hret _ _ _ _ _ _ _ (Kp.of_fr FN) (NN.get (.head _)) (NN.get (by k_mem)) (NN.get (by k_mem)) (NN.get (by k_mem)) ok8 (fresh_h (News.fresh (h₀ := hideAll s.heap [123]) NN (.head _)) (by k_ne)) (fresh_h (News.fresh (h₀ := hideAll s.heap [123]) NN (.tail _ (.tail _ (.head _)))) (by k_ne)) (fresh_h (News.fresh (h₀ := hideAll s.heap [123]) NN (.tail _ (.head _))) (by k_ne))
end

section
variable {prog : Program} {w : World} {p : Program} {loose : List Str} {mg mb : Str → Option Value} {dp un : Nat} {fr : Option (List Env)} {gd : Option (List Code)} {s : Shared} {h₀ h h' : Heap} {L : Addr} {m : Str → Option Value} {news : List (Addr × Obj)} {Q E : Value → Shared → Prop}
theorem innI_ {κ : Str} {lo hi n : Int} {u t1 t2 : Tok} {ta : Addr} {wv : Value} (hκ : (κ, lo, hi) ∈ kinds) (X : (hd.heap_1 w.params).In s.heap) (T : TopRead p loose mg mb s.heap) (hdp : dp + 30 < recursionLimit) (hu : un + 250 < cLine)
    (hT : IsTup s.heap ta #[.str "int" t1, .str κ t2])
    (hgood : lo ≤ n ∧ n ≤ hi → ∀ h' tk' a c, Kp [] s.heap h' → h'.get? a = some (listOf #[] c) → s.heap.get? a = none → Q (.ref a) { s with heap := h', toks := tk' })
    (hbad : ¬ (lo ≤ n ∧ n ≤ hi) → ∀ h' tk', Kp [] s.heap h' → Q .none { s with heap := h', toks := tk' }) :
    wpAny (model prog w) (AA dp un fr gd) (call (.ref 198) [.ref ta, .int n u, wv]) Q E s := by
  have hT₀ : IsTup (hideAll s.heap []) ta #[.str "int" t1, .str κ t2] := hT
  refine wpAny_call ?_
  k_dflt (refine' enterP (binds := [("t", .ref ta), ("value", .int n u), ("world", wv)]) [] X ?k2 ?k3 ?k6 ?k7 ?k9 ?kB ?_ ?c2 ?c3 ?c4 ?c5)
  walk_at "M enter"
  intro L h₁ hL F hk
  clear hk
  have X₀ : (hd.heap_1 w.params).In (hideAll s.heap []) := X
  have T₀ : TopRead p loose mg mb (hideAll s.heap []) := T
  have N : News (hideAll s.heap []) L h₁ [] := News.nil
  clear X T
  clear hT
  all_goals (try dsimp only)
  all_goals (try k_fold)
  all_goals walk_at "M steps"
  all_goals first
    | exact hgood (by simp_all) _ _ _ _ (Kp.of_fr (by assumption)) (News.get (by assumption) (.head _)) (News.fresh (h₀ := hideAll s.heap []) (by assumption) (.head _))
    | exact hbad (by simp_all) _ _ (Kp.of_fr (by assumption))
    | skip
theorem innL_ {va ta : Addr} {way : Way} {wv x1 x2 x3 : Value} {t1 : Tok} (X : (hd.heap_1 w.params).In s.heap) (T : TopRead p loose mg mb s.heap) (hdp : dp + 30 < recursionLimit) (hu : un + 250 < cLine)
    (hT : IsTup s.heap ta (match way with | .box => #[.str "box" t1, x1] | .tup => #[.str "tuple" t1, x1] | .arr => #[.str "array" t1, x1, x2] | .adt => #[.str "adt" t1, x1, x2, x3])) (ht : IsL s.heap va)
    (hret : ∀ h' tk', Kp [] s.heap h' → Q .none { s with heap := h', toks := tk' }) :
    wpAny (model prog w) (AA dp un fr gd) (call (.ref 198) [.ref ta, .ref va, wv]) Q E s := by
  have ht₀ : IsL (hideAll s.heap []) va := ht
  refine wpAny_call ?_
  k_dflt (refine' enterP (binds := [("t", .ref ta), ("value", .ref va), ("world", wv)]) [] X ?k2 ?k3 ?k6 ?k7 ?k9 ?kB ?_ ?c2 ?c3 ?c4 ?c5)
  walk_at "M enter"
  intro L h₁ hL F hk
  clear hk
  have X₀ : (hd.heap_1 w.params).In (hideAll s.heap []) := X
  have T₀ : TopRead p loose mg mb (hideAll s.heap []) := T
  have N : News (hideAll s.heap []) L h₁ [] := News.nil
  clear X T
  clear ht
  cases way
  · have hT₀ : IsTup (hideAll s.heap []) ta #[.str "box" t1, x1] := hT
    clear hT
    all_goals (try dsimp only)
    all_goals (try k_fold)
    all_goals walk_at "M steps"
    all_goals exact hret _ _ (Kp.of_fr (by assumption))
  · have hT₀ : IsTup (hideAll s.heap []) ta #[.str "tuple" t1, x1] := hT
    clear hT
    all_goals (try dsimp only)
    all_goals (try k_fold)
    all_goals walk_at "M steps"
    all_goals exact hret _ _ (Kp.of_fr (by assumption))
  · have hT₀ : IsTup (hideAll s.heap []) ta #[.str "array" t1, x1, x2] := hT
    clear hT
    all_goals (try dsimp only)
    all_goals (try k_fold)
    all_goals walk_at "M steps"
    all_goals exact hret _ _ (Kp.of_fr (by assumption))
  · have hT₀ : IsTup (hideAll s.heap []) ta #[.str "adt" t1, x1, x2, x3] := hT
    clear hT
    all_goals (try dsimp only)
    all_goals (try k_fold)
    all_goals walk_at "M steps"
    all_goals exact hret _ _ (Kp.of_fr (by assumption))
theorem innB_ {ta va : Addr} {vT vt wv : Value} {t1 t2 : Tok} (X : (hd.heap_1 w.params).In s.heap) (T : TopRead p loose mg mb s.heap) (hdp : dp + 30 < recursionLimit) (hu : un + 250 < cLine)
    (hT : IsTup s.heap ta #[.str "box" t1, vT]) (ht : IsTup s.heap va #[.str "box" t2, vt])
    (hret : ∀ h' tk' a n i1, Kp [] s.heap h' → h'.get? a = some (listOf #[.ref i1] n) → h'.get? i1 = some (tupO #[vT, vt]) → s.heap.get? a = none → s.heap.get? i1 = none → Q (.ref a) { s with heap := h', toks := tk' }) :
    wpAny (model prog w) (AA dp un fr gd) (call (.ref 198) [.ref ta, .ref va, wv]) Q E s := by
  have hT₀ : IsTup (hideAll s.heap []) ta #[.str "box" t1, vT] := hT
  have ht₀ : IsTup (hideAll s.heap []) va #[.str "box" t2, vt] := ht
  refine wpAny_call ?_
  k_dflt (refine' enterP (binds := [("t", .ref ta), ("value", .ref va), ("world", wv)]) [] X ?k2 ?k3 ?k6 ?k7 ?k9 ?kB ?_ ?c2 ?c3 ?c4 ?c5)
  walk_at "M enter"
  intro L h₁ hL F hk
  clear hk
  have X₀ : (hd.heap_1 w.params).In (hideAll s.heap []) := X
  have T₀ : TopRead p loose mg mb (hideAll s.heap []) := T
  have N : News (hideAll s.heap []) L h₁ [] := News.nil
  clear X T
  clear hT ht
  all_goals (try dsimp only)
  all_goals (try k_fold)
  all_goals walk_at "M steps"
  all_goals
    rename Fr _ _ _ _ => FN
    rename News _ _ _ _ => NN
    exact hret _ _ _ _ _ (Kp.of_fr FN) (NN.get (.head _)) (NN.get (by k_mem)) (News.fresh (h₀ := hideAll s.heap []) NN (.head _)) (News.fresh (h₀ := hideAll s.heap []) NN (.tail _ (.head _)))
theorem innT_ {ta tb va : Addr} {vT vT2 vt vt2 wv : Value} {t1 : Tok} (X : (hd.heap_1 w.params).In s.heap) (T : TopRead p loose mg mb s.heap) (hdp : dp + 40 < recursionLimit) (hu : un + 300 < cLine)
    (hT : IsTup s.heap ta #[.str "tuple" t1, .ref tb]) (hTT : IsTup s.heap tb #[vT, vT2]) (ht : IsTup s.heap va #[vt, vt2])
    (hret : ∀ h' tk' a n i1 i2, Kp [] s.heap h' → h'.get? a = some (listOf #[.ref i1, .ref i2] n) → h'.get? i1 = some (tupO #[vT, vt]) → h'.get? i2 = some (tupO #[vT2, vt2]) → s.heap.get? a = none → s.heap.get? i1 = none → s.heap.get? i2 = none → Q (.ref a) { s with heap := h', toks := tk' }) :
    wpAny (model prog w) (AA dp un fr gd) (call (.ref 198) [.ref ta, .ref va, wv]) Q E s := by
  have hT₀ : IsTup (hideAll s.heap []) ta #[.str "tuple" t1, .ref tb] := hT
  have hT₁ : IsTup (hideAll s.heap []) tb #[vT, vT2] := hTT
  have ht₀ : IsTup (hideAll s.heap []) va #[vt, vt2] := ht
  refine wpAny_call ?_
  k_dflt (refine' enterP (binds := [("t", .ref ta), ("value", .ref va), ("world", wv)]) [] X ?k2 ?k3 ?k6 ?k7 ?k9 ?kB ?_ ?c2 ?c3 ?c4 ?c5)
  walk_at "M enter"
  intro L h₁ hL F hk
  clear hk
  have X₀ : (hd.heap_1 w.params).In (hideAll s.heap []) := X
  have T₀ : TopRead p loose mg mb (hideAll s.heap []) := T
  have N : News (hideAll s.heap []) L h₁ [] := News.nil
  clear X T
  clear hT ht hTT
  all_goals (try dsimp only)
  all_goals (try k_fold)
  all_goals walk_at "M steps"
  rename Fr _ _ _ _ => FN
  refine pairT_ (X₀.keeps FN.keep) (T₀.keeps FN.keep) ?_ ?_ (hT₀.keeps FN.keep) (hT₁.keeps FN.keep) (ht₀.keeps FN.keep) fun h' tk' a n i1 i2 k e e1 e2 f f1 f2 => ?_
  · walk_at "M lt"
  · walk_at "M lt"
  (try with_reducible refine hRX _ _ ?_)
  exact hret _ _ _ _ _ _ (fun b o q hn => k b o (FN.keep b o (hideAll_get _ q hn)) hn) e e1 e2 (fresh_of_stays FN.keep f) (fresh_of_stays FN.keep f1) (fresh_of_stays FN.keep f2)
theorem innA_ {ta va : Addr} {vT vt wv : Value} {t1 t2 : Tok} (X : (hd.heap_1 w.params).In s.heap) (T : TopRead p loose mg mb s.heap) (hdp : dp + 40 < recursionLimit) (hu : un + 300 < cLine)
    (hT : IsTup s.heap ta #[.str "array" t1, vT, .int 1 t2]) (ht : IsTup s.heap va #[vt])
    (hret : ∀ h' tk' a n i1, Kp [] s.heap h' → h'.get? a = some (listOf #[.ref i1] n) → h'.get? i1 = some (tupO #[vT, vt]) → s.heap.get? a = none → s.heap.get? i1 = none → Q (.ref a) { s with heap := h', toks := tk' }) :
    wpAny (model prog w) (AA dp un fr gd) (call (.ref 198) [.ref ta, .ref va, wv]) Q E s := by
  have hT₀ : IsTup (hideAll s.heap []) ta #[.str "array" t1, vT, .int 1 t2] := hT
  have ht₀ : IsTup (hideAll s.heap []) va #[vt] := ht
  refine wpAny_call ?_
  k_dflt (refine' enterP (binds := [("t", .ref ta), ("value", .ref va), ("world", wv)]) [] X ?k2 ?k3 ?k6 ?k7 ?k9 ?kB ?_ ?c2 ?c3 ?c4 ?c5)
  walk_at "M enter"
  intro L h₁ hL F hk
  clear hk
  have X₀ : (hd.heap_1 w.params).In (hideAll s.heap []) := X
  have T₀ : TopRead p loose mg mb (hideAll s.heap []) := T
  have N : News (hideAll s.heap []) L h₁ [] := News.nil
  clear X T
  clear hT ht
  all_goals (try dsimp only)
  all_goals (try k_fold)
  all_goals walk_at "M steps"
  rename Fr _ _ _ _ => FN
  refine pairA_ (X₀.keeps FN.keep) (T₀.keeps FN.keep) ?_ ?_ (hT₀.keeps FN.keep) (ht₀.keeps FN.keep) fun h' tk' a n i1 k e e1 f f1 => ?_
  · walk_at "M lt"
  · walk_at "M lt"
  (try with_reducible refine hRX _ _ ?_)
  exact hret _ _ _ _ _ (fun b o q hn => k b o (FN.keep b o (hideAll_get _ q hn)) hn) e e1 (fresh_of_stays FN.keep f) (fresh_of_stays FN.keep f1)
theorem innD_ {mean : ExcName → Option Value} {ta va tp rg ty bb wd : Addr} {vT vt vt2 : Value} {t1 t2 u0 : Tok} {tb : Array Value} (X : (hd.heap_1 w.params).In (hideAll s.heap [123])) (TT : Top p loose mean mg mb (hideAll s.heap [123])) (h123 : s.heap.get? 123 = some (tabObj tb)) (ok : TabOk tb) (hdp : dp + 50 < recursionLimit) (hu : un + 350 < cLine)
    (hW : WorldAt prog w (hideAll s.heap [123]) wd) (hT : IsTup (hideAll s.heap [123]) ta #[.str "adt" t1, .str "P" t2, .ref rg, .ref ty]) (hrg : IsTup (hideAll s.heap [123]) rg #[]) (hty : IsTup (hideAll s.heap [123]) ty #[.ref bb, vT])
    (ht : IsTup (hideAll s.heap [123]) va #[.int 0 u0, .ref tp]) (htp : IsTup (hideAll s.heap [123]) tp #[vt, vt2])
    (hret : ∀ a n i1 i2 tb' h' tk', Kp [123] s.heap h' → h'.get? a = some (listOf #[.ref i1, .ref i2] n) → h'.get? i1 = some (tupO #[vT, vt]) → h'.get? i2 = some (tupO #[.ref bb, vt2]) → h'.get? 123 = some (tabObj tb') → TabOk tb' → s.heap.get? a = none → s.heap.get? i1 = none → s.heap.get? i2 = none → Q (.ref a) { s with heap := h', toks := tk' }) :
    wpAny (model prog w) (AA dp un fr gd) (call (.ref 198) [.ref ta, .ref va, .ref wd]) Q E s := by
  have T₀ := topRead_of TT
  have T' : TopRead p loose mg mb s.heap := T₀.keeps fun b o e => of_hideAll _ e
  have hW₀ := hW
  obtain ⟨ad, ax, rgn, prm, vs, v0, rows, r0, r1, p0, p1, w1, w2, w3, w4, w5, w6, w7, w8, w9, wa, a1, a2, a3, a4, a5, a6, a7, a8, a9, b1, b2, b3, b4, b5⟩ := hW
  refine wpAny_call ?_
  k_dflt (refine' enterP (binds := [("t", .ref ta), ("value", .ref va), ("world", .ref wd)]) [123] (fun b o e => of_hideAll _ (X b o e)) ?k2 ?k3 ?k6 ?k7 ?k9 ?kB ?_ ?c2 ?c3 ?c4 ?c5)
  walk_at "M enter"
  clear T'
  intro L h₁ hL F hk
  have N := news_one (as := [123]) (.head _) hL h123 hk
  have l0 : @LT.lt Nat _ 123 L := by rw [hL]; exact Heap.lt_size h123
  have kk := hk
  clear hk a3 a4 a6 a7 a9 b1 b2 b3 b4 b5
  all_goals (try dsimp only)
  all_goals (try k_fold)
  all_goals walk_at "M steps"
  rename Fr _ _ _ _ => FN
  rename News _ _ _ _ => NN
  have hm := NN.get (a := 123) (o := tabObj tb) (by k_mem)
  have hn : ∀ a ∈ ([123] : List Addr), (hideAll s.heap [123]).get? a = none := fun a ha => by rw [List.mem_singleton.mp ha]; exact (NN _ (by k_mem : (123, tabObj tb) ∈ _)).2.2
  have hL : L ∉ ([123] : List Addr) := fun q => (NN _ (by k_mem : (123, tabObj tb) ∈ _)).2.1 (List.mem_singleton.mp q).symm
  have st := hid FN hn
  refine pairD_ (wd := wd) (X.keeps st) (TT.keeps st) hm ok ?_ ?_ (hW₀.keeps st) (hT.keeps st) (hrg.keeps st) (hty.keeps st) (htp.keeps st) fun a n i1 i2 tb' h' tk' k e e1 e2 et ok' f f1 f2 => ?_
  · walk_at "M lt"
  · walk_at "M lt"
  have fr : ∀ {b : Addr} {g g' : Heap}, (∀ c o, (hideAll s.heap [123]).get? c = some o → g.get? c = some o) → g.get? b = none → g.get? 123 = some (tabObj tb) → s.heap.get? b = none := fun {b g _} kp q q3 => by
    by_cases z : b = 123
    · rw [z, q3] at q; cases q
    · exact fresh_h (x := 123) (fresh_of_stays kp q) z
  (try with_reducible refine hRX _ _ ?_)
  exact hret _ _ _ _ _ _ _ (fun b o q hn => k b o (FN.keep b o (hideAll_get _ q hn)) hn) e e1 e2 et ok' (fr (g' := h') FN.keep f hm) (fr (g' := h') FN.keep f1 hm) (fr (g' := h') FN.keep f2 hm)
end

section
variable {prog : Program} {w : World} {A : Around} {E : Value → Shared → Prop} {s : Shared} {h₀ : Heap} {L D b : Addr} {m : Str → Option Value} {news : List (Addr × Obj)} {ws its : List Value} {n nb : Nat} {Q : Value → Shared → Prop} {g : Obj → List (Addr × Obj)}
theorem extW (F : Fr h₀ L s.heap m) (N : News h₀ L s.heap news) (hb : (b, listOf its.toArray nb) ∈ news) (U : UpdF D (wlist ws n) news g) (hz : ws.length + its.length < 1000)
    (h : ∀ h' n', Fr h₀ L h' m → News h₀ L h' (g (wlist (ws ++ its) n')) → Q .none { s with heap := h' }) : wpAny (model prog w) A (call (.builtin "list.extend") [.ref D, .ref b]) Q E s := by
  obtain ⟨pre, post, rfl, hg, a, c⟩ := U.split
  exact extend_in F N a c (N.get hb) (fun h' n' F' N' => h h' n' F' (by rw [hg]; simpa using N')) (by rw [sizeLine_eq, List.size_toArray]; omega)
end
theorem reg45 : True := by
  (k_with "call builtin:list.extend" => ((k_here; (with_reducible show wpAny _ _ (call (Value.builtin "list.extend") [Value.ref _, Value.ref _]) _ _ _); (k_dflt (refine' extW ?F_q108 ?N_q108 ?b_q108 ?U_q108 ?z_q108 ?_; (case F_q108 => k_asm); (case N_q108 => k_asm); (case b_q108 => k_mem); (case U_q108 => k_updF); (case z_q108 => first | assumption | (simp only [List.length_append, List.length_cons, List.length_nil]; omega)); k_whole)); intro h9 n9 F9 N9; (try dsimp only at N9))))
  exact True.intro
abbrev tlM (lf : Addr) (wv : Value) (m0 : Str → Option Value) : Str → Option Value := fun y => if y = Str.ofString "left" then some (.ref lf) else if y = Str.ofString "world" then some wv else m0 y
theorem fr_normT {B h : Heap} {L lf : Addr} {wv : Value} {m : Str → Option Value} (F : Fr B L h m) (h1 : m (Str.ofString "left") = some (.ref lf)) (h3 : m (Str.ofString "world") = some wv) : Fr B L h (tlM lf wv m) := by
  have e : m = tlM lf wv m := by
    funext y
    show m y = if y = Str.ofString "left" then some (.ref lf) else if y = Str.ofString "world" then some wv else m y
    by_cases q1 : y = Str.ofString "left"
    · rw [if_pos q1, q1, h1]
    · rw [if_neg q1]
      by_cases q3 : y = Str.ofString "world"
      · rw [if_pos q3, q3, h3]
      · rw [if_neg q3]
  exact e ▸ F
/-- the head of is_told's loop -/
structure InvT (w : World) (p : Program) (loose : List Str) (mean : ExcName → Option Value) (mg mb : Str → Option Value) (B h : Heap) (L lf : Addr) (wv : Value) (ws : List Value) (rest : List (Addr × Obj)) : Prop where
  X : (hd.heap_1 w.params).In B
  T : Top p loose mean mg mb B
  fr : ∃ m0, Fr B L h (tlM lf wv m0)
  ld : ∃ nw tb, News B L h ((lf, wlist ws nw) :: (123, tabObj tb) :: rest) ∧ TabOk tb
  ne : @Ne Nat lf 123
  nw : ∀ q ∈ rest, @Ne Nat q.1 lf
  nt : ∀ q ∈ rest, @Ne Nat q.1 123
  wo : ∃ dws, Via B rest (HDs · ws dws) ∧ (PyData.list dws).canLay0 = true
  wl : ws.length < 100
theorem rebaseT {w : World} {p : Program} {loose : List Str} {mean : ExcName → Option Value} {mg mb : Str → Option Value} {B h : Heap} {L lf : Addr} {wv : Value} {ws : List Value} {m : Str → Option Value} {news rest : List (Addr × Obj)} {nw : Nat} {tb : Array Value}
    (X : (hd.heap_1 w.params).In B) (T : Top p loose mean mg mb B) (F : Fr B L h m) (N : News B L h news) (hw : (lf, wlist ws nw) ∈ news) (ht : (123, tabObj tb) ∈ news) (ok : TabOk tb)
    (ne : @Ne Nat lf 123) (hsub : ∀ q ∈ rest, q ∈ news ∧ @Ne Nat q.1 lf ∧ @Ne Nat q.1 123) {dws : List PyData} (hws : ∀ h', B.StaysIn h' → (∀ q ∈ news, @Ne Nat q.1 lf → @Ne Nat q.1 123 → h'.get? q.1 = some q.2) → HDs h' ws dws) (hlay : (PyData.list dws).canLay0 = true) (hwl : ws.length < 100) (h1 : m (Str.ofString "left") = some (.ref lf)) (h3 : m (Str.ofString "world") = some wv) :
    ∃ rest', InvT w p loose mean mg mb B h L lf wv ws rest' ∧ (∀ q ∈ rest, q ∈ rest') ∧ ∀ q ∈ news, @Ne Nat q.1 lf → @Ne Nat q.1 123 → q ∈ rest' := by
  have key : ∀ q : Addr × Obj, q ∈ news.filter (fun q => decide (@Ne Nat q.1 lf ∧ @Ne Nat q.1 123)) ↔ q ∈ news ∧ @Ne Nat q.1 lf ∧ @Ne Nat q.1 123 := fun q => by
    rw [List.mem_filter, decide_eq_true_eq]
  refine ⟨_, ⟨X, T, ⟨m, fr_normT F h1 h3⟩, ⟨nw, tb, fun q hq => ?_, ok⟩, ne, fun q hq => ((key q).mp hq).2.1, fun q hq => ((key q).mp hq).2.2, ⟨dws, fun h' b r => hws h' b fun q hq a1 a2 => r q ((key q).mpr ⟨hq, a1, a2⟩), hlay⟩, hwl⟩, fun q hq => (key q).mpr (hsub q hq), fun q hq a b => (key q).mpr ⟨hq, a, b⟩⟩
  rcases List.mem_cons.mp hq with rfl | hq
  · exact N _ hw
  rcases List.mem_cons.mp hq with rfl | hq
  · exact N _ ht
  · exact N _ ((key q).mp hq).1
theorem News.dup2 {B h : Heap} {L : Addr} {rest : List (Addr × Obj)} {x y : Addr × Obj} {q : Addr × Obj} (N : News B L h (x :: y :: rest)) (hq : q ∈ rest) : News B L h (x :: y :: q :: rest) := fun p hp => by
  simp only [List.mem_cons] at hp
  rcases hp with rfl | rfl | rfl | hp
  · exact N _ (.head _)
  · exact N _ (.tail _ (.head _))
  · exact N _ (.tail _ (.tail _ hq))
  · exact N _ (.tail _ (.tail _ hp))
section
variable {prog : Program} {w : World} {p : Program} {loose : List Str} {mg mb : Str → Option Value} {dp un : Nat} {fr : Option (List Env)} {gd : Option (List Code)} {s : Shared} {h₀ h h' : Heap} {L : Addr} {m : Str → Option Value} {news : List (Addr × Obj)} {Q E : Value → Shared → Prop}
variable {mean : ExcName → Option Value} {wv : Value} {L lf : Addr} {l : Option (List Env)} {test : PySem.Expr} {body orelse : List Stmt} {env : Env} {R : Result → Shared → Prop} {tk it ta va : Addr} {rest : List (Addr × Obj)} {ws : List Value}
theorem tturn_end (lp : LoopIs w.params 191 (.ref 190) L test body orelse env) (hdp : dp + 70 < recursionLimit) (hu : un + 500 < cLine)
    {h : Heap} (I : InvT w p loose mean mg mb h₀ h L lf wv [] rest) (hq : ∀ h' tk' m' tb', Fr h₀ L h' m' → h'.get? 123 = some (tabObj tb') → TabOk tb' → R (.ok .next) { s with heap := h', toks := tk' }) :
    codeAny (model prog w) ((AA dp un l gd).deeper env) (.whileLoop test body orelse env) R { s with heap := h, toks := tk } := by
  obtain ⟨fd, b, e1, e2, e3, e4⟩ := lp
  cases e1
  cases e2
  cases e3
  subst e4
  obtain ⟨X, TT, ⟨m0, F⟩, ⟨nw, tb, N, ok⟩, n1, n2, n3, ⟨dws, via, lay⟩, wl⟩ := I
  refine while_turn2 fun QT QB EB hTT hTF hBN hBR hEB hEO => ?_
  have TR := topRead_of TT
  try dsimp only
  try k_fold
  walk_at "M steps"
  rename Fr _ _ _ _ => FN
  rename News _ _ _ _ => NN
  exact hq _ _ _ _ FN (NN.get (by k_mem)) ok
theorem tturn_int (lp : LoopIs w.params 191 (.ref 190) L test body orelse env) (hdp : dp + 70 < recursionLimit) (hu : un + 500 < cLine)
    {h : Heap} {n : Int} {u t1 t2 : Tok} {κ : Str} {lo hi : Int} (I : InvT w p loose mean mg mb h₀ h L lf wv (ws ++ [.ref it]) rest) (hin : (it, tupO #[.ref ta, .int n u]) ∈ rest) (hTt : IsTup h₀ ta #[.str "int" t1, .str κ t2]) (hκ : (κ, lo, hi) ∈ kinds)
    (hgood : lo ≤ n ∧ n ≤ hi → ∀ h' tk' rest', InvT w p loose mean mg mb h₀ h' L lf wv ws rest' → (∀ q ∈ rest, q ∈ rest') → codeAny (model prog w) ((AA dp un l gd).deeper env) (.whileLoop test body orelse env) R { s with heap := h', toks := tk' })
    (hbad : ¬ (lo ≤ n ∧ n ≤ hi) → ∀ h' tk' m' tb', Fr h₀ L h' m' → h'.get? 123 = some (tabObj tb') → TabOk tb' → R (.ok (.ret (.bool false))) { s with heap := h', toks := tk' }) :
    codeAny (model prog w) ((AA dp un l gd).deeper env) (.whileLoop test body orelse env) R { s with heap := h, toks := tk } := by
  revert hgood
  obtain ⟨fd, b, e1, e2, e3, e4⟩ := lp
  cases e1
  cases e2
  cases e3
  subst e4
  intro hgood
  obtain ⟨X, TT, ⟨m0, F⟩, ⟨nw, tb, N, ok⟩, n1, n2, n3, ⟨dws, via, lay⟩, wl⟩ := I
  refine while_turn2 fun QT QB EB hTT hTF hBN hBR hEB hEO => ?_
  have N := News.dup2 N hin
  have a1 : @Ne Nat it lf := n2 _ hin
  have a2 : @Ne Nat it 123 := n3 _ hin
  have wl' : ws.length < 99 := by
    rw [List.length_append] at wl
    exact Nat.lt_of_succ_lt_succ wl
  have wl9 : ws.length + ([] : List Value).length < 1000 := by simp only [List.length_nil]; omega
  have TR := topRead_of TT
  try dsimp only
  try k_fold
  walk_at "M steps"
  rename Fr _ _ _ _ => FN
  rename News _ _ _ _ => NN
  refine innI_ hκ (X.keeps FN.keep) (TR.keeps FN.keep) ?_ ?_ (hTt.keeps FN.keep) (fun hb h8 tk8 a8 c8 k8 e8 f8 => ?_) (fun hb h8 tk8 k8 => ?_)
  · walk_at "M lt"
  · walk_at "M lt"
  · have F8 := Kp.frame FN k8
    have N8 := News.cons FN NN k8 e8 f8
    have ne8 := ne_new NN f8
    clear FN NN
    try simp only [List.forall_mem_cons] at ne8
    try dsimp only at N8
    walk_at "M steps"
    rename Fr _ _ _ _ => FN
    rename News _ _ _ _ => NN
    rw [List.append_nil] at NN
    obtain ⟨rest', I', sub, new⟩ := rebaseT (rest := rest) (lf := lf) (ws := ws) (dws := dws.dropLast) X TT FN NN (by k_mem) (by k_mem) ok n1 (fun q hq => ⟨by walk_at "M sub", n2 q hq, n3 q hq⟩) (fun h' b r => HDs.init (via h' b fun q hq => r q (by walk_at "M sub") (n2 q hq) (n3 q hq))) (lay_init lay) (by omega) rfl rfl
    exact hgood hb _ _ _ I' sub
  · have F8 := Kp.frame FN k8
    have N8 := News.kp NN k8
    clear FN NN
    walk_at "M steps"
    rename Fr _ _ _ _ => FN
    rename News _ _ _ _ => NN
    exact hbad hb _ _ _ _ FN (NN.get (by k_mem)) ok
end

/-- the byte beside the inner part, where the layer has one -/
def MidT (way : Way) (B : Heap) (xs : List (Addr × Obj)) (mid : List Value) : Prop := if way.two then ∃ i u tb t1 t2, mid = [.ref i] ∧ (i, tupO #[.ref tb, .int 7 u]) ∈ xs ∧ IsTup B tb #[.str "int" t1, .str "u8" t2] else mid = []
def ItsOk (way : Way) (B : Heap) (its : List Value) (xs : List (Addr × Obj)) (dT dt : PyData) : Prop :=
  (∃ i1 vT vt mid, its = .ref i1 :: mid ∧ (i1, tupO #[vT, vt]) ∈ xs ∧ HD B vT dT ∧ HD B vt dt ∧ MidT way B xs mid) ∧ its.length ≤ 2 ∧
  ∃ dws, (∀ H : Heap, B.StaysIn H → (∀ q ∈ xs, H.get? q.1 = some q.2) → HDs H its dws) ∧ (PyData.list dws).canLay0 = true
theorem itsOk1 {way : Way} {B : Heap} {i1 : Addr} {vT vt : Value} {dT dt : PyData} (h2 : way.two = false) (hT : HD B vT dT) (ht : HD B vt dt) (lT : dT.canLay0 = true) (lt : dt.canLay0 = true) : ItsOk way B [.ref i1] [(i1, tupO #[vT, vt])] dT dt :=
  ⟨⟨i1, vT, vt, [], rfl, .head _, hT, ht, by unfold MidT; rw [h2]; rfl⟩, Nat.le_of_ble_eq_true rfl, [.tuple [dT, dt]], fun H k r => HDs.cons (HD.tuple (r _ (.head _)) rfl rfl (HDs.cons (hT.keeps k) (HDs.cons (ht.keeps k) HDs.nil))) HDs.nil, by simp [PyData.canLay0, PyData.canLayAll0, lT, lt]⟩
theorem itsOk2 {way : Way} {B : Heap} {i1 i2 tb : Addr} {vT vt : Value} {u t1 t2 : Tok} {dT dt : PyData} (h2 : way.two = true) (hT : HD B vT dT) (ht : HD B vt dt) (hb : IsTup B tb #[.str "int" t1, .str "u8" t2]) (lT : dT.canLay0 = true) (lt : dt.canLay0 = true) :
    ItsOk way B [.ref i1, .ref i2] [(i1, tupO #[vT, vt]), (i2, tupO #[.ref tb, .int 7 u])] dT dt := by
  have s6 : PyData.strOk "int" = true := by decide +kernel
  have s7 : PyData.strOk "u8" = true := by decide +kernel
  have hbb : HD B (.ref tb) (.tuple [.str "int", .str "u8"]) := by
    obtain ⟨o, e, c, n, d⟩ := hb
    exact HD.tuple (l := [.str "int" t1, .str "u8" t2]) e c d (HDs.cons HD.str (HDs.cons HD.str HDs.nil))
  exact ⟨⟨i1, vT, vt, [.ref i2], rfl, .head _, hT, ht, by unfold MidT; rw [h2]; exact ⟨i2, u, tb, t1, t2, rfl, .tail _ (.head _), hb⟩⟩, Nat.le_of_ble_eq_true rfl, [.tuple [dT, dt], .tuple [.tuple [.str "int", .str "u8"], .int 7]],
    fun H k r => HDs.cons (HD.tuple (r _ (.head _)) rfl rfl (HDs.cons (hT.keeps k) (HDs.cons (ht.keeps k) HDs.nil))) (HDs.cons (HD.tuple (r _ (.tail _ (.head _))) rfl rfl (HDs.cons (hbb.keeps k) (HDs.cons HD.int HDs.nil))) HDs.nil), by simp [PyData.canLay0, PyData.canLayAll0, lT, lt, s6, s7]⟩
theorem MidT.more {way : Way} {B : Heap} {xs ys : List (Addr × Obj)} {mid : List Value} (x : MidT way B xs mid) (s : ∀ q ∈ xs, q ∈ ys) : MidT way B ys mid := by
  unfold MidT at x ⊢
  split
  · rename_i q
    rw [if_pos q] at x
    obtain ⟨i, u, tb, t1, t2, e, hm, hb⟩ := x
    exact ⟨i, u, tb, t1, t2, e, s _ hm, hb⟩
  · rename_i q
    rw [if_neg q] at x
    exact x
theorem News.addEnd {h₀ h h' : Heap} {L : Addr} {m : Str → Option Value} {news xs : List (Addr × Obj)} (F : Fr h₀ L h m) (N : News h₀ L h' news) (fx : ∀ q ∈ xs, h'.get? q.1 = some q.2 ∧ h.get? q.1 = none) : News h₀ L h' (news ++ xs) := fun q hq => by
  rcases List.mem_append.mp hq with hq | hq
  · exact N q hq
  · exact News.add F N (fx q hq).1 (fx q hq).2 q (.head _)
section
variable {prog : Program} {w : World} {p : Program} {loose : List Str} {mg mb : Str → Option Value} {dp un : Nat} {fr : Option (List Env)} {gd : Option (List Code)} {s : Shared} {h₀ h h' : Heap} {L : Addr} {m : Str → Option Value} {news : List (Addr × Obj)} {Q E : Value → Shared → Prop}
variable {mean : ExcName → Option Value} {wv : Value} {L lf : Addr} {l : Option (List Env)} {test : PySem.Expr} {body orelse : List Stmt} {env : Env} {R : Result → Shared → Prop} {tk it ta va wd : Addr} {rest : List (Addr × Obj)} {ws : List Value}
theorem kp_hid {h h' : Heap} {tb : Array Value} (k : Kp [] h h') : Kp [123] h h' := k.more fun _ q => nomatch q
theorem innLay_ {way : Way} {dT dt : PyData} {tb : Array Value} (X : (hd.heap_1 w.params).In (hideAll s.heap [123])) (TT : Top p loose mean mg mb (hideAll s.heap [123])) (h123 : s.heap.get? 123 = some (tabObj tb)) (ok : TabOk tb) (hdp : dp + 50 < recursionLimit) (hu : un + 350 < cLine)
    (st : h₀.StaysIn (hideAll s.heap [123])) (hW : WorldAt prog w h₀ wd) (hTt : HD h₀ (.ref ta) (wT way dT)) (htt : HD h₀ (.ref va) (wTold false way dt)) (lT : dT.canLay0 = true) (lt : dt.canLay0 = true)
    (hret : ∀ h' tk' a n its tb' xs, Kp [123] s.heap h' → h'.get? a = some (listOf (List.toArray its) n) → h'.get? 123 = some (tabObj tb') → TabOk tb' → s.heap.get? a = none → (∀ q ∈ xs, h'.get? q.1 = some q.2 ∧ s.heap.get? q.1 = none) → ItsOk way h₀ its xs dT dt → Q (.ref a) { s with heap := h', toks := tk' }) :
    wpAny (model prog w) (AA dp un fr gd) (call (.ref 198) [.ref ta, .ref va, .ref wd]) Q E s := by
  have T₀ := topRead_of TT
  have X' : (hd.heap_1 w.params).In s.heap := fun b o e => of_hideAll _ (X b o e)
  have T' : TopRead p loose mg mb s.heap := T₀.keeps fun b o e => of_hideAll _ e
  have st' : h₀.StaysIn s.heap := fun b o e => of_hideAll _ (st b o e)
  have k123 : ∀ {h' : Heap}, Kp [] s.heap h' → h'.get? 123 = some (tabObj tb) := fun k => k _ _ h123 List.not_mem_nil
  cases way
  · obtain ⟨t1, vT, hTy, hvT⟩ := inv_box hTt
    obtain ⟨t2, vt, hty, hvt⟩ := inv_box (dT := dt) htt
    refine innB_ X' T' (by omega) (by omega) (hTy.keeps st') (hty.keeps st') fun h' tk' a n i1 k e e1 f f1 => ?_
    exact hret h' tk' a n [.ref i1] tb [(i1, tupO #[vT, vt])] (kp_hid (tb := tb) k) e (k123 k) ok f (fun q hq => by rw [List.mem_singleton.mp hq]; exact ⟨e1, f1⟩) (itsOk1 rfl hvT hvt lT lt)
  · obtain ⟨t1, tb7, vT, bb, t2, t3, hTy, hTb, hvT, hbb⟩ := inv_tup hTt
    obtain ⟨vt, u7, hty, hvt⟩ := inv_l2 (dt := dt) htt
    refine innT_ X' T' (by omega) (by omega) (hTy.keeps st') (hTb.keeps st') (hty.keeps st') fun h' tk' a n i1 i2 k e e1 e2 f f1 f2 => ?_
    exact hret h' tk' a n [.ref i1, .ref i2] tb [(i1, tupO #[vT, vt]), (i2, tupO #[.ref bb, .int 7 u7])] (kp_hid (tb := tb) k) e (k123 k) ok f (fun q hq => by
      rcases List.mem_cons.mp hq with rfl | hq
      · exact ⟨e1, f1⟩
      · rw [List.mem_singleton.mp hq]; exact ⟨e2, f2⟩) (itsOk2 rfl hvT hvt hbb lT lt)
  · obtain ⟨t1, vT, t2, hTy, hvT⟩ := inv_arr hTt
    obtain ⟨vt, hty, hvt⟩ := inv_l1 (dt := dt) htt
    refine innA_ X' T' (by omega) (by omega) (hTy.keeps st') (hty.keeps st') fun h' tk' a n i1 k e e1 f f1 => ?_
    exact hret h' tk' a n [.ref i1] tb [(i1, tupO #[vT, vt])] (kp_hid (tb := tb) k) e (k123 k) ok f (fun q hq => by rw [List.mem_singleton.mp hq]; exact ⟨e1, f1⟩) (itsOk1 rfl hvT hvt lT lt)
  · obtain ⟨t1, t2, rg, ty, bb, vT, t3, t4, hTy, hrg, hTb, hvT, hbb⟩ := inv_adt hTt
    obtain ⟨u0, tp, vt, u7, hty, htp, hvt⟩ := inv_l3 (dt := dt) htt
    refine innD_ X TT h123 ok (by omega) (by omega) (hW.keeps st) (hTy.keeps st) (hrg.keeps st) (hTb.keeps st) (hty.keeps st) (htp.keeps st) fun a n i1 i2 tb' h' tk' k e e1 e2 et ok' f f1 f2 => ?_
    exact hret h' tk' a n [.ref i1, .ref i2] tb' [(i1, tupO #[vT, vt]), (i2, tupO #[.ref bb, .int 7 u7])] k e et ok' f (fun q hq => by
      rcases List.mem_cons.mp hq with rfl | hq
      · exact ⟨e1, f1⟩
      · rw [List.mem_singleton.mp hq]; exact ⟨e2, f2⟩) (itsOk2 rfl hvT hvt hbb lT lt)
theorem tturn_lay (lp : LoopIs w.params 191 (.ref 190) L test body orelse env) (hdp : dp + 70 < recursionLimit) (hu : un + 500 < cLine)
    {h : Heap} {way : Way} {dT dt : PyData} (hW : WorldAt prog w h₀ wd) (I : InvT w p loose mean mg mb h₀ h L lf (.ref wd) [.ref it] rest) (hin : (it, tupO #[.ref ta, .ref va]) ∈ rest) (hTt : HD h₀ (.ref ta) (wT way dT)) (htt : HD h₀ (.ref va) (wTold false way dt)) (lT : dT.canLay0 = true) (lt : dt.canLay0 = true)
    (hq : ∀ h' tk' rest' i1 mid vt vT, InvT w p loose mean mg mb h₀ h' L lf (.ref wd) (.ref i1 :: mid) rest' → (∀ q ∈ rest, q ∈ rest') → (i1, tupO #[vT, vt]) ∈ rest' → HD h₀ vT dT → HD h₀ vt dt → MidT way h₀ rest' mid → codeAny (model prog w) ((AA dp un l gd).deeper env) (.whileLoop test body orelse env) R { s with heap := h', toks := tk' }) :
    codeAny (model prog w) ((AA dp un l gd).deeper env) (.whileLoop test body orelse env) R { s with heap := h, toks := tk } := by
  revert hq
  obtain ⟨fd, b, e1, e2, e3, e4⟩ := lp
  cases e1
  cases e2
  cases e3
  subst e4
  intro hq
  obtain ⟨X, TT, ⟨m0, F⟩, ⟨nw, tb, N, ok⟩, n1, n2, n3, ⟨dws, via, lay⟩, wl⟩ := I
  refine while_turn2 fun QT QB EB hTT hTF hBN hBR hEB hEO => ?_
  have N := News.dup2 N hin
  have a1 : @Ne Nat it lf := n2 _ hin
  have a2 : @Ne Nat it 123 := n3 _ hin
  have TR := topRead_of TT
  have N : News h₀ L h ((lf, wlist ([] ++ [.ref it]) nw) :: (123, tabObj tb) :: (it, tupO #[.ref ta, .ref va]) :: rest) := N
  have via : Via h₀ rest (HDs · ([] ++ [.ref it]) dws) := via
  have wl' : ([] : List Value).length < 1000 := by decide
  try dsimp only
  try k_fold
  walk_at "M steps"
  rename Fr _ _ _ _ => FN
  rename News _ _ _ _ => NN
  have hm := NN.get (a := 123) (o := tabObj tb) (by k_mem)
  have hn : ∀ a ∈ ([123] : List Addr), h₀.get? a = none := fun a ha => by rw [List.mem_singleton.mp ha]; exact (NN _ (by k_mem : (123, tabObj tb) ∈ _)).2.2
  have hL : L ∉ ([123] : List Addr) := fun q => (NN _ (by k_mem : (123, tabObj tb) ∈ _)).2.1 (List.mem_singleton.mp q).symm
  have st := hid FN hn
  refine innLay_ (X.keeps st) (TT.keeps st) hm ok ?_ ?_ st hW hTt htt lT lt fun h8 tk8 a8 n8 its tb8 xs k8 e8 et ok8 f8 fx io => ?_
  · walk_at "M lt"
  · walk_at "M lt"
  have F8 := Fr.after FN k8 hn hL
  have N8 := News.addEnd FN (News.add FN (News.turn NN (g := fun o => _) (by k_updF) k8 et) e8 f8) fx
  have ne8 := ne_new NN f8
  have nex : ∀ q ∈ xs, @Ne Nat q.1 lf ∧ @Ne Nat q.1 123 ∧ @Ne Nat q.1 it := fun q hq => by
    have z := ne_new NN (fx q hq).2
    try simp only [List.forall_mem_cons] at z
    refine ⟨fun e => ?_, fun e => ?_, fun e => ?_⟩
    · rw [e] at z; simp at z
    · rw [e] at z; simp at z
    · rw [e] at z; simp at z
  clear NN
  try simp only [List.forall_mem_cons] at ne8
  simp only [List.cons_append] at N8
  try dsimp only at N8
  obtain ⟨⟨i1, vT, vt, mid, rfl, hi1, hvT, hvt, hmid⟩, hlen, dws', hv', hl'⟩ := io
  have wl9 : ([] : List Value).length + (Value.ref i1 :: mid).length < 1000 := by simp only [List.length_nil]; omega
  have nx1 : ∀ q ∈ rest ++ xs, @Ne Nat q.1 lf := fun q hq => (List.mem_append.mp hq).elim (n2 q) fun hx => (nex q hx).1
  have nx2 : ∀ q ∈ rest ++ xs, @Ne Nat q.1 123 := fun q hq => (List.mem_append.mp hq).elim (n3 q) fun hx => (nex q hx).2.1
  have sx : ∀ q ∈ xs, q ∈ rest ++ xs := fun q hq => List.mem_append_right _ hq
  have sr : ∀ q ∈ rest, q ∈ rest ++ xs := fun q hq => List.mem_append_left _ hq
  generalize rest ++ xs = rest2 at N8 nx1 nx2 sx sr
  walk_at "M steps"
  rename Fr _ _ _ _ => FN
  rename News _ _ _ _ => NN
  obtain ⟨rest', I', sub, new⟩ := rebaseT (rest := rest2) (lf := lf) (ws := .ref i1 :: mid) (dws := dws') X TT FN NN (by k_mem) (by k_mem) ok8 n1 (fun q hq => ⟨by walk_at "M sub", nx1 q hq, nx2 q hq⟩) (fun h' b r => hv' h' b fun q hq => r q (by have := sx q hq; walk_at "M sub") (nx1 q (sx q hq)) (nx2 q (sx q hq))) hl' (by omega) rfl rfl
  exact hq _ _ _ _ _ _ _ I' (fun q hq => sub q (sr q hq)) (sub _ (sx _ hi1)) hvT hvt (hmid.more fun q hq => sub q (sx q hq))
end

section
variable {prog : Program} {w : World} {p : Program} {loose : List Str} {mg mb : Str → Option Value} {dp un : Nat} {fr : Option (List Env)} {gd : Option (List Code)} {s : Shared} {h₀ h h' : Heap} {L : Addr} {m : Str → Option Value} {news : List (Addr × Obj)} {Q E : Value → Shared → Prop}
variable {mean : ExcName → Option Value} {wv : Value} {L lf : Addr} {l : Option (List Env)} {test : PySem.Expr} {body orelse : List Stmt} {env : Env} {R : Result → Shared → Prop} {tk it ta va wd : Addr} {rest : List (Addr × Obj)} {ws : List Value}
theorem tturn_bad (lp : LoopIs w.params 191 (.ref 190) L test body orelse env) (hdp : dp + 70 < recursionLimit) (hu : un + 500 < cLine)
    {h : Heap} {way : Way} {dT : PyData} (I : InvT w p loose mean mg mb h₀ h L lf (.ref wd) [.ref it] rest) (hin : (it, tupO #[.ref ta, .ref va]) ∈ rest) (hTt : HD h₀ (.ref ta) (wT way dT)) (hL : IsL h₀ va)
    (hbad : ∀ h' tk' m' tb', Fr h₀ L h' m' → h'.get? 123 = some (tabObj tb') → TabOk tb' → R (.ok (.ret (.bool false))) { s with heap := h', toks := tk' }) :
    codeAny (model prog w) ((AA dp un l gd).deeper env) (.whileLoop test body orelse env) R { s with heap := h, toks := tk } := by
  obtain ⟨fd, b, e1, e2, e3, e4⟩ := lp
  cases e1
  cases e2
  cases e3
  subst e4
  obtain ⟨X, TT, ⟨m0, F⟩, ⟨nw, tb, N, ok⟩, n1, n2, n3, ⟨dws, via, lay⟩, wl⟩ := I
  refine while_turn2 fun QT QB EB hTT hTF hBN hBR hEB hEO => ?_
  have N := News.dup2 N hin
  have a1 : @Ne Nat it lf := n2 _ hin
  have a2 : @Ne Nat it 123 := n3 _ hin
  have TR := topRead_of TT
  have N : News h₀ L h ((lf, wlist ([] ++ [.ref it]) nw) :: (123, tabObj tb) :: (it, tupO #[.ref ta, .ref va]) :: rest) := N
  have via : Via h₀ rest (HDs · ([] ++ [.ref it]) dws) := via
  have wl' : ([] : List Value).length < 1000 := by decide
  try dsimp only
  try k_fold
  walk_at "M steps"
  rename Fr _ _ _ _ => FN
  rename News _ _ _ _ => NN
  have hTy : ∃ x1 x2 x3 t1, IsTup h₀ ta (match way with | .box => #[.str "box" t1, x1] | .tup => #[.str "tuple" t1, x1] | .arr => #[.str "array" t1, x1, x2] | .adt => #[.str "adt" t1, x1, x2, x3]) := by
    cases way
    · obtain ⟨t1, vT, hTy, _⟩ := inv_box hTt
      exact ⟨vT, vT, vT, t1, hTy⟩
    · obtain ⟨t1, tb7, vT, bb, t2, t3, hTy, _⟩ := inv_tup hTt
      exact ⟨_, vT, vT, t1, hTy⟩
    · obtain ⟨t1, vT, t2, hTy, _⟩ := inv_arr hTt
      exact ⟨_, _, vT, t1, hTy⟩
    · obtain ⟨t1, t2, rg, ty, bb, vT, t3, t4, hTy, _⟩ := inv_adt hTt
      exact ⟨_, _, _, t1, hTy⟩
  obtain ⟨x1, x2, x3, t1, hTy⟩ := hTy
  refine innL_ (way := way) (x1 := x1) (x2 := x2) (x3 := x3) (t1 := t1) (X.keeps FN.keep) (TR.keeps FN.keep) ?_ ?_ (hTy.keeps FN.keep) (hL.keeps FN.keep) fun h8 tk8 k8 => ?_
  · walk_at "M lt"
  · walk_at "M lt"
  have F8 := Kp.frame FN k8
  have N8 := News.kp NN k8
  clear FN NN
  walk_at "M steps"
  rename Fr _ _ _ _ => FN
  rename News _ _ _ _ => NN
  exact hbad _ _ _ _ FN (NN.get (by k_mem)) ok
theorem procT_good (lp : LoopIs w.params 191 (.ref 190) L test body orelse env) (hdp : dp + 70 < recursionLimit) (hu : un + 500 < cLine) (hW : WorldAt prog w h₀ wd)
    (hq : ∀ h' tk' m' tb', Fr h₀ L h' m' → h'.get? 123 = some (tabObj tb') → TabOk tb' → R (.ok .next) { s with heap := h', toks := tk' }) {k : Nat} {T t v : PyData} (g : Good k T t v) :
    ∀ {h : Heap} {tk it : Nat} {rest : List (Addr × Obj)} {vt vT : Value}, InvT w p loose mean mg mb h₀ h L lf (.ref wd) [.ref it] rest → (it, tupO #[vT, vt]) ∈ rest → HD h₀ vT T → HD h₀ vt t →
      codeAny (model prog w) ((AA dp un l gd).deeper env) (.whileLoop test body orelse env) R { s with heap := h, toks := tk } := by
  induction g with
  | int hκ hn =>
    intro h tk it rest vt vT I hi hT ht
    obtain ⟨ta, t1, t2, rfl, hT'⟩ := int_T hT
    obtain ⟨u, rfl⟩ := HD.inv_int ht
    exact tturn_int (ws := []) lp hdp hu I hi hT' hκ (fun _ h' tk' rest' I' _ => tturn_end lp hdp hu I' hq) (fun q => absurd hn q)
  | @layer k T t v way g ih =>
    intro h tk it rest vt vT I hi hT ht
    obtain ⟨ta, rfl⟩ := ref_T hT
    obtain ⟨va, rfl⟩ := ref_told ht
    have gl := g.lay
    refine tturn_lay lp hdp hu hW I hi hT ht gl.1 gl.2 fun h1 tk1 rest1 i1 mid vt1 vT1 I1 sub1 m1 hvT hvt mi => ?_
    unfold MidT at mi
    by_cases q : way.two = true
    · rw [if_pos q] at mi
      obtain ⟨i3, u, tb, t1, t2, rfl, m3, hb⟩ := mi
      exact tturn_int (ws := [.ref i1]) lp hdp hu I1 m3 hb (κ := "u8") (lo := 0) (hi := 255) (by simp [kinds]) (fun _ h2 tk2 rest2 I2 sub2 => ih I2 (sub2 _ m1) hvT hvt) (fun q => absurd (by decide) q)
    · rw [if_neg q] at mi
      subst mi
      exact ih I1 m1 hvT hvt
theorem procT_bad (lp : LoopIs w.params 191 (.ref 190) L test body orelse env) (hdp : dp + 70 < recursionLimit) (hu : un + 500 < cLine) (hW : WorldAt prog w h₀ wd)
    (hq : ∀ h' tk' m' tb', Fr h₀ L h' m' → h'.get? 123 = some (tabObj tb') → TabOk tb' → R (.ok (.ret (.bool false))) { s with heap := h', toks := tk' }) {k : Nat} {T t : PyData} (g : Bad k T t) :
    ∀ {h : Heap} {tk it : Nat} {rest : List (Addr × Obj)} {vt vT : Value}, InvT w p loose mean mg mb h₀ h L lf (.ref wd) [.ref it] rest → (it, tupO #[vT, vt]) ∈ rest → HD h₀ vT T → HD h₀ vt t →
      codeAny (model prog w) ((AA dp un l gd).deeper env) (.whileLoop test body orelse env) R { s with heap := h, toks := tk } := by
  induction g with
  | int hκ hn =>
    intro h tk it rest vt vT I hi hT ht
    obtain ⟨ta, t1, t2, rfl, hT'⟩ := int_T hT
    obtain ⟨u, rfl⟩ := HD.inv_int ht
    exact tturn_int (ws := []) lp hdp hu I hi hT' hκ (fun q => absurd q hn) (fun _ => hq)
  | list way _ _ =>
    intro h tk it rest vt vT I hi hT ht
    obtain ⟨ta, rfl⟩ := ref_T hT
    obtain ⟨va, rfl, hL⟩ := isL_told ht
    exact tturn_bad lp hdp hu I hi hT hL hq
  | @layer k T t way g ih =>
    intro h tk it rest vt vT I hi hT ht
    obtain ⟨ta, rfl⟩ := ref_T hT
    obtain ⟨va, rfl⟩ := ref_told ht
    have gl := g.lay
    refine tturn_lay lp hdp hu hW I hi hT ht gl.1 gl.2 fun h1 tk1 rest1 i1 mid vt1 vT1 I1 sub1 m1 hvT hvt mi => ?_
    unfold MidT at mi
    by_cases q : way.two = true
    · rw [if_pos q] at mi
      obtain ⟨i3, u, tb, t1, t2, rfl, m3, hb⟩ := mi
      exact tturn_int (ws := [.ref i1]) lp hdp hu I1 m3 hb (κ := "u8") (lo := 0) (hi := 255) (by simp [kinds]) (fun _ h2 tk2 rest2 I2 sub2 => ih I2 (sub2 _ m1) hvT hvt) (fun q => absurd (by decide) q)
    · rw [if_neg q] at mi
      subst mi
      exact ih I1 m1 hvT hvt
theorem told_ {vt vT : Value} {tb : Array Value} {T t : PyData} {k : Nat} {b : Bool}
    (X : (hd.heap_1 w.params).In (hideAll s.heap [123])) (TT : Top p loose mean mg mb (hideAll s.heap [123])) (h123 : s.heap.get? 123 = some (tabObj tb)) (ok : TabOk tb) (hdp : dp + 75 < recursionLimit) (hu : un + 520 < cLine)
    (hW : WorldAt prog w (hideAll s.heap [123]) wd) (hT : HD (hideAll s.heap [123]) vT T) (ht : HD (hideAll s.heap [123]) vt t)
    (O : ((∃ m, Good k T t m) ∧ b = true) ∨ (Bad k T t ∧ b = false))
    (hret : ∀ h' tk' tb', Kp [123] s.heap h' → h'.get? 123 = some (tabObj tb') → TabOk tb' → Q (.bool b) { s with heap := h', toks := tk' }) :
    wpAny (model prog w) (AA dp un fr gd) (call (.ref 191) [vT, vt, .ref wd]) Q E s := by
  have T₀ := topRead_of TT
  have T' : TopRead p loose mg mb s.heap := T₀.keeps fun b o e => of_hideAll _ e
  refine wpAny_call ?_
  k_dflt (refine' enterP (binds := [("t", vT), ("value", vt), ("world", .ref wd)]) [123] (fun b o e => of_hideAll _ (X b o e)) ?k2 ?k3 ?k6 ?k7 ?k9 ?kB ?_ ?c2 ?c3 ?c4 ?c5)
  walk_at "M enter"
  clear T'
  intro L h₁ hL F hkk
  have N := news_one (as := [123]) (.head _) hL h123 hkk
  have l0 : @LT.lt Nat _ 123 L := by rw [hL]; exact Heap.lt_size h123
  clear hkk
  have lay : T.canLay0 = true ∧ t.canLay0 = true := by
    rcases O with ⟨⟨m, g⟩, _⟩ | ⟨g, _⟩
    · exact g.lay
    · exact g.lay
  try dsimp only
  try k_fold
  walk_at "M steps"
  rename_i itA _ l1 _ _ lfA _ l2 _ _ _ _ _ FN NN
  obtain ⟨rest', I', _, new⟩ := rebaseT (rest := []) (lf := lfA) (ws := [.ref itA]) (dws := [.tuple [T, t]]) X TT FN NN (.head _) (by k_mem) ok (by k_ne) (fun q hq => nomatch hq) (fun h b r => HDs.cons (HD.tuple (r (itA, tupO #[vT, vt]) (by k_mem) (by k_ne) (by k_ne)) rfl rfl (HDs.cons (hT.keeps b) (HDs.cons (ht.keeps b) HDs.nil))) HDs.nil) (by simp [PyData.canLay0, PyData.canLayAll0, lay.1, lay.2]) (Nat.le_of_ble_eq_true rfl) rfl rfl
  have hin := new (itA, tupO #[vT, vt]) (by k_mem) (by k_ne) (by k_ne)
  clear new NN FN
  have lp : LoopIs w.params 191 (.ref 190) L _ _ _ _ := ⟨_, _, rfl, rfl, rfl, rfl⟩
  rcases O with ⟨⟨m, g⟩, rfl⟩ | ⟨g, rfl⟩
  · refine procT_good (s := s) lp (by omega) (by omega) hW (fun h' tk' m' tb' F' e ok' => ?_) g I' hin hT ht
    clear I' hin
    have N : News (hideAll s.heap [123]) L h' [(123, tabObj tb')] := fun q hq => by
      rw [List.mem_singleton.mp hq]
      exact ⟨e, Nat.ne_of_lt l0, hideAll_none _ (.head _)⟩
    try dsimp only
    walk_at "M steps"
    all_goals exact hret _ _ _ (Kp.of_fr (by assumption)) (News.get (by assumption) (by k_mem)) ok'
  · refine procT_bad (s := s) lp (by omega) (by omega) hW (fun h' tk' m' tb' F' e ok' => ?_) g I' hin hT ht
    exact hRX _ _ (hret _ _ _ (Kp.of_fr F') e ok')
end

theorem kp_full {d : Addr} {o : Obj} {h h' : Heap} (k : Kp [d] h h') (e : h.get? d = some o) (e' : h'.get? d = some o) : Kp [] h h' := fun b q eb _ => by
  by_cases z : b = d
  · rw [z] at eb ⊢; rw [e'] ; rw [e] at eb; exact eb
  · exact k b q eb fun hm => z (List.mem_singleton.mp hm)
section
variable {prog : Program} {w : World} {p : Program} {loose : List Str} {mg mb : Str → Option Value} {dp un : Nat} {fr : Option (List Env)} {gd : Option (List Code)} {s : Shared} {h₀ h h' : Heap} {L : Addr} {m : Str → Option Value} {news : List (Addr × Obj)} {Q E : Value → Shared → Prop}
theorem gathB_ {dn ta : Addr} {nd : Nat} {mv x : Value} {t1 : Tok} {nm : Str} (hnm : nm = "box" ∨ nm = "ref") (X : (hd.heap_1 w.params).In (hideAll s.heap [dn])) (T : TopRead p loose mg mb (hideAll s.heap [dn])) (hdp : dp + 20 < recursionLimit) (hu : un + 200 < cLine)
    (hd' : s.heap.get? dn = some (listOf #[mv] nd)) (ht : IsTup (hideAll s.heap [dn]) ta #[.str nm t1, x])
    (hret : ∀ h' tk' a n i t2, Kp [] s.heap h' → h'.get? a = some (listOf #[.ref i] n) → h'.get? i = some (tupO #[.str nm t2, mv]) → s.heap.get? a = none → s.heap.get? i = none → Q (.ref a) { s with heap := h', toks := tk' }) :
    wpAny (model prog w) (AA dp un fr gd) (call (.ref 141) [.ref dn, .ref ta]) Q E s := by
  have T' : TopRead p loose mg mb s.heap := T.keeps fun b o e => of_hideAll _ e
  refine wpAny_call ?_
  k_dflt (refine' enterP (binds := [("done", .ref dn), ("value", .ref ta)]) [dn] (fun b o e => of_hideAll _ (X b o e)) ?k2 ?k3 ?k6 ?k7 ?k9 ?kB ?_ ?c2 ?c3 ?c4 ?c5)
  walk_at "M enter"
  clear T'
  intro L h₁ hL F hk
  have N := news_one (as := [dn]) (.head _) hL hd' hk
  clear hk
  try dsimp only
  try k_fold
  rcases hnm with rfl | rfl
  all_goals walk_at "M steps"
  all_goals
    rename Fr _ _ _ _ => FN
    rename News _ _ _ _ => NN
    exact hret _ _ _ _ _ _ (kp_full (Kp.of_fr FN) hd' (NN.get (by k_mem))) (NN.get (.head _)) (NN.get (by k_mem)) (fresh_h (News.fresh (h₀ := hideAll s.heap [dn]) NN (.head _)) (by k_ne)) (fresh_h (News.fresh (h₀ := hideAll s.heap [dn]) NN (.tail _ (.tail _ (.head _)))) (by k_ne))
theorem gathF1_ {dn ta tp : Addr} {nd : Nat} {mv x : Value} {t1 : Tok} (X : (hd.heap_1 w.params).In (hideAll s.heap [dn])) (T : TopRead p loose mg mb (hideAll s.heap [dn])) (hdp : dp + 20 < recursionLimit) (hu : un + 200 < cLine)
    (hd' : s.heap.get? dn = some (listOf #[mv] nd)) (ht : IsTup (hideAll s.heap [dn]) ta #[.str "fields" t1, .ref tp]) (htp : IsTup (hideAll s.heap [dn]) tp #[x])
    (hret : ∀ h' tk' a n i, Kp [] s.heap h' → h'.get? a = some (listOf #[.ref i] n) → h'.get? i = some (tupO #[mv]) → s.heap.get? a = none → s.heap.get? i = none → Q (.ref a) { s with heap := h', toks := tk' }) :
    wpAny (model prog w) (AA dp un fr gd) (call (.ref 141) [.ref dn, .ref ta]) Q E s := by
  have T' : TopRead p loose mg mb s.heap := T.keeps fun b o e => of_hideAll _ e
  refine wpAny_call ?_
  k_dflt (refine' enterP (binds := [("done", .ref dn), ("value", .ref ta)]) [dn] (fun b o e => of_hideAll _ (X b o e)) ?k2 ?k3 ?k6 ?k7 ?k9 ?kB ?_ ?c2 ?c3 ?c4 ?c5)
  walk_at "M enter"
  clear T'
  intro L h₁ hL F hk
  have N := news_one (as := [dn]) (.head _) hL hd' hk
  clear hk
  try dsimp only
  try k_fold
  walk_at "M steps"
  rename Fr _ _ _ _ => FN
  rename News _ _ _ _ => NN
  exact hret _ _ _ _ _ (kp_full (Kp.of_fr FN) hd' (NN.get (by k_mem))) (NN.get (.head _)) (NN.get (by k_mem)) (fresh_h (News.fresh (h₀ := hideAll s.heap [dn]) NN (.head _)) (by k_ne)) (fresh_h (News.fresh (h₀ := hideAll s.heap [dn]) NN (by first | exact .tail _ (.tail _ (.head _)) | exact .tail _ (.tail _ (.tail _ (.head _))) | exact .tail _ (.tail _ (.tail _ (.tail _ (.head _)))))) (by k_ne))
theorem gathF2_ {dn ta tp : Addr} {nd : Nat} {mv mv2 x y : Value} {t1 : Tok} (X : (hd.heap_1 w.params).In (hideAll s.heap [dn])) (T : TopRead p loose mg mb (hideAll s.heap [dn])) (hdp : dp + 20 < recursionLimit) (hu : un + 200 < cLine)
    (hd' : s.heap.get? dn = some (listOf #[mv, mv2] nd)) (ht : IsTup (hideAll s.heap [dn]) ta #[.str "fields" t1, .ref tp]) (htp : IsTup (hideAll s.heap [dn]) tp #[x, y])
    (hret : ∀ h' tk' a n i, Kp [] s.heap h' → h'.get? a = some (listOf #[.ref i] n) → h'.get? i = some (tupO #[mv, mv2]) → s.heap.get? a = none → s.heap.get? i = none → Q (.ref a) { s with heap := h', toks := tk' }) :
    wpAny (model prog w) (AA dp un fr gd) (call (.ref 141) [.ref dn, .ref ta]) Q E s := by
  have T' : TopRead p loose mg mb s.heap := T.keeps fun b o e => of_hideAll _ e
  refine wpAny_call ?_
  k_dflt (refine' enterP (binds := [("done", .ref dn), ("value", .ref ta)]) [dn] (fun b o e => of_hideAll _ (X b o e)) ?k2 ?k3 ?k6 ?k7 ?k9 ?kB ?_ ?c2 ?c3 ?c4 ?c5)
  walk_at "M enter"
  clear T'
  intro L h₁ hL F hk
  have N := news_one (as := [dn]) (.head _) hL hd' hk
  clear hk
  try dsimp only
  try k_fold
  walk_at "M steps"
  rename Fr _ _ _ _ => FN
  rename News _ _ _ _ => NN
  exact hret _ _ _ _ _ (kp_full (Kp.of_fr FN) hd' (NN.get (by k_mem))) (NN.get (.head _)) (NN.get (by k_mem)) (fresh_h (News.fresh (h₀ := hideAll s.heap [dn]) NN (.head _)) (by k_ne)) (fresh_h (News.fresh (h₀ := hideAll s.heap [dn]) NN (by first | exact .tail _ (.tail _ (.head _)) | exact .tail _ (.tail _ (.tail _ (.head _))) | exact .tail _ (.tail _ (.tail _ (.tail _ (.head _)))))) (by k_ne))
theorem gathV_ {dn ta tp : Addr} {nd : Nat} {mv mv2 x y vr : Value} {t1 : Tok} (X : (hd.heap_1 w.params).In (hideAll s.heap [dn])) (T : TopRead p loose mg mb (hideAll s.heap [dn])) (hdp : dp + 20 < recursionLimit) (hu : un + 200 < cLine)
    (hd' : s.heap.get? dn = some (listOf #[mv, mv2] nd)) (ht : IsTup (hideAll s.heap [dn]) ta #[.str "variant" t1, vr, .ref tp]) (htp : IsTup (hideAll s.heap [dn]) tp #[x, y])
    (hret : ∀ h' tk' a n i j, Kp [] s.heap h' → h'.get? a = some (listOf #[.ref i] n) → h'.get? i = some (tupO #[vr, .ref j]) → h'.get? j = some (tupO #[mv, mv2]) → s.heap.get? a = none → s.heap.get? i = none → s.heap.get? j = none → Q (.ref a) { s with heap := h', toks := tk' }) :
    wpAny (model prog w) (AA dp un fr gd) (call (.ref 141) [.ref dn, .ref ta]) Q E s := by
  have T' : TopRead p loose mg mb s.heap := T.keeps fun b o e => of_hideAll _ e
  refine wpAny_call ?_
  k_dflt (refine' enterP (binds := [("done", .ref dn), ("value", .ref ta)]) [dn] (fun b o e => of_hideAll _ (X b o e)) ?k2 ?k3 ?k6 ?k7 ?k9 ?kB ?_ ?c2 ?c3 ?c4 ?c5)
  walk_at "M enter"
  clear T'
  intro L h₁ hL F hk
  have N := news_one (as := [dn]) (.head _) hL hd' hk
  clear hk
  try dsimp only
  try k_fold
  walk_at "M steps"
  rename Fr _ _ _ _ => FN
  rename News _ _ _ _ => NN
  exact hret _ _ _ _ _ _ (kp_full (Kp.of_fr FN) hd' (NN.get (by k_mem))) (NN.get (.head _)) (NN.get (by k_mem)) (NN.get (by k_mem)) (fresh_h (News.fresh (h₀ := hideAll s.heap [dn]) NN (.head _)) (by k_ne)) (fresh_h (News.fresh (h₀ := hideAll s.heap [dn]) NN (.tail _ (.tail _ (.head _)))) (by k_ne)) (fresh_h (News.fresh (h₀ := hideAll s.heap [dn]) NN (.tail _ (.tail _ (.tail _ (.tail _ (.head _)))))) (by k_ne))
end

theorem lay_made {way : Way} {m : PyData} (h : m.canLay0 = true) : (wMade way m).canLay0 = true := by
  have s1 : PyData.strOk "box" = true := by decide +kernel
  have s2 : PyData.strOk "fields" = true := by decide +kernel
  have s3 : PyData.strOk "variant" = true := by decide +kernel
  cases way <;> simp [wMade, PyData.canLay0, PyData.canLayAll0, h, s1, s2, s3]
theorem Good.layM {k : Nat} {T t m : PyData} (g : Good k T t m) : m.canLay0 = true := by
  induction g with
  | int hκ h => rfl
  | layer way g ih => exact lay_made ih
abbrev noD : PyData := .tuple [.str "nothing"]
theorem made_no (way : Way) (m : PyData) : PyData.eqv (wMade way m) noD = false := by
  cases way <;> simp [wMade, PyData.eqv, PyData.eqvAll]
section
variable {prog : Program} {w : World} {p : Program} {loose : List Str} {mg mb : Str → Option Value} {dp un : Nat} {fr : Option (List Env)} {gd : Option (List Code)} {s : Shared} {h₀ h h' : Heap} {L : Addr} {m : Str → Option Value} {news : List (Addr × Obj)} {Q E : Value → Shared → Prop}
theorem eqN {A : Around} {ta : Addr} {d : PyData} (F : Fr h₀ L s.heap m) (X : (hd.heap_1 w.params).In h₀) (x : HD h₀ (.ref ta) d) (hl : d.canLay0 = true) (hd' : PyData.eqv d noD = false) (hu : A.units + 5 < cLine)
    (h : Q (.bool false) s) : wpAny (model prog w) A (compareOp .Eq (.ref ta) (.ref 127)) Q E s := by
  obtain ⟨as, r⟩ := x.keeps F.keep
  have hN : HD s.heap (.ref 127) noD := HD.tuple (l := [.str "nothing" _]) ((X.keeps F.keep) 127 _ rfl) rfl rfl (HDs.cons HD.str HDs.nil)
  obtain ⟨bs, r2⟩ := hN
  have s1 : PyData.strOk "nothing" = true := by decide +kernel
  refine SeqAt.compareEq_reads r r2 hl (by simp [PyData.canLay0, PyData.canLayAll0, s1]) (Nat.lt_of_le_of_lt (Nat.add_le_add_left (Nat.le_trans (Nat.min_le_right _ _) (show PyData.depth noD ≤ 5 by decide)) _) hu) ?_
  rw [hd']
  exact h
theorem plainI_ {n : Int} {u : Tok} (X : (hd.heap_1 w.params).In s.heap) (T : TopRead p loose mg mb s.heap) (hdp : dp + 5 < recursionLimit) (hu : un + 60 < cLine)
    (hret : ∀ h' tk', Kp [] s.heap h' → Q (.bool true) { s with heap := h', toks := tk' }) :
    wpAny (model prog w) (AA dp un fr gd) (call (.ref 134) [.int n u]) Q E s := by
  refine wpAny_call ?_
  k_dflt (refine' enterP (binds := [("value", .int n u)]) [] X ?k2 ?k3 ?k6 ?k7 ?k9 ?kB ?_ ?c2 ?c3 ?c4 ?c5)
  walk_at "M enter"
  intro L h₁ hL F hk
  clear hk
  have X₀ : (hd.heap_1 w.params).In (hideAll s.heap []) := X
  have T₀ : TopRead p loose mg mb (hideAll s.heap []) := T
  have N : News (hideAll s.heap []) L h₁ [] := News.nil
  clear X T
  all_goals (try dsimp only)
  all_goals (try k_fold)
  all_goals walk_at "M steps"
  all_goals exact hret _ _ (Kp.of_fr (by assumption))
theorem isi_tupI {a : Addr} {its : Array Value} {A : Around} (F : Fr h₀ L s.heap m) (x : IsTup h₀ a its) (h : Q (.bool false) { s with toks := s.toks + 1 }) : wpAny (model prog w) A (call (.builtin "isinstance") [.ref a, .type "int"]) Q E s := by
  obtain ⟨o, e, c, _⟩ := x
  exact IsiPair.tuple_int (F.keep _ _ e) c h
theorem reg46 : True := by
  (k_with "call builtin:isinstance" => ((k_here; (with_reducible show wpAny _ _ (call (Value.builtin "isinstance") [Value.ref _, Value.type "int"]) _ _ _); k_dflt (refine isi_tupI (by assumption) (by assumption) ?_))))
  exact True.intro
theorem plainT_ {a : Addr} {its : Array Value} (X : (hd.heap_1 w.params).In s.heap) (T : TopRead p loose mg mb s.heap) (hdp : dp + 5 < recursionLimit) (hu : un + 60 < cLine) (hT : IsTup s.heap a its)
    (hret : ∀ h' tk', Kp [] s.heap h' → Q (.bool false) { s with heap := h', toks := tk' }) :
    wpAny (model prog w) (AA dp un fr gd) (call (.ref 134) [.ref a]) Q E s := by
  have hT₀ : IsTup (hideAll s.heap []) a its := hT
  refine wpAny_call ?_
  k_dflt (refine' enterP (binds := [("value", .ref a)]) [] X ?k2 ?k3 ?k6 ?k7 ?k9 ?kB ?_ ?c2 ?c3 ?c4 ?c5)
  walk_at "M enter"
  intro L h₁ hL F hk
  clear hk
  have X₀ : (hd.heap_1 w.params).In (hideAll s.heap []) := X
  have T₀ : TopRead p loose mg mb (hideAll s.heap []) := T
  have N : News (hideAll s.heap []) L h₁ [] := News.nil
  clear X T
  clear hT
  all_goals (try dsimp only)
  all_goals (try k_fold)
  all_goals walk_at "M steps"
  all_goals exact hret _ _ (Kp.of_fr (by assumption))
theorem call_plainI {n : Int} {u : Tok} (F : Fr h₀ L s.heap m) (X : (hd.heap_1 w.params).In h₀) (T : TopRead p loose mg mb h₀) (N : News h₀ L s.heap news) (hdp : dp + 5 < recursionLimit) (hu : un + 60 < cLine)
    (ret : ∀ h' tk', Fr h₀ L h' m → News h₀ L h' news → Q (.bool true) { s with heap := h', toks := tk' }) :
    wpAny (model prog w) (AA dp un fr gd) (call (.ref 134) [.int n u]) Q E s :=
  plainI_ (X.keeps F.keep) (T.keeps F.keep) hdp hu fun h' tk' k => ret h' tk' (Kp.frame F k) (News.kp N k)
theorem call_plainT {a : Addr} {its : Array Value} (F : Fr h₀ L s.heap m) (X : (hd.heap_1 w.params).In h₀) (T : TopRead p loose mg mb h₀) (N : News h₀ L s.heap news) (hdp : dp + 5 < recursionLimit) (hu : un + 60 < cLine) (hT : IsTup h₀ a its)
    (ret : ∀ h' tk', Fr h₀ L h' m → News h₀ L h' news → Q (.bool false) { s with heap := h', toks := tk' }) :
    wpAny (model prog w) (AA dp un fr gd) (call (.ref 134) [.ref a]) Q E s :=
  plainT_ (X.keeps F.keep) (T.keeps F.keep) hdp hu (hT.keeps F.keep) fun h' tk' k => ret h' tk' (Kp.frame F k) (News.kp N k)
end
theorem reg47 : True := by
  (k_with "call ref" => ((k_here; (with_reducible show wpAny _ _ (call (Value.ref 134) [Value.int _ _]) _ _ _); (k_dflt (refine' call_plainI ?F_q110 ?X_q110 ?T_q110 ?N_q110 ?hdp_q110 ?hu_q110 ?_; (case F_q110 => k_asm); (case X_q110 => k_asm); (case T_q110 => k_asm); (case N_q110 => k_asm); (case hdp_q110 => walk_at "M lt"); (case hu_q110 => walk_at "M lt"); k_whole)); intro h9 t9 F9 N9)))
  (k_with "call ref" => ((k_here; (with_reducible show wpAny _ _ (call (Value.ref 134) [Value.ref _]) _ _ _); (k_dflt (refine' call_plainT ?F_q111 ?X_q111 ?T_q111 ?N_q111 ?hdp_q111 ?hu_q111 ?hT_q111 ?_; (case F_q111 => k_asm); (case X_q111 => k_asm); (case T_q111 => k_asm); (case N_q111 => k_asm); (case hdp_q111 => walk_at "M lt"); (case hu_q111 => walk_at "M lt"); (case hT_q111 => assumption); k_whole)); intro h9 t9 F9 N9)))
  (k_with "compareOp Eq ref ref" => ((k_here; (with_reducible show wpAny _ _ (compareOp CmpOp.Eq (Value.ref _) (Value.ref 127)) _ _ _); k_dflt (refine eqN (by assumption) (by assumption) (by assumption) (by assumption) (by assumption) (by walk_at "M unit") ?_))))
  exact True.intro
abbrev shM (dn wt : Addr) (rd : Value) (m0 : Str → Option Value) : Str → Option Value := fun y => if y = Str.ofString "done" then some (.ref dn) else if y = Str.ofString "waiting" then some (.ref wt) else if y = Str.ofString "read" then some rd else m0 y
theorem fr_normS {B h : Heap} {L dn wt : Addr} {wv : Value} {m : Str → Option Value} (F : Fr B L h m) (h1 : m (Str.ofString "done") = some (.ref dn)) (h2 : m (Str.ofString "waiting") = some (.ref wt)) (h3 : m (Str.ofString "read") = some wv) : Fr B L h (shM dn wt wv m) := by
  have e : m = shM dn wt wv m := by
    funext y
    show m y = if y = Str.ofString "done" then some (.ref dn) else if y = Str.ofString "waiting" then some (.ref wt) else if y = Str.ofString "read" then some wv else m y
    by_cases q1 : y = Str.ofString "done"
    · rw [if_pos q1, q1, h1]
    · rw [if_neg q1]
      by_cases q2 : y = Str.ofString "waiting"
      · rw [if_pos q2, q2, h2]
      · rw [if_neg q2]
        by_cases q3 : y = Str.ofString "read"
        · rw [if_pos q3, q3, h3]
        · rw [if_neg q3]
  exact e ▸ F
/-- the head of shown's loop -/
structure InvS (w : World) (p : Program) (loose : List Str) (mg mb : Str → Option Value) (B h : Heap) (L dn wt : Addr) (rd : Value) (ds ws : List Value) (rest : List (Addr × Obj)) : Prop where
  X : (hd.heap_1 w.params).In B
  T : TopRead p loose mg mb B
  fr : ∃ m0, Fr B L h (shM dn wt rd m0)
  ld : ∃ nd nw, News B L h ((dn, wlist ds nd) :: (wt, wlist ws nw) :: rest)
  ne : @Ne Nat dn wt
  nd : ∀ q ∈ rest, @Ne Nat q.1 dn
  nw : ∀ q ∈ rest, @Ne Nat q.1 wt
  wo : ∃ dws, Via B rest (HDs · ws dws) ∧ (PyData.list dws).canLay0 = true
  wl : ws.length < 900
theorem rebaseS {w : World} {p : Program} {loose : List Str} {mg mb : Str → Option Value} {B h : Heap} {L dn wt : Addr} {rd : Value} {ds ws : List Value} {m : Str → Option Value} {news rest : List (Addr × Obj)} {nd nw : Nat}
    (X : (hd.heap_1 w.params).In B) (T : TopRead p loose mg mb B) (F : Fr B L h m) (N : News B L h news) (hd1 : (dn, wlist ds nd) ∈ news) (hw : (wt, wlist ws nw) ∈ news)
    (ne : @Ne Nat dn wt) (hsub : ∀ q ∈ rest, q ∈ news ∧ @Ne Nat q.1 dn ∧ @Ne Nat q.1 wt) {dws : List PyData} (hws : ∀ h', B.StaysIn h' → (∀ q ∈ news, @Ne Nat q.1 dn → @Ne Nat q.1 wt → h'.get? q.1 = some q.2) → HDs h' ws dws) (hlay : (PyData.list dws).canLay0 = true) (hwl : ws.length < 900) (h1 : m (Str.ofString "done") = some (.ref dn)) (h2 : m (Str.ofString "waiting") = some (.ref wt)) (h3 : m (Str.ofString "read") = some rd) :
    ∃ rest', InvS w p loose mg mb B h L dn wt rd ds ws rest' ∧ (∀ q ∈ rest, q ∈ rest') ∧ ∀ q ∈ news, @Ne Nat q.1 dn → @Ne Nat q.1 wt → q ∈ rest' := by
  have key : ∀ q : Addr × Obj, q ∈ news.filter (fun q => decide (@Ne Nat q.1 dn ∧ @Ne Nat q.1 wt)) ↔ q ∈ news ∧ @Ne Nat q.1 dn ∧ @Ne Nat q.1 wt := fun q => by
    rw [List.mem_filter, decide_eq_true_eq]
  refine ⟨_, ⟨X, T, ⟨m, fr_normS F h1 h2 h3⟩, ⟨nd, nw, fun q hq => ?_⟩, ne, fun q hq => ((key q).mp hq).2.1, fun q hq => ((key q).mp hq).2.2, ⟨dws, fun h' b r => hws h' b fun q hq a1 a2 => r q ((key q).mpr ⟨hq, a1, a2⟩), hlay⟩, hwl⟩, fun q hq => (key q).mpr (hsub q hq), fun q hq a b => (key q).mpr ⟨hq, a, b⟩⟩
  rcases List.mem_cons.mp hq with rfl | hq
  · exact N _ hd1
  rcases List.mem_cons.mp hq with rfl | hq
  · exact N _ hw
  · exact N _ ((key q).mp hq).1
theorem InvS.via {w : World} {p : Program} {loose : List Str} {mg mb : Str → Option Value} {B h : Heap} {L dn wt : Addr} {rd : Value} {ds ws : List Value} {rest : List (Addr × Obj)} {P : Heap → Prop} (I : InvS w p loose mg mb B h L dn wt rd ds ws rest) (x : Via B rest P) : P h := by
  obtain ⟨m0, F⟩ := I.fr
  obtain ⟨nd, nw, N⟩ := I.ld
  exact x h F.keep fun q hq => (N q (.tail _ (.tail _ hq))).1
section
variable {prog : Program} {w : World} {p : Program} {loose : List Str} {mg mb : Str → Option Value} {dp un : Nat} {fr : Option (List Env)} {gd : Option (List Code)} {s : Shared} {h₀ h h' : Heap} {L : Addr} {m : Str → Option Value} {news : List (Addr × Obj)} {Q E : Value → Shared → Prop}
variable {rd : Value} {L dn wt : Addr} {l : Option (List Env)} {test : PySem.Expr} {body orelse : List Stmt} {env : Env} {R : Result → Shared → Prop} {tk it ta : Addr} {rest : List (Addr × Obj)} {ds ws : List Value}
theorem sturn_end (lp : LoopIs w.params 179 (.ref 178) L test body orelse env) (hdp : dp + 40 < recursionLimit) (hu : un + 300 < cLine)
    {h : Heap} (I : InvS w p loose mg mb h₀ h L dn wt rd ds [] rest) (hq : ∀ h' tk' rest', InvS w p loose mg mb h₀ h' L dn wt rd ds [] rest' → (∀ q ∈ rest, q ∈ rest') → R (.ok .next) { s with heap := h', toks := tk' }) :
    codeAny (model prog w) ((AA dp un l gd).deeper env) (.whileLoop test body orelse env) R { s with heap := h, toks := tk } := by
  obtain ⟨fd, b, e1, e2, e3, e4⟩ := lp
  cases e1
  cases e2
  cases e3
  subst e4
  obtain ⟨X, TR, ⟨m0, F⟩, ⟨nd, nw, N⟩, n1, n4, n5, ⟨dws, via, lay⟩, wl⟩ := I
  refine while_turn2 fun QT QB EB hTT hTF hBN hBR hEB hEO => ?_
  try dsimp only
  try k_fold
  walk_at "M steps"
  rename Fr _ _ _ _ => FN
  rename News _ _ _ _ => NN
  obtain ⟨rest', I', sub, new⟩ := rebaseS (rest := rest) (dn := dn) (wt := wt) (ds := ds) (ws := []) (dws := dws) X TR FN NN (by k_mem) (by k_mem) n1 (fun q hq => ⟨by walk_at "M sub", n4 q hq, n5 q hq⟩) (fun h' b r => via h' b fun q hq => r q (by walk_at "M sub") (n4 q hq) (n5 q hq)) lay wl rfl rfl rfl
  exact hq _ _ _ I' sub
theorem sturn_int (lp : LoopIs w.params 179 (.ref 178) L test body orelse env) (hdp : dp + 40 < recursionLimit) (hu : un + 300 < cLine)
    {h : Heap} {n : Int} {u : Tok} (hdl : ds.length < 1000) (I : InvS w p loose mg mb h₀ h L dn wt rd ds (ws ++ [.ref it]) rest) (hin : (it, tupO #[.bool false, .int n u]) ∈ rest)
    (hq : ∀ h' tk' rest', InvS w p loose mg mb h₀ h' L dn wt rd (ds ++ [.int n u]) ws rest' → (∀ q ∈ rest, q ∈ rest') → codeAny (model prog w) ((AA dp un l gd).deeper env) (.whileLoop test body orelse env) R { s with heap := h', toks := tk' }) :
    codeAny (model prog w) ((AA dp un l gd).deeper env) (.whileLoop test body orelse env) R { s with heap := h, toks := tk } := by
  revert hq
  obtain ⟨fd, b, e1, e2, e3, e4⟩ := lp
  cases e1
  cases e2
  cases e3
  subst e4
  intro hq
  obtain ⟨X, TR, ⟨m0, F⟩, ⟨nd, nw, N⟩, n1, n4, n5, ⟨dws, via, lay⟩, wl⟩ := I
  refine while_turn2 fun QT QB EB hTT hTF hBN hBR hEB hEO => ?_
  have N := News.dup2 N hin
  have a1 : @Ne Nat it dn := n4 _ hin
  have a2 : @Ne Nat it wt := n5 _ hin
  have wl' : ws.length < 899 := by
    rw [List.length_append] at wl
    exact Nat.lt_of_succ_lt_succ wl
  try dsimp only
  try k_fold
  walk_at "M steps"
  rename Fr _ _ _ _ => FN
  rename News _ _ _ _ => NN
  obtain ⟨rest', I', sub, new⟩ := rebaseS (rest := rest) (dn := dn) (wt := wt) (ds := ds ++ [.int n u]) (ws := ws) (dws := dws.dropLast) X TR FN NN (by k_mem) (by k_mem) n1 (fun q hq => ⟨by walk_at "M sub", n4 q hq, n5 q hq⟩) (fun h' b r => HDs.init (via h' b fun q hq => r q (by walk_at "M sub") (n4 q hq) (n5 q hq))) (lay_init lay) (by omega) rfl rfl rfl
  exact hq _ _ _ I' sub
end

section
variable {prog : Program} {w : World} {A : Around} {E : Value → Shared → Prop} {s : Shared} {h₀ : Heap} {L : Addr} {m : Str → Option Value} {news : List (Addr × Obj)}
theorem sliceApplied_rev {sl : Addr} {n : Nat} {u : Tok} {lo hi : Int} {k : Nat} {Q : Int × Int × Nat → Shared → Prop} (hs : s.heap.IsSliceOf sl .none .none (.int (-1) u)) (e1 : Builtin.Slice.sliceAdjust none none (-1) (n : Int) = (lo, hi)) (e2 : Builtin.Slice.slicePlaces lo hi (-1) = k) (h : Q (lo, -1, k) s) :
    wpAny (model prog w) A (Builtin.Slice.sliceApplied (.ref sl) (pure (n : Int))) Q E s := by
  obtain ⟨os, hos, hcs, hds⟩ := id hs
  unfold Builtin.Slice.sliceApplied Builtin.Slice.sliceFields
  refine wpAny_bind (wpAny_bind (wpAny_field hos hds (x := .none) rfl (wpAny_bind (wpAny_field hos hds (x := .none) rfl (wpAny_bind (wpAny_field hos hds (x := .int (-1) u) rfl (wpAny_pure ?_)))))))
  refine wpAny_bind (slicePart_int ?_)
  show wpAny _ _ (if ((-1 : Int) == 0) = true then _ else _) _ _ s
  rw [if_neg (by decide)]
  refine wpAny_bind (slicePart_none (wpAny_bind (slicePart_none (wpAny_bind (wpAny_pure ?_)))))
  show wpAny _ _ (match Builtin.Slice.sliceAdjust none none (-1) (n : Int) with | (lo, hi) => pure (lo, (-1 : Int), Builtin.Slice.slicePlaces lo hi (-1))) _ _ s
  rw [e1]
  show wpAny _ _ (pure (lo, (-1 : Int), Builtin.Slice.slicePlaces lo hi (-1))) _ _ s
  rw [e2]
  exact wpAny_pure h
theorem getItem_tuple_rev {t sl : Addr} {items out : Array Value} {u : Tok} {lo hi : Int} {k n : Nat} {Q : Value → Shared → Prop} (ht : IsTup s.heap t items) (hs : s.heap.IsSliceOf sl .none .none (.int (-1) u)) (e0 : items.size = n) (e1 : Builtin.Slice.sliceAdjust none none (-1) (n : Int) = (lo, hi)) (e2 : Builtin.Slice.slicePlaces lo hi (-1) = k)
    (e3 : ((List.range k).filterMap fun (j : Nat) => items[(lo + (j : Int) * (-1)).toNat]?).toArray = out) (hsz : out.size ≤ sizeLine)
    (h : Q (.ref s.heap.objs.size) { s with heap := s.heap.push { cls := .type "tuple", data := .seq out } }) : wpAny (model prog w) A (getItem (.ref t) (.ref sl)) Q E s := by
  subst e0
  have hdrop : sizeOk (.seq out) := hsz
  obtain ⟨os, hos, hcs, hds⟩ := id hs
  have hTs : s.TypeIs (.ref sl) "slice" := ⟨os, hos, hcs⟩
  unfold getItem
  try with_reducible refine wpAny_holding ?_
  first | refine wpAny_bind (wpAny_pure ?_) | skip
  refine wpAny_bind (wpAny_sequenceKey ht.typeIs (by decide) ?_)
  refine wpAny_bind (wpAny_callSpecial?_slot (name := Str.ofString "__getitem__") ht.typeIs slot_tuple_getitem
    (wpAny_call_entry slot_tuple_getitem ht.typeIs entry_tuple_getitem ?_ (args_tuple_getitem _ _)))
  show wpAny _ _ (Builtin.Tuple.tupleItemsOf (.ref t) >>= _) _ _ s
  refine wpAny_bind (tupleItemsOf_ ht ?_)
  refine wpAny_bind (wpAny_typeOf hTs ?_)
  rw [if_pos (by decide)]
  refine wpAny_bind (sliceApplied_rev hs e1 e2 ?_)
  have hno : ¬ ((lo == 0 && (-1 : Int) == 1 && k == items.size) = true) := by simp
  show wpAny _ _ (if (lo == 0 && (-1 : Int) == 1 && k == items.size) = true then _ else _) _ _ s
  rw [if_neg hno, e3]
  first
    | exact wpAny_bind (m := Builtin.Tuple.tupleExact _) (wpAny_newObj_type (wpAny_pure ⟨_, rfl, wpAny_pure h⟩) hdrop)
    | exact wpAny_bind (m := Builtin.Tuple.tupleExact _) (wpAny_newObj_type (wpAny_bind (wpAny_pure (wpAny_pure ⟨_, rfl, wpAny_pure h⟩))) hdrop)
    | exact wpAny_bind (wpAny_bind (m := Builtin.Tuple.tupleExact _) (wpAny_newObj_type (wpAny_pure (wpAny_pure ⟨_, rfl, wpAny_pure h⟩)) hdrop))
    | exact wpAny_bind (wpAny_bind (m := Builtin.Tuple.tupleExact _) (wpAny_newObj_type (wpAny_pure ⟨_, rfl, wpAny_pure h⟩) hdrop))
theorem slice_rev {value slice : PySem.Expr} {t : Addr} {items out : Array Value} {u : Tok} {lo hi : Int} {k n : Nat} {ops : List Value} {Q : Value → Shared → Prop}
    (F : Fr h₀ L s.heap m) (N : News h₀ L s.heap news) (ht : IsTup h₀ t items) (e0 : items.size = n) (e1 : Builtin.Slice.sliceAdjust none none (-1) (n : Int) = (lo, hi)) (e2 : Builtin.Slice.slicePlaces lo hi (-1) = k)
    (e3 : ((List.range k).filterMap fun (j : Nat) => items[(lo + (j : Int) * (-1)).toNat]?).toArray = out) (hsz : out.size ≤ sizeLine)
    (h : ∀ D h', Fr h₀ L h' m → News h₀ L h' ((D, { cls := .type "tuple", data := .seq out }) :: news) → (∀ p ∈ news, p.1 < D) → Q (.ref D) { s with heap := h' })
    (hs : subscripted slice false (.ref t) (.ref s.heap.objs.size) = operate ops (getItem (.ref t) (.ref s.heap.objs.size)))
    (hg : ∀ r, letTemporaryGo value (.ref t) r = pure ()) :
    wpAny (model prog w) A (subscriptTail value slice (.ref t) (.ref s.heap.objs.size)) Q E { s with heap := s.heap.push { cls := .type "slice", data := .fields #[.none, .none, .int (-1) u] } } := by
  have ht' : IsTup (s.heap.push { cls := .type "slice", data := .fields #[.none, .none, .int (-1) u] }) t items := (ht.keeps F.keep).keeps fun _ _ e => Heap.get?_push_of_some _ e
  refine subscriptTail_ops (s := { s with heap := s.heap.push { cls := .type "slice", data := .fields #[.none, .none, .int (-1) u] } }) ht'.typeIs slot_tuple_getitem.lookup
    (getItem_tuple_rev ht' (Heap.IsSliceOf.new ..) e0 e1 e2 e3 hsz ?_) hs hg
  have N1 := News.push (F.push { cls := .type "slice", data := .fields #[.none, .none, .int (-1) u] }) (N.grown fun _ _ e => Heap.get?_push_of_some _ e) { cls := .type "tuple", data := .seq out }
  rw [Heap.size_push] at N1
  show Q (.ref (s.heap.push _).objs.size) _
  rw [Heap.size_push]
  exact h _ _ ((F.push _).push _) N1 fun p hp => Nat.lt_succ_of_lt (Heap.lt_size (N p hp).1)
theorem adj1 : Builtin.Slice.sliceAdjust none none (-1) ((1 : Nat) : Int) = (0, -1) := by decide
theorem adj2 : Builtin.Slice.sliceAdjust none none (-1) ((2 : Nat) : Int) = (1, -1) := by decide
theorem plc1 : Builtin.Slice.slicePlaces 0 (-1) (-1) = 1 := by decide
theorem plc2 : Builtin.Slice.slicePlaces 1 (-1) (-1) = 2 := by decide
theorem rev1 (a : Value) : ((List.range 1).filterMap fun (j : Nat) => (#[a] : Array Value)[((0 : Int) + (j : Int) * (-1)).toNat]?).toArray = #[a] := rfl
theorem rev2 (a b : Value) : ((List.range 2).filterMap fun (j : Nat) => (#[a, b] : Array Value)[((1 : Int) + (j : Int) * (-1)).toNat]?).toArray = #[b, a] := rfl
end
theorem reg48 : True := by
  (k_with "subscriptTail Name Slice ref ref" => ((k_here; (with_reducible show wpAny _ _ (subscriptTail _ (Expr.Slice none none (some _) _) (Value.ref _) (Value.ref _)) _ _ _); (k_dflt (first
  | (refine' slice_rev (s := ⟨_, _, _, _, _⟩) ?F_q113 ?N_q113 ?ht_q113 ?e0_q113 adj2 plc2 ?e3_q113 ?z_q113 ?_ ?hs_q113 ?hg_q113; (case F_q113 => k_asm); (case N_q113 => k_asm); (case ht_q113 => assumption); (case e0_q113 => exact rfl); (case e3_q113 => exact rev2 _ _); (case z_q113 => exact Nat.le_of_ble_eq_true rfl); (case hs_q113 => with_unfolding_all rfl); (case hg_q113 => (intro _; with_unfolding_all rfl)); k_whole)
  | (refine' slice_rev (s := ⟨_, _, _, _, _⟩) ?F_q113 ?N_q113 ?ht_q113 ?e0_q113 adj1 plc1 ?e3_q113 ?z_q113 ?_ ?hs_q113 ?hg_q113; (case F_q113 => k_asm); (case N_q113 => k_asm); (case ht_q113 => assumption); (case e0_q113 => exact rfl); (case e3_q113 => exact rev1 _); (case z_q113 => exact Nat.le_of_ble_eq_true rfl); (case hs_q113 => with_unfolding_all rfl); (case hg_q113 => (intro _; with_unfolding_all rfl)); k_whole))); (intro D9 h9 F9 N9 l9; (try k_lt l9); (try k_sweep)))))
  exact True.intro
def TAt (ax : Addr) (its : Array Value) (nw : List (Addr × Obj)) : Prop := False ∨ ∃ o, (ax, o) ∈ nw ∧ o.cls = .type "tuple" ∧ ∃ n, o.data = .seq its n
/-- what a comprehension over a tuple of the ledger asks of its source -/
def TSrc (prog : Program) (w : World) (A : Around) (h₀ : Heap) (L : Addr) (m : Str → Option Value) (env : Env) (elt : PySem.Expr) (x : Str) (scope : Scope) (cl : List (Str × Addr)) (Q : Value → Shared → Prop) (xv : Value) (s : Shared) : Prop :=
  ∃ ax its c news, xv = .ref ax ∧ Fr h₀ L s.heap m ∧ News h₀ L s.heap news ∧ (ax, ({ cls := .type "tuple", data := .seq its c } : Obj)) ∈ news ∧ its.size ≤ sizeLine ∧
    ∀ g, LCg.CompRest prog w A h₀ L m env elt x scope cl { s with heap := g } (TAt ax its) (fun i v => its[i]? = some v) (LCg.FinE h₀ L m { s with heap := g } Q) its.size 0 [] news
section
variable {prog : Program} {w : World} {A : Around} {E : Value → Shared → Prop} {s : Shared} {h₀ : Heap} {L : Addr} {m : Str → Option Value} {env : Env}
theorem comp_tup {elt iter : PySem.Expr} {x : Str} {px : Pos} {scope : Scope} {cl : List (Str × Addr)} {pos : Pos} {Q : Value → Shared → Prop} (F₀ : Fr h₀ L s.heap m)
    (hclos : closureFor scope env = pure cl) (hcell : ∀ y ∈ scope.names, y.2 ≠ .cell) (hkind : scope.kind = .function)
    (hnames : ∀ y ∈ scope.names, y.2 = .local → scope.names.lookup y.1 = some .local) (hx : scope.names.lookup x = some .local) (hh : A.handled = none)
    (h : wpAny (model prog w) A (eval iter env) (TSrc prog w A h₀ L m env elt x scope cl Q) E s)
    (hs : ∀ x, foldedSetIterable iter env x = pure x := by intro _; rfl) :
    wpAny (model prog w) A (eval (.ListComp elt [⟨.Name x px, iter, [], 0⟩] scope pos) env) Q E s := by
  rw [eval_ListComp]
  refine wpAny_comprehension_free (use := none) rfl hs hclos hkind hnames (wpAny_mono h (fun xv s₁ h₁ => ?_) fun _ _ e => e)
  obtain ⟨ax, its, c, news, rfl, F, N, hm, hsz, k⟩ := h₁
  have ht : s₁.heap.IsTuple ax its := ⟨_, N.get hm, rfl, _, rfl⟩
  have hlt : ax < s₁.heap.objs.size := Heap.lt_size (N.get hm)
  refine wpAny_pyIter_tuple ht ?_
  have up : ∀ b o, s₁.heap.get? b = some o → (s₁.heap.push { cls := .type "tuple_iterator", data := .fields #[.ref ax, .int 0 0] }).get? b = some o := fun b o e => Heap.get?_push_of_some _ e
  refine LCg.block_U (h₀ := h₀) (L := L) (m := m) (S := TAt ax its) (Walks.tuple hh s₁.heap.objs.size ax (Nat.ne_of_lt hlt) its) hsz (fun i h st => by obtain ⟨o, e, _⟩ := st.1; exact ⟨o, e⟩) (fun i h h' o nw st e e' k N S => tup_st i h h' o nw st e e' k N (S.elim (fun q => q.elim) id)) hcell hkind hx ⟨⟨_, Heap.get?_push_size _ rfl, rfl, rfl⟩, ht.push _⟩ (fun b hb => ?_)
    (F.keeps up) (N.grown up) (Nat.ne_of_lt F.ns.lt) (next_is_new F) (fun p hp => Nat.ne_of_lt (Heap.lt_size (N p hp).1)) (.inr ⟨_, hm, rfl, _, rfl⟩) (k _) ?_
  · show b < (s₁.heap.push _).objs.size
    rw [Heap.size_push]
    rcases List.mem_cons.mp hb with rfl | hb
    · exact Nat.lt_succ_self _
    · rw [List.mem_singleton.mp hb]; exact Nat.lt_succ_of_lt hlt
  · intro D C h tk m' ys news' F' N' o1 hn hC₀ hD₀ hCL hDL hCD offC fin
    refine ⟨m', hn, fun h'' hs'' => fin D h'' tk (F'.change hs'' hCL hC₀) (fun p hp => ?_) o1⟩
    refine ⟨hs''.extBut _ _ ?_ (N' p hp).1, (N' p hp).2⟩
    rcases List.mem_cons.mp hp with rfl | hp
    · exact Ne.symm hCD
    · exact offC p hp
theorem TSrc.intro {elt : PySem.Expr} {x : Str} {scope : Scope} {cl : List (Str × Addr)} {Q : Value → Shared → Prop} {ax : Addr} {its : Array Value} {c : Nat} {news : List (Addr × Obj)} (F : Fr h₀ L s.heap m) (N : News h₀ L s.heap news) (hm : (ax, ({ cls := .type "tuple", data := .seq its c } : Obj)) ∈ news) (hsz : its.size ≤ sizeLine)
    (k : ∀ g, LCg.CompRest prog w A h₀ L m env elt x scope cl { s with heap := g } (TAt ax its) (fun i v => its[i]? = some v) (LCg.FinE h₀ L m { s with heap := g } Q) its.size 0 [] news) : TSrc prog w A h₀ L m env elt x scope cl Q (.ref ax) s := ⟨_, _, _, _, rfl, F, N, hm, hsz, k⟩
theorem lg1 {n : Nat} {P : Nat → Prop} (e : n = 1) (h : P 1) : P n := e ▸ h
theorem lg2 {n : Nat} {P : Nat → Prop} (e : n = 2) (h : P 2) : P n := e ▸ h
end
theorem comp_one {h₀ : Heap} {L I C D : Addr} {m : Str → Option Value} {s₁ : Shared} {oI oC oD : Obj} {S : List (Addr × Obj) → Prop} {rest : Value → List (Addr × Obj) → Prop} {y : Value} {h' : Heap} {tk : Nat} {q : Addr × Obj} {news : List (Addr × Obj)}
    (F : Fr h₀ L h' m) (N : News h₀ L h' (q :: (I, oI) :: (C, oC) :: (D, oD) :: news)) (a : @Ne Nat q.1 I) (b : @Ne Nat q.1 C) (c : @Ne Nat q.1 D) (off : LCg.Off3 I C D news) (hS : S (q :: news)) (r : rest y (q :: news)) : LCg.CompEnd h₀ L m s₁ I oI C oC D oD S rest y { s₁ with heap := h', toks := tk } :=
  ⟨h', tk, q :: news, rfl, F, fun p hp => N p (by
      simp only [List.mem_cons] at hp ⊢
      rcases hp with h | h | h | h | h
      · exact .inr (.inl h)
      · exact .inr (.inr (.inl h))
      · exact .inr (.inr (.inr (.inl h)))
      · exact .inl h
      · exact .inr (.inr (.inr (.inr h)))), ⟨⟨a, b, c⟩, off⟩, hS, r⟩
theorem reg49 : True := by
  (k_with "eval ListComp" => ((k_here; (with_reducible show wpAny _ _ (eval (Expr.ListComp _ [⟨_, Expr.Subscript (Expr.Subscript (Expr.Name (Str.ofString "thing") _) _ _) _ _, _, _⟩] _ _) _) _ _ _); k_dflt (refine comp_tup (F₀ := by k_asm) (by with_unfolding_all rfl) (by decide) (by rfl) (by decide) (by rfl) (by rfl) ?_))))
  (k_with "CompRest" => ((k_dflt (with_unfolding_all first | (refine LCg.CompRest.succ ?_; intro v9 I9 oI9 C9 oC9 D9 m9 h9 t9 E9 hv9 hC9 hx9 F9 N9 off9 ne9; lcg_open hv9; have offS := off9; (try simp only [LCg.Off3, and_true] at offS)) | refine LCg.CompRest.zero ?_))))
  (k_with "CompEnd" => ((k_dflt (refine' comp_one ?F_q116 ?N_q116 ?a_q116 ?b_q116 ?c_q116 ?o_q116 ?S_q116 ?_; (case F_q116 => k_asm); (case N_q116 => k_asm); (case a_q116 => k_ne); (case b_q116 => k_ne); (case c_q116 => k_ne); (case o_q116 => assumption); (case S_q116 => exact Or.inr ⟨_, by k_mem, rfl, _, rfl⟩); k_whole))))
  (k_with "TSrc" => ((k_dflt (refine' TSrc.intro ?F_q117 ?N_q117 ?m_q117 ?z_q117 ?_; (case F_q117 => k_asm); (case N_q117 => k_asm); (case m_q117 => k_mem); (case z_q117 => exact Nat.le_of_ble_eq_true rfl); k_whole); intro g9; lcg_lit)))
  exact True.intro
theorem inv_madeT {B : Heap} {dm : PyData} {ta : Addr} (x : HD B (.ref ta) (wMade .tup dm)) : ∃ t1 tp v u, IsTup B ta #[.str "fields" t1, .ref tp] ∧ IsTup B tp #[v, .int 7 u] ∧ HD B v dm := by
  obtain ⟨a, l, e, ht, hl⟩ := HD.inv_tuple x
  cases e
  obtain ⟨v1, r1, rfl, h1, hl⟩ := HDs.inv_cons hl
  obtain ⟨v2, r2, rfl, h2, hl⟩ := HDs.inv_cons hl
  obtain rfl := HDs.inv_nil hl
  obtain ⟨t1, rfl⟩ := HD.inv_str h1
  obtain ⟨tp, _, rfl, _⟩ := HD.inv_tuple h2
  obtain ⟨v, u, htp, hv⟩ := inv_l2 h2
  exact ⟨t1, tp, v, u, ht, htp, hv⟩
theorem inv_madeA {B : Heap} {dm : PyData} {ta : Addr} (x : HD B (.ref ta) (wMade .arr dm)) : ∃ t1 tp v, IsTup B ta #[.str "fields" t1, .ref tp] ∧ IsTup B tp #[v] ∧ HD B v dm := by
  obtain ⟨a, l, e, ht, hl⟩ := HD.inv_tuple x
  cases e
  obtain ⟨v1, r1, rfl, h1, hl⟩ := HDs.inv_cons hl
  obtain ⟨v2, r2, rfl, h2, hl⟩ := HDs.inv_cons hl
  obtain rfl := HDs.inv_nil hl
  obtain ⟨t1, rfl⟩ := HD.inv_str h1
  obtain ⟨tp, _, rfl, _⟩ := HD.inv_tuple h2
  obtain ⟨v, htp, hv⟩ := inv_l1 h2
  exact ⟨t1, tp, v, ht, htp, hv⟩
theorem inv_madeD {B : Heap} {dm : PyData} {ta : Addr} (x : HD B (.ref ta) (wMade .adt dm)) : ∃ t1 u0 tp v u, IsTup B ta #[.str "variant" t1, .int 0 u0, .ref tp] ∧ IsTup B tp #[v, .int 7 u] ∧ HD B v dm := by
  obtain ⟨a, l, e, ht, hl⟩ := HD.inv_tuple x
  cases e
  obtain ⟨v1, r1, rfl, h1, hl⟩ := HDs.inv_cons hl
  obtain ⟨v2, r2, rfl, h2, hl⟩ := HDs.inv_cons hl
  obtain ⟨v3, r3, rfl, h3, hl⟩ := HDs.inv_cons hl
  obtain rfl := HDs.inv_nil hl
  obtain ⟨t1, rfl⟩ := HD.inv_str h1
  obtain ⟨u0, rfl⟩ := HD.inv_int h2
  obtain ⟨tp, _, rfl, _⟩ := HD.inv_tuple h3
  obtain ⟨v, u, htp, hv⟩ := inv_l2 h3
  exact ⟨t1, u0, tp, v, u, ht, htp, hv⟩
def MidS (way : Way) (rest : List (Addr × Obj)) (mid : List Value) : Prop := if way.two then ∃ i u, mid = [.ref i] ∧ (i, tupO #[.bool false, .int 7 u]) ∈ rest else mid = []

theorem fnAt_fr {q L : Addr} {h₀ h : Heap} {m : Str → Option Value} (x : FnAt q h₀) (F : Fr h₀ L h m) : FnAt q h := by
  obtain ⟨oc, od, fd, sl, e⟩ := x
  exact ⟨oc, od, fd, sl, F.keep _ _ e⟩
theorem reg50 : True := by
  (k_with "callWith ref" => ((k_here; k_dflt (refine' callWith_F ?k1_q118 ?_; (case k1_q118 => exact fnAt_fr (by assumption) (by assumption)); k_whole))))
  (k_with "FnAt" => ((k_dflt (exact fnAt_fr (by assumption) (by assumption)))))
  exact True.intro
theorem w1 (ws : List Value) (a b : Value) : ws ++ [a] ++ [b] = ws ++ [a] ++ [] ++ [b] := by rw [List.append_nil]
theorem w2 (ws : List Value) (a b c : Value) : ws ++ [a] ++ [b, c] = ws ++ [a] ++ [b] ++ [c] := by simp
theorem closeS {w : World} {p : Program} {loose : List Str} {mg mb : Str → Option Value} {h₀ h : Heap} {L dn wt i1 i2 ta : Addr} {rd v : Value} {m : Str → Option Value} {news rest : List (Addr × Obj)} {nd nw : Nat} {two : Bool} {ds ws mid W : List Value} {dws : List PyData} {dT dv : PyData} {y : Value}
    (X : (hd.heap_1 w.params).In h₀) (TR : TopRead p loose mg mb h₀) (F : Fr h₀ L h m) (N : News h₀ L h news) (hd1 : (dn, wlist ds nd) ∈ news) (hw : (wt, wlist W nw) ∈ news) (hW : W = ws ++ [.ref i1] ++ mid ++ [.ref i2])
    (ne : @Ne Nat dn wt) (hsub : ∀ q ∈ rest, q ∈ news ∧ @Ne Nat q.1 dn ∧ @Ne Nat q.1 wt) (m1 : (i1, tupO #[.bool true, .ref ta]) ∈ news) (m2 : (i2, tupO #[.bool false, v]) ∈ news) (e1 : @Ne Nat i1 dn ∧ @Ne Nat i1 wt) (e2 : @Ne Nat i2 dn ∧ @Ne Nat i2 wt)
    (hmid : (two = false ∧ mid = []) ∨ (two = true ∧ ∃ i3 u, mid = [.ref i3] ∧ (i3, tupO #[.bool false, .int 7 u]) ∈ news ∧ @Ne Nat i3 dn ∧ @Ne Nat i3 wt))
    (via : Via h₀ rest (HDs · (ws ++ [y]) dws)) (lay : (PyData.list dws).canLay0 = true) (hT : HD h₀ (.ref ta) dT) (hv : HD h₀ v dv) (lT : dT.canLay0 = true) (lv : dv.canLay0 = true) (hwl : ws.length < 800)
    (h1 : m (Str.ofString "done") = some (.ref dn)) (h2 : m (Str.ofString "waiting") = some (.ref wt)) (h3 : m (Str.ofString "read") = some rd) :
    ∃ rest', InvS w p loose mg mb h₀ h L dn wt rd ds (ws ++ [.ref i1] ++ mid ++ [.ref i2]) rest' ∧ (∀ q ∈ rest, q ∈ rest') ∧ (i1, tupO #[.bool true, .ref ta]) ∈ rest' ∧ (i2, tupO #[.bool false, v]) ∈ rest' ∧ (if two then ∃ i u, mid = [.ref i] ∧ (i, tupO #[.bool false, .int 7 u]) ∈ rest' else mid = []) := by
  subst hW
  have q1 : (PyData.list [.tuple [.bool true, dT]]).canLay0 = true := by simp [PyData.canLay0, PyData.canLayAll0, lT]
  have q2 : (PyData.list [.tuple [.bool false, dv]]).canLay0 = true := by simp [PyData.canLay0, PyData.canLayAll0, lv]
  have z1 : ∀ h', h₀.StaysIn h' → (∀ q ∈ news, @Ne Nat q.1 dn → @Ne Nat q.1 wt → h'.get? q.1 = some q.2) → HDs h' ws dws.dropLast := fun h' b r => HDs.init (via h' b fun q hq => r q (hsub q hq).1 (hsub q hq).2.1 (hsub q hq).2.2)
  have z2 : ∀ h', h₀.StaysIn h' → (∀ q ∈ news, @Ne Nat q.1 dn → @Ne Nat q.1 wt → h'.get? q.1 = some q.2) → HDs h' [.ref i1] [.tuple [.bool true, dT]] := fun h' b r => HDs.cons (HD.tuple (r _ m1 e1.1 e1.2) rfl rfl (HDs.cons HD.bool (HDs.cons (hT.keeps b) HDs.nil))) HDs.nil
  have z3 : ∀ h', h₀.StaysIn h' → (∀ q ∈ news, @Ne Nat q.1 dn → @Ne Nat q.1 wt → h'.get? q.1 = some q.2) → HDs h' [.ref i2] [.tuple [.bool false, dv]] := fun h' b r => HDs.cons (HD.tuple (r _ m2 e2.1 e2.2) rfl rfl (HDs.cons HD.bool (HDs.cons (hv.keeps b) HDs.nil))) HDs.nil
  rcases hmid with ⟨rfl, rfl⟩ | ⟨rfl, i3, u, rfl, m3, e31, e32⟩
  · obtain ⟨rest', I', sub, new⟩ := rebaseS (rest := rest) (dws := dws.dropLast ++ [.tuple [.bool true, dT]] ++ [.tuple [.bool false, dv]]) X TR F N hd1 hw ne hsub
      (fun h' b r => by rw [List.append_nil]; exact HDs.app (HDs.app (z1 h' b r) (z2 h' b r)) (z3 h' b r)) (lay_app (lay_app (lay_init lay) q1) q2) (by simp only [List.length_append, List.length_cons, List.length_nil]; omega) h1 h2 h3
    exact ⟨rest', I', sub, new _ m1 e1.1 e1.2, new _ m2 e2.1 e2.2, rfl⟩
  · obtain ⟨rest', I', sub, new⟩ := rebaseS (rest := rest) (dws := dws.dropLast ++ [.tuple [.bool true, dT]] ++ [.tuple [.bool false, .int 7]] ++ [.tuple [.bool false, dv]]) X TR F N hd1 hw ne hsub
      (fun h' b r => HDs.app (HDs.app (HDs.app (z1 h' b r) (z2 h' b r)) (HDs.cons (HD.tuple (r _ m3 e31 e32) rfl rfl (HDs.cons HD.bool (HDs.cons HD.int HDs.nil))) HDs.nil)) (z3 h' b r)) (lay_app (lay_app (lay_app (lay_init lay) q1) rfl) q2) (by simp only [List.length_append, List.length_cons, List.length_nil]; omega) h1 h2 h3
    exact ⟨rest', I', sub, new _ m1 e1.1 e1.2, new _ m2 e2.1 e2.2, i3, u, rfl, new _ m3 e31 e32⟩
section
variable {prog : Program} {w : World} {p : Program} {loose : List Str} {mg mb : Str → Option Value} {dp un : Nat} {fr : Option (List Env)} {gd : Option (List Code)} {s : Shared} {h₀ h h' : Heap} {L : Addr} {m : Str → Option Value} {news : List (Addr × Obj)} {Q E : Value → Shared → Prop}
variable {rd : Value} {L dn wt : Addr} {l : Option (List Env)} {test : PySem.Expr} {body orelse : List Stmt} {env : Env} {R : Result → Shared → Prop} {tk it ta : Addr} {rest : List (Addr × Obj)} {ds ws : List Value}
theorem sturn_layT (lp : LoopIs w.params 179 (.ref 178) L test body orelse env) (hdp : dp + 40 < recursionLimit) (hu : un + 300 < cLine)
    {h : Heap} {dm : PyData} (hwl : ws.length < 800) (I : InvS w p loose mg mb h₀ h L dn wt rd ds (ws ++ [.ref it]) rest) (hin : (it, tupO #[.bool false, .ref ta]) ∈ rest) (hM : HD h₀ (.ref ta) (wMade .tup dm)) (hl : dm.canLay0 = true)
    (hq : ∀ h' tk' rest' i1 i2 mid v, InvS w p loose mg mb h₀ h' L dn wt rd ds (ws ++ [.ref i1] ++ mid ++ [.ref i2]) rest' → (∀ q ∈ rest, q ∈ rest') → (i1, tupO #[.bool true, .ref ta]) ∈ rest' → MidS .tup rest' mid → (i2, tupO #[.bool false, v]) ∈ rest' → HD h₀ v dm → codeAny (model prog w) ((AA dp un l gd).deeper env) (.whileLoop test body orelse env) R { s with heap := h', toks := tk' }) :
    codeAny (model prog w) ((AA dp un l gd).deeper env) (.whileLoop test body orelse env) R { s with heap := h, toks := tk } := by
  revert hq
  obtain ⟨fd, b, e1, e2, e3, e4⟩ := lp
  cases e1
  cases e2
  cases e3
  subst e4
  intro hq
  obtain ⟨X, TR, ⟨m0, F⟩, ⟨nd, nw, N⟩, n1, n4, n5, ⟨dws, via, lay⟩, wl⟩ := I
  refine while_turn2 fun QT QB EB hTT hTF hBN hBR hEB hEO => ?_
  have N := News.dup2 N hin
  have a1 : @Ne Nat it dn := n4 _ hin
  have a2 : @Ne Nat it wt := n5 _ hin
  have wl' : ws.length < 899 := by omega
  have lM := lay_made (way := .tup) hl
  have noM := made_no .tup dm
  obtain ⟨t1, tp, v, u7, hTy, htp, hv⟩ := inv_madeT hM
  try dsimp only
  try k_fold
  walk_at "M steps"
  rename Fr _ _ _ _ => FN
  rename News _ _ _ _ => NN
  obtain ⟨rest', I', sub, k1, k2, k3⟩ := closeS (two := true) (mid := [.ref _]) (rest := rest) (dn := dn) (wt := wt) X TR FN NN (by k_mem) (by k_mem) (by exact w2 _ _ _ _) n1 (fun q hq => ⟨by walk_at "M sub", n4 q hq, n5 q hq⟩) (by k_mem) (by k_mem) ⟨by k_ne, by k_ne⟩ ⟨by k_ne, by k_ne⟩ (.inr ⟨rfl, _, _, rfl, by k_mem, by k_ne, by k_ne⟩) via lay hM hv lM hl hwl rfl rfl rfl
  exact hq _ _ rest' _ _ _ v I' sub k1 k3 k2 hv
theorem sturn_layA (lp : LoopIs w.params 179 (.ref 178) L test body orelse env) (hdp : dp + 40 < recursionLimit) (hu : un + 300 < cLine)
    {h : Heap} {dm : PyData} (hwl : ws.length < 800) (I : InvS w p loose mg mb h₀ h L dn wt rd ds (ws ++ [.ref it]) rest) (hin : (it, tupO #[.bool false, .ref ta]) ∈ rest) (hM : HD h₀ (.ref ta) (wMade .arr dm)) (hl : dm.canLay0 = true)
    (hq : ∀ h' tk' rest' i1 i2 mid v, InvS w p loose mg mb h₀ h' L dn wt rd ds (ws ++ [.ref i1] ++ mid ++ [.ref i2]) rest' → (∀ q ∈ rest, q ∈ rest') → (i1, tupO #[.bool true, .ref ta]) ∈ rest' → MidS .arr rest' mid → (i2, tupO #[.bool false, v]) ∈ rest' → HD h₀ v dm → codeAny (model prog w) ((AA dp un l gd).deeper env) (.whileLoop test body orelse env) R { s with heap := h', toks := tk' }) :
    codeAny (model prog w) ((AA dp un l gd).deeper env) (.whileLoop test body orelse env) R { s with heap := h, toks := tk } := by
  revert hq
  obtain ⟨fd, b, e1, e2, e3, e4⟩ := lp
  cases e1
  cases e2
  cases e3
  subst e4
  intro hq
  obtain ⟨X, TR, ⟨m0, F⟩, ⟨nd, nw, N⟩, n1, n4, n5, ⟨dws, via, lay⟩, wl⟩ := I
  refine while_turn2 fun QT QB EB hTT hTF hBN hBR hEB hEO => ?_
  have N := News.dup2 N hin
  have a1 : @Ne Nat it dn := n4 _ hin
  have a2 : @Ne Nat it wt := n5 _ hin
  have wl' : ws.length < 899 := by omega
  have lM := lay_made (way := .arr) hl
  have noM := made_no .arr dm
  obtain ⟨t1, tp, v, hTy, htp, hv⟩ := inv_madeA hM
  try dsimp only
  try k_fold
  walk_at "M steps"
  rename Fr _ _ _ _ => FN
  rename News _ _ _ _ => NN
  obtain ⟨rest', I', sub, k1, k2, k3⟩ := closeS (two := false) (mid := []) (rest := rest) (dn := dn) (wt := wt) X TR FN NN (by k_mem) (by k_mem) (by exact w1 _ _ _) n1 (fun q hq => ⟨by walk_at "M sub", n4 q hq, n5 q hq⟩) (by k_mem) (by k_mem) ⟨by k_ne, by k_ne⟩ ⟨by k_ne, by k_ne⟩ (.inl ⟨rfl, rfl⟩) via lay hM hv lM hl hwl rfl rfl rfl
  exact hq _ _ rest' _ _ _ v I' sub k1 k3 k2 hv
theorem sturn_layB (lp : LoopIs w.params 179 (.ref 178) L test body orelse env) (hdp : dp + 40 < recursionLimit) (hu : un + 300 < cLine)
    {h : Heap} {dm : PyData} (hwl : ws.length < 800) (I : InvS w p loose mg mb h₀ h L dn wt rd ds (ws ++ [.ref it]) rest) (hin : (it, tupO #[.bool false, .ref ta]) ∈ rest) (hM : HD h₀ (.ref ta) (wMade .box dm)) (hl : dm.canLay0 = true)
    (hq : ∀ h' tk' rest' i1 i2 mid v, InvS w p loose mg mb h₀ h' L dn wt rd ds (ws ++ [.ref i1] ++ mid ++ [.ref i2]) rest' → (∀ q ∈ rest, q ∈ rest') → (i1, tupO #[.bool true, .ref ta]) ∈ rest' → MidS .box rest' mid → (i2, tupO #[.bool false, v]) ∈ rest' → HD h₀ v dm → codeAny (model prog w) ((AA dp un l gd).deeper env) (.whileLoop test body orelse env) R { s with heap := h', toks := tk' }) :
    codeAny (model prog w) ((AA dp un l gd).deeper env) (.whileLoop test body orelse env) R { s with heap := h, toks := tk } := by
  revert hq
  obtain ⟨fd, b, e1, e2, e3, e4⟩ := lp
  cases e1
  cases e2
  cases e3
  subst e4
  intro hq
  obtain ⟨X, TR, ⟨m0, F⟩, ⟨nd, nw, N⟩, n1, n4, n5, ⟨dws, via, lay⟩, wl⟩ := I
  refine while_turn2 fun QT QB EB hTT hTF hBN hBR hEB hEO => ?_
  have N := News.dup2 N hin
  have a1 : @Ne Nat it dn := n4 _ hin
  have a2 : @Ne Nat it wt := n5 _ hin
  have wl' : ws.length < 899 := by omega
  have lM := lay_made (way := .box) hl
  have noM := made_no .box dm
  obtain ⟨t1, v, hTy, hv⟩ := inv_box (dT := dm) hM
  try dsimp only
  try k_fold
  walk_at "M steps"
  rename Fr _ _ _ _ => FN
  rename News _ _ _ _ => NN
  obtain ⟨rest', I', sub, k1, k2, k3⟩ := closeS (two := false) (mid := []) (rest := rest) (dn := dn) (wt := wt) X TR FN NN (by k_mem) (by k_mem) (by exact w1 _ _ _) n1 (fun q hq => ⟨by walk_at "M sub", n4 q hq, n5 q hq⟩) (by k_mem) (by k_mem) ⟨by k_ne, by k_ne⟩ ⟨by k_ne, by k_ne⟩ (.inl ⟨rfl, rfl⟩) via lay hM hv lM hl hwl rfl rfl rfl
  exact hq _ _ rest' _ _ _ v I' sub k1 k3 k2 hv
theorem sturn_layD (lp : LoopIs w.params 179 (.ref 178) L test body orelse env) (hdp : dp + 40 < recursionLimit) (hu : un + 300 < cLine)
    {h : Heap} {dm : PyData} (hwl : ws.length < 800) (I : InvS w p loose mg mb h₀ h L dn wt rd ds (ws ++ [.ref it]) rest) (hin : (it, tupO #[.bool false, .ref ta]) ∈ rest) (hM : HD h₀ (.ref ta) (wMade .adt dm)) (hl : dm.canLay0 = true)
    (hq : ∀ h' tk' rest' i1 i2 mid v, InvS w p loose mg mb h₀ h' L dn wt rd ds (ws ++ [.ref i1] ++ mid ++ [.ref i2]) rest' → (∀ q ∈ rest, q ∈ rest') → (i1, tupO #[.bool true, .ref ta]) ∈ rest' → MidS .adt rest' mid → (i2, tupO #[.bool false, v]) ∈ rest' → HD h₀ v dm → codeAny (model prog w) ((AA dp un l gd).deeper env) (.whileLoop test body orelse env) R { s with heap := h', toks := tk' }) :
    codeAny (model prog w) ((AA dp un l gd).deeper env) (.whileLoop test body orelse env) R { s with heap := h, toks := tk } := by
  revert hq
  obtain ⟨fd, b, e1, e2, e3, e4⟩ := lp
  cases e1
  cases e2
  cases e3
  subst e4
  intro hq
  obtain ⟨X, TR, ⟨m0, F⟩, ⟨nd, nw, N⟩, n1, n4, n5, ⟨dws, via, lay⟩, wl⟩ := I
  refine while_turn2 fun QT QB EB hTT hTF hBN hBR hEB hEO => ?_
  have N := News.dup2 N hin
  have a1 : @Ne Nat it dn := n4 _ hin
  have a2 : @Ne Nat it wt := n5 _ hin
  have wl' : ws.length < 899 := by omega
  have lM := lay_made (way := .adt) hl
  have noM := made_no .adt dm
  obtain ⟨t1, u0, tp, v, u7, hTy, htp, hv⟩ := inv_madeD hM
  try dsimp only
  try k_fold
  walk_at "M steps"
  rename Fr _ _ _ _ => FN
  rename News _ _ _ _ => NN
  obtain ⟨rest', I', sub, k1, k2, k3⟩ := closeS (two := true) (mid := [.ref _]) (rest := rest) (dn := dn) (wt := wt) X TR FN NN (by k_mem) (by k_mem) (by exact w2 _ _ _ _) n1 (fun q hq => ⟨by walk_at "M sub", n4 q hq, n5 q hq⟩) (by k_mem) (by k_mem) ⟨by k_ne, by k_ne⟩ ⟨by k_ne, by k_ne⟩ (.inr ⟨rfl, _, _, rfl, by k_mem, by k_ne, by k_ne⟩) via lay hM hv lM hl hwl rfl rfl rfl
  exact hq _ _ rest' _ _ _ v I' sub k1 k3 k2 hv
theorem sturn_ref (lp : LoopIs w.params 179 (.ref 178) L test body orelse env) (hdp : dp + 40 < recursionLimit) (hu : un + 300 < cLine)
    {h : Heap} {pv rv : Value} {dp1 dv : PyData} {ra : Addr} {t1 : Tok} (hrd : rd = .ref ra) (hfn : FnAt ra h₀) (hwl : ws.length < 800) (I : InvS w p loose mg mb h₀ h L dn wt rd ds (ws ++ [.ref it]) rest) (hin : (it, tupO #[.bool false, .ref ta]) ∈ rest) (hTy : IsTup h₀ ta #[.str "ref" t1, pv]) (hpv : HD h₀ pv dp1) (lp1 : dp1.canLay0 = true) (hv : HD h₀ rv dv) (lv : dv.canLay0 = true)
    (hread : ∀ (dp' un' : Nat) (fr' : Option (List Env)) (gd' : Option (List Code)) (s : Shared) (Q E : Value → Shared → Prop), dp' + 30 < recursionLimit → un' + 200 < cLine → h₀.StaysIn s.heap → (∀ h' tk', Kp [] s.heap h' → Q rv { s with heap := h', toks := tk' }) → wpAny (model prog w) (AA dp' un' fr' gd') (call rd [pv]) Q E s)
    (hq : ∀ h' tk' rest' i1 i2, InvS w p loose mg mb h₀ h' L dn wt rd ds (ws ++ [.ref i1] ++ [.ref i2]) rest' → (∀ q ∈ rest, q ∈ rest') → (i1, tupO #[.bool true, .ref ta]) ∈ rest' → (i2, tupO #[.bool false, rv]) ∈ rest' → codeAny (model prog w) ((AA dp un l gd).deeper env) (.whileLoop test body orelse env) R { s with heap := h', toks := tk' }) :
    codeAny (model prog w) ((AA dp un l gd).deeper env) (.whileLoop test body orelse env) R { s with heap := h, toks := tk } := by
  revert hq
  obtain ⟨fd, b, e1, e2, e3, e4⟩ := lp
  cases e1
  cases e2
  cases e3
  subst e4
  intro hq
  obtain ⟨X, TR, ⟨m0, F⟩, ⟨nd, nw, N⟩, n1, n4, n5, ⟨dws, via, lay⟩, wl⟩ := I
  refine while_turn2 fun QT QB EB hTT hTF hBN hBR hEB hEO => ?_
  have N := News.dup2 N hin
  have a1 : @Ne Nat it dn := n4 _ hin
  have a2 : @Ne Nat it wt := n5 _ hin
  have wl' : ws.length < 899 := by omega
  have s1 : PyData.strOk "ref" = true := by decide +kernel
  have lM : (PyData.tuple [.str "ref", dp1]).canLay0 = true := by simp [PyData.canLay0, PyData.canLayAll0, lp1, s1]
  have noM : PyData.eqv (.tuple [.str "ref", dp1]) noD = false := by simp [PyData.eqv, PyData.eqvAll]
  have hM : HD h₀ (.ref ta) (.tuple [.str "ref", dp1]) := by
    obtain ⟨o, e, c, n, d⟩ := hTy
    exact HD.tuple (l := [.str "ref" t1, pv]) e c d (HDs.cons HD.str (HDs.cons hpv HDs.nil))
  subst hrd
  try dsimp only
  try k_fold
  walk_at "M steps"
  rename Fr _ _ _ _ => FN
  rename News _ _ _ _ => NN
  refine hread _ _ _ _ ⟨_, _, _, _, _⟩ _ _ ?_ ?_ (by exact FN.keep) fun h8 tk8 k8 => ?_
  · walk_at "M lt"
  · walk_at "M lt"
  have F8 := Kp.frame FN k8
  have N8 := News.kp NN k8
  clear FN NN
  walk_at "M steps"
  rename Fr _ _ _ _ => FN
  rename News _ _ _ _ => NN
  obtain ⟨rest', I', sub, k1, k2, k3⟩ := closeS (two := false) (mid := []) (rest := rest) (dn := dn) (wt := wt) X TR FN NN (by k_mem) (by k_mem) (by exact w1 _ _ _) n1 (fun q hq => ⟨by walk_at "M sub", n4 q hq, n5 q hq⟩) (by k_mem) (by k_mem) ⟨by k_ne, by k_ne⟩ ⟨by k_ne, by k_ne⟩ (.inl ⟨rfl, rfl⟩) via lay hM hv lM lv hwl rfl rfl rfl
  rw [List.append_nil] at I'
  exact hq _ _ rest' _ _ I' sub k1 k2
end

/-- what is gathered: a layer, or a reference -/
def GathOk (h : Heap) (ta : Addr) (ds : List Value) (mv : Value) (dt d : PyData) : Prop :=
  (∃ way dm, HD h (.ref ta) (wMade way dm) ∧ (if way.two then ∃ u, ds = [mv, .int 7 u] else ds = [mv]) ∧ d = wTold false way dt) ∨ ∃ t1 pv, IsTup h ta #[.str "ref" t1, pv] ∧ ds = [mv] ∧ d = .tuple [.str "ref", dt]
theorem GathOk.keeps {h h' : Heap} {ta : Addr} {ds : List Value} {mv : Value} {dt d : PyData} (x : GathOk h ta ds mv dt d) (k : h.StaysIn h') : GathOk h' ta ds mv dt d := by
  rcases x with ⟨way, dm, a, b, c⟩ | ⟨t1, pv, a, b, c⟩
  · exact .inl ⟨way, dm, a.keeps k, b, c⟩
  · exact .inr ⟨t1, pv, a.keeps k, b, c⟩
section
variable {prog : Program} {w : World} {p : Program} {loose : List Str} {mg mb : Str → Option Value} {dp un : Nat} {fr : Option (List Env)} {gd : Option (List Code)} {s : Shared} {h₀ h h' : Heap} {L : Addr} {m : Str → Option Value} {news : List (Addr × Obj)} {Q E : Value → Shared → Prop}
variable {rd : Value} {L dn wt : Addr} {l : Option (List Env)} {test : PySem.Expr} {body orelse : List Stmt} {env : Env} {R : Result → Shared → Prop} {tk it ta : Addr} {rest : List (Addr × Obj)} {ds ws : List Value}
theorem gathAll_ {mv : Value} {dt d : PyData} {nd : Nat} (X : (hd.heap_1 w.params).In (hideAll s.heap [dn])) (T : TopRead p loose mg mb (hideAll s.heap [dn])) (hdp : dp + 20 < recursionLimit) (hu : un + 200 < cLine)
    (hd' : s.heap.get? dn = some (wlist ds nd)) (O : GathOk (hideAll s.heap [dn]) ta ds mv dt d)
    (hret : ∀ h' tk' a n x (xs : List (Addr × Obj)), Kp [] s.heap h' → h'.get? a = some (wlist [.ref x] n) → s.heap.get? a = none → (∀ q ∈ xs, h'.get? q.1 = some q.2 ∧ s.heap.get? q.1 = none) → (∀ H : Heap, (∀ q ∈ xs, H.get? q.1 = some q.2) → HD H mv dt → HD H (.ref x) d) → (∀ q ∈ xs, @Ne Nat q.1 a) → Q (.ref a) { s with heap := h', toks := tk' }) :
    wpAny (model prog w) (AA dp un fr gd) (call (.ref 141) [.ref dn, .ref ta]) Q E s := by
  have nea : ∀ {h : Heap} {a b : Addr} {its : Array Value} {l n}, h.get? a = some (wlist l n) → h.get? b = some (tupO its) → @Ne Nat b a := fun e1 e2 z => by
    rw [z, e1] at e2
    have := congrArg (fun o : Option Obj => o.map (·.cls)) e2
    simp at this
  rcases O with ⟨way, dm, hM, hds, rfl⟩ | ⟨t1, pv, ht, rfl, rfl⟩
  · cases way
    · obtain rfl : ds = [mv] := hds
      obtain ⟨t1, v, hTy, _⟩ := inv_box (dT := dm) hM
      refine gathB_ (.inl rfl) X T hdp hu hd' hTy fun h' tk' a n i t2 k e e1 f f1 => ?_
      exact hret h' tk' a n i [(i, tupO #[.str "box" t2, mv])] k e f (fun q hq => by rw [List.mem_singleton.mp hq]; exact ⟨e1, f1⟩) (fun H r hm => HD.tuple (r _ (.head _)) rfl rfl (HDs.cons HD.str (HDs.cons hm HDs.nil))) (fun q hq => by rw [List.mem_singleton.mp hq]; exact nea e e1)
    · obtain ⟨u, rfl⟩ : ∃ u, ds = [mv, .int 7 u] := hds
      obtain ⟨t1, tp, v, u7, hTy, htp, _⟩ := inv_madeT hM
      refine gathF2_ X T hdp hu hd' hTy htp fun h' tk' a n i k e e1 f f1 => ?_
      exact hret h' tk' a n i [(i, tupO #[mv, .int 7 u])] k e f (fun q hq => by rw [List.mem_singleton.mp hq]; exact ⟨e1, f1⟩) (fun H r hm => HD.tuple (r _ (.head _)) rfl rfl (HDs.cons hm (HDs.cons HD.int HDs.nil))) (fun q hq => by rw [List.mem_singleton.mp hq]; exact nea e e1)
    · obtain rfl : ds = [mv] := hds
      obtain ⟨t1, tp, v, hTy, htp, _⟩ := inv_madeA hM
      refine gathF1_ X T hdp hu hd' hTy htp fun h' tk' a n i k e e1 f f1 => ?_
      exact hret h' tk' a n i [(i, tupO #[mv])] k e f (fun q hq => by rw [List.mem_singleton.mp hq]; exact ⟨e1, f1⟩) (fun H r hm => HD.tuple (r _ (.head _)) rfl rfl (HDs.cons hm HDs.nil)) (fun q hq => by rw [List.mem_singleton.mp hq]; exact nea e e1)
    · obtain ⟨u, rfl⟩ : ∃ u, ds = [mv, .int 7 u] := hds
      obtain ⟨t1, u0, tp, v, u7, hTy, htp, _⟩ := inv_madeD hM
      refine gathV_ X T hdp hu hd' hTy htp fun h' tk' a n i j k e e1 e2 f f1 f2 => ?_
      exact hret h' tk' a n i [(i, tupO #[.int 0 u0, .ref j]), (j, tupO #[mv, .int 7 u])] k e f (fun q hq => by
        rcases List.mem_cons.mp hq with rfl | hq
        · exact ⟨e1, f1⟩
        · rw [List.mem_singleton.mp hq]; exact ⟨e2, f2⟩) (fun H r hm => HD.tuple (r _ (.head _)) rfl rfl (HDs.cons HD.int (HDs.cons (HD.tuple (r _ (.tail _ (.head _))) rfl rfl (HDs.cons hm (HDs.cons HD.int HDs.nil))) HDs.nil))) (fun q hq => by
        rcases List.mem_cons.mp hq with rfl | hq
        · exact nea e e1
        · rw [List.mem_singleton.mp hq]; exact nea e e2)
  · refine gathB_ (.inr rfl) X T hdp hu hd' ht fun h' tk' a n i t2 k e e1 f f1 => ?_
    exact hret h' tk' a n i [(i, tupO #[.str "ref" t2, mv])] k e f (fun q hq => by rw [List.mem_singleton.mp hq]; exact ⟨e1, f1⟩) (fun H r hm => HD.tuple (r _ (.head _)) rfl rfl (HDs.cons HD.str (HDs.cons hm HDs.nil))) (fun q hq => by rw [List.mem_singleton.mp hq]; exact nea e e1)
theorem sturn_seen (lp : LoopIs w.params 179 (.ref 178) L test body orelse env) (hdp : dp + 40 < recursionLimit) (hu : un + 300 < cLine)
    {h : Heap} {mv : Value} {dt d : PyData} (I : InvS w p loose mg mb h₀ h L dn wt rd ds (ws ++ [.ref it]) rest) (hin : (it, tupO #[.bool true, .ref ta]) ∈ rest) (O : GathOk h₀ ta ds mv dt d) (hmv : Via h₀ rest (HD · mv dt))
    (hq : ∀ h' tk' dn' rest' x, InvS w p loose mg mb h₀ h' L dn' wt rd [.ref x] ws rest' → (∀ q ∈ rest, q ∈ rest') → Via h₀ rest' (HD · (.ref x) d) → codeAny (model prog w) ((AA dp un l gd).deeper env) (.whileLoop test body orelse env) R { s with heap := h', toks := tk' }) :
    codeAny (model prog w) ((AA dp un l gd).deeper env) (.whileLoop test body orelse env) R { s with heap := h, toks := tk } := by
  revert hq
  obtain ⟨fd, b, e1, e2, e3, e4⟩ := lp
  cases e1
  cases e2
  cases e3
  subst e4
  intro hq
  obtain ⟨X, TR, ⟨m0, F⟩, ⟨nd, nw, N⟩, n1, n4, n5, ⟨dws, via, lay⟩, wl⟩ := I
  refine while_turn2 fun QT QB EB hTT hTF hBN hBR hEB hEO => ?_
  have N := News.dup2 N hin
  have a1 : @Ne Nat it dn := n4 _ hin
  have a2 : @Ne Nat it wt := n5 _ hin
  have wl' : ws.length < 899 := by
    rw [List.length_append] at wl
    exact Nat.lt_of_succ_lt_succ wl
  try dsimp only
  try k_fold
  walk_at "M steps"
  rename Fr _ _ _ _ => FN
  rename News _ _ _ _ => NN
  have hm := NN (dn, wlist ds nd) (by k_mem)
  have hn : ∀ a ∈ ([dn] : List Addr), h₀.get? a = none := fun a ha => by rw [List.mem_singleton.mp ha]; exact hm.2.2
  have st := hid FN hn
  refine gathAll_ (mv := mv) (dt := dt) (d := d) (X.keeps st) (TR.keeps st) ?_ ?_ hm.1 (O.keeps st) fun h8 tk8 a8 n8 x xs k8 e8 f8 fx hx nx => ?_
  · walk_at "M lt"
  · walk_at "M lt"
  have F8 := Kp.frame FN k8
  have N8 := News.addEnd FN (News.cons FN NN k8 e8 f8) fx
  have ne8 := ne_new NN f8
  have nex : ∀ q ∈ xs, @Ne Nat q.1 wt := fun q hq => by
    have z := ne_new NN (fx q hq).2
    try simp only [List.forall_mem_cons] at z
    intro e
    rw [e] at z; simp at z
  have ner : ∀ q ∈ rest, @Ne Nat q.1 a8 := fun q hq => ne8 q (by walk_at "M sub")
  clear NN hm
  try simp only [List.forall_mem_cons] at ne8
  simp only [List.cons_append] at N8
  try dsimp only at N8
  have nx2 : ∀ q ∈ rest ++ xs, @Ne Nat q.1 wt := fun q hq => (List.mem_append.mp hq).elim (n5 q) fun hx => nex q hx
  have nx1 : ∀ q ∈ rest ++ xs, @Ne Nat q.1 a8 := fun q hq => (List.mem_append.mp hq).elim (ner q) fun hx => nx q hx
  have sx : ∀ q ∈ xs, q ∈ rest ++ xs := fun q hq => List.mem_append_right _ hq
  have sr : ∀ q ∈ rest, q ∈ rest ++ xs := fun q hq => List.mem_append_left _ hq
  generalize rest ++ xs = rest2 at N8 nx1 nx2 sx sr
  walk_at "M steps"
  rename Fr _ _ _ _ => FN
  rename News _ _ _ _ => NN
  obtain ⟨rest', I', sub, new⟩ := rebaseS (rest := rest2) (dn := a8) (wt := wt) (ds := [.ref x]) (ws := ws) (dws := dws.dropLast) X TR FN NN (by k_mem) (by k_mem) (by k_ne) (fun q hq => ⟨by walk_at "M sub", nx1 q hq, nx2 q hq⟩) (fun h' b r => HDs.init (via h' b fun q hq => r q (by have := sr q hq; walk_at "M sub") (nx1 q (sr q hq)) (nx2 q (sr q hq)))) (lay_init lay) (by omega) rfl rfl rfl
  exact hq _ _ _ rest' x I' (fun q hq => sub q (sr q hq)) (fun H b r => hx H (fun q hq => r q (sub q (sx q hq))) (hmv H b fun q hq => r q (sub q (sr q hq))))
end

section
variable {prog : Program} {w : World} {p : Program} {loose : List Str} {mg mb : Str → Option Value} {dp un : Nat} {fr : Option (List Env)} {gd : Option (List Code)} {s : Shared} {h₀ h h' : Heap} {L : Addr} {m : Str → Option Value} {news : List (Addr × Obj)} {Q E : Value → Shared → Prop}
theorem eqSame {A : Around} (F : Fr h₀ L s.heap m) (X : (hd.heap_1 w.params).In h₀) (hu : A.units + 5 < cLine)
    (h : Q (.bool true) s) : wpAny (model prog w) A (compareOp .Eq (.ref 127) (.ref 127)) Q E s := by
  have hN : HD s.heap (.ref 127) noD := HD.tuple (l := [.str "nothing" _]) ((X.keeps F.keep) 127 _ rfl) rfl rfl (HDs.cons HD.str HDs.nil)
  obtain ⟨bs, r2⟩ := hN
  have s1 : PyData.strOk "nothing" = true := by decide +kernel
  have lN : noD.canLay0 = true := by simp [PyData.canLay0, PyData.canLayAll0, s1]
  refine SeqAt.compareEq_reads r2 r2 lN lN (Nat.lt_of_le_of_lt (Nat.add_le_add_left (Nat.le_trans (Nat.min_le_right _ _) (show PyData.depth noD ≤ 5 by decide)) _) hu) ?_
  rw [show PyData.eqv noD noD = true from by simp [PyData.eqv, PyData.eqvAll]]
  exact h
variable {rd : Value} {L dn wt : Addr} {l : Option (List Env)} {test : PySem.Expr} {body orelse : List Stmt} {env : Env} {R : Result → Shared → Prop} {tk it ta : Addr} {rest : List (Addr × Obj)} {ds ws : List Value}
theorem sturn_lay (lp : LoopIs w.params 179 (.ref 178) L test body orelse env) (hdp : dp + 40 < recursionLimit) (hu : un + 300 < cLine)
    {h : Heap} {way : Way} {dm : PyData} (hwl : ws.length < 800) (I : InvS w p loose mg mb h₀ h L dn wt rd ds (ws ++ [.ref it]) rest) (hin : (it, tupO #[.bool false, .ref ta]) ∈ rest) (hM : HD h₀ (.ref ta) (wMade way dm)) (hl : dm.canLay0 = true)
    (hq : ∀ h' tk' rest' i1 i2 mid v, InvS w p loose mg mb h₀ h' L dn wt rd ds (ws ++ [.ref i1] ++ mid ++ [.ref i2]) rest' → (∀ q ∈ rest, q ∈ rest') → (i1, tupO #[.bool true, .ref ta]) ∈ rest' → MidS way rest' mid → (i2, tupO #[.bool false, v]) ∈ rest' → HD h₀ v dm → codeAny (model prog w) ((AA dp un l gd).deeper env) (.whileLoop test body orelse env) R { s with heap := h', toks := tk' }) :
    codeAny (model prog w) ((AA dp un l gd).deeper env) (.whileLoop test body orelse env) R { s with heap := h, toks := tk } := by
  cases way
  · exact sturn_layB lp hdp hu hwl I hin hM hl hq
  · exact sturn_layT lp hdp hu hwl I hin hM hl hq
  · exact sturn_layA lp hdp hu hwl I hin hM hl hq
  · exact sturn_layD lp hdp hu hwl I hin hM hl hq
theorem ref_made {B : Heap} {way : Way} {m : PyData} {v : Value} (x : HD B v (wMade way m)) : ∃ a, v = .ref a := by
  cases way <;> (obtain ⟨a, _, e, _⟩ := HD.inv_tuple x; exact ⟨a, e⟩)
theorem procS (lp : LoopIs w.params 179 (.ref 178) L test body orelse env) (hdp : dp + 40 < recursionLimit) (hu : un + 300 < cLine) {k : Nat} {T t dm : PyData} (g : Good k T t dm) :
    ∀ {h : Heap} {tk dn it : Nat} {ws : List Value} {rest : List (Addr × Obj)} {v : Value}, InvS w p loose mg mb h₀ h L dn wt rd [] (ws ++ [.ref it]) rest → (it, tupO #[.bool false, v]) ∈ rest → HD h₀ v dm → ws.length + 2 * k < 700 →
      (∀ h' tk' dn' rest' mv, InvS w p loose mg mb h₀ h' L dn' wt rd [mv] ws rest' → (∀ q ∈ rest, q ∈ rest') → Via h₀ rest' (HD · mv t) → codeAny (model prog w) ((AA dp un l gd).deeper env) (.whileLoop test body orelse env) R { s with heap := h', toks := tk' }) →
      codeAny (model prog w) ((AA dp un l gd).deeper env) (.whileLoop test body orelse env) R { s with heap := h, toks := tk } := by
  induction g with
  | int hκ hn =>
    intro h tk dn it ws rest v I hi hv hz hk
    obtain ⟨u, rfl⟩ := HD.inv_int hv
    exact sturn_int lp hdp hu (by simp) I hi fun h' tk' rest' I' sub => hk h' tk' _ rest' _ I' sub (Via.base HD.int)
  | @layer k T t m way g ih =>
    intro h tk dn it ws rest v I hi hv hz hk
    obtain ⟨ta, rfl⟩ := ref_made hv
    refine sturn_lay lp hdp hu (by omega) I hi hv g.layM fun h1 tk1 rest1 i1 i2 mid v1 I1 sub1 m1 mi m2 hv1 => ?_
    unfold MidS at mi
    by_cases q : way.two = true
    · rw [if_pos q] at mi
      obtain ⟨i3, u, rfl, m3⟩ := mi
      refine ih I1 m2 hv1 (by simp only [List.length_append, List.length_cons, List.length_nil]; omega) fun h2 tk2 dn2 rest2 mv I2 sub2 via2 => ?_
      refine sturn_int lp hdp hu (by simp) I2 (sub2 _ m3) fun h3 tk3 rest3 I3 sub3 => ?_
      refine sturn_seen (mv := mv) lp hdp hu I3 (sub3 _ (sub2 _ m1)) (.inl ⟨way, m, hv, by rw [if_pos q]; exact ⟨u, rfl⟩, rfl⟩) (via2.more sub3) fun h4 tk4 dn4 rest4 x I4 sub4 via4 => ?_
      exact hk h4 tk4 dn4 rest4 _ I4 (fun x hx => sub4 _ (sub3 _ (sub2 _ (sub1 _ hx)))) via4
    · rw [if_neg q] at mi
      subst mi
      rw [List.append_nil] at I1
      refine ih I1 m2 hv1 (by simp only [List.length_append, List.length_cons, List.length_nil]; omega) fun h2 tk2 dn2 rest2 mv I2 sub2 via2 => ?_
      refine sturn_seen (mv := mv) lp hdp hu I2 (sub2 _ m1) (.inl ⟨way, m, hv, by rw [if_neg q], rfl⟩) via2 fun h4 tk4 dn4 rest4 x I4 sub4 via4 => ?_
      exact hk h4 tk4 dn4 rest4 _ I4 (fun x hx => sub4 _ (sub2 _ (sub1 _ hx))) via4
end
theorem reg51 : True := by
  (k_with "compareOp Eq ref ref" => ((k_here; (with_reducible show wpAny _ _ (compareOp CmpOp.Eq (Value.ref 127) (Value.ref 127)) _ _ _); k_dflt (refine eqSame (by assumption) (by assumption) (by walk_at "M unit") ?_))))
  (k_with "exec Raise some none" => ((k_here; refine raise_E (k := "uninitialised") rfl ?_)))
  exact True.intro
section
variable {prog : Program} {w : World} {p : Program} {loose : List Str} {mg mb : Str → Option Value} {dp un : Nat} {fr : Option (List Env)} {gd : Option (List Code)} {s : Shared} {h₀ h h' : Heap} {L : Addr} {m : Str → Option Value} {news : List (Addr × Obj)} {Q E : Value → Shared → Prop}
variable {rd : Value} {L dn wt : Addr} {base g : Heap} {l : List Env} {test : PySem.Expr} {body orelse : List Stmt} {env : Env} {R : Result → Shared → Prop} {tk it ta : Addr} {rest : List (Addr × Obj)} {ds ws : List Value}
theorem sturn_no (lp : LoopIs w.params 179 (.ref 178) L test body orelse env) (hdp : dp + 40 < recursionLimit) (hu : un + 300 < cLine) (hl : g.FunFrames base l) (hkb : base.StaysIn g)
    {h : Heap} (I : InvS w p loose mg mb (hideAll g []) h L dn wt rd ds (ws ++ [.ref it]) rest) (hin : (it, tupO #[.bool false, .ref 127]) ∈ rest)
    (hq : ∀ e h' tk', Thrown w.params base g (env :: l) (rawInt L) e "uninitialised" h' → R (.error (.ref e)) { s with heap := h', toks := tk' }) :
    codeAny (model prog w) ((AA dp un (some l) gd).deeper env) (.whileLoop test body orelse env) R { s with heap := h, toks := tk } := by
  revert hq
  obtain ⟨fd, b, e1, e2, e3, e4⟩ := lp
  cases e1
  cases e2
  cases e3
  subst e4
  intro hq
  obtain ⟨X, TR, ⟨m0, F⟩, ⟨nd, nw, N⟩, n1, n4, n5, ⟨dws, via, lay⟩, wl⟩ := I
  refine while_turn2 fun QT QB EB hTT hTF hBN hBR hEB hEO => ?_
  have N := News.dup2 N hin
  have a1 : @Ne Nat it dn := n4 _ hin
  have a2 : @Ne Nat it wt := n5 _ hin
  have wl' : ws.length < 899 := by
    rw [List.length_append] at wl
    exact Nat.lt_of_succ_lt_succ wl
  have h127 : IsTup (hideAll g []) 127 #[.str "nothing" _] := ⟨_, X 127 _ rfl, rfl, _, rfl⟩
  try dsimp only
  try k_fold
  walk_at "M steps"
  · exact ⟨_, by assumption⟩
  · exact hEB _ _ (note_fault (h := g) rfl rfl rfl (by assumption) (by assumption) hl hkb (by assumption) fun h' th => hq _ _ _ th)
end

section
variable {prog : Program} {w : World} {p : Program} {loose : List Str} {mg mb : Str → Option Value} {dp un : Nat} {fr : Option (List Env)} {gd : Option (List Code)} {s : Shared} {h₀ h h' : Heap} {L : Addr} {m : Str → Option Value} {news : List (Addr × Obj)} {Q E : Value → Shared → Prop}
/-- a call of the reader at pv gives rv and keeps all -/
def ReadsTo (prog : Program) (w : World) (B : Heap) (rd pv rv : Value) : Prop :=
  ∀ (dp' un' : Nat) (fr' : Option (List Env)) (gd' : Option (List Code)) (s : Shared) (Q E : Value → Shared → Prop), dp' + 30 < recursionLimit → un' + 200 < cLine → B.StaysIn s.heap → (∀ h' tk', Kp [] s.heap h' → Q rv { s with heap := h', toks := tk' }) → wpAny (model prog w) (AA dp' un' fr' gd') (call rd [pv]) Q E s
/-- the three things that are shown: a made value, a reference whose path is read, a box about a reference whose path holds nothing -/
inductive ShowOk (prog : Program) (w : World) (B : Heap) (rd v : Value) : Option PyData → PyData → Prop where
  | made {k : Nat} {T t m : PyData} (hk : k < 300) (g : Good k T t m) : ShowOk prog w B rd v (some t) m
  | ref {k : Nat} {T t m dp1 : PyData} {ra : Addr} {rv : Value} (hk : k < 300) (g : Good k T t m) (hr : rd = .ref ra) (hf : FnAt ra B) (lp : dp1.canLay0 = true) (hm : HD B rv m) (hread : ∀ pv, HD B pv dp1 → ReadsTo prog w B rd pv rv) : ShowOk prog w B rd v (some (.tuple [.str "ref", t])) (.tuple [.str "ref", dp1])
  | gone {dp1 : PyData} {ra : Addr} (hr : rd = .ref ra) (hf : FnAt ra B) (lp : dp1.canLay0 = true) (hread : ∀ pv, HD B pv dp1 → ReadsTo prog w B rd pv (.ref 127)) : ShowOk prog w B rd v none (wMade .box (.tuple [.str "ref", dp1]))
theorem inv_ref {B : Heap} {v : Value} {d : PyData} (x : HD B v (.tuple [.str "ref", d])) : ∃ ta t1 pv, v = .ref ta ∧ IsTup B ta #[.str "ref" t1, pv] ∧ HD B pv d := by
  obtain ⟨a, l, e, ht, hl⟩ := HD.inv_tuple x
  obtain ⟨v1, r1, rfl, h1, hl⟩ := HDs.inv_cons hl
  obtain ⟨v2, r2, rfl, h2, hl⟩ := HDs.inv_cons hl
  obtain rfl := HDs.inv_nil hl
  obtain ⟨t1, rfl⟩ := HD.inv_str h1
  exact ⟨a, t1, v2, e, ht, h2⟩
theorem shown_ {v : Value} {rd : Value} {o : Option PyData} {dv : PyData} (X : (hd.heap_1 w.params).In s.heap) (T : TopRead p loose mg mb s.heap) (hdp : dp + 45 < recursionLimit) (hu : un + 320 < cLine) {base : Heap} {l : List Env} (hl : s.heap.FunFrames base l) (hkb : base.StaysIn s.heap)
    (O : ShowOk prog w (hideAll s.heap []) rd v o dv) (hv : HD (hideAll s.heap []) v dv) (lv : dv.canLay0 = true)
    (hret : ∀ d, o = some d → ∀ h' tk' v', Kp [] s.heap h' → HD h' v' d → Q v' { s with heap := h', toks := tk' })
    (hrai : o = none → ∀ e h' tk', Thrown w.params base s.heap l .none e "uninitialised" h' → E (.ref e) { s with heap := h', toks := tk' }) :
    wpAny (model prog w) (AA dp un (some l) gd) (call (.ref 179) [v, rd]) Q E s := by
  refine wpAny_call ?_
  k_dflt (refine' enterP (binds := [("value", v), ("read", rd)]) [] X ?k2 ?k3 ?k6 ?k7 ?k9 ?kB ?_ ?c2 ?c3 ?c4 ?c5)
  walk_at "M enter"
  intro L h₁ hL F hk
  clear hk
  have X₀ : (hd.heap_1 w.params).In (hideAll s.heap []) := X
  have T₀ : TopRead p loose mg mb (hideAll s.heap []) := T
  have N : News (hideAll s.heap []) L h₁ [] := News.nil
  clear X T
  try dsimp only
  try k_fold
  walk_at "M steps"
  rename_i dnA _ _ _ _ itA _ _ _ _ wtA _ _ _ _ _ _ _ _ _ _ _ _ _ _ _ _ FN NN
  obtain ⟨rest', I', _, new⟩ := rebaseS (rest := []) (dn := dnA) (wt := wtA) (ds := []) (ws := [.ref itA]) (dws := [.tuple [.bool false, dv]]) X₀ T₀ FN NN (by k_mem) (by k_mem) (by k_ne) (fun q hq => nomatch hq) (fun h b r => HDs.cons (HD.tuple (r (itA, tupO #[.bool false, v]) (by k_mem) (by k_ne) (by k_ne)) rfl rfl (HDs.cons HD.bool (HDs.cons (hv.keeps b) HDs.nil))) HDs.nil) (by simp [PyData.canLay0, PyData.canLayAll0, lv]) (Nat.le_of_ble_eq_true rfl) rfl rfl rfl
  have hin := new (itA, tupO #[.bool false, v]) (by k_mem) (by k_ne) (by k_ne)
  clear new NN FN
  have lp : LoopIs w.params 179 (.ref 178) L _ _ _ _ := ⟨_, _, rfl, rfl, rfl, rfl⟩
  rcases O with ⟨hk, g⟩ | ⟨hk, g, rfl, hf, lp1, hm, hread⟩ | ⟨rfl, hf, lp1, hread⟩
  · refine procS (s := s) (ws := []) lp (by omega) (by omega) g I' hin hv (by simp only [List.length_nil]; omega) fun h1 tk1 dn1 rest1 mv I1 sub1 via1 => sturn_end (s := s) lp (by omega) (by omega) I1 fun h2 tk2 rest2 I2 sub2 => ?_
    have hd1 := I2.via (via1.more sub2)
    clear I' hin
    obtain ⟨_, _, ⟨m0, F⟩, ⟨nd, nw, N⟩, _⟩ := I2
    replace N : News (hideAll s.heap []) L h2 ((dn1, listOf #[mv] nd) :: (wtA, wlist [] nw) :: rest2) := N
    try dsimp only
    walk_at "M steps"
    all_goals exact hret _ rfl _ _ _ (Kp.of_fr (by assumption)) hd1
  · obtain ⟨ta, t1, pv, rfl, ht, hp⟩ := inv_ref hv
    refine sturn_ref (s := s) (ws := []) lp (by omega) (by omega) rfl hf (by simp) I' hin ht hp lp1 hm g.layM (hread pv hp) fun h1 tk1 rest1 i1 i2 I1 sub1 m1 m2 => ?_
    refine procS (s := s) (ws := [.ref i1]) lp (by omega) (by omega) g I1 m2 hm (by simp only [List.length_cons, List.length_nil]; omega) fun h2 tk2 dn2 rest2 mv I2 sub2 via2 => ?_
    refine sturn_seen (s := s) (ws := []) (mv := mv) lp (by omega) (by omega) I2 (sub2 _ m1) (.inr ⟨t1, pv, ht, rfl, rfl⟩) via2 fun h3 tk3 dn3 rest3 x I3 sub3 via3 => ?_
    refine sturn_end (s := s) lp (by omega) (by omega) I3 fun h4 tk4 rest4 I4 sub4 => ?_
    have hd1 := I4.via (via3.more sub4)
    clear I' hin
    obtain ⟨_, _, ⟨m0, F⟩, ⟨nd, nw, N⟩, _⟩ := I4
    replace N : News (hideAll s.heap []) L h4 ((dn3, listOf #[.ref x] nd) :: (wtA, wlist [] nw) :: rest4) := N
    try dsimp only
    walk_at "M steps"
    all_goals exact hret _ rfl _ _ _ (Kp.of_fr (by assumption)) hd1
  · have lR : ∀ d : PyData, d.canLay0 = true → (PyData.tuple [.str "ref", d]).canLay0 = true := fun d hd => by
      have s1 : PyData.strOk "ref" = true := by decide +kernel
      simp [PyData.canLay0, PyData.canLayAll0, s1, hd]
    obtain ⟨tb, rfl⟩ := ref_made hv
    refine sturn_lay (s := s) (way := .box) (ws := []) lp (by omega) (by omega) (by simp) I' hin hv (lR _ lp1) fun h1 tk1 rest1 i1 i2 mid v1 I1 sub1 m1 mi m2 hv1 => ?_
    obtain rfl : mid = [] := mi
    rw [List.append_nil] at I1
    obtain ⟨ta, t1, pv, rfl, ht, hp⟩ := inv_ref hv1
    have s1 : PyData.strOk "nothing" = true := by decide +kernel
    refine sturn_ref (s := s) (ws := [.ref i1]) lp (by omega) (by omega) rfl hf (by simp) I1 m2 ht hp lp1 (HD.tuple (l := [.str "nothing" _]) (X₀ 127 _ rfl) rfl rfl (HDs.cons HD.str HDs.nil)) (by simp [PyData.canLay0, PyData.canLayAll0, s1] : noD.canLay0 = true) (hread pv hp) fun h2 tk2 rest2 i3 i4 I2 sub2 m3 m4 => ?_
    refine sturn_no (s := s) (ws := [.ref i1] ++ [.ref i3]) lp (by omega) (by omega) hl hkb I2 m4 fun e h3 tk3 th => ?_
    exact came_noted rfl th fun h8 th8 => leave_noted rfl th8 fun h9 th9 => hrai rfl _ _ _ th9
end

abbrev pathD (n : Int) : PyData := .tuple [.int 3, .int n, .tuple []]
theorem depth_path (n : Int) : PyData.depth (pathD n) ≤ 10 := show PyData.depth (pathD 0) ≤ 10 by decide
def lamOf : List Stmt → Option (Arguments × PySem.Expr × Scope)
  | [.Try [.Return (some (.Call _ [_, .Lambda ps b sc _] _ _)) _] _ _ _ _] => some (ps, b, sc)
  | _ => none
/-- the written lambda of _law_shown -/
inductive LamIs (P : Params) (ps : Arguments) (b : PySem.Expr) (sc : Scope) : Prop
  | mk (fd : _) (bd : _) (z1 : fnOfK P 325 = some fd) (z2 : fd.body = .stmts bd) (z3 : lamOf bd = some (ps, b, sc))
theorem nameX_FB {M : Model} {A : Around} {E : Value → Shared → Prop} {s : Shared} {h₀ : Heap} {L a : Addr} {m : Str → Option Value} {cn : Str} {cs : Scope} {ccd : Value} {cl : List (Str × Addr)} {x : Str} {pos : Pos} {v : Value} {Q : Value → Shared → Prop} {c : Addr} {o : Obj} (F : Fr h₀ L s.heap m) (hc : cl.lookup x = some c) (hm : h₀.get? c = some o) (hd : o.data = .cell (some v)) (h : Q v s)
    (hk : cs.kind = .function := by rfl) (hx : (envX cn cs L a ccd cl).kindOf x = some .free := by rfl) (hb : (x == ("__debug__" : Str)) = false := by decide) (hn : (x == ("__classdict__" : Str)) = false := by decide) :
    wpAny M A (eval (.Name x pos) (envX cn cs L a ccd cl)) Q E s := wpAny_Name (wpAny_loadName_free hk hx hc ⟨o, F.keep _ _ hm, hd⟩ h hn) hb
section
variable {prog : Program} {w : World} {p : Program} {loose : List Str} {mg mb : Str → Option Value} {dp un : Nat} {fr : Option (List Env)} {gd : Option (List Code)} {s : Shared} {h₀ h h' : Heap} {L : Addr} {m : Str → Option Value} {news : List (Addr × Obj)} {Q E : Value → Shared → Prop}
theorem eqPath {A : Around} {pv : Value} {d1 : PyData} {D D2 : Addr} {t1 t2 : Tok} {n : Int} {c1 c2 : Nat} (F : Fr h₀ L s.heap m) (N : News h₀ L s.heap news) (x : HD h₀ pv d1) (hl : d1.canLay0 = true) (hm : (D, ({ cls := .type "tuple", data := .seq #[.int 3 t1, .int n t2, .ref D2] c1 } : Obj)) ∈ news) (hm2 : (D2, ({ cls := .type "tuple", data := .seq #[] c2 } : Obj)) ∈ news) (hu : A.units + 10 < cLine)
    (h : Q (.bool (PyData.eqv d1 (pathD n))) s) : wpAny (model prog w) A (compareOp .Eq pv (.ref D)) Q E s := by
  obtain ⟨as, r⟩ := x.keeps F.keep
  have hN : HD s.heap (.ref D) (pathD n) := HD.tuple (l := [.int 3 t1, .int n t2, .ref D2]) (N.get hm) rfl rfl (HDs.cons HD.int (HDs.cons HD.int (HDs.cons (HD.tuple (l := []) (N.get hm2) rfl rfl HDs.nil) HDs.nil)))
  obtain ⟨bs, r2⟩ := hN
  refine SeqAt.compareEq_reads r r2 hl rfl (Nat.lt_of_le_of_lt (Nat.add_le_add_left (Nat.le_trans (Nat.min_le_right _ _) (depth_path n)) _) hu) h
end
theorem reg52 : True := by
  (k_with "compareOp Eq" => ((k_here; (with_reducible show wpAny _ _ (compareOp CmpOp.Eq _ (Value.ref _)) _ _ _); k_dflt (refine' eqPath ?F_q122 ?N_q122 ?x_q122 ?l_q122 ?a_q122 ?b_q122 ?u_q122 ?_; (case F_q122 => k_asm); (case N_q122 => k_asm); (case x_q122 => assumption); (case l_q122 => assumption); (case a_q122 => k_mem); (case b_q122 => k_mem); (case u_q122 => walk_at "M unit"); k_whole))))
  (k_with "eval Name" => ((k_here; k_dflt (first
  | (refine' nameX_L ?F_q123 ?v_q123 ?_ ?a_q123 ?b_q123; (case F_q123 => k_asm); (case a_q123 => exact rfl); (case b_q123 => exact rfl); (case v_q123 => exact rfl); k_whole)
  | (refine' nameX_K ?F_q123 ?X_q123 ?T_q123 ?e_q123 ?_ ?a_q123 ?b_q123; (case F_q123 => k_asm); (case X_q123 => k_asm); (case T_q123 => k_asm); (case a_q123 => exact rfl); (case b_q123 => exact rfl); (case e_q123 => k_is); k_whole)
  | (refine' nameX_B ?F_q123 ?X_q123 ?T_q123 ?e_q123 ?v_q123 ?n_q123 ?_ ?a_q123 ?b_q123; (case F_q123 => k_asm); (case X_q123 => k_asm); (case T_q123 => k_asm); (case a_q123 => exact rfl); (case b_q123 => exact rfl); (case e_q123 => k_is); (case v_q123 => boot_fast); (case n_q123 => decide); k_whole)
  | (refine' nameX_FB ?F_q123 ?c_q123 ?m_q123 ?d_q123 ?_ ?a_q123 ?b_q123; (case a_q123 => exact rfl); (case b_q123 => exact rfl); (case F_q123 => k_asm); (case c_q123 => exact rfl); (case m_q123 => assumption); (case d_q123 => assumption); k_whole)))))
  exact True.intro
theorem enterL {prog : Program} {w : World} {A : Around} {s : Shared} {R : Result → Shared → Prop} {name qual : Str} {params : Arguments} {body : PySem.Expr} {scope : Scope} {cl : List (Str × Addr)} {pm ctv : Value} {c' f : Addr} {args : Args} {binds : List (Str × Value)} (as : List Addr)
    (hlim : s.heap.NoLimit) (hroom : A.depth < recursionLimit) (ho : s.heap.get? f = some (kla_obj name qual params body scope cl pm c' ctv)) (hcd : s.heap.CodeRec (.ref c') qual)
    (hbind : bindArgs (kla_fn name qual params body scope cl pm (.ref c') ctv) args = pure binds) (hloc : ∀ y ∈ binds, scope.names.lookup y.1 = some .local)
    (h : ∀ L h₁, L = s.heap.objs.size → Fr (hideAll s.heap as) L h₁ (fun y => binds.reverse.lookup y) → (∀ b o, s.heap.get? b = some o → h₁.get? b = some o) →
      wpAny (model prog w) (A.deeper (envX qual scope L f (.ref c') cl)) (eval body (envX qual scope L f (.ref c') cl))
        (fun v s' => R (.ok (.ret v)) s')
        (fun e s' => wpAny (model prog w) (A.deeper (envX qual scope L f (.ref c') cl)) (leaving (envX qual scope L f (.ref c') cl) e) (fun _ s'' => R (.error e) s'') (fun e' s'' => R (.error e') s'') s')
        { s with heap := h₁, toks := s.toks + binds.length })
    (hco : scope.isCoroutine = false) (hgen : scope.isGenerator = false) (hk : scope.kind = .function) (hcell : ∀ x ∈ scope.names, x.2 ≠ .cell) : codeAny (model prog w) A (.call (.ref f) args) R s := by
  refine kla_callFunE hroom ho rfl hco hgen rfl hcd ?_
  rw [hbind]
  refine wpAny_pure (wpAny_newFunctionEnv hcell hloc (fun h₁ hns hsb => ⟨hlim.fresh _ hsb, ?_⟩) hk)
  show codeAny _ _ (.expr body (envX qual scope s.heap.objs.size f (.ref c') cl)) _ _
  have hk₁ : ∀ b o, s.heap.get? b = some o → h₁.get? b = some o := fun b o e => hsb.extBut b o (Nat.ne_of_lt (Heap.lt_size e)) (Heap.get?_push_of_some _ e)
  exact kla_codeExpr (h s.heap.objs.size h₁ rfl ⟨hns, fun b o e => hk₁ b o (of_hideAll _ e), Nat.le_of_eq (hideAll_size _ _)⟩ hk₁)
section
variable {prog : Program} {w : World} {p : Program} {loose : List Str} {mg mb : Str → Option Value} {dp un : Nat} {fr : Option (List Env)} {gd : Option (List Code)} {s : Shared} {h₀ h h' : Heap} {L : Addr} {m : Str → Option Value} {news : List (Addr × Obj)} {Q E : Value → Shared → Prop}
theorem lam_ {ps : Arguments} {b : PySem.Expr} {sc : Scope} {q : Str} {f ca c' : Addr} {pm ctv iv pv : Value} {oc : Obj} {dp1 : PyData} (li : LamIs w.params ps b sc) (X : (hd.heap_1 w.params).In s.heap) (T : TopRead p loose mg mb s.heap) (hdp : dp + 20 < recursionLimit) (hu : un + 200 < cLine)
    (ho : s.heap.get? f = some (kla_obj "<lambda>" q ps b sc [("inner", ca)] pm c' ctv)) (hcd : s.heap.CodeRec (.ref c') q) (hc : s.heap.get? ca = some oc) (hcc : oc.data = .cell (some iv)) (hp : HD s.heap pv dp1) (lp : dp1.canLay0 = true)
    (hret : ∀ h' tk', Kp [] s.heap h' → Q (if PyData.eqv dp1 (pathD 1) then iv else .ref 127) { s with heap := h', toks := tk' }) :
    wpAny (model prog w) (AA dp un fr gd) (call (.ref f) [pv]) Q E s := by
  obtain ⟨fd, bd, e1, e2, e3⟩ := li
  cases e1
  cases e2
  cases e3
  have X₀ : (hd.heap_1 w.params).In (hideAll s.heap []) := X
  have T₀ : TopRead p loose mg mb (hideAll s.heap []) := T
  have hc₀ : (hideAll s.heap []).get? ca = some oc := hc
  have hp₀ : HD (hideAll s.heap []) pv dp1 := hp
  refine wpAny_call (enterL (binds := [("path", pv)]) [] (TopRead.nolimit T) (by walk_at "M lt") ho hcd rfl (locs rfl) (fun L h₁ hL F hk => ?_) rfl rfl rfl (by decide))
  have N : News (hideAll s.heap []) L h₁ [] := News.nil
  clear hk T X hc hp
  try dsimp only
  try k_fold
  walk_at "M steps"
  all_goals
    rename Fr _ _ _ _ => FN
    rename News _ _ _ _ => NN
    first
      | (have hb : PyData.eqv dp1 (pathD 1) = true := by assumption
         rw [hb, if_pos rfl] at hret
         exact hret _ _ (Kp.of_fr FN))
      | (have hb : PyData.eqv dp1 (pathD 1) = false := by simp_all
         rw [hb, if_neg Bool.false_ne_true] at hret
         exact hret _ _ (Kp.of_fr FN))
end

theorem base_all {base h : Heap} {l : List Env} (FF : h.FunFrames base l) (hkb : base.StaysIn h) :
    ∃ b' : Heap, base.StaysIn b' ∧ b'.StaysIn h ∧ h.FunFrames b' l ∧ ∀ a o, h.get? a = some o → a ∉ l.filterMap (·.frame) → b'.get? a = some o := by
  refine ⟨hideAll h (l.filterMap (·.frame)), fun b o q => hideAll_get _ (hkb b o q) fun hm => ?_, fun b o q => of_hideAll _ q, funFrames_hide FF fun env' he a ha => List.mem_filterMap.mpr ⟨env', he, ha⟩, fun a o e hn => hideAll_get _ e hn⟩
  rw [(FF.mem hm).1] at q; cases q
abbrev lamQ : Str := (Str.ofString "_law_shown" ++ ".<locals>.") ++ Str.ofString "<lambda>"
/-- the table of nested code of _law_shown: empty, or the lambda's code is in it -/
def TabL (h : Heap) (tb : Array Value) : Prop := tb = #[] ∨ ∃ (k : Addr) (oc : Obj) (vs : Array Value) (t : Tok), tb = #[rawInt 257, rawInt 28, .ref k] ∧ h.get? k = some oc ∧ oc.data = .fields vs ∧ vs[1]? = some (.str lamQ t)
inductive LShow (B : Heap) (v iv : Value) : Option PyData → PyData → Prop where
  | made {k : Nat} {T t m : PyData} (hk : k < 300) (g : Good k T t m) : LShow B v iv (some t) m
  | ref {k : Nat} {T t m : PyData} (hk : k < 300) (g : Good k T t m) (hm : HD B iv m) : LShow B v iv (some (.tuple [.str "ref", t])) (.tuple [.str "ref", pathD 1])
  | gone : LShow B v iv none (wMade .box (.tuple [.str "ref", pathD 2]))
theorem LShow.lay {B : Heap} {v iv : Value} {o : Option PyData} {dv : PyData} (x : LShow B v iv o dv) : dv.canLay0 = true := by
  have s1 : PyData.strOk "ref" = true := by decide +kernel
  cases x with
  | made hk g => exact g.layM
  | ref hk g hm => simp [PyData.canLay0, PyData.canLayAll0, s1]
  | gone => exact lay_made (by simp [PyData.canLay0, PyData.canLayAll0, s1])
theorem reg53 : True := by
  (k_with "exec Try" => ((k_here; refine wpAny_Try_except ?_)))
  exact True.intro
section
variable {prog : Program} {w : World} {p : Program} {loose : List Str} {mg mb : Str → Option Value} {dp un : Nat} {fr : Option (List Env)} {gd : Option (List Code)} {s : Shared} {h₀ h h' : Heap} {L : Addr} {m : Str → Option Value} {news : List (Addr × Obj)} {Q E : Value → Shared → Prop}
/-- what the lambda gives -/
theorem lam_reads {ps : Arguments} {b : PySem.Expr} {sc : Scope} {q : Str} {f ca c' : Addr} {pm ctv iv : Value} {oc occ : Obj} {vs : Array Value} {t : Tok} {n : Int} {B : Heap} (li : LamIs w.params ps b sc) (X : (hd.heap_1 w.params).In B) (T : TopRead p loose mg mb B)
    (ho : B.get? f = some (kla_obj "<lambda>" q ps b sc [("inner", ca)] pm c' ctv)) (h1 : B.get? c' = some occ) (h2 : occ.data = .fields vs) (h3 : vs[1]? = some (.str q t)) (hc : B.get? ca = some oc) (hcc : oc.data = .cell (some iv)) :
    ∀ pv, HD B pv (pathD n) → ReadsTo prog w B (.ref f) pv (if PyData.eqv (pathD n) (pathD 1) then iv else .ref 127) := by
  intro pv hp dp' un' fr' gd' s' Q E a1 a2 st hq
  exact lam_ li (X.keeps st) (T.keeps st) (by omega) a2 (st _ _ ho) ⟨c', occ, vs, t, rfl, st _ _ h1, h2, h3⟩ (st _ _ hc) hcc (hp.keeps st) (by simp [PyData.canLay0, PyData.canLayAll0]) hq
theorem lshown_ {mean : ExcName → Option Value} {v iv : Value} {tb : Array Value} {l : List Env} {o : Option PyData} {dv : PyData} (hfl : ∀ a ∈ l.filterMap (·.frame), @Ne Nat a 320)
    (X : (hd.heap_1 w.params).In (hideAll s.heap (320 :: l.filterMap (·.frame)))) (TT : Top p loose mean mg mb (hideAll s.heap (320 :: l.filterMap (·.frame)))) (h320 : s.heap.get? 320 = some (tabObj tb)) (ok : TabL s.heap tb) (hdp : dp + 60 < recursionLimit) (hu : un + 400 < cLine)
    (hl : s.heap.FunFrames (hideAll s.heap (320 :: l.filterMap (·.frame))) l)
    (O : LShow (hideAll s.heap (320 :: l.filterMap (·.frame))) v iv o dv) (hv : HD (hideAll s.heap (320 :: l.filterMap (·.frame))) v dv)
    (hret : ∀ d, o = some d → ∀ h' tk' v' tb', Kp [320] s.heap h' → HD h' v' d → h'.get? 320 = some (tabObj tb') → TabL h' tb' → Q v' { s with heap := h', toks := tk' })
    (hgone : o = none → ∀ h' tk' t tb', Kp (320 :: l.filterMap (·.frame)) s.heap h' → (hideAll s.heap [320]).UpToSlots h' → h'.get? 320 = some (tabObj tb') → TabL h' tb' → Q (.str "uninitialised" t) { s with heap := h', toks := tk' }) :
    wpAny (model prog w) (AA dp un (some l) gd) (call (.ref 325) [v, iv]) Q E s := by
  have T₀ := topRead_of TT
  have T' : TopRead p loose mg mb s.heap := T₀.keeps fun b o e => of_hideAll _ e
  have C9 : CodeHd (hideAll s.heap (320 :: l.filterMap (·.frame))) 324 320 := codeHd_of_K X (by kernel_rfl)
  obtain ⟨rs, r1, r2⟩ := frames_rest hl
  refine wpAny_call ?_
  k_dflt (refine' enterPC (binds := [("value", v), ("inner", iv)]) (320 :: l.filterMap (·.frame)) (fun b o e => of_hideAll _ (X b o e)) ?k2 ?k3 ?k6 ?k7 ?k9 ?kB ?kD ?_ ?c2 ?c3 ?c4)
  walk_at "M enterC"
  clear T'
  intro L h₁ tk cells hL F hkk N Y
  have l0 : @LT.lt Nat _ 320 L := by rw [hL]; exact Heap.lt_size h320
  have rL : ∀ q ∈ rs, q.1 < L := fun q hq => by rw [hL]; exact Heap.lt_size (r1 q hq).1
  have r3 : ∀ q ∈ rs, @Ne Nat q.1 320 := fun q hq => hfl _ (r1 q hq).2.2
  have N0 := N
  have N : News (hideAll s.heap (320 :: l.filterMap (·.frame))) L h₁ (cells ++ ((320, tabObj tb) :: rs)) := fun q hq => by
    rcases List.mem_append.mp hq with hq | hq
    · exact N0 q hq
    · rcases List.mem_cons.mp hq with rfl | hq
      · exact ⟨hkk _ _ h320, Nat.ne_of_lt l0, hideAll_none _ (.head _)⟩
      · exact ⟨hkk _ _ (r1 q hq).1, Nat.ne_of_lt (rL q hq), (r1 q hq).2.1⟩
  clear N0
  have hfr : ∀ a ∈ l.filterMap (·.frame), @LT.lt Nat _ a L := fun a ha => by
    obtain ⟨_, o, ho, _⟩ := hl.mem ha
    rw [hL]; exact Heap.lt_size ho
  have hLn : (hideAll s.heap (320 :: l.filterMap (·.frame))).get? L = none := none_L (fun _ _ e => e) F.above
  k_cells Y
  simp only [List.cons_append, List.nil_append] at N
  try dsimp only
  try k_fold
  rcases ok with rfl | ⟨kc, oc0, vs0, t0, rfl, e0, f0, g0⟩
  · walk_at "M steps"
    rename_i f9 c9 oc9 vs9 t9 ct9 hS _ FN NN d1 d2 l1 l2
    have keepAll := fun (b : Addr) (ob : Obj) (e : s.heap.get? b = some ob) (z : @Ne Nat b 320) => (show hS.get? b = some ob from by
      by_cases hm : b ∈ l.filterMap (·.frame)
      · obtain ⟨o', hr⟩ := r2 b hm
        have e9 := (r1 _ hr).1
        rw [e] at e9
        obtain rfl := Option.some.inj e9
        exact (NN (b, ob) (by walk_at "M sub")).1
      · exact FN.keep b ob (hideAll_get _ e fun q => (List.mem_cons.mp q).elim z hm))
    have get320 := NN.get (a := 320) (o := tabObj #[rawInt 257, rawInt 28, .ref c9]) (by k_mem)
    have getF := NN.get (a := f9) (by k_mem)
    have getC := NN.get (a := L + 1) (by k_mem)
    have lamr := fun n => lam_reads (prog := prog) (w := w) (n := n) (B := hideAll hS []) ⟨_, _, rfl, rfl, rfl⟩ (X.keeps FN.keep) (T₀.keeps FN.keep) getF (NN.get (a := c9) (by k_mem)) d1 d2 getC (by assumption)
    have O' : ShowOk prog w (hideAll hS []) (.ref f9) v o dv := by
      cases O with
      | made hk g => exact .made hk g
      | ref hk g hm => exact .ref hk g rfl ⟨_, _, _, _, getF⟩ (by simp [PyData.canLay0, PyData.canLayAll0]) (hm.keeps FN.keep) (fun pv hp => by
          have z := lamr 1 pv hp
          rwa [if_pos (by simp [PyData.eqv, PyData.eqvAll])] at z)
      | gone => exact .gone rfl ⟨_, _, _, _, getF⟩ (by simp [PyData.canLay0, PyData.canLayAll0]) (fun pv hp => by
          have z := lamr 2 pv hp
          rwa [if_neg (by simp [PyData.eqv, PyData.eqvAll])] at z)
    have FF : hS.FunFrames (hideAll hS (L :: l.filterMap (·.frame))) l := funFrames_hide (hl.of_keeps fun b o e hnf => ⟨o, keepAll b o e fun z => (by rw [z, h320] at e; cases e; exact hnf _ rfl), rfl⟩) fun env' he a ha => .tail _ (List.mem_filterMap.mpr ⟨env', he, ha⟩)
    have c1 : (hideAll s.heap (320 :: l.filterMap (·.frame))).StaysIn (hideAll hS (L :: l.filterMap (·.frame))) := fun b o q => hideAll_get _ (FN.keep b o q) fun hm => by
      rcases List.mem_cons.mp hm with z | hm
      · rw [z, hLn] at q; cases q
      · rw [hideAll_none _ (.tail _ hm)] at q; cases q
    have c4 : ∀ a o, hS.get? a = some o → a ∉ L :: l.filterMap (·.frame) → (hideAll hS (L :: l.filterMap (·.frame))).get? a = some o := fun a o e hn => hideAll_get _ e hn
    refine shown_ (base := hideAll hS (L :: l.filterMap (·.frame))) (X.keeps FN.keep) (T₀.keeps FN.keep) ?_ ?_ ?c3 (fun b o q => of_hideAll _ q) O' (hv.keeps FN.keep) O.lay (fun d hd h9 tk9 v9 kp9 hd9 => ?_) (fun hn e h9 tk9 th => ?_)
    case c3 => exact .cons (fun q => nomatch q) rfl FN.ns (hideAll_none _ (.head _)) FF
    · walk_at "M lt"
    · walk_at "M lt"
    · exact hret d hd _ _ _ #[rawInt 257, rawInt 28, .ref c9] (fun b o e hn => kp9 _ _ (keepAll b o e fun z => hn (by rw [z]; exact .head _)) List.not_mem_nil) hd9 (kp9 _ _ get320 List.not_mem_nil) (.inr ⟨c9, _, _, _, rfl, kp9 _ _ (NN.get (a := c9) (by k_mem)) List.not_mem_nil, d1, d2⟩)
    · refine note_thrown rfl rfl th fun h8 th8 => ?_
      refine caughtX rfl (HU := hideAll s.heap [320]) (ex := [(c9, oc9), (320, tabObj #[rawInt 257, rawInt 28, .ref c9])]) X T₀ FN c1 th8 (fun q hq => ?_) (fun a ha => Nat.ne_of_lt (hfr a ha)) (Heap.UpToSlots.of_keeps fun b o q => keepAll b o (of_hideAll _ q) fun z => by rw [z, hideAll_none _ (.head _)] at q; cases q) (fun b o q => ?_) fun h7 tk7 dx vs sl t1 t2 t3 t4 v1 v2 rest F7 N7 up => ?_
      · have nf : ∀ a : Addr, @Ne Nat a L → (∀ b ∈ l.filterMap (·.frame), @Ne Nat b a) → a ∉ L :: l.filterMap (·.frame) := fun a z1 z2 hm => by
          rcases List.mem_cons.mp hm with z | hm
          · exact z1 z
          · exact z2 _ hm rfl
        rcases List.mem_cons.mp hq with rfl | hq
        · exact ⟨c4 _ _ (NN.get (a := c9) (by k_mem)) (nf _ (Nat.ne_of_gt (Nat.lt_trans (Nat.lt_succ_self _) (l1 (L + 1, _) (.head _)))) fun b hb => Nat.ne_of_lt (Nat.lt_trans (hfr b hb) (Nat.lt_trans (Nat.lt_succ_self _) (l1 (L + 1, _) (.head _))))), (NN (c9, oc9) (by k_mem)).2.2⟩
        · rw [List.mem_singleton.mp hq]
          exact ⟨c4 _ _ get320 (nf _ (Nat.ne_of_lt l0) fun b hb => hfl b hb), hideAll_none _ (.head _)⟩
      · by_cases z : b ∈ l.filterMap (·.frame)
        · exact .inl z
        · refine .inr (hideAll_get _ (of_hideAll _ q) fun hm => ?_)
          rcases List.mem_cons.mp hm with rfl | hm
          · rw [hideAll_none _ (.head _)] at q; cases q
          · exact z hm
      · simp only [List.cons_append, List.nil_append] at N7
        clear FN NN keepAll get320 getF getC lamr O' FF c1 c4 th th8 N
        try dsimp only
        try k_fold
        walk_at "M steps"
        rename Fr _ _ _ _ => FN
        rename News _ _ _ _ => NN
        exact hgone hn _ _ _ #[rawInt 257, rawInt 28, .ref c9] (Kp.of_fr FN) (up _ FN.keep fun q hq' => (NN q (by walk_at "M sub")).1) (NN.get (by k_mem)) (.inr ⟨c9, _, _, _, rfl, NN.get (a := c9) (by k_mem), d1, d2⟩)
  · have e1 : (hideAll s.heap (320 :: l.filterMap (·.frame))).get? kc = some oc0 := hideAll_get _ e0 fun hm => by
      rcases List.mem_cons.mp hm with z | hm
      · rw [z, h320] at e0; cases e0; cases f0; simp [rawInt] at g0
      · obtain ⟨_, o, ho, hnf⟩ := hl.mem hm
        rw [ho] at e0; cases e0; exact hnf vs0 f0
    walk_at "M steps"
    rename_i f9 ct9 hS _ FN NN l1
    have keepAll := fun (b : Addr) (ob : Obj) (e : s.heap.get? b = some ob) (z : @Ne Nat b 320) => (show hS.get? b = some ob from by
      by_cases hm : b ∈ l.filterMap (·.frame)
      · obtain ⟨o', hr⟩ := r2 b hm
        have e9 := (r1 _ hr).1
        rw [e] at e9
        obtain rfl := Option.some.inj e9
        exact (NN (b, ob) (by walk_at "M sub")).1
      · exact FN.keep b ob (hideAll_get _ e fun q => (List.mem_cons.mp q).elim z hm))
    have get320 := NN.get (a := 320) (o := tabObj #[rawInt 257, rawInt 28, .ref kc]) (by k_mem)
    have getF := NN.get (a := f9) (by k_mem)
    have getC := NN.get (a := L + 1) (by k_mem)
    have lamr := fun n => lam_reads (prog := prog) (w := w) (n := n) (B := hideAll hS []) ⟨_, _, rfl, rfl, rfl⟩ (X.keeps FN.keep) (T₀.keeps FN.keep) getF (FN.keep _ _ e1) f0 g0 getC (by assumption)
    have O' : ShowOk prog w (hideAll hS []) (.ref f9) v o dv := by
      cases O with
      | made hk g => exact .made hk g
      | ref hk g hm => exact .ref hk g rfl ⟨_, _, _, _, getF⟩ (by simp [PyData.canLay0, PyData.canLayAll0]) (hm.keeps FN.keep) (fun pv hp => by
          have z := lamr 1 pv hp
          rwa [if_pos (by simp [PyData.eqv, PyData.eqvAll])] at z)
      | gone => exact .gone rfl ⟨_, _, _, _, getF⟩ (by simp [PyData.canLay0, PyData.canLayAll0]) (fun pv hp => by
          have z := lamr 2 pv hp
          rwa [if_neg (by simp [PyData.eqv, PyData.eqvAll])] at z)
    have FF : hS.FunFrames (hideAll hS (L :: l.filterMap (·.frame))) l := funFrames_hide (hl.of_keeps fun b o e hnf => ⟨o, keepAll b o e fun z => (by rw [z, h320] at e; cases e; exact hnf _ rfl), rfl⟩) fun env' he a ha => .tail _ (List.mem_filterMap.mpr ⟨env', he, ha⟩)
    have c1 : (hideAll s.heap (320 :: l.filterMap (·.frame))).StaysIn (hideAll hS (L :: l.filterMap (·.frame))) := fun b o q => hideAll_get _ (FN.keep b o q) fun hm => by
      rcases List.mem_cons.mp hm with z | hm
      · rw [z, hLn] at q; cases q
      · rw [hideAll_none _ (.tail _ hm)] at q; cases q
    have c4 : ∀ a o, hS.get? a = some o → a ∉ L :: l.filterMap (·.frame) → (hideAll hS (L :: l.filterMap (·.frame))).get? a = some o := fun a o e hn => hideAll_get _ e hn
    refine shown_ (base := hideAll hS (L :: l.filterMap (·.frame))) (X.keeps FN.keep) (T₀.keeps FN.keep) ?_ ?_ ?c3 (fun b o q => of_hideAll _ q) O' (hv.keeps FN.keep) O.lay (fun d hd h9 tk9 v9 kp9 hd9 => ?_) (fun hn e h9 tk9 th => ?_)
    case c3 => exact .cons (fun q => nomatch q) rfl FN.ns (hideAll_none _ (.head _)) FF
    · walk_at "M lt"
    · walk_at "M lt"
    · exact hret d hd _ _ _ #[rawInt 257, rawInt 28, .ref kc] (fun b o e hn => kp9 _ _ (keepAll b o e fun z => hn (by rw [z]; exact .head _)) List.not_mem_nil) hd9 (kp9 _ _ get320 List.not_mem_nil) (.inr ⟨kc, _, _, _, rfl, kp9 _ _ (FN.keep _ _ e1) List.not_mem_nil, f0, g0⟩)
    · refine note_thrown rfl rfl th fun h8 th8 => ?_
      refine caughtX rfl (HU := hideAll s.heap [320]) (ex := [(320, tabObj #[rawInt 257, rawInt 28, .ref kc])]) X T₀ FN c1 th8 (fun q hq => ?_) (fun a ha => Nat.ne_of_lt (hfr a ha)) (Heap.UpToSlots.of_keeps fun b o q => keepAll b o (of_hideAll _ q) fun z => by rw [z, hideAll_none _ (.head _)] at q; cases q) (fun b o q => ?_) fun h7 tk7 dx vs sl t1 t2 t3 t4 v1 v2 rest F7 N7 up => ?_
      · have nf : ∀ a : Addr, @Ne Nat a L → (∀ b ∈ l.filterMap (·.frame), @Ne Nat b a) → a ∉ L :: l.filterMap (·.frame) := fun a z1 z2 hm => by
          rcases List.mem_cons.mp hm with z | hm
          · exact z1 z
          · exact z2 _ hm rfl
        rw [List.mem_singleton.mp hq]
        exact ⟨c4 _ _ get320 (nf _ (Nat.ne_of_lt l0) fun b hb => hfl b hb), hideAll_none _ (.head _)⟩
      · by_cases z : b ∈ l.filterMap (·.frame)
        · exact .inl z
        · refine .inr (hideAll_get _ (of_hideAll _ q) fun hm => ?_)
          rcases List.mem_cons.mp hm with rfl | hm
          · rw [hideAll_none _ (.head _)] at q; cases q
          · exact z hm
      · simp only [List.cons_append, List.nil_append] at N7
        clear FN NN keepAll get320 getF getC lamr O' FF c1 c4 th th8 N
        try dsimp only
        try k_fold
        walk_at "M steps"
        rename Fr _ _ _ _ => FN
        rename News _ _ _ _ => NN
        exact hgone hn _ _ _ #[rawInt 257, rawInt 28, .ref kc] (Kp.of_fr FN) (up _ FN.keep fun q hq' => (NN q (by walk_at "M sub")).1) (NN.get (by k_mem)) (.inr ⟨kc, _, _, _, rfl, FN.keep _ _ e1, f0, g0⟩)
end

theorem kinds_log {κ : Str} {lo hi n : Int} (h : (κ, lo, hi) ∈ kinds) (hn : lo ≤ n ∧ n ≤ hi) : n.natAbs.log2 < 1920 := by
  obtain ⟨_, l2, l3⟩ := kinds_le h
  have : n.natAbs < 2 ^ 70 := by omega
  by_cases h0 : n.natAbs = 0
  · rw [h0]; decide
  · exact Nat.lt_of_lt_of_le ((Nat.log2_lt h0).mpr this) (by decide)
theorem len_tuple1 (a : Str) : (tupleText [a]).length = a.length + 3 := by
  show (Str.length (("(" : Str) ++ a ++ (",)" : String))) = _
  rw [Str.length_append, Str.length_append]
  show 1 + a.length + 2 = _
  omega
theorem len_tuple2 (a b : Str) : (tupleText [a, b]).length = a.length + b.length + 4 := by
  show (Str.length (("(" : Str) ++ (a ++ (", " : Str) ++ b) ++ (")" : String))) = _
  simp only [Str.length_append]
  show 1 + (a.length + 2 + b.length) + 1 = _
  omega
theorem len_tuple3 (a b c : Str) : (tupleText [a, b, c]).length = a.length + b.length + c.length + 6 := by
  have e := join_length_add [a, b, c] (by simp)
  simp only [piled, List.map_cons, List.map_nil, List.sum_cons, List.sum_nil] at e
  show (Str.length (("(" : Str) ++ Str.join ", " [a, b, c] ++ (")" : String))) = _
  simp only [Str.length_append]
  show 1 + (Str.join ", " [a, b, c]).length + 1 = _
  omega
theorem Good.show {k : Nat} {T t m : PyData} (g : Good k T t m) : m.showable = true ∧ m.depth ≤ 4 * k + 4 ∧ m.shown.length ≤ 2000 + 60 * k := by
  induction g with
  | @int κ lo hi n hκ h =>
    have hl := kinds_log hκ h
    refine ⟨by simp [PyData.showable, hl], by simp [PyData.depth], ?_⟩
    have e := int_text_length_le (k := 1920) (by decide) hl
    show (Str.ofString (toString n)).length ≤ _
    rw [PySem.ofString_length]; omega
  | @layer k T t m way g ih =>
    obtain ⟨a, b, c⟩ := ih
    have l1 : (PyData.shown (.str "box")).length = 5 := by decide +kernel
    have l2 : (PyData.shown (.str "fields")).length = 8 := by decide +kernel
    have l3 : (PyData.shown (.str "variant")).length = 9 := by decide +kernel
    have l4 : (PyData.shown (.int 7)).length = 1 := by decide +kernel
    have l5 : (PyData.shown (.int 0)).length = 1 := by decide +kernel
    refine ⟨?_, ?_, ?_⟩
    · cases way <;> simp [wMade, PyData.showable, PyData.showableAll, a] <;> decide
    · cases way <;> simp [wMade, PyData.depth, PyData.depthAll] <;> omega
    · cases way
      · show (tupleText [_, _]).length ≤ _
        rw [len_tuple2, l1]; omega
      · show (tupleText [_, tupleText [_, _]]).length ≤ _
        rw [len_tuple2, len_tuple2, l2, l4]; omega
      · show (tupleText [_, tupleText [_]]).length ≤ _
        rw [len_tuple2, len_tuple1, l2]; omega
      · show (tupleText [_, _, tupleText [_, _]]).length ≤ _
        rw [len_tuple3, len_tuple2, l3, l4, l5]; omega
theorem Good.told_in {h H : Heap} {k : Nat} {T t m : PyData} (g : Good k T t m) (ht : ∀ a its, IsTup h a its → IsTup H a its) : ∀ {v : Value}, HD h v t → HD H v t := by
  have tp : ∀ {a : Addr} {l : List Value} {ds : List PyData}, IsTup H a (List.toArray l) → HDs H l ds → HD H (.ref a) (.tuple ds) := fun ⟨o, e, c, n, d⟩ x => HD.tuple e c d x
  induction g with
  | int hκ h => intro v x; obtain ⟨u, rfl⟩ := HD.inv_int x; exact HD.int
  | @layer k T t m way g ih =>
    intro v x
    obtain ⟨a, rfl⟩ := ref_told x
    cases way
    · obtain ⟨t1, v1, h1, h2⟩ := inv_box (dT := t) x
      exact tp (l := [_, _]) (ht _ _ h1) (HDs.cons HD.str (HDs.cons (ih h2) HDs.nil))
    · obtain ⟨v1, u, h1, h2⟩ := inv_l2 (dt := t) x
      exact tp (l := [_, _]) (ht _ _ h1) (HDs.cons (ih h2) (HDs.cons HD.int HDs.nil))
    · obtain ⟨v1, h1, h2⟩ := inv_l1 (dt := t) x
      exact tp (l := [_]) (ht _ _ h1) (HDs.cons (ih h2) HDs.nil)
    · obtain ⟨u0, tq, v1, u, h1, h2, h3⟩ := inv_l3 (dt := t) x
      exact tp (l := [_, _]) (ht _ _ h1) (HDs.cons HD.int (HDs.cons (tp (l := [_, _]) (ht _ _ h2) (HDs.cons (ih h3) (HDs.cons HD.int HDs.nil))) HDs.nil))
section
variable {prog : Program} {w : World} {p : Program} {loose : List Str} {mg mb : Str → Option Value} {dp un : Nat} {fr : Option (List Env)} {gd : Option (List Code)} {s : Shared} {h₀ h h' : Heap} {L : Addr} {m : Str → Option Value} {news : List (Addr × Obj)} {Q E : Value → Shared → Prop}
/-- the text of a made value -/
theorem repr_made {A : Around} {v : Value} {k : Nat} {T t d : PyData} (hk : k < 300) (g : Good k T t d) (hv : HD s.heap v d) (hg : A.guards = some []) (hu : A.units + 2000 < cLine)
    (hq : ∀ h' u tk, Kp [] s.heap h' → Q (.str d.shown u) { s with heap := h', toks := tk }) : wpAny (model prog w) A (call (.builtin "repr") [v]) Q E s := by
  obtain ⟨sh, dep, len⟩ := g.show
  cases g with
  | int hκ h =>
    obtain ⟨u, rfl⟩ := HD.inv_int hv
    exact P.repr_of_int (kinds_log hκ h) (hq _ _ _ (Kp.refl _ _))
  | layer way g =>
    obtain ⟨a, rfl⟩ := ref_made hv
    obtain ⟨as, r⟩ := hv
    exact repr_of_reads' r sh (PyData.noDict_hsm (PyData.hasDict_of_canLay _ (Good.layM (.layer way g)))) hg (by omega) (fun _ _ e => e) (fun h' u tk kp => hq h' u tk fun b o e _ => kp b o e) (by rw [sizeLine_eq]; omega)
end

theorem item_B0 {prog : Program} {w : World} {A : Around} {E : Value → Shared → Prop} {s : Shared} {value slice : PySem.Expr} {h₀ : Heap} {L l : Addr} {m : Str → Option Value} {v : Value} {r : List Value} {u : Tok} {Q : Value → Shared → Prop}
    (F : Fr h₀ L s.heap m) (hl : h₀.IsList l (List.toArray (v :: r))) (h : Q v s)
    (hs : subscripted slice false (.ref l) (.int 0 u) = operate [.ref l, .int 0 u] (getItem (.ref l) (.int 0 u)) := by with_unfolding_all rfl) : wpAny (model prog w) A (subscriptTail value slice (.ref l) (.int 0 u)) Q E s :=
  item_BL F hl (by decide) (by decide) (by simp) h hs
theorem reg54 : True := by
  (k_with "subscriptTail Name Constant ref int" => ((k_here; (with_reducible show wpAny _ _ (subscriptTail _ _ (Value.ref _) (Value.int _ _)) _ _ _); (k_dflt (refine' item_B0 ?F_q125 ?B_q125 ?_ ?q_q125; (case F_q125 => k_asm); (case B_q125 => assumption); (case q_q125 => with_unfolding_all rfl); k_whole)))))
  exact True.intro
section
variable {prog : Program} {w : World} {p : Program} {loose : List Str} {mg mb : Str → Option Value} {dp un : Nat} {fr : Option (List Env)} {gd : Option (List Code)} {s : Shared} {h₀ h h' : Heap} {L : Addr} {m : Str → Option Value} {news : List (Addr × Obj)} {Q E : Value → Shared → Prop}
theorem pool_ {sa : Addr} {vs : List Value} {ns : List Int} (X : (hd.heap_1 w.params).In s.heap) (T : TopRead p loose mg mb s.heap) (hdp : dp + 10 < recursionLimit) (hu : un + 100 < cLine) (hs : s.heap.IsList sa vs.toArray) (hi : IntsAre vs ns) (hlen : vs.length ≤ 63)
    (hret : ∀ h' tk' a x y t1 t2 n, Kp [] s.heap h' → h'.get? a = some (listOf #[.int x t1, .int y t2] n) → s.heap.get? a = none → 0 ≤ x → 0 ≤ y → y < 2147483647 → Q (.ref a) { s with heap := h', toks := tk' }) :
    wpAny (model prog w) (AA dp un fr gd) (call (.ref 262) [.ref sa]) Q E s := by
  have hs₀ : (hideAll s.heap []).IsList sa vs.toArray := hs
  have b1 : ∀ z : Int, 0 ≤ z.fmod 2147483647 := fun z => Int.fmod_nonneg_of_pos _ (by decide)
  have b2 : ∀ z : Int, z.fmod 2147483647 < 2147483647 := fun z => Int.fmod_lt_of_pos _ (by decide)
  refine wpAny_call ?_
  k_dflt (refine' enterP (binds := [("script", .ref sa)]) [] X ?k2 ?k3 ?k6 ?k7 ?k9 ?kB ?_ ?c2 ?c3 ?c4 ?c5)
  walk_at "M enter"
  intro L h₁ hL F hk
  clear hk
  have X₀ : (hd.heap_1 w.params).In (hideAll s.heap []) := X
  have T₀ : TopRead p loose mg mb (hideAll s.heap []) := T
  have N : News (hideAll s.heap []) L h₁ [] := News.nil
  clear X T
  clear hs
  rcases vs with _ | ⟨v0, vr⟩
  · skip
    all_goals (try dsimp only)
    all_goals (try k_fold)
    all_goals walk_at "M steps"
    all_goals
      rename Fr _ _ _ _ => FN
      rename News _ _ _ _ => NN
      refine hret _ _ _ _ _ _ _ _ (Kp.of_fr FN) (NN.get (.head _)) (News.fresh (h₀ := hideAll s.heap []) NN (.head _)) ?_ (b1 _) (b2 _)
      first | decide | omega | (split <;> omega) | (split at * <;> omega)
  · obtain ⟨c, t0, nr, rfl, rfl⟩ : ∃ c t0 nr, v0 = .int c t0 ∧ ns = c :: nr := by
      cases hi with
      | cons => exact ⟨_, _, _, rfl, rfl⟩
    all_goals (try dsimp only)
    all_goals (try k_fold)
    all_goals walk_at "M steps"
    all_goals
      rename Fr _ _ _ _ => FN
      rename News _ _ _ _ => NN
      refine hret _ _ _ _ _ _ _ _ (Kp.of_fr FN) (NN.get (.head _)) (News.fresh (h₀ := hideAll s.heap []) NN (.head _)) ?_ (b1 _) (b2 _)
      first | decide | omega | (split <;> omega) | (split at * <;> omega)
end

theorem fr_up {h₀ h h' : Heap} {L a : Addr} {m : Str → Option Value} (F : Fr h₀ L h m) (hn : h₀.get? a = none) (ne : @Ne Nat L a) (k : h₀.StaysIn h') (u : (hideAll h [a]).UpToSlots h') : Fr h₀ L h' m := by
  obtain ⟨oL, a1, a2, eL, a3⟩ := F.ns
  have F2 : Fr h₀ L (hideAll h [a]) m := ⟨⟨oL, a1, a2, hideAll_get [a] eL fun q => ne (List.mem_singleton.mp q), a3⟩, hid F fun b hb => by rw [List.mem_singleton.mp hb]; exact hn, F.above⟩
  exact Fr.of_stays F2 k u
theorem News.turn2 {h₀ h h' : Heap} {L src : Addr} {news : List (Addr × Obj)} {o o' : Obj} {g : Obj → List (Addr × Obj)} (N : News h₀ L h news) (U : UpdF src o news g) (k : Kp [src, L] h h') (e : h'.get? src = some o') : News h₀ L h' (g o') := by
  obtain ⟨pre, post, rfl, hg, h1, h2⟩ := U.split
  rw [hg]
  intro q hq
  have st : ∀ q : Addr × Obj, q ∈ pre ++ (src, o) :: post → q.1 ≠ src → h'.get? q.1 = some q.2 ∧ q.1 ≠ L ∧ h₀.get? q.1 = none := fun q hq hne => by
    have z := N q hq
    refine ⟨k _ _ z.1 fun hm => ?_, z.2⟩
    rcases List.mem_cons.mp hm with y | y
    · exact hne y
    · exact z.2.1 (List.mem_singleton.mp y)
  rcases List.mem_append.mp hq with hq | hq
  · exact st q (List.mem_append_left _ hq) (h1 q hq)
  · rcases List.mem_cons.mp hq with rfl | hq
    · exact ⟨e, (N _ (List.mem_append_right _ (.head _))).2⟩
    · exact st q (List.mem_append_right _ (.tail _ hq)) (h2 q hq)
section
variable {prog : Program} {w : World} {p : Program} {loose : List Str} {mg mb : Str → Option Value} {dp un : Nat} {fr : Option (List Env)} {gd : Option (List Code)} {s : Shared} {h₀ h h' : Heap} {L : Addr} {m : Str → Option Value} {news : List (Addr × Obj)} {Q E : Value → Shared → Prop}
variable {mean : ExcName → Option Value} {env : Env} {wd : Addr} {vt vT : Value} {tb : Array Value} {T t : PyData} {k : Nat} {g : Obj → List (Addr × Obj)}
theorem stays2 {a : Addr} (F : Fr h₀ L h m) (hn : h₀.get? a = none) : h₀.StaysIn (hideAll h [a, L]) := fun b o q => hideAll_get _ (F.keep b o q) fun z => by
  rcases List.mem_cons.mp z with rfl | z
  · rw [hn] at q; cases q
  · rw [List.mem_singleton.mp z, none_L (fun _ _ e => e) F.above] at q; cases q
theorem call_found (hk : k < 300) (hf : env.frame = some L) (hke : env.scope.kind = .function) (F : Fr h₀ L s.heap m) (X : (hd.heap_1 w.params).In h₀) (TT : Top p loose mean mg mb h₀) (N : News h₀ L s.heap news) (U : UpdF 123 (tabObj tb) news g) (ok : TabOk tb) (hdp : dp + 45 < recursionLimit) (hu : un + 320 < cLine)
    (hW : WorldAt prog w (hideAll s.heap [123, L]) wd) (hT : HD (hideAll s.heap [123, L]) vT T) (ht : HD (hideAll s.heap [123, L]) vt t)
    (O : (∃ d, Good k T t d ∧ ∀ h' tk' v tb', Fr h₀ L h' m → News h₀ L h' (g (tabObj tb')) → TabOk tb' → HD h' v d → Q v { s with heap := h', toks := tk' }) ∨
      (Bad k T t ∧ ∀ h' tk' tb', Fr h₀ L h' m → News h₀ L h' (g (tabObj tb')) → TabOk tb' → Q .none { s with heap := h', toks := tk' })) :
    wpAny (model prog w) (AA dp un (some [env]) gd) (call (.ref 318) [vt, vT, .ref wd]) Q E s := by
  have hm := N _ (UpdF.mem U)
  have hL : @Ne Nat L 123 := fun q => hm.2.1 q.symm
  have e1 : [env].filterMap (·.frame) = [L] := by simp [hf]
  have st := stays2 F hm.2.2
  have hn : ∀ a ∈ ([123] : List Addr), h₀.get? a = none := fun a ha => by rw [List.mem_singleton.mp ha]; exact hm.2.2
  have hL' : L ∉ ([123] : List Addr) := fun q => hL (List.mem_singleton.mp q)
  refine found_ (p := p) (loose := loose) (mean := mean) (mg := mg) (mb := mb) (l := [env]) (T := T) (t := t) (k := k) hk ?_ ?_ ?_ hm.1 ok hdp hu ?_ ?_ ?_ ?_ ?_
  · rw [e1]; intro a ha; rw [List.mem_singleton.mp ha]; exact hL
  · rw [e1]; exact X.keeps st
  · rw [e1]; exact TT.keeps st
  · rw [e1]; exact .cons (by rw [hke]; decide) hf F.ns (hideAll_none _ (.tail _ (.head _))) trivial
  · rw [e1]; exact hW
  · rw [e1]; exact hT
  · rw [e1]; exact ht
  · rcases O with ⟨d, gd', hq⟩ | ⟨bd, hq⟩
    · exact .inl ⟨d, gd', fun h' tk' v tb' kp hd' e ok' => hq h' tk' v tb' (Fr.after F kp hn hL') (News.turn N U kp e) ok' hd'⟩
    · refine .inr ⟨bd, fun h' tk' tb' kp up e ok' => ?_⟩
      rw [e1] at kp
      exact hq h' tk' tb' (fr_up F hm.2.2 hL (fun b o q => kp b o (of_hideAll _ (st b o q)) fun z => by have y := st b o q; rw [hideAll_none _ z] at y; cases y) up) (News.turn2 N U kp e) ok'
theorem call_told {b : Bool} (F : Fr h₀ L s.heap m) (X : (hd.heap_1 w.params).In h₀) (TT : Top p loose mean mg mb h₀) (N : News h₀ L s.heap news) (U : UpdF 123 (tabObj tb) news g) (ok : TabOk tb) (hdp : dp + 75 < recursionLimit) (hu : un + 520 < cLine)
    (hW : WorldAt prog w (hideAll s.heap [123]) wd) (hT : HD (hideAll s.heap [123]) vT T) (ht : HD (hideAll s.heap [123]) vt t)
    (O : ((∃ m, Good k T t m) ∧ b = true) ∨ (Bad k T t ∧ b = false))
    (ret : ∀ h' tk' tb', Fr h₀ L h' m → News h₀ L h' (g (tabObj tb')) → TabOk tb' → Q (.bool b) { s with heap := h', toks := tk' }) :
    wpAny (model prog w) (AA dp un fr gd) (call (.ref 191) [vT, vt, .ref wd]) Q E s := by
  have hm := N _ (UpdF.mem U)
  have hn : ∀ a ∈ ([123] : List Addr), h₀.get? a = none := fun a ha => by rw [List.mem_singleton.mp ha]; exact hm.2.2
  have hL' : L ∉ ([123] : List Addr) := fun q => hm.2.1 (List.mem_singleton.mp q).symm
  have st := hid F hn
  exact told_ (X.keeps st) (TT.keeps st) hm.1 ok hdp hu hW hT ht O fun h' tk' tb' kp e ok' => ret h' tk' tb' (Fr.after F kp hn hL') (News.turn N U kp e) ok'
theorem call_lshown {v iv : Value} {o : Option PyData} {dv : PyData} (hf : env.frame = some L) (hke : env.scope.kind = .function) (F : Fr h₀ L s.heap m) (X : (hd.heap_1 w.params).In h₀) (TT : Top p loose mean mg mb h₀) (N : News h₀ L s.heap news) (U : UpdF 320 (tabObj tb) news g) (ok : TabL s.heap tb) (hdp : dp + 60 < recursionLimit) (hu : un + 400 < cLine)
    (O : LShow (hideAll s.heap [320, L]) v iv o dv) (hv : HD (hideAll s.heap [320, L]) v dv)
    (ret : ∀ d, o = some d → ∀ h' tk' v' tb', Kp [320] s.heap h' → Fr h₀ L h' m → News h₀ L h' (g (tabObj tb')) → TabL h' tb' → HD h' v' d → Q v' { s with heap := h', toks := tk' })
    (gone : o = none → ∀ h' tk' t tb', Fr h₀ L h' m → News h₀ L h' (g (tabObj tb')) → TabL h' tb' → Q (.str "uninitialised" t) { s with heap := h', toks := tk' }) :
    wpAny (model prog w) (AA dp un (some [env]) gd) (call (.ref 325) [v, iv]) Q E s := by
  have hm := N _ (UpdF.mem U)
  have hL : @Ne Nat L 320 := fun q => hm.2.1 q.symm
  have e1 : [env].filterMap (·.frame) = [L] := by simp [hf]
  have st := stays2 F hm.2.2
  have hn : ∀ a ∈ ([320] : List Addr), h₀.get? a = none := fun a ha => by rw [List.mem_singleton.mp ha]; exact hm.2.2
  have hL' : L ∉ ([320] : List Addr) := fun q => hL (List.mem_singleton.mp q)
  refine lshown_ (p := p) (loose := loose) (mean := mean) (mg := mg) (mb := mb) (l := [env]) (o := o) (dv := dv) ?_ ?_ ?_ hm.1 ok hdp hu ?_ ?_ ?_ (fun d hd h' tk' v' tb' kp hv' e ok' => ret d hd h' tk' v' tb' kp (Fr.after F kp hn hL') (News.turn N U kp e) ok' hv') (fun hn' h' tk' t tb' kp up e ok' => ?_)
  · rw [e1]; intro a ha; rw [List.mem_singleton.mp ha]; exact hL
  · rw [e1]; exact X.keeps st
  · rw [e1]; exact TT.keeps st
  · rw [e1]; exact .cons (by rw [hke]; decide) hf F.ns (hideAll_none _ (.tail _ (.head _))) trivial
  · rw [e1]; exact O
  · rw [e1]; exact hv
  · rw [e1] at kp
    exact gone hn' h' tk' t tb' (fr_up F hm.2.2 hL (fun b o q => kp b o (of_hideAll _ (st b o q)) fun z => by have y := st b o q; rw [hideAll_none _ z] at y; cases y) up) (News.turn2 N U kp e) ok'
end

/-- the i-th statement of law -/
inductive LawStmt (P : Params) (L : Addr) (i : Nat) (st : Stmt) (env : Env) : Prop
  | mk (fd : _) (b : _) (z1 : fnOfK P 332 = some fd) (z2 : fd.body = .stmts b) (z3 : b[i]? = some st) (z4 : ∃ fa cd, env = envOf fd.qualname fd.scope L fa cd)
abbrev fxM (fx : List (Str × Value)) (m0 : Str → Option Value) : Str → Option Value := fun y => match fx.lookup y with | some v => some v | none => m0 y
theorem lookup_mem {y : Str} {v : Value} : ∀ {fx : List (Str × Value)}, fx.lookup y = some v → (y, v) ∈ fx
  | [], h => by cases h
  | (a, b) :: r, h => by
    rw [List.lookup_cons] at h
    split at h
    · rename_i q
      cases h
      rw [beq_iff_eq.mp q]
      exact .head _
    · exact .tail _ (lookup_mem h)
theorem fr_fx {B h : Heap} {L : Addr} {m : Str → Option Value} {fx : List (Str × Value)} (F : Fr B L h m) (hx : ∀ q ∈ fx, m q.1 = some q.2) : Fr B L h (fxM fx m) := by
  have e : m = fxM fx m := by
    funext y
    show m y = match fx.lookup y with | some v => some v | none => m y
    cases q : fx.lookup y with
    | none => rfl
    | some v => exact hx _ (lookup_mem q)
  exact e ▸ F
structure LawSt (prog : Program) (w : World) (p : Program) (loose : List Str) (mean : ExcName → Option Value) (mg mb : Str → Option Value) (h₀ h : Heap) (L src wd : Addr) (fx : List (Str × Value)) (rest : List (Addr × Obj)) : Prop where
  X : (hd.heap_1 w.params).In h₀
  T : Top p loose mean mg mb h₀
  fr : ∃ m0, Fr h₀ L h (fxM fx m0)
  ld : ∃ x y t1 t2 n tb, News h₀ L h ((src, listOf #[.int x t1, .int y t2] n) :: (123, tabObj tb) :: (320, tabObj #[]) :: rest) ∧ TabOk tb ∧ 0 ≤ x ∧ 0 ≤ y ∧ y < 2147483647
  ne : @Ne Nat src 123 ∧ @Ne Nat src 320
  r1 : ∀ q ∈ rest, @Ne Nat q.1 src
  r2 : ∀ q ∈ rest, @Ne Nat q.1 123
  r3 : ∀ q ∈ rest, @Ne Nat q.1 320
  W : Via h₀ rest (WorldAt prog w · wd)
theorem lawSt {prog : Program} {w : World} {p : Program} {loose : List Str} {mean : ExcName → Option Value} {mg mb : Str → Option Value} {h₀ h : Heap} {L src wd : Addr} {fx : List (Str × Value)} {rest news : List (Addr × Obj)} {m : Str → Option Value} {x y : Int} {t1 t2 : Tok} {n : Nat} {tb : Array Value}
    (X : (hd.heap_1 w.params).In h₀) (T : Top p loose mean mg mb h₀) (F : Fr h₀ L h m) (N : News h₀ L h news) (hs : (src, listOf #[.int x t1, .int y t2] n) ∈ news) (h1 : (123, tabObj tb) ∈ news) (h2 : (320, tabObj #[]) ∈ news) (ok : TabOk tb) (b : 0 ≤ x ∧ 0 ≤ y ∧ y < 2147483647) (ne : @Ne Nat src 123 ∧ @Ne Nat src 320)
    (hx : ∀ q ∈ fx, m q.1 = some q.2) (hsub : ∀ q ∈ rest, q ∈ news ∧ @Ne Nat q.1 src ∧ @Ne Nat q.1 123 ∧ @Ne Nat q.1 320) (W : Via h₀ rest (WorldAt prog w · wd)) :
    ∃ rest', LawSt prog w p loose mean mg mb h₀ h L src wd fx rest' ∧ (∀ q ∈ rest, q ∈ rest') ∧ ∀ q ∈ news, @Ne Nat q.1 src → @Ne Nat q.1 123 → @Ne Nat q.1 320 → q ∈ rest' := by
  have key : ∀ q : Addr × Obj, q ∈ news.filter (fun q => decide (@Ne Nat q.1 src ∧ @Ne Nat q.1 123 ∧ @Ne Nat q.1 320)) ↔ q ∈ news ∧ @Ne Nat q.1 src ∧ @Ne Nat q.1 123 ∧ @Ne Nat q.1 320 := fun q => by
    rw [List.mem_filter, decide_eq_true_eq]
  refine ⟨_, ⟨X, T, ⟨m, fr_fx F hx⟩, ⟨x, y, t1, t2, n, tb, fun q hq => ?_, ok, b⟩, ne, fun q hq => ((key q).mp hq).2.1, fun q hq => ((key q).mp hq).2.2.1, fun q hq => ((key q).mp hq).2.2.2, W.more fun q hq => (key q).mpr (hsub q hq)⟩, fun q hq => (key q).mpr (hsub q hq), fun q hq a b c => (key q).mpr ⟨hq, a, b, c⟩⟩
  rcases List.mem_cons.mp hq with rfl | hq
  · exact N _ hs
  rcases List.mem_cons.mp hq with rfl | hq
  · exact N _ h1
  rcases List.mem_cons.mp hq with rfl | hq
  · exact N _ h2
  · exact N _ ((key q).mp hq).1
theorem hid_get {H : Heap} {news : List (Addr × Obj)} {a b : Addr} {o : Obj} (r : ∀ q ∈ news, @Ne Nat q.1 a → H.get? q.1 = some q.2) (hm : (b, o) ∈ news) (ne : @Ne Nat b a) : H.get? b = some o := r _ hm ne
theorem reg55 : True := by
  (k_with "M hQ" => (walk_at "M hq"))
  (k_with "M hq" => (first
  | assumption | exact HD.str | exact HD.int | exact HD.none | exact HD.bool | exact HDs.nil
  | (focus (refine' HDs.cons ?_ ?_; all_goals (walk_at "M hQ")))
  | (focus (refine' HD.tuple (hid_get (by assumption) (by k_mem) (by k_ne)) ?_ ?_ ?_; (any_goals (exact rfl)); all_goals (walk_at "M hQ")))
  | (focus (refine' HD.list (hid_get (by assumption) (by k_mem) (by k_ne)) ?_ ?_ ?_; (any_goals (exact rfl)); all_goals (walk_at "M hQ")))))
  exact True.intro
/-- the part that is built up: i layers -/
inductive PartAt (h₀ : Heap) (rest : List (Addr × Obj)) (i : Nat) (vT vt vm : Value) : Prop
  | mk (gm : _) (dT : _) (dt : _) (dm : _) (z1 : isNone vm = gm) (z2 : PySem.plainIs vm .none = true) (z3 : Via h₀ rest (HD · vT dT)) (z4 : Via h₀ rest (HD · vt dt)) (z5 : (gm = false → Via h₀ rest (HD · vm dm) ∧ Good i dT dt dm)) (z6 : (gm = true → Bad i dT dt))
theorem PartAt.more {h₀ : Heap} {rest rest' : List (Addr × Obj)} {i : Nat} {vT vt vm : Value} (x : PartAt h₀ rest i vT vt vm) (s : ∀ q ∈ rest, q ∈ rest') : PartAt h₀ rest' i vT vt vm :=
  let ⟨gm, dT, dt, dm, a, b, c, d, e, f⟩ := x
  ⟨gm, dT, dt, dm, a, b, c.more s, d.more s, fun q => ⟨(e q).1.more s, (e q).2⟩, f⟩

section
variable {prog : Program} {w : World} {p : Program} {loose : List Str} {mg mb : Str → Option Value} {dp un : Nat} {fr : Option (List Env)} {gd : Option (List Code)} {s : Shared} {h₀ h h' : Heap} {L : Addr} {m : Str → Option Value} {news : List (Addr × Obj)} {Q E : Value → Shared → Prop}
variable {mean : ExcName → Option Value} {L : Addr} {env : Env} {st : Stmt} {tk sa src wd pa : Addr} {rest : List (Addr × Obj)} {fx : List (Str × Value)} {vT vt vm : Value} {i : Nat} {Q : Flow → Shared → Prop}
theorem st0_ {h : Heap} {vs : List Value} {ns : List Int} (lp : LawStmt w.params L 0 st env) (hdp : dp + 90 < recursionLimit) (hu : un + 2600 < cLine) (X : (hd.heap_1 w.params).In h₀) (TT : Top p loose mean mg mb h₀)
    (F : Fr h₀ L h (fun y => List.lookup y [(Str.ofString "script", Value.ref sa)].reverse)) (N : News h₀ L h [(320, tabObj #[]), (123, tabObj #[])]) (hs : h₀.IsList sa vs.toArray) (hi : IntsAre vs ns) (hlen : vs.length ≤ 63)
    (hq : ∀ h' tk' src wd rest, LawSt prog w p loose mean mg mb h₀ h' L src wd [("source", .ref src), ("world", .ref wd)] rest → Q .next { s with heap := h', toks := tk' }) :
    wpAny (model prog w) ((AA dp un (some []) gd).deeper env) (exec st env) Q E { s with heap := h, toks := tk } := by
  revert hq
  obtain ⟨fd, b, e1, e2, e3, e4⟩ := lp
  cases e1
  cases e2
  cases e3
  obtain ⟨_, _, rfl⟩ := e4
  intro hq
  have TR := topRead_of TT
  try dsimp only
  try k_fold
  walk_at "M steps"
  rename Fr _ _ _ _ => FN
  rename News _ _ _ _ => NN
  refine pool_ (X.keeps FN.keep) (TR.keeps FN.keep) ?_ ?_ (isList_fr hs FN) hi hlen fun h8 tk8 src x y t1 t2 n k8 e8 f8 bx by1 by2 => ?_
  · walk_at "M lt"
  · walk_at "M lt"
  have F8 := Kp.frame FN k8
  have N8 := News.cons FN NN k8 e8 f8
  have ne8 := ne_new NN f8
  clear FN NN
  try simp only [List.forall_mem_cons] at ne8
  try dsimp only at N8
  walk_at "M steps"
  rename Fr _ _ _ _ => FN
  rename News _ _ _ _ => NN
  refine wld_ (X.keeps FN.keep) (TR.keeps FN.keep) ?_ ?_ fun wd h9 tk9 wr k9 fx9 hw => ?_
  · walk_at "M lt"
  · walk_at "M lt"
  have F9 := Kp.frame FN k9
  have N9 := News.addEnd FN (News.kp NN k9) fx9
  have nwr : ∀ q ∈ wr, @Ne Nat q.1 src ∧ @Ne Nat q.1 123 ∧ @Ne Nat q.1 320 := fun q hq => by
    have z := ne_new NN (fx9 q hq).2
    try simp only [List.forall_mem_cons] at z
    refine ⟨fun e => ?_, fun e => ?_, fun e => ?_⟩ <;> (rw [e] at z; simp at z)
  clear FN NN
  simp only [List.cons_append, List.nil_append] at N9
  try dsimp only at N9
  walk_at "M steps"
  rename Fr _ _ _ _ => FN
  rename News _ _ _ _ => NN
  obtain ⟨rest', I', _, _⟩ := lawSt (rest := wr) (src := src) (wd := wd) (fx := [("source", .ref src), ("world", .ref wd)]) X TT FN NN (by k_mem) (by k_mem) (by k_mem) (.inl rfl) ⟨bx, by1, by2⟩ ⟨by k_ne, by k_ne⟩ (by intro q hq; simp only [List.mem_cons, List.not_mem_nil, or_false] at hq; rcases hq with rfl | rfl <;> rfl) (fun q hq => ⟨by walk_at "M sub", nwr q hq⟩) (fun H _ r => hw H r)
  exact hq _ _ _ _ _ I'
end

section
variable {prog : Program} {w : World} {p : Program} {loose : List Str} {mg mb : Str → Option Value} {dp un : Nat} {fr : Option (List Env)} {gd : Option (List Code)} {s : Shared} {h₀ h h' : Heap} {L : Addr} {m : Str → Option Value} {news : List (Addr × Obj)} {Q E : Value → Shared → Prop}
variable {mean : ExcName → Option Value} {L : Addr} {env : Env} {st : Stmt} {tk sa src wd pa : Addr} {rest : List (Addr × Obj)} {fx : List (Str × Value)} {vT vt vm : Value} {i : Nat} {Q : Flow → Shared → Prop}
theorem byte_lay : byteT.canLay0 = true := by
  have s6 : PyData.strOk "int" = true := by decide +kernel
  have s7 : PyData.strOk "u8" = true := by decide +kernel
  simp [PyData.canLay0, PyData.canLayAll0, s6, s7]
theorem st1_ {h : Heap} (lp : LawStmt w.params L 1 st env) (hdp : dp + 90 < recursionLimit) (hu : un + 2600 < cLine) (I : LawSt prog w p loose mean mg mb h₀ h L src wd [("source", .ref src), ("world", .ref wd)] rest)
    (hq : ∀ h' tk' rest', LawSt prog w p loose mean mg mb h₀ h' L src wd [("source", .ref src), ("world", .ref wd)] rest' → Q .next { s with heap := h', toks := tk' }) :
    wpAny (model prog w) ((AA dp un (some []) gd).deeper env) (exec st env) Q E { s with heap := h, toks := tk } := by
  revert hq
  obtain ⟨fd, b, e1, e2, e3, e4⟩ := lp
  cases e1
  cases e2
  cases e3
  obtain ⟨_, _, rfl⟩ := e4
  intro hq
  obtain ⟨X, TT, ⟨m0, F⟩, ⟨x, y, t1, t2, n, tb, N, ok, b1, b2, b3⟩, ⟨n1, n2⟩, r1, r2, r3, W⟩ := I
  have TR := topRead_of TT
  try dsimp only
  try k_fold
  walk_at "M steps"
  rename Fr _ _ _ _ => FN
  rename News _ _ _ _ => NN
  have NH := fun (q : Addr × Obj) (hq : q ∈ _) (z : @Ne Nat q.1 123) => hideAll_get [123, L] (NN q hq).1 fun hm => (by
    rcases List.mem_cons.mp hm with y | y
    · exact z y
    · exact (NN q hq).2.1 (List.mem_singleton.mp y))
  refine call_found (T := wT .adt byteT) (t := .list [.int 0, .tuple [.int 1, .int 2]]) (k := 0) (by decide) rfl rfl FN X TT NN (by k_updF) ok ?_ ?_ ?W ?T ?t (.inr ⟨.list .adt byte_lay rfl, fun h9 tk9 tb9 F9 N9 ok9 => ?_⟩)
  case W => exact W _ (stays2 FN (NN (123, _) (by k_mem)).2.2) fun q hq => NH q (by walk_at "M sub") (r2 q hq)
  case T => show HD _ _ (.tuple [.str "adt", .str "P", .tuple [], .tuple [byteT, byteT]]); walk_at "M hq"
  case t => walk_at "M hq"
  · walk_at "M lt"
  · walk_at "M lt"
  clear FN NN NH
  try dsimp only at N9
  walk_at "M steps"
  rename Fr _ _ _ _ => FN
  rename News _ _ _ _ => NN
  obtain ⟨rest', I', _, _⟩ := lawSt (rest := rest) (src := src) (wd := wd) (fx := [("source", .ref src), ("world", .ref wd)]) X TT FN NN (by k_mem) (by k_mem) (by k_mem) ok9 ⟨b1, b2, b3⟩ ⟨n1, n2⟩ (by intro q hq; simp only [List.mem_cons, List.not_mem_nil, or_false] at hq; rcases hq with rfl | rfl <;> rfl) (fun q hq => ⟨by walk_at "M sub", r1 q hq, r2 q hq, r3 q hq⟩) W
  exact hq _ _ _ I'
end

section
variable {prog : Program} {w : World} {p : Program} {loose : List Str} {mg mb : Str → Option Value} {dp un : Nat} {fr : Option (List Env)} {gd : Option (List Code)} {s : Shared} {h₀ h h' : Heap} {L : Addr} {m : Str → Option Value} {news : List (Addr × Obj)} {Q E : Value → Shared → Prop}
variable {mean : ExcName → Option Value} {L : Addr} {env : Env} {st : Stmt} {tk sa src wd pa : Addr} {rest : List (Addr × Obj)} {fx : List (Str × Value)} {vT vt vm : Value} {i : Nat} {Q : Flow → Shared → Prop}
theorem st2_ {h : Heap} (lp : LawStmt w.params L 2 st env) (hdp : dp + 90 < recursionLimit) (hu : un + 2600 < cLine) (I : LawSt prog w p loose mean mg mb h₀ h L src wd [("source", .ref src), ("world", .ref wd)] rest)
    (hq : ∀ h' tk' rest' pa vT vt vm, LawSt prog w p loose mean mg mb h₀ h' L src wd [("source", .ref src), ("world", .ref wd), ("part", .ref pa)] rest' → (pa, tupO #[vT, vt, vm]) ∈ rest' → PartAt h₀ rest' 0 vT vt vm → Q .next { s with heap := h', toks := tk' }) :
    wpAny (model prog w) ((AA dp un (some []) gd).deeper env) (exec st env) Q E { s with heap := h, toks := tk } := by
  revert hq
  obtain ⟨fd, b, e1, e2, e3, e4⟩ := lp
  cases e1
  cases e2
  cases e3
  obtain ⟨_, _, rfl⟩ := e4
  intro hq
  obtain ⟨X, TT, ⟨m0, F⟩, ⟨x, y, t1, t2, n, tb, N, ok, b1, b2, b3⟩, ⟨n1, n2⟩, r1, r2, r3, W⟩ := I
  have TR := topRead_of TT
  try dsimp only
  try k_fold
  walk_at "M steps"
  rename Fr _ _ _ _ => FN
  rename News _ _ _ _ => NN
  have hm := NN (src, _) (by k_mem)
  have hn : ∀ a ∈ ([src] : List Addr), h₀.get? a = none := fun a ha => by rw [List.mem_singleton.mp ha]; exact hm.2.2
  have hL : L ∉ ([src] : List Addr) := fun q => hm.2.1 (List.mem_singleton.mp q).symm
  have st := hid FN hn
  refine number_ (x := x) (y := y) (X.keeps st) (TR.keeps st) ?_ ?_ hm.1 b1 b2 b3 fun κ lo hi z a b t3 t4 t5 mv x' y' t1' t2' h8 tk8 n' hκ z1 z2 k8 es c1 c2 c3 eb ea O nb na => ?_
  · walk_at "M lt"
  · walk_at "M lt"
  have F8 := Fr.after FN k8 hn hL
  have N8 := News.add FN (News.add FN (News.turn NN (g := fun o => _) (by k_updF) k8 es) ea na) eb nb
  have nea := ne_new NN na
  have neb := ne_new NN nb
  clear FN NN hm
  try simp only [List.forall_mem_cons] at nea neb
  try dsimp only at N8
  walk_at "M steps"
  rename Fr _ _ _ _ => FN
  rename News _ _ _ _ => NN
  obtain ⟨rest', I', sub, new⟩ := lawSt (rest := rest) (src := src) (wd := wd) (fx := [("source", .ref src), ("world", .ref wd), ("part", .ref b)]) X TT FN NN (by k_mem) (by k_mem) (by k_mem) ok ⟨c1, c2, c3⟩ ⟨n1, n2⟩ (by intro q hq; simp only [List.mem_cons, List.not_mem_nil, or_false] at hq; rcases hq with rfl | rfl | rfl <;> rfl) (fun q hq => ⟨by walk_at "M sub", r1 q hq, r2 q hq, r3 q hq⟩) W
  have mb' := new (b, tupO #[.ref a, .int z t3, mv]) (by k_mem) (by k_ne) (by k_ne) (by k_ne)
  have ma' := new (a, tupO #[.str "int" t4, .str κ t5]) (by k_mem) (by k_ne) (by k_ne) (by k_ne)
  refine hq _ _ rest' b _ _ _ I' mb' ?_
  have hT : Via h₀ rest' (HD · (.ref a) (.tuple [.str "int", .str κ])) := fun H _ r => HD.tuple (l := [_, _]) (r _ ma') rfl rfl (HDs.cons HD.str (HDs.cons HD.str HDs.nil))
  rcases O with ⟨o1, o2, rfl⟩ | ⟨o1, rfl⟩
  · exact ⟨false, _, _, .int z, rfl, rfl, hT, fun H _ r => HD.int, fun _ => ⟨fun H _ r => HD.int, .int hκ ⟨o1, o2⟩⟩, fun q => by cases q⟩
  · exact ⟨true, _, _, .int z, rfl, rfl, hT, fun H _ r => HD.int, fun q => (by cases q), fun _ => .int hκ o1⟩
end

theorem reg56 : True := by
  (k_with "subscriptTail Name Constant ref int" => ((k_here; (with_reducible show wpAny _ _ (subscriptTail _ _ (Value.ref _) (Value.int _ _)) _ _ _); (k_dflt (refine' item_led ?N_q128 ?k1_q128 ?k2_q128 ?k3_q128 ?k4_q128 ?_ ?k6_q128; (case N_q128 => k_asm); (case k1_q128 => k_mem); (case k2_q128 => decide); (case k3_q128 => decide); (case k4_q128 => rfl); (case k6_q128 => with_unfolding_all rfl); k_whole)))))
  exact True.intro
section
variable {prog : Program} {w : World} {p : Program} {loose : List Str} {mg mb : Str → Option Value} {dp un : Nat} {fr : Option (List Env)} {gd : Option (List Code)} {s : Shared} {h₀ h h' : Heap} {L : Addr} {m : Str → Option Value} {news : List (Addr × Obj)} {Q E : Value → Shared → Prop}
variable {mean : ExcName → Option Value} {L : Addr} {env : Env} {st : Stmt} {tk sa src wd pa : Addr} {rest : List (Addr × Obj)} {fx : List (Str × Value)} {vT vt vm : Value} {i : Nat} {Q : Flow → Shared → Prop}
theorem st3_ {h : Heap} (lp : LawStmt w.params L 3 st env) (hdp : dp + 90 < recursionLimit) (hu : un + 2600 < cLine) (I : LawSt prog w p loose mean mg mb h₀ h L src wd [("source", .ref src), ("world", .ref wd), ("part", .ref pa)] rest)
    (hq : ∀ h' tk' rest' M tm, LawSt prog w p loose mean mg mb h₀ h' L src wd [("source", .ref src), ("world", .ref wd), ("part", .ref pa), ("many", .int M tm)] rest' → (∀ q ∈ rest, q ∈ rest') → 2 ≤ M → M ≤ 39 → Q .next { s with heap := h', toks := tk' }) :
    wpAny (model prog w) ((AA dp un (some []) gd).deeper env) (exec st env) Q E { s with heap := h, toks := tk } := by
  revert hq
  obtain ⟨fd, b, e1, e2, e3, e4⟩ := lp
  cases e1
  cases e2
  cases e3
  obtain ⟨_, _, rfl⟩ := e4
  intro hq
  obtain ⟨X, TT, ⟨m0, F⟩, ⟨x, y, t1, t2, n, tb, N, ok, b1, b2, b3⟩, ⟨n1, n2⟩, r1, r2, r3, W⟩ := I
  have TR := topRead_of TT
  try dsimp only
  try k_fold
  walk_at "M steps"
  all_goals
    rename Fr _ _ _ _ => FN
    rename News _ _ _ _ => NN
    obtain ⟨rest', I', sub, new⟩ := lawSt (rest := rest) (src := src) (wd := wd) (fx := [("source", .ref src), ("world", .ref wd), ("part", .ref pa), ("many", .int _ _)]) X TT FN NN (by k_mem) (by k_mem) (by k_mem) ok ⟨by assumption, by assumption, by assumption⟩ ⟨n1, n2⟩ (by intro q hq; simp only [List.mem_cons, List.not_mem_nil, or_false] at hq; rcases hq with rfl | rfl | rfl | rfl <;> rfl) (fun q hq => ⟨by walk_at "M sub", r1 q hq, r2 q hq, r3 q hq⟩) W
    exact hq _ _ rest' _ _ I' sub (by omega) (by omega)
end
section
variable {prog : Program} {w : World} {p : Program} {loose : List Str} {mg mb : Str → Option Value} {dp un : Nat} {fr : Option (List Env)} {gd : Option (List Code)} {s : Shared} {h₀ h h' : Heap} {L : Addr} {m : Str → Option Value} {news : List (Addr × Obj)} {Q E : Value → Shared → Prop}
variable {mean : ExcName → Option Value} {L : Addr} {env : Env} {st : Stmt} {tk sa src wd pa : Addr} {rest : List (Addr × Obj)} {fx : List (Str × Value)} {vT vt vm : Value} {i : Nat} {Q : Flow → Shared → Prop}
theorem st4_ {h : Heap} {M : Int} {tm : Tok} (hM : 2 ≤ M) (hM2 : M ≤ 39) (lp : LawStmt w.params L 4 st env) (hdp : dp + 90 < recursionLimit) (hu : un + 2600 < cLine) (I : LawSt prog w p loose mean mg mb h₀ h L src wd [("source", .ref src), ("world", .ref wd), ("part", .ref pa), ("many", .int M tm)] rest)
    (hq : ∀ h' tk' rest' Ls tl, LawSt prog w p loose mean mg mb h₀ h' L src wd [("source", .ref src), ("world", .ref wd), ("part", .ref pa), ("many", .int M tm), ("listed", .int Ls tl)] rest' → (∀ q ∈ rest, q ∈ rest') → Q .next { s with heap := h', toks := tk' }) :
    wpAny (model prog w) ((AA dp un (some []) gd).deeper env) (exec st env) Q E { s with heap := h, toks := tk } := by
  revert hq
  obtain ⟨fd, b, e1, e2, e3, e4⟩ := lp
  cases e1
  cases e2
  cases e3
  obtain ⟨_, _, rfl⟩ := e4
  intro hq
  obtain ⟨X, TT, ⟨m0, F⟩, ⟨x, y, t1, t2, n, tb, N, ok, b1, b2, b3⟩, ⟨n1, n2⟩, r1, r2, r3, W⟩ := I
  have TR := topRead_of TT
  try dsimp only
  try k_fold
  walk_at "M steps"
  all_goals
    rename Fr _ _ _ _ => FN
    rename News _ _ _ _ => NN
    obtain ⟨rest', I', sub, new⟩ := lawSt (rest := rest) (src := src) (wd := wd) (fx := [("source", .ref src), ("world", .ref wd), ("part", .ref pa), ("many", .int M tm), ("listed", .int _ _)]) X TT FN NN (by k_mem) (by k_mem) (by k_mem) ok ⟨by assumption, by assumption, by assumption⟩ ⟨n1, n2⟩ (by intro q hq; simp only [List.mem_cons, List.not_mem_nil, or_false] at hq; rcases hq with rfl | rfl | rfl | rfl | rfl <;> rfl) (fun q hq => ⟨by walk_at "M sub", r1 q hq, r2 q hq, r3 q hq⟩) W
    exact hq _ _ rest' _ _ I' sub
end
section
variable {prog : Program} {w : World} {p : Program} {loose : List Str} {mg mb : Str → Option Value} {dp un : Nat} {fr : Option (List Env)} {gd : Option (List Code)} {s : Shared} {h₀ h h' : Heap} {L : Addr} {m : Str → Option Value} {news : List (Addr × Obj)} {Q E : Value → Shared → Prop}
variable {mean : ExcName → Option Value} {L : Addr} {env : Env} {st : Stmt} {tk sa src wd pa : Addr} {rest : List (Addr × Obj)} {fx : List (Str × Value)} {vT vt vm : Value} {i : Nat} {Q : Flow → Shared → Prop}
theorem st6_ {h : Heap} (lp : LawStmt w.params L 6 st env) (hdp : dp + 90 < recursionLimit) (hu : un + 2600 < cLine) (I : LawSt prog w p loose mean mg mb h₀ h L src wd [("source", .ref src), ("world", .ref wd), ("part", .ref pa)] rest) (hp : (pa, tupO #[vT, vt, vm]) ∈ rest)
    (hq : ∀ h' tk' rest', LawSt prog w p loose mean mg mb h₀ h' L src wd [("source", .ref src), ("world", .ref wd), ("T", vT), ("told", vt), ("made", vm)] rest' → (∀ q ∈ rest, q ∈ rest') → Q .next { s with heap := h', toks := tk' }) :
    wpAny (model prog w) ((AA dp un (some []) gd).deeper env) (exec st env) Q E { s with heap := h, toks := tk } := by
  revert hq
  obtain ⟨fd, b, e1, e2, e3, e4⟩ := lp
  cases e1
  cases e2
  cases e3
  obtain ⟨_, _, rfl⟩ := e4
  intro hq
  obtain ⟨X, TT, ⟨m0, F⟩, ⟨x, y, t1, t2, n, tb, N, ok, b1, b2, b3⟩, ⟨n1, n2⟩, r1, r2, r3, W⟩ := I
  have TR := topRead_of TT
  have N := News.dup N hp
  try dsimp only
  try k_fold
  walk_at "M steps"
  rename Fr _ _ _ _ => FN
  rename News _ _ _ _ => NN
  obtain ⟨rest', I', sub, new⟩ := lawSt (rest := rest) (src := src) (wd := wd) (fx := [("source", .ref src), ("world", .ref wd), ("T", vT), ("told", vt), ("made", vm)]) X TT FN NN (by k_mem) (by k_mem) (by k_mem) ok ⟨b1, b2, b3⟩ ⟨n1, n2⟩ (by intro q hq; simp only [List.mem_cons, List.not_mem_nil, or_false] at hq; rcases hq with rfl | rfl | rfl | rfl | rfl <;> rfl) (fun q hq => ⟨by walk_at "M sub", r1 q hq, r2 q hq, r3 q hq⟩) W
  exact hq _ _ rest' I' sub
end

/-- the body of law's loop -/
inductive LawBody (P : Params) (L : Addr) (body : List Stmt) (env : Env) : Prop
  | mk (x : _) (px : _) (it : _) (pos : _) (z1 : LawStmt P L 5 (.For (.Name x px) it body [] pos) env)
section
variable {prog : Program} {w : World} {p : Program} {loose : List Str} {mg mb : Str → Option Value} {dp un : Nat} {fr : Option (List Env)} {gd : Option (List Code)} {s : Shared} {h₀ h h' : Heap} {L : Addr} {m : Str → Option Value} {news : List (Addr × Obj)} {Q E : Value → Shared → Prop}
variable {mean : ExcName → Option Value} {L : Addr} {env : Env} {st : Stmt} {tk sa src wd pa : Addr} {rest : List (Addr × Obj)} {fx : List (Str × Value)} {vT vt vm : Value} {i : Nat} {Q : Flow → Shared → Prop}
theorem Via.both {B : Heap} {r1 r2 : List (Addr × Obj)} {P : Heap → Prop} (h : ∀ H, B.StaysIn H → (∀ q ∈ r1, H.get? q.1 = some q.2) → (∀ q ∈ r2, H.get? q.1 = some q.2) → P H) : Via B (r1 ++ r2) P := fun H b r => h H b (fun q hq => r q (List.mem_append_left _ hq)) fun q hq => r q (List.mem_append_right _ hq)
theorem lturn_ {h : Heap} {body : List Stmt} {rj : List (Addr × Obj)} {ti Ls : Int} {tt tl : Tok} (lp : LawBody w.params L body env) (hdp : dp + 90 < recursionLimit) (hu : un + 2600 < cLine) (I : LawSt prog w p loose mean mg mb h₀ h L src wd [("source", .ref src), ("world", .ref wd), ("part", .ref pa), ("listed", .int Ls tl), ("turn", .int ti tt)] rest)
    (hrj : ∀ q ∈ rj, q ∈ rest) (hp : (pa, tupO #[vT, vt, vm]) ∈ rj) (PA : PartAt h₀ rj i vT vt vm)
    (hq : ∀ h' tk' rest' pa' vT' vt' vm' xs, LawSt prog w p loose mean mg mb h₀ h' L src wd [("source", .ref src), ("world", .ref wd), ("part", .ref pa'), ("listed", .int Ls tl)] rest' → (∀ q ∈ rest, q ∈ rest') → (∀ q ∈ xs, q ∈ rest' ∧ ∀ q' ∈ rest, @Ne Nat q'.1 q.1) → (pa', tupO #[vT', vt', vm']) ∈ xs → PartAt h₀ (rj ++ xs) (i + 1) vT' vt' vm' → Q .next { s with heap := h', toks := tk' }) :
    wpAny (model prog w) ((AA dp un (some []) gd).deeper env) (execs body env) Q E { s with heap := h, toks := tk } := by
  revert hq
  obtain ⟨_, _, _, _, fd, b, e1, e2, e3, e4⟩ := lp
  cases e1
  cases e2
  cases e3
  obtain ⟨_, _, rfl⟩ := e4
  intro hq
  obtain ⟨X, TT, ⟨m0, F⟩, ⟨x, y, t1, t2, n, tb, N, ok, b1, b2, b3⟩, ⟨n1, n2⟩, r1, r2, r3, W⟩ := I
  have TR := topRead_of TT
  have N := News.dup N (hrj _ hp)
  have a1 : @Ne Nat pa src := r1 _ (hrj _ hp)
  have a2 : @Ne Nat pa 123 := r2 _ (hrj _ hp)
  have a3 : @Ne Nat pa 320 := r3 _ (hrj _ hp)
  obtain ⟨gm, dT, dt, dm, hg, hpv, vT', vt', gg, gb⟩ := PA
  try dsimp only
  try k_fold
  walk_at "M steps"
  rename Fr _ _ _ _ => FN
  rename News _ _ _ _ => NN
  obtain ⟨way, rfl⟩ := way_of (k := r9) (by assumption) (by assumption)
  refine layer_ (way := way) (dT := dT) (dt := dt) (dm := dm) (gm := gm) (X.keeps FN.keep) (TR.keeps FN.keep) ?_ ?_ (News.isTup NN (by k_mem)) hpv hg fun a vT2 vt2 vm2 h8 tk8 xs k8 fx8 hm8 g8 p8 hv8 => ?_
  · walk_at "M lt"
  · walk_at "M lt"
  have F8 := Kp.frame FN k8
  have N8 := News.addEnd FN (News.kp NN k8) fx8
  have nex : ∀ q ∈ xs, ∀ q' ∈ rest, @Ne Nat q'.1 q.1 := fun q hq q' hq' => ne_new NN (fx8 q hq).2 q' (by walk_at "M sub")
  have nxs : ∀ q ∈ xs, @Ne Nat q.1 src ∧ @Ne Nat q.1 123 ∧ @Ne Nat q.1 320 := fun q hq => by
    have z := ne_new NN (fx8 q hq).2
    try simp only [List.forall_mem_cons] at z
    refine ⟨fun e => ?_, fun e => ?_, fun e => ?_⟩ <;> (rw [e] at z; simp at z)
  clear FN NN
  simp only [List.cons_append, List.nil_append] at N8
  try dsimp only at N8
  have q1 : ∀ q ∈ rest ++ xs, @Ne Nat q.1 src := fun q hq => (List.mem_append.mp hq).elim (r1 q) fun hx => (nxs q hx).1
  have q2 : ∀ q ∈ rest ++ xs, @Ne Nat q.1 123 := fun q hq => (List.mem_append.mp hq).elim (r2 q) fun hx => (nxs q hx).2.1
  have q3 : ∀ q ∈ rest ++ xs, @Ne Nat q.1 320 := fun q hq => (List.mem_append.mp hq).elim (r3 q) fun hx => (nxs q hx).2.2
  have sx : ∀ q ∈ xs, q ∈ rest ++ xs := fun q hq => List.mem_append_right _ hq
  have sr : ∀ q ∈ rest, q ∈ rest ++ xs := fun q hq => List.mem_append_left _ hq
  generalize rest ++ xs = rest2 at N8 q1 q2 q3 sx sr
  walk_at "M steps"
  rename Fr _ _ _ _ => FN
  rename News _ _ _ _ => NN
  obtain ⟨rest', I', sub, new⟩ := lawSt (rest := rest2) (src := src) (wd := wd) (fx := [("source", .ref src), ("world", .ref wd), ("part", .ref a), ("listed", .int Ls tl)]) X TT FN NN (by k_mem) (by k_mem) (by k_mem) ok ⟨by assumption, by assumption, by assumption⟩ ⟨n1, n2⟩ (by intro q hq; simp only [List.mem_cons, List.not_mem_nil, or_false] at hq; rcases hq with rfl | rfl | rfl | rfl <;> rfl) (fun q hq => ⟨by walk_at "M sub", q1 q hq, q2 q hq, q3 q hq⟩) (W.more sr)
  refine hq _ _ rest' a _ _ _ xs I' (fun q hq => sub q (sr q hq)) (fun q hq => ⟨sub q (sx q hq), nex q hq⟩) hm8 ⟨_, wT way dT, wTold _ way dt, wMade way dm, g8, p8, Via.both fun H k z1 z2 => (hv8 H z2 (vT' H k z1) (vt' H k z1) (fun e => (gg e).1 H k z1)).1, Via.both fun H k z1 z2 => (hv8 H z2 (vT' H k z1) (vt' H k z1) (fun e => (gg e).1 H k z1)).2.1, fun e => ⟨Via.both fun H k z1 z2 => (hv8 H z2 (vT' H k z1) (vt' H k z1) (fun e => (gg e).1 H k z1)).2.2 e, ?_⟩, fun e => ?_⟩
  · obtain ⟨e1, e2⟩ := Bool.or_eq_false_iff.mp e
    rw [e2]
    exact .layer way (gg e1).2
  · have ly : dT.canLay0 = true ∧ dt.canLay0 = true := by
      cases gm with
      | false => exact (gg rfl).2.lay
      | true => exact (gb rfl).lay
    have key : ∀ b : Bool, (gm || b) = true → Bad (i + 1) (wT way dT) (wTold b way dt) := fun b e => by
      cases b with
      | true => exact .list way ly.1 (lay_told (b := true) ly.2)
      | false =>
        rw [Bool.or_false] at e
        exact .layer way (gb e)
    exact key _ e
end

/-- what holds between the turns of law's loop -/
inductive LawJ (prog : Program) (w : World) (h₀ : Heap) (src wd : Addr) (Ls : Int) (tl : Tok) (i : Nat) (m₁ : Str → Option Value) (news₁ : List (Addr × Obj)) : Prop
  | mk (pa : _) (vT : _) (vt : _) (vm : _) (rest : _) (x : _) (y : _) (t1 : _) (t2 : _) (n : _) (tb : _) (z1 : m₁ "source" = some (.ref src)) (z2 : m₁ "world" = some (.ref wd)) (z3 : m₁ "listed" = some (.int Ls tl)) (z4 : m₁ "part" = some (.ref pa)) (z5 : (src, listOf #[.int x t1, .int y t2] n) ∈ news₁) (z6 : (123, tabObj tb) ∈ news₁) (z7 : (320, tabObj #[]) ∈ news₁) (z8 : TabOk tb) (z9 : (0 ≤ x ∧ 0 ≤ y ∧ y < 2147483647)) (z10 : (∀ q ∈ rest, q ∈ news₁ ∧ @Ne Nat q.1 src ∧ @Ne Nat q.1 123 ∧ @Ne Nat q.1 320)) (z11 : Via h₀ rest (WorldAt prog w · wd)) (z12 : (pa, tupO #[vT, vt, vm]) ∈ rest) (z13 : PartAt h₀ rest i vT vt vm)
inductive RngAt (h₀ : Heap) (L : Addr) (M : Int) (m : Str → Option Value) (news : List (Addr × Obj)) (s : Shared) (xv : Value) (s₁ : Shared) : Prop
  | mk (r : _) (h' : _) (tk' : _) (a : _) (b : _) (c : _) (z1 : xv = .ref r) (z2 : s₁ = { s with heap := h', toks := tk' }) (z3 : IsRange h' r 0 M 1 a b c) (z4 : Fr h₀ L h' m) (z5 : News h₀ L h' news)
theorem small_rng {M : Int} (h : 0 ≤ M) (h2 : M ≤ 39) : Builtin.Range.small 0 M 1 = true := by
  have k : ∀ n : Nat, n < 40 → Builtin.Range.small 0 (n : Int) 1 = true := by decide +kernel
  have z := k M.toNat (by omega)
  rwa [Int.toNat_of_nonneg h] at z
theorem size_rng {M : Int} (h : 0 ≤ M) : Builtin.Range.rangeSize 0 M 1 = ((M.toNat : Nat) : Int) := by
  unfold Builtin.Range.rangeSize
  rw [if_pos (by decide)]
  split <;> omega
section
variable {prog : Program} {w : World} {p : Program} {loose : List Str} {mg mb : Str → Option Value} {dp un : Nat} {fr : Option (List Env)} {gd : Option (List Code)} {s : Shared} {h₀ h h' : Heap} {L : Addr} {m : Str → Option Value} {news : List (Addr × Obj)} {Q E : Value → Shared → Prop}
variable {mean : ExcName → Option Value} {L : Addr} {env : Env} {st : Stmt} {tk sa src wd pa : Addr} {rest : List (Addr × Obj)} {fx : List (Str × Value)} {vT vt vm : Value} {i : Nat} {Q : Flow → Shared → Prop}
theorem st5_ {h : Heap} {M Ls : Int} {tm tl : Tok} (hM : 2 ≤ M) (hM2 : M ≤ 39) (lp : LawStmt w.params L 5 st env) (hdp : dp + 90 < recursionLimit) (hu : un + 2600 < cLine) (hE : PassesOwn (model prog w) ((AA dp un (some []) gd).deeper env) env E)
    (I : LawSt prog w p loose mean mg mb h₀ h L src wd [("source", .ref src), ("world", .ref wd), ("part", .ref pa), ("many", .int M tm), ("listed", .int Ls tl)] rest) (hp : (pa, tupO #[vT, vt, vm]) ∈ rest) (PA : PartAt h₀ rest 0 vT vt vm)
    (hq : ∀ h' tk' rest' pa' vT' vt' vm', LawSt prog w p loose mean mg mb h₀ h' L src wd [("source", .ref src), ("world", .ref wd), ("part", .ref pa')] rest' → (pa', tupO #[vT', vt', vm']) ∈ rest' → PartAt h₀ rest' M.toNat vT' vt' vm' → Q .next { s with heap := h', toks := tk' }) :
    wpAny (model prog w) ((AA dp un (some []) gd).deeper env) (exec st env) Q E { s with heap := h, toks := tk } := by
  revert hq hE
  obtain ⟨fd, b, e1, e2, e3, e4⟩ := lp
  cases e1
  cases e2
  cases e3
  obtain ⟨fa, cd, rfl⟩ := e4
  intro hE hq
  have lb : LawBody w.params L _ (envOf _ _ L fa cd) := ⟨_, _, _, _, _, _, rfl, rfl, rfl, fa, cd, rfl⟩
  obtain ⟨X, TT, ⟨m0, F⟩, ⟨x, y, t1, t2, n, tb, N, ok, b1, b2, b3⟩, ⟨n1, n2⟩, r1, r2, r3, W⟩ := I
  have TR := topRead_of TT
  refine For_invV h₀ rfl rfl ?_ (fun _ => rfl) hE
  refine wpAny_mono (Q := RngAt h₀ L M (fxM [("source", .ref src), ("world", .ref wd), ("part", .ref pa), ("many", .int M tm), ("listed", .int Ls tl)] m0) ((src, listOf #[.int x t1, .int y t2] n) :: (123, tabObj tb) :: (320, tabObj #[]) :: rest) s) ?ev (fun xv s₁ hx => ?it) (fun _ _ e => e)
  case ev =>
    walk_at "M steps"
    rename Fr _ _ _ _ => FN
    rename News _ _ _ _ => NN
    exact ⟨_, _, _, _, _, _, rfl, rfl, by assumption, FN, NN⟩
  case it =>
    obtain ⟨r, h1, tk1, ra, rb, rc, rfl, rfl, hr, F1, N1⟩ := hx
    clear F N
    refine wpAny_pyIter_range (s := { s with heap := h1, toks := tk1 }) hr (small_rng (by omega) (by omega)) ?_
    have up : ∀ b o, h1.get? b = some o → (h1.push { cls := .type "range_iterator", data := .fields #[rawInt 0, rawInt (Builtin.Range.rangeSize 0 M 1), rawInt 1] }).get? b = some o := fun b o e => Heap.get?_push_of_some _ e
    have hIlt : ∀ q ∈ ((src, listOf #[.int x t1, .int y t2] n) :: (123, tabObj tb) :: (320, tabObj #[]) :: rest), q.1 ∉ [h1.objs.size] := fun q hq hm => absurd (Heap.lt_size (N1 q hq).1) ((List.mem_singleton.mp hm) ▸ Nat.lt_irrefl _)
    refine ⟨h1.objs.size, [h1.objs.size], [h1.objs.size], M.toNat, _, _, _, _, LawJ prog w h₀ src wd Ls tl, rfl, LCg.range_walks rfl 0 M.toNat, fun hm => absurd F1.ns.lt ((List.mem_singleton.mp hm) ▸ Nat.lt_irrefl _), fun b hb => by rw [List.mem_singleton.mp hb]; exact next_is_new F1, hIlt, ?_, F1.push _, N1.grown up,
      ⟨pa, vT, vt, vm, rest, x, y, t1, t2, n, tb, rfl, rfl, rfl, rfl, .head _, .tail _ (.head _), .tail _ (.tail _ (.head _)), ok, ⟨b1, b2, b3⟩, fun q hq => ⟨.tail _ (.tail _ (.tail _ hq)), r1 q hq, r2 q hq, r3 q hq⟩, W, hp, PA⟩, ?_, ?_⟩
    · show IsRangeIter _ _ _ _ _
      rw [size_rng (by omega)]
      simpa using Heap.get?_push_size _ rfl
    · rintro i v m₁ news₁ s₁ own ⟨hh', tk', rfl⟩ hin ⟨tv, hP⟩ ⟨pa, vT, vt, vm, rj, x, y, t1, t2, n, tb, j1, j2, j3, j4, g1, g2, g3, ok, bb, jr, W, hp, PA⟩ hoff hown hst hall st F₁ N₁
      have hv : v = .int (0 + (i : Int)) tv := hP
      subst hv
      obtain ⟨rest1, I1, s1, new1⟩ := lawSt (rest := rj) (src := src) (wd := wd) (fx := [("source", .ref src), ("world", .ref wd), ("part", .ref pa), ("listed", .int Ls tl), ("turn", .int (0 + (i : Int)) tv)]) X TT F₁ N₁ (List.mem_append_right _ g1) (List.mem_append_right _ g2) (List.mem_append_right _ g3) ok bb ⟨n1, n2⟩
        (by
          intro q hq
          simp only [List.mem_cons, List.not_mem_nil, or_false] at hq
          rcases hq with rfl | rfl | rfl | rfl | rfl
          · exact j1
          · exact j2
          · exact j4
          · exact j3
          · rfl) (fun q hq => ⟨List.mem_append_right _ (jr q hq).1, (jr q hq).2⟩) W
      have ownR : ∀ q ∈ own, q ∈ rest1 := fun q hq => new1 q (List.mem_append_left _ hq) (fun z => hoff _ g1 (z ▸ hown q hq)) (fun z => hoff _ g2 (z ▸ hown q hq)) (fun z => hoff _ g3 (z ▸ hown q hq))
      have offR : ∀ q ∈ rj, q.1 ∉ [h1.objs.size] := fun q hq => hoff _ (jr q hq).1
      have hI : (h1.objs.size, _) ∈ own := hall _ (.head _) (next_is_new F1) _ st
      refine lturn_ (s := s) lb hdp hu I1 s1 hp PA fun h2 tk2 rest2 pa2 vT2 vt2 vm2 xs I2 s2 hx2 hp2 PA2 => ?_
      obtain ⟨_, _, ⟨m2, F2⟩, ⟨x2, y2, t12, t22, n3, tb2, N2, ok2, bb2⟩, _, q1, q2, q3, _⟩ := I2
      have inR : ∀ q ∈ rj ++ xs, q ∈ rest2 := fun q hq => (List.mem_append.mp hq).elim (fun z => s2 q (s1 q z)) fun z => (hx2 q z).1
      refine ⟨rfl, h2, tk2, _, (src, _) :: (123, tabObj tb2) :: (320, tabObj #[]) :: (rj ++ xs), rfl, F2, fun q hq => ?_, fun q hq => ?_, ⟨pa2, vT2, vt2, vm2, rj ++ xs, x2, y2, t12, t22, n3, tb2, rfl, rfl, rfl, rfl, .head _, .tail _ (.head _), .tail _ (.tail _ (.head _)), ok2, bb2, fun q hq => ⟨.tail _ (.tail _ (.tail _ hq)), q1 q (inR q hq), q2 q (inR q hq), q3 q (inR q hq)⟩, W.more fun q hq => List.mem_append_left _ hq, List.mem_append_right _ hp2, PA2⟩⟩
      · rcases List.mem_append.mp hq with hq | hq
        · exact N2 q (.tail _ (.tail _ (.tail _ (s2 q (ownR q hq)))))
        · simp only [List.mem_cons] at hq
          rcases hq with rfl | rfl | rfl | hq
          · exact N2 _ (.head _)
          · exact N2 _ (.tail _ (.head _))
          · exact N2 _ (.tail _ (.tail _ (.head _)))
          · exact N2 _ (.tail _ (.tail _ (.tail _ (inR q hq))))
      · simp only [List.mem_cons, List.mem_append] at hq
        rcases hq with rfl | rfl | rfl | hq | hq
        · have z := hoff _ g1
          exact z
        · have z := hoff _ g2
          exact z
        · have z := hoff _ g3
          exact z
        · exact offR q hq
        · intro hm
          exact (hx2 q hq).2 _ (ownR _ hI) (List.mem_singleton.mp hm).symm
    · rintro h' tk' m' news' F' N' off' ⟨pa, vT, vt, vm, rj, x, y, t1, t2, n, tb, j1, j2, j3, j4, g1, g2, g3, ok, bb, jr, W, hp, PA⟩
      obtain ⟨rest', I', sub, new⟩ := lawSt (rest := rj) (src := src) (wd := wd) (fx := [("source", .ref src), ("world", .ref wd), ("part", .ref pa)]) X TT F' N' g1 g2 g3 ok bb ⟨n1, n2⟩
        (by
          intro q hq
          simp only [List.mem_cons, List.not_mem_nil, or_false] at hq
          rcases hq with rfl | rfl | rfl
          · exact j1
          · exact j2
          · exact j4) jr W
      exact hq _ _ rest' pa vT vt vm I' (sub _ hp) (PA.more sub)
end

section
variable {prog : Program} {w : World} {p : Program} {loose : List Str} {mg mb : Str → Option Value} {dp un : Nat} {fr : Option (List Env)} {gd : Option (List Code)} {s : Shared} {h₀ h h' : Heap} {L : Addr} {m : Str → Option Value} {news : List (Addr × Obj)} {Q E : Value → Shared → Prop}
variable {mean : ExcName → Option Value} {L : Addr} {env : Env} {st : Stmt} {tk sa src wd pa : Addr} {rest : List (Addr × Obj)} {fx : List (Str × Value)} {vT vt vm : Value} {i : Nat} {Q : Flow → Shared → Prop}
theorem st7_ {h : Heap} (hn : i < 300) (hgd : gd = some []) (lp : LawStmt w.params L 7 st env) (hdp : dp + 90 < recursionLimit) (hu : un + 2600 < cLine) (I : LawSt prog w p loose mean mg mb h₀ h L src wd [("source", .ref src), ("world", .ref wd), ("T", vT), ("told", vt), ("made", vm)] rest) (PA : PartAt h₀ rest i vT vt vm)
    (hq : ∀ h' tk' rest', LawSt prog w p loose mean mg mb h₀ h' L src wd [("source", .ref src), ("world", .ref wd), ("T", vT), ("told", vt), ("made", vm)] rest' → (∀ q ∈ rest, q ∈ rest') → Q .next { s with heap := h', toks := tk' }) :
    wpAny (model prog w) ((AA dp un (some []) gd).deeper env) (exec st env) Q E { s with heap := h, toks := tk } := by
  subst hgd
  revert hq
  obtain ⟨fd, b, e1, e2, e3, e4⟩ := lp
  cases e1
  cases e2
  cases e3
  obtain ⟨_, _, rfl⟩ := e4
  intro hq
  obtain ⟨X, TT, ⟨m0, F⟩, ⟨x, y, t1, t2, n, tb, N, ok, b1, b2, b3⟩, ⟨n1, n2⟩, r1, r2, r3, W⟩ := I
  have TR := topRead_of TT
  obtain ⟨gm, dT, dt, dm, hg, hpv, vT', vt', gg, gb⟩ := PA
  try dsimp only
  try k_fold
  walk_at "M steps"
  rename Fr _ _ _ _ => FN
  rename News _ _ _ _ => NN
  have NH : ∀ q ∈ rest, (hideAll _ [123, L]).get? q.1 = some q.2 := fun q hq => hideAll_get _ (NN q (by walk_at "M sub")).1 fun hm => (by
    rcases List.mem_cons.mp hm with y | y
    · exact r2 q hq y
    · exact (NN q (by walk_at "M sub")).2.1 (List.mem_singleton.mp y))
  have st9 := stays2 (a := 123) FN (NN (123, _) (by k_mem)).2.2
  cases gm
  · obtain ⟨hm, g⟩ := gg rfl
    clear gg gb
    refine call_found (T := dT) (t := dt) (k := i) hn rfl rfl FN X TT NN (by k_updF) ok ?_ ?_ (W _ st9 NH) (vT' _ st9 NH) (vt' _ st9 NH) (.inl ⟨dm, g, fun h9 tk9 v9 tb9 F9 N9 ok9 hv9 => ?_⟩)
    · walk_at "M lt"
    · walk_at "M lt"
    clear FN NN NH st9
    try dsimp only at N9
    walk_at "M steps"
    refine repr_made hn g hv9 rfl ?_ fun h8 u8 tk8 k8 => ?_
    · walk_at "M unit"
    rename Fr _ _ _ _ => FN
    rename News _ _ _ _ => NN
    have F8 := Kp.frame FN k8
    have N8 := News.kp NN k8
    clear FN NN hv9
    walk_at "M steps"
    rename Fr _ _ _ _ => FN
    rename News _ _ _ _ => NN
    refine repr_made hn g (hm.at FN NN (fun q hq => by walk_at "M sub")) rfl ?_ fun h7 u7 tk7 k7 => ?_
    · walk_at "M unit"
    have F7 := Kp.frame FN k7
    have N7 := News.kp NN k7
    clear FN NN
    walk_at "M steps"
    · rename_i q
      simp at q
    · rename Fr _ _ _ _ => FN
      rename News _ _ _ _ => NN
      have NH1 : ∀ q ∈ rest, (hideAll _ [123]).get? q.1 = some q.2 := fun q hq => hideAll_get _ (NN q (by walk_at "M sub")).1 fun hm => r2 q hq (List.mem_singleton.mp hm)
      have st8 := hid FN (as := [123]) (fun a ha => by rw [List.mem_singleton.mp ha]; exact (NN (123, _) (by k_mem)).2.2)
      refine call_told (T := dT) (t := dt) (k := i) (b := true) FN X TT NN (by k_updF) ok9 ?_ ?_ (W _ st8 NH1) (vT' _ st8 NH1) (vt' _ st8 NH1) (.inl ⟨⟨dm, g⟩, rfl⟩) fun h6 tk6 tb6 F6 N6 ok6 => ?_
      · walk_at "M lt"
      · walk_at "M lt"
      clear FN NN NH1 st8
      try dsimp only at N6
      walk_at "M steps"
      obtain ⟨rest', I', sub, new⟩ := lawSt (rest := rest) (src := src) (wd := wd) (fx := [("source", .ref src), ("world", .ref wd), ("T", vT), ("told", vt), ("made", vm)]) X TT F6 N6 (by k_mem) (by k_mem) (by k_mem) ok6 ⟨b1, b2, b3⟩ ⟨n1, n2⟩ (by intro q hq; simp only [List.mem_cons, List.not_mem_nil, or_false] at hq; rcases hq with rfl | rfl | rfl | rfl | rfl <;> rfl) (fun q hq => ⟨by walk_at "M sub", r1 q hq, r2 q hq, r3 q hq⟩) W
      exact hq _ _ rest' I' sub
  · have g := gb rfl
    clear gg gb
    obtain rfl : vm = .none := by cases vm <;> first | rfl | cases hg
    refine call_found (T := dT) (t := dt) (k := i) hn rfl rfl FN X TT NN (by k_updF) ok ?_ ?_ (W _ st9 NH) (vT' _ st9 NH) (vt' _ st9 NH) (.inr ⟨g, fun h9 tk9 tb9 F9 N9 ok9 => ?_⟩)
    · walk_at "M lt"
    · walk_at "M lt"
    clear FN NN NH st9
    try dsimp only at N9
    walk_at "M steps"
    · rename Fr _ _ _ _ => FN
      rename News _ _ _ _ => NN
      have NH1 : ∀ q ∈ rest, (hideAll _ [123]).get? q.1 = some q.2 := fun q hq => hideAll_get _ (NN q (by walk_at "M sub")).1 fun hm => r2 q hq (List.mem_singleton.mp hm)
      have st8 := hid FN (as := [123]) (fun a ha => by rw [List.mem_singleton.mp ha]; exact (NN (123, _) (by k_mem)).2.2)
      refine call_told (T := dT) (t := dt) (k := i) (b := false) FN X TT NN (by k_updF) ok9 ?_ ?_ (W _ st8 NH1) (vT' _ st8 NH1) (vt' _ st8 NH1) (.inr ⟨g, rfl⟩) fun h6 tk6 tb6 F6 N6 ok6 => ?_
      · walk_at "M lt"
      · walk_at "M lt"
      clear FN NN NH1 st8
      try dsimp only at N6
      walk_at "M steps"
      obtain ⟨rest', I', sub, new⟩ := lawSt (rest := rest) (src := src) (wd := wd) (fx := [("source", .ref src), ("world", .ref wd), ("T", vT), ("told", vt), ("made", .none)]) X TT F6 N6 (by k_mem) (by k_mem) (by k_mem) ok6 ⟨b1, b2, b3⟩ ⟨n1, n2⟩ (by intro q hq; simp only [List.mem_cons, List.not_mem_nil, or_false] at hq; rcases hq with rfl | rfl | rfl | rfl | rfl <;> rfl) (fun q hq => ⟨by walk_at "M sub", r1 q hq, r2 q hq, r3 q hq⟩) W
      exact hq _ _ rest' I' sub
end

/-- all that stands beside the frame and the two tables, as a ledger -/
theorem keepAll {h₀ h : Heap} {L : Addr} {m : Str → Option Value} (F : Fr h₀ L h m) : ∃ xs : List (Addr × Obj), News h₀ L h xs ∧ (∀ q ∈ xs, @Ne Nat q.1 123 ∧ @Ne Nat q.1 320) ∧
    (∀ q : Addr × Obj, h.get? q.1 = some q.2 → @Ne Nat q.1 L → h₀.get? q.1 = none → @Ne Nat q.1 123 → @Ne Nat q.1 320 → q ∈ xs) ∧
    ∀ h' m', Fr h₀ L h' m' → News h₀ L h' xs → ∀ b o, h.get? b = some o → @Ne Nat b L → @Ne Nat b 123 → @Ne Nat b 320 → h'.get? b = some o := by
  have key : ∀ q : Addr × Obj, q ∈ (allOf h).filter (fun q => decide ((@Ne Nat q.1 L ∧ @Ne Nat q.1 123 ∧ @Ne Nat q.1 320) ∧ (h₀.get? q.1).isNone = true)) ↔ h.get? q.1 = some q.2 ∧ (@Ne Nat q.1 L ∧ @Ne Nat q.1 123 ∧ @Ne Nat q.1 320) ∧ (h₀.get? q.1).isNone = true := fun q => by
    rw [List.mem_filter, decide_eq_true_eq, mem_all]
  refine ⟨_, fun q hq => ?_, fun q hq => ((key q).mp hq).2.1.2, fun q a b c d e => (key q).mpr ⟨a, ⟨b, d, e⟩, by rw [c]; rfl⟩, fun h' m' F' N' b o e nL n1 n2 => ?_⟩
  · obtain ⟨a, b, c⟩ := (key q).mp hq
    exact ⟨a, b.1, Option.isNone_iff_eq_none.mp c⟩
  · cases z : h₀.get? b with
    | none => exact (N' (b, o) ((key (b, o)).mpr ⟨e, ⟨nL, n1, n2⟩, by rw [z]; rfl⟩)).1
    | some o2 =>
      have y := F.keep b o2 z
      rw [e] at y
      cases y
      exact F'.keep b o z
theorem not_L {h₀ h : Heap} {L b : Addr} {m : Str → Option Value} {o : Obj} (F : Fr h₀ L h m) (e : h.get? b = some o) (d : ∀ es ep, o.data ≠ .dict es ep) : @Ne Nat b L := fun z => by
  obtain ⟨o2, es, ep, e2, d2, _⟩ := F.ns
  rw [z, e2] at e
  cases e
  exact d _ _ d2
theorem not_tab {h : Heap} {b a : Addr} {o : Obj} {ps : Array Value} (e : h.get? b = some o) (t : h.get? a = some (tabObj ps)) (d : o.data ≠ .fields ps) : @Ne Nat b a := fun z => by
  rw [z, t] at e
  cases e
  exact d rfl
theorem TabL.up {h h' : Heap} {tc : Array Value} (x : TabL h tc) (k : ∀ (b : Addr) (o : Obj) (vs : Array Value) (t : Tok), h.get? b = some o → o.data = .fields vs → vs[1]? = some (.str lamQ t) → h'.get? b = some o) : TabL h' tc := by
  rcases x with rfl | ⟨a, oc, vs, t, rfl, e1, e2, e3⟩
  · exact .inl rfl
  · exact .inr ⟨a, oc, vs, t, rfl, k a oc vs t e1 e2 e3, e2, e3⟩
theorem tab_no {b : Addr} {h : Heap} {oc : Obj} {vs : Array Value} {t : Tok} {ps : Array Value} {a : Addr} (e : h.get? b = some oc) (d : oc.data = .fields vs) (e3 : vs[1]? = some (.str lamQ t)) (ta : h.get? a = some (tabObj ps)) (np : ps[1]? ≠ some (.str lamQ t)) : @Ne Nat b a :=
  not_tab e ta fun z => np (by rw [d] at z; cases z; exact e3)

theorem tab1 {tb : Array Value} {t : Tok} (x : TabOk tb) : tb[1]? ≠ some (.str lamQ t) := by
  rcases x with rfl | ⟨k, rfl⟩ <;> intro z <;> cases z
theorem tabL1 {h : Heap} {tb : Array Value} {t : Tok} (x : TabL h tb) : tb[1]? ≠ some (.str lamQ t) := by
  rcases x with rfl | ⟨k, _, _, _, rfl, _⟩ <;> intro z <;> cases z
section
variable {prog : Program} {w : World} {p : Program} {loose : List Str} {mg mb : Str → Option Value} {dp un : Nat} {fr : Option (List Env)} {gd : Option (List Code)} {s : Shared} {h₀ h h' : Heap} {L : Addr} {m : Str → Option Value} {news : List (Addr × Obj)} {Q E : Value → Shared → Prop}
variable {mean : ExcName → Option Value} {L : Addr} {env : Env} {st : Stmt} {tk sa src wd pa : Addr} {rest : List (Addr × Obj)} {fx : List (Str × Value)} {vT vt vm : Value} {i : Nat} {Q : Flow → Shared → Prop} {tb tc : Array Value}
theorem st9_ {h : Heap} (hgd : gd = some []) (lp : LawStmt w.params L 9 st env) (hdp : dp + 90 < recursionLimit) (hu : un + 2600 < cLine) (X : (hd.heap_1 w.params).In h₀) (TT : Top p loose mean mg mb h₀) (F : Fr h₀ L h m) (N : News h₀ L h [(123, tabObj tb), (320, tabObj tc)]) (okb : TabOk tb) (ok : TabL h tc)
    (hq : ∀ h' tk' m' tb' tc, Fr h₀ L h' m' → News h₀ L h' [(123, tabObj tb'), (320, tabObj tc)] → Q (.ret (.bool true)) { s with heap := h', toks := tk' }) :
    wpAny (model prog w) ((AA dp un (some []) gd).deeper env) (exec st env) Q E { s with heap := h, toks := tk } := by
  subst hgd
  revert hq
  obtain ⟨fd, b, e1, e2, e3, e4⟩ := lp
  cases e1
  cases e2
  cases e3
  obtain ⟨_, _, rfl⟩ := e4
  intro hq
  have TR := topRead_of TT
  obtain ⟨xs, Nx, nx, ix, kx⟩ := keepAll F
  have ok2 : ∀ h' m', Fr h₀ L h' m' → News h₀ L h' xs → TabL h' tc := fun h' m' F' N' => ok.up fun b o vs t e d e3 => kx h' m' F' N' b o e (not_L F e fun _ _ z => by rw [d] at z; cases z) (tab_no e d e3 (N _ (.head _)).1 (tab1 okb)) (tab_no e d e3 (N _ (.tail _ (.head _))).1 (tabL1 ok))
  have N : News h₀ L h ((123, tabObj tb) :: (320, tabObj tc) :: xs) := fun q hq => by
    rcases List.mem_cons.mp hq with rfl | hq
    · exact N _ (.head _)
    rcases List.mem_cons.mp hq with rfl | hq
    · exact N _ (.tail _ (.head _))
    · exact Nx q hq
  have r2 : ∀ q ∈ xs, @Ne Nat q.1 123 := fun q hq => (nx q hq).1
  have r3 : ∀ q ∈ xs, @Ne Nat q.1 320 := fun q hq => (nx q hq).2
  clear Nx nx ix kx ok okb
  try dsimp only
  try k_fold
  walk_at "M steps"
  rename Fr _ _ _ _ => FN
  rename News _ _ _ _ => NN
  have NH := fun (q : Addr × Obj) (hq : q ∈ _) (z : @Ne Nat q.1 320) => hideAll_get [320, L] (NN q hq).1 fun hm => (by
    rcases List.mem_cons.mp hm with y | y
    · exact z y
    · exact (NN q hq).2.1 (List.mem_singleton.mp y))
  refine call_lshown (o := none) (dv := wMade .box (.tuple [.str "ref", pathD 2])) rfl rfl FN X TT NN (by k_updF) (ok2 _ _ FN fun q hq => NN q (by walk_at "M sub")) ?_ ?_ .gone ?v (fun _ h => nomatch h) fun _ h9 tk9 u9 tb9 F9 N9 ok9 => ?_
  case v => show HD _ _ (.tuple [.str "box", .tuple [.str "ref", .tuple [.int 3, .int 2, .tuple []]]]); walk_at "M hq"
  · walk_at "M lt"
  · walk_at "M lt"
  clear FN NN NH
  try dsimp only at N9
  walk_at "M steps"
  rw [beq_self_eq_true]
  exact hq _ _ _ _ _ F9 fun q hq => by
    simp only [List.mem_cons, List.not_mem_nil, or_false] at hq
    rcases hq with rfl | rfl
    · exact N9 _ (by k_mem)
    · exact N9 _ (by k_mem)
end

theorem HD.str_any {h h' : Heap} {v : Value} {x : Str} (r : HD h v (.str x)) : HD h' v (.str x) := by
  obtain ⟨t, rfl⟩ := HD.inv_str r
  exact HD.str
theorem Good.depthT {k : Nat} {T t m : PyData} (g : Good k T t m) : t.depth ≤ 4 * k + 4 := by
  induction g with
  | int hκ h => simp [PyData.depth]
  | layer way g ih => cases way <;> simp [wTold, wItems, PyData.depth, PyData.depthAll] <;> omega
theorem Good.two {k : Nat} {T t m : PyData} (g : Good k T t m) (hk : k < 300) : (PyData.list [t, .tuple [.str "ref", t]]).canLay0 = true ∧ (PyData.list [t, .tuple [.str "ref", t]]).depth ≤ 2000 := by
  have a := g.depthT
  have b := g.lay.2
  have s1 : PyData.strOk "ref" = true := by decide +kernel
  exact ⟨by simp [PyData.canLay0, PyData.canLayAll0, b, s1], by simp [PyData.depth, PyData.depthAll]; omega⟩
theorem tup_up {h₀ h h' : Heap} {L : Addr} {m : Str → Option Value} {pb pc : Array Value} (F : Fr h₀ L h m) (e1 : h.get? 123 = some (tabObj pb)) (e2 : h.get? 320 = some (tabObj pc)) (k : ∀ b o, h.get? b = some o → @Ne Nat b L → @Ne Nat b 123 → @Ne Nat b 320 → h'.get? b = some o) {a : Addr} {its : Array Value} (x : IsTup h a its) : IsTup h' a its := by
  obtain ⟨o, e, c, n, d⟩ := x
  exact ⟨o, k a o e (not_L F e fun _ _ z => by rw [d] at z; cases z) (not_tab e e1 fun z => by rw [d] at z; cases z) (not_tab e e2 fun z => by rw [d] at z; cases z), c, n, d⟩

theorem neLst {prog : Program} {w : World} {A : Around} {s : Shared} {Q E : Value → Shared → Prop} {a b : Value} {d : PyData} (x : HD s.heap a d) (y : HD s.heap b d) (l : d.canLay0 = true) (dp : d.depth ≤ 2000) (u : A.units + 2000 < cLine) (h : Q (.bool false) s) : wpAny (model prog w) A (compareOp .NotEq a b) Q E s := by
  obtain ⟨_, x⟩ := x
  obtain ⟨_, y⟩ := y
  refine SeqAt.compareNe_reads x y l l (Nat.lt_of_le_of_lt (Nat.add_le_add_left (Nat.le_trans (Nat.min_le_left _ _) dp) _) u) ?_
  rw [SeqAt.eqv_refl d l]
  exact h
section
variable {prog : Program} {w : World} {p : Program} {loose : List Str} {mg mb : Str → Option Value} {dp un : Nat} {fr : Option (List Env)} {gd : Option (List Code)} {s : Shared} {h₀ h h' : Heap} {L : Addr} {m : Str → Option Value} {news : List (Addr × Obj)} {Q E : Value → Shared → Prop}
variable {mean : ExcName → Option Value} {L : Addr} {env : Env} {st : Stmt} {tk sa src wd pa : Addr} {rest : List (Addr × Obj)} {fx : List (Str × Value)} {vT vt vm : Value} {i : Nat} {Q : Flow → Shared → Prop} {tb tc : Array Value}
theorem st8_ {h : Heap} (hn : i < 300) (hgd : gd = some []) (lp : LawStmt w.params L 8 st env) (hdp : dp + 90 < recursionLimit) (hu : un + 2600 < cLine) (I : LawSt prog w p loose mean mg mb h₀ h L src wd [("source", .ref src), ("world", .ref wd), ("T", vT), ("told", vt), ("made", vm)] rest) (PA : PartAt h₀ rest i vT vt vm)
    (hq : ∀ h' tk' m' tb' tc, Fr h₀ L h' m' → News h₀ L h' [(123, tabObj tb'), (320, tabObj tc)] → TabOk tb' → TabL h' tc → Q .next { s with heap := h', toks := tk' }) :
    wpAny (model prog w) ((AA dp un (some []) gd).deeper env) (exec st env) Q E { s with heap := h, toks := tk } := by
  subst hgd
  revert hq
  obtain ⟨fd, b, e1, e2, e3, e4⟩ := lp
  cases e1
  cases e2
  cases e3
  obtain ⟨_, _, rfl⟩ := e4
  intro hq
  obtain ⟨X, TT, ⟨m0, F⟩, ⟨x, y, t1, t2, n, tb, N, ok, b1, b2, b3⟩, ⟨n1, n2⟩, r1, r2, r3, W⟩ := I
  have TR := topRead_of TT
  obtain ⟨gm, dT, dt, dm, hg, hpv, vT', vt', gg, gb⟩ := PA
  try dsimp only
  try k_fold
  cases gm
  · obtain ⟨hm, g⟩ := gg rfl
    clear gg gb
    walk_at "M steps"
    rename Fr _ _ _ _ => FN
    rename News _ _ _ _ => NN
    have NH := fun (q : Addr × Obj) (hq : q ∈ _) (z : @Ne Nat q.1 320) => hideAll_get [320, L] (NN q hq).1 fun hm => (by
      rcases List.mem_cons.mp hm with y | y
      · exact z y
      · exact (NN q hq).2.1 (List.mem_singleton.mp y))
    have st9 := stays2 (a := 320) FN (NN (320, _) (by k_mem)).2.2
    refine call_lshown (o := some dt) (dv := dm) rfl rfl FN X TT NN (by k_updF) (.inl rfl) ?_ ?_ (.made hn g) (hm _ st9 fun q hq => NH q (by walk_at "M sub") (r3 q hq)) (fun d hd h9 tk9 v9 tb9 k9 F9 N9 ok9 hv9 => ?_) fun z => nomatch z
    · walk_at "M lt"
    · walk_at "M lt"
    cases hd
    clear FN NN NH st9
    try dsimp only at N9
    obtain ⟨xs, Nx, nx, ix, kx⟩ := keepAll F9
    have hr : ∀ q ∈ rest, q ∈ xs := fun q hq => (fun z : h9.get? q.1 = some q.2 ∧ @Ne Nat q.1 L ∧ h₀.get? q.1 = none => ix q z.1 z.2.1 z.2.2 (r2 q hq) (r3 q hq)) (N9 q (by walk_at "M sub"))
    have t9 := (N9 (123, tabObj tb) (by k_mem))
    have u9 := (N9 (320, tabObj tb9) (by k_mem))
    have ok8 : ∀ h' m', Fr h₀ L h' m' → News h₀ L h' xs → TabL h' tb9 := fun h' m' F' N' => ok9.up fun b o vs t e d e3 => kx h' m' F' N' b o e (not_L F9 e fun _ _ z => by rw [d] at z; cases z) (tab_no e d e3 t9.1 (tab1 ok)) (tab_no e d e3 u9.1 (tabL1 ok9))
    have tup8 : ∀ h' m', Fr h₀ L h' m' → News h₀ L h' xs → ∀ a its, IsTup h9 a its → IsTup h' a its := fun h' m' F' N' a its x => tup_up F9 t9.1 u9.1 (kx h' m' F' N') x
    replace N9 : News h₀ L h9 ((123, tabObj tb) :: (320, tabObj tb9) :: xs) := fun q hq => by
      rcases List.mem_cons.mp hq with rfl | hq
      · exact t9
      rcases List.mem_cons.mp hq with rfl | hq
      · exact u9
      · exact Nx q hq
    have q2 : ∀ q ∈ xs, @Ne Nat q.1 123 := fun q hq => (nx q hq).1
    have q3 : ∀ q ∈ xs, @Ne Nat q.1 320 := fun q hq => (nx q hq).2
    clear Nx nx ix kx ok9 t9 u9
    walk_at "M steps"
    rename Fr _ _ _ _ => FN
    rename News _ _ _ _ => NN
    have NH := fun (q : Addr × Obj) (hq : q ∈ _) (z : @Ne Nat q.1 320) => hideAll_get [320, L] (NN q hq).1 fun hm => (by
      rcases List.mem_cons.mp hm with y | y
      · exact z y
      · exact (NN q hq).2.1 (List.mem_singleton.mp y))
    have st9 := stays2 (a := 320) FN (NN (320, _) (by k_mem)).2.2
    refine call_lshown (o := some (.tuple [.str "ref", dt])) (dv := .tuple [.str "ref", pathD 1]) rfl rfl FN X TT NN (by k_updF) (ok8 _ _ FN fun q hq => NN q (by walk_at "M sub")) ?_ ?_ (.ref hn g (hm _ st9 fun q hq => NH q (by replace hq := hr q hq; walk_at "M sub") (r3 q hq))) ?v (fun d hd h7 tk7 v7 tb7 k7 F7 N7 ok7 hv7 => ?_) fun z => nomatch z
    case v => show HD _ _ (.tuple [.str "ref", .tuple [.int 3, .int 1, .tuple []]]); walk_at "M hq"
    · walk_at "M lt"
    · walk_at "M lt"
    cases hd
    clear FN NN NH st9
    try dsimp only at N7
    obtain ⟨ys, Ny, ny, iy, ky⟩ := keepAll F7
    have hx : ∀ q ∈ xs, q ∈ ys := fun q hq => (fun z : h7.get? q.1 = some q.2 ∧ @Ne Nat q.1 L ∧ h₀.get? q.1 = none => iy q z.1 z.2.1 z.2.2 (q2 q hq) (q3 q hq)) (N7 q (by walk_at "M sub"))
    have t9 := (N7 (123, tabObj tb) (by k_mem))
    have u9 := (N7 (320, tabObj tb7) (by k_mem))
    have ok6 : ∀ h' m', Fr h₀ L h' m' → News h₀ L h' ys → TabL h' tb7 := fun h' m' F' N' => ok7.up fun b o vs t e d e3 => ky h' m' F' N' b o e (not_L F7 e fun _ _ z => by rw [d] at z; cases z) (tab_no e d e3 t9.1 (tab1 ok)) (tab_no e d e3 u9.1 (tabL1 ok7))
    have tup7 : ∀ h' m', Fr h₀ L h' m' → News h₀ L h' ys → ∀ a its, IsTup h7 a its → IsTup h' a its := fun h' m' F' N' a its x => tup_up F7 t9.1 u9.1 (ky h' m' F' N') x
    replace N7 : News h₀ L h7 ((123, tabObj tb) :: (320, tabObj tb7) :: ys) := fun q hq => by
      rcases List.mem_cons.mp hq with rfl | hq
      · exact t9
      rcases List.mem_cons.mp hq with rfl | hq
      · exact u9
      · exact Ny q hq
    clear Ny ny iy ky ok7 t9 u9 q2 q3
    obtain ⟨a7, l7, rfl, ht7, hl7⟩ := HD.inv_tuple hv7
    obtain ⟨v1, l8, rfl, hs7, hl7⟩ := HDs.inv_cons hl7
    obtain ⟨v2, l9, rfl, hd7, hl7⟩ := HDs.inv_cons hl7
    obtain rfl := HDs.inv_nil hl7
    iterate 11 (first | (k_unfold; (try dsimp only)) | (walk1; (try dsimp only)))
    rename Fr _ _ _ _ => FN
    rename News _ _ _ _ => NN
    have z1 := g.told_in (tup8 _ _ FN fun q hq => NN q (by replace hq := hx q hq; walk_at "M sub")) hv9
    have tq := tup7 _ _ FN fun q hq => NN q (by walk_at "M sub")
    have z2 := g.told_in tq hd7
    have z3 := vt'.at FN NN fun q hq => by replace hq := hx q (hr q hq); walk_at "M sub"
    obtain ⟨o8, f1, f2, f3, f4⟩ := tq _ _ ht7
    have z4 : HD _ (.ref a7) (.tuple [.str "ref", dt]) := HD.tuple f1 f2 f4 (HDs.cons (hs7.str_any) (HDs.cons z2 HDs.nil))
    have NH := fun (q : Addr × Obj) (hq : q ∈ _) (_ : @Ne Nat q.1 320) => (NN q hq).1
    have lay := g.two hn
    refine neLst (d := .list [dt, .tuple [.str "ref", dt]]) ?a ?b lay.1 lay.2 ?u ?_
    case a => walk_at "M hq"
    case b => walk_at "M hq"
    case u => walk_at "M unit"
    clear NH z1 z2 z3 z4 tq f1 f2 f3 f4
    walk_at "M steps"
    rename Fr _ _ _ _ => FN
    rename News _ _ _ _ => NN
    exact hq _ _ _ _ _ FN (fun q hq => by
      simp only [List.mem_cons, List.not_mem_nil, or_false] at hq
      rcases hq with rfl | rfl
      · exact NN _ (by k_mem)
      · exact NN _ (by k_mem)) ok (ok6 _ _ FN fun q hq => NN q (by walk_at "M sub"))
  · have g := gb rfl
    clear gg gb
    obtain rfl : vm = .none := by cases vm <;> first | rfl | cases hg
    walk_at "M steps"
    rename Fr _ _ _ _ => FN
    rename News _ _ _ _ => NN
    exact hq _ _ _ _ _ FN (fun q hq => by
      simp only [List.mem_cons, List.not_mem_nil, or_false] at hq
      rcases hq with rfl | rfl
      · exact NN _ (by k_mem)
      · exact NN _ (by k_mem)) ok (.inl rfl)
end

section
variable {prog : Program} {w : World} {p : Program} {loose : List Str} {mg mb : Str → Option Value} {dp un : Nat} {fr : Option (List Env)} {gd : Option (List Code)} {s : Shared} {h₀ h h' : Heap} {L : Addr} {m : Str → Option Value} {news : List (Addr × Obj)} {Q E : Value → Shared → Prop}
variable {mean : ExcName → Option Value} {L : Addr} {env : Env} {tk sa : Addr} {Q : Flow → Shared → Prop}
theorem law_body {h : Heap} {fa : Addr} {cd : Value} {fd : FuncData} {b : List Stmt} {vs : List Value} {ns : List Int} (e1 : fnOfK w.params 332 = some fd) (e2 : fd.body = .stmts b) (hE : PassesOwn (model prog w) ((AA dp un (some []) (some [])).deeper (envOf fd.qualname fd.scope L fa cd)) (envOf fd.qualname fd.scope L fa cd) E) (hdp : dp + 90 < recursionLimit) (hu : un + 2600 < cLine) (X : (hd.heap_1 w.params).In h₀) (TT : Top p loose mean mg mb h₀)
    (F : Fr h₀ L h (fun y => List.lookup y [(Str.ofString "script", Value.ref sa)].reverse)) (N : News h₀ L h [(320, tabObj #[]), (123, tabObj #[])]) (hs : h₀.IsList sa vs.toArray) (hi : IntsAre vs ns) (hlen : vs.length ≤ 63)
    (hq : ∀ h' tk' m' tb tc, Fr h₀ L h' m' → News h₀ L h' [(123, tabObj tb), (320, tabObj tc)] → Q (.ret (.bool true)) { s with heap := h', toks := tk' }) :
    wpAny (model prog w) ((AA dp un (some []) (some [])).deeper (envOf fd.qualname fd.scope L fa cd)) (execs b (envOf fd.qualname fd.scope L fa cd)) Q E { s with heap := h, toks := tk } := by
  have lp : ∀ i st, b[i]? = some st → LawStmt w.params L i st (envOf fd.qualname fd.scope L fa cd) := fun i st e => ⟨fd, b, e1, e2, e, fa, cd, rfl⟩
  cases e1
  cases e2
  refine wpAny_execs_cons (st0_ (lp 0 _ rfl) hdp hu X TT F N hs hi hlen fun h1 k1 src wd rest1 I => ?_)
  refine wpAny_execs_cons (st1_ (lp 1 _ rfl) hdp hu I fun h1 k1 rest1 I => ?_)
  refine wpAny_execs_cons (st2_ (lp 2 _ rfl) hdp hu I fun h1 k1 rest1 pa vT vt vm I hp PA => ?_)
  refine wpAny_execs_cons (st3_ (lp 3 _ rfl) hdp hu I fun h1 k1 rest1 M tm I sub l1 l2 => ?_)
  replace hp := sub _ hp
  replace PA := PA.more sub
  refine wpAny_execs_cons (st4_ l1 l2 (lp 4 _ rfl) hdp hu I fun h1 k1 rest1 Ls tl I sub => ?_)
  replace hp := sub _ hp
  replace PA := PA.more sub
  refine wpAny_execs_cons (st5_ l1 l2 (lp 5 _ rfl) hdp hu hE I hp PA fun h1 k1 rest1 pa vT vt vm I hp PA => ?_)
  refine wpAny_execs_cons (st6_ (lp 6 _ rfl) hdp hu I hp fun h1 k1 rest1 I sub => ?_)
  replace PA := PA.more sub
  refine wpAny_execs_cons (st7_ (by omega) rfl (lp 7 _ rfl) hdp hu I PA fun h1 k1 rest1 I sub => ?_)
  replace PA := PA.more sub
  refine wpAny_execs_cons (st8_ (by omega) rfl (lp 8 _ rfl) hdp hu I PA fun h1 k1 m1 tb tc F N okb ok => ?_)
  refine wpAny_execs_cons (st9_ rfl (lp 9 _ rfl) hdp hu X TT F N okb ok fun h1 k1 m1 tb tc F N => ?_)
  exact hq _ _ _ _ _ F N
end

end Mine
set_option maxHeartbeats 4000000 in
theorem PySem.Challenge.cw_up0051_01_holds : PySem.Challenge.rw_up0051_01.Holds := by
  refine Mine.hd ⟨Mine.left_km _ Mine.run_, ?_⟩
  k_go0
  all_goals (try k_fold)
  rename Fr _ _ _ _ => FN
  rename News _ _ _ _ => NN
  rename Top _ _ _ _ _ (ghostOf _ _) => TT
  rename (Mine.hd.heap_1 _).In _ => XX
  rename IntsAre _ _ => HI
  rename Heap.IsList _ _ _ => HL
  refine Mine.law_body (fd := _) rfl rfl (by passes_own) (by decide) (by decide) XX TT FN NN HL HI ?_ fun h9 tk9 m9 tb tc F9 N9 => ?_
  · rename ¬ _ < _ => hc
    have e := HI.length
    omega
  · refine ⟨?_, ?_⟩
    · wrow_close
    · exact ⟨GrownAt.of N9 (by k_mem), GrownAt.of N9 (by k_mem), trivial⟩
