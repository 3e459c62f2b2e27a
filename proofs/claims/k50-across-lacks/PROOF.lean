import PyProof.Rows.All
import Wide.All
import OpenK.AllK
import Wide.FinOn
import HandS.ForMost
import HandS.Zip
import HandS.TupAny
import HandS.Style
import HandS.Gcd
import HandS.IsInst
import HandS.Star
import HandS.Flow
import HandS.Wide
import HandS.AnyAll
import HandS.EndTab
import KE.GoesMore
import KE.GoesZip
import KE.GoesEnum
import KE.KNest
import KE.KNestM
import PyProof.GenCompD
import PyProof.ConsumeS
import PySem.Challenge.RW_damworks_k50_across_lacks
set_option Elab.async false
set_option maxRecDepth 100000
set_option maxHeartbeats 4000000
/-! The row's defs by their places, and their names by slots. -/
namespace Dw
open PySem PySem.Spec PyProof.Rows L2
def topS (i : Nat) : Stmt := PySem.Challenge.pw_damworks_k50_across_lacks.main.body.getD i (.Pass ⟨0, 0, 0, 0⟩)
abbrev sRatio : Stmt := topS 6
abbrev sLess : Stmt := topS 7
abbrev sIsIn : Stmt := topS 12
abbrev sFlows : Stmt := topS 13
abbrev sNeedDam : Stmt := topS 14
abbrev sNeedDem : Stmt := topS 15
abbrev sRunOf : Stmt := topS 16
abbrev sRun : Stmt := topS 17
abbrev sWater : Stmt := topS 19
abbrev sSpans : Stmt := topS 20
abbrev sNeedLack : Stmt := topS 22
abbrev sTotal : Stmt := topS 23
abbrev sOpen : Stmt := topS 24
abbrev sSpanLack : Stmt := topS 25
abbrev sLackOf : Stmt := topS 26
abbrev sLeast : Stmt := topS 27
abbrev sDoes : Stmt := topS 28
abbrev sFewest : Stmt := topS 29
abbrev sTaken : Stmt := topS 31
abbrev sPick : Stmt := topS 32
abbrev sLRatio : Stmt := topS 34
abbrev sLBy : Stmt := topS 36
abbrev sLLess : Stmt := topS 38
abbrev sLFlow : Stmt := topS 40
abbrev sLDam : Stmt := topS 41
abbrev sLDem : Stmt := topS 42
abbrev sLaw : Stmt := topS 46
theorem scRatio : FnScope ["top", "bottom", "common"] ["top", "bottom"] (defScope sRatio) := ⟨rfl, rfl, rfl, by decide +kernel, rfl, by decide +kernel, by decide +kernel⟩
theorem scLess : FnScope ["one", "other"] ["one", "other"] (defScope sLess) := ⟨rfl, rfl, rfl, by decide +kernel, rfl, by decide +kernel, by decide +kernel⟩
theorem scIsIn : FnScope ["value", "least", "most"] ["value", "least", "most"] (defScope sIsIn) := ⟨rfl, rfl, rfl, by decide +kernel, rfl, by decide +kernel, by decide +kernel⟩
theorem scFlows : FnScope ["value"] ["value"] (defScope sFlows) := ⟨rfl, rfl, rfl, by decide +kernel, rfl, by decide +kernel, by decide +kernel⟩
theorem scNeedDam : FnScope ["dam"] ["dam"] (defScope sNeedDam) := ⟨rfl, rfl, rfl, by decide +kernel, rfl, by decide +kernel, by decide +kernel⟩
theorem scNeedDem : FnScope ["months", "demands"] ["months", "demands"] (defScope sNeedDem) := ⟨rfl, rfl, rfl, by decide +kernel, rfl, by decide +kernel, by decide +kernel⟩
theorem scRunOf : FnScope ["dam", "demands", "held", "found", "inflow", "demand", "given", "spilled"] ["dam", "demands"] (defScope sRunOf) := ⟨rfl, rfl, rfl, by decide +kernel, rfl, by decide +kernel, by decide +kernel⟩
theorem scRun : FnScope ["dam", "demands"] ["dam", "demands"] (defScope sRun) := ⟨rfl, rfl, rfl, by decide +kernel, rfl, by decide +kernel, by decide +kernel⟩
theorem scWater : FnScope ["dam", "first", "last", "held", "end"] ["dam", "first", "last"] (defScope sWater) := ⟨rfl, rfl, rfl, by decide +kernel, rfl, by decide +kernel, by decide +kernel⟩
theorem scSpans : FnScope ["months", "first", "last"] ["months"] (defScope sSpans) := ⟨rfl, rfl, rfl, by decide +kernel, rfl, by decide +kernel, by decide +kernel⟩
theorem scNeedLack : FnScope ["dam", "demands"] ["dam", "demands"] (defScope sNeedLack) := ⟨rfl, rfl, rfl, by decide +kernel, rfl, by decide +kernel, by decide +kernel⟩
theorem scTotal : FnScope ["dam", "demands"] ["dam", "demands"] (defScope sTotal) := ⟨rfl, rfl, rfl, by decide +kernel, rfl, by decide +kernel, by decide +kernel⟩
theorem scOpen : FnScope ["dam"] ["dam"] (defScope sOpen) := ⟨rfl, rfl, rfl, by decide +kernel, rfl, by decide +kernel, by decide +kernel⟩
theorem scSpanLack : FnScope ["dam", "demands", "span", "some", "water", "found", "count", "x"] ["dam", "demands", "span"] (defScope sSpanLack) := ⟨rfl, rfl, rfl, by decide +kernel, rfl, by decide +kernel, by decide +kernel⟩
theorem scLackOf : FnScope ["dam", "demands", "found", "span", "x"] ["dam", "demands"] (defScope sLackOf) := ⟨rfl, rfl, rfl, by decide +kernel, rfl, by decide +kernel, by decide +kernel⟩
theorem scLeast : FnScope ["dam", "demands"] ["dam", "demands"] (defScope sLeast) := ⟨rfl, rfl, rfl, by decide +kernel, rfl, by decide +kernel, by decide +kernel⟩
theorem scDoes : FnScope ["dam", "demands"] ["dam", "demands"] (defScope sDoes) := ⟨rfl, rfl, rfl, by decide +kernel, rfl, by decide +kernel, by decide +kernel⟩
theorem scFewest : FnScope ["dam", "demands", "rows", "row", "k", "demand"] ["dam", "demands"] (defScope sFewest) := ⟨rfl, rfl, rfl, by decide +kernel, rfl, by decide +kernel, by decide +kernel⟩
theorem scTaken : FnScope ["_law_row", "_law_many", "_law_found", "_law_cell"] ["_law_row", "_law_many"] (defScope sTaken) := ⟨rfl, rfl, rfl, by decide +kernel, rfl, by decide +kernel, by decide +kernel⟩
theorem scPick : FnScope ["_law_row", "_law_things"] ["_law_row", "_law_things"] (defScope sPick) := ⟨rfl, rfl, rfl, by decide +kernel, rfl, by decide +kernel, by decide +kernel⟩
theorem scLRatio : FnScope ["_law_top", "_law_bottom", "_law_one", "_law_other"] ["_law_top", "_law_bottom"] (defScope sLRatio) := ⟨rfl, rfl, rfl, by decide +kernel, rfl, by decide +kernel, by decide +kernel⟩
theorem scLBy : FnScope ["_law_one", "_law_other"] ["_law_one", "_law_other"] (defScope sLBy) := ⟨rfl, rfl, rfl, by decide +kernel, rfl, by decide +kernel, by decide +kernel⟩
theorem scLLess : FnScope ["_law_one", "_law_other"] ["_law_one", "_law_other"] (defScope sLLess) := ⟨rfl, rfl, rfl, by decide +kernel, rfl, by decide +kernel, by decide +kernel⟩
theorem scLFlow : FnScope ["_law_row"] ["_law_row"] (defScope sLFlow) := ⟨rfl, rfl, rfl, by decide +kernel, rfl, by decide +kernel, by decide +kernel⟩
theorem scLDam : FnScope ["_law_row", "_law_most", "_law_capacity", "_law_inflows", "_law_k"] ["_law_row", "_law_most"] (defScope sLDam) := ⟨rfl, rfl, rfl, by decide +kernel, rfl, by decide +kernel, by decide +kernel⟩
theorem scLDem : FnScope ["_law_row", "_law_many", "_law_k"] ["_law_row", "_law_many"] (defScope sLDem) := ⟨rfl, rfl, rfl, by decide +kernel, rfl, by decide +kernel, by decide +kernel⟩
theorem scLaw : FnScope ["_law_script", "_law_row", "_law_dam_here", "_law_many", "_law_demands_here", "_law_whole", "_law_each", "_law_fails", "_law_months", "_law_more", "_law_other", "_law_one"] ["_law_script"] (defScope sLaw) := ⟨rfl, rfl, rfl, by decide +kernel, rfl, by decide +kernel, by decide +kernel⟩
end Dw

set_option Elab.async false
set_option maxRecDepth 100000
set_option maxHeartbeats 4000000
/-! is_in called by ints: nothing that stood changes. -/
namespace Dw
open PySem PySem.Spec PyProof.Rows L2
theorem mod_keeps {K : PySem.W.Frag} {mg : Str → Option Value} {h h' : Heap} (M : L2.Mod K mg h) (k : ∀ b o, h.get? b = some o → h'.get? b = some o) : L2.Mod K mg h' :=
  ⟨M.kin.keeps k, M.glob.keeps k, let ⟨mb, h1, h2⟩ := M.blt; ⟨mb, h1.keeps k, h2⟩, M.nolimit.keeps k⟩
section
variable {P : Program} {w : World} {K : PySem.W.Frag} {mg : Str → Option Value} {A : Around} {E : Value → Shared → Prop} {s : Shared} {env : Env} {x : Str} {pos : Pos} {Q : Value → Shared → Prop} {m : Str → Option Value} {v : Value}
theorem ev_loc (hk : env.scope.kind = .function) (hl : env.scope.names.lookup x = some .local) (hn : s.heap.Ns env.locals m) (hm : m x = some v) (h : Q v s) (hd : (x == ("__debug__" : Str)) = false := by decide) :
    wpAny (model P w) A (eval (.Name x pos) env) Q E s := wpAny_Name (wpAny_loadName_local hk hl hn hm h) hd
theorem ev_glo (M : L2.Mod K mg s.heap) (hk : env.scope.kind = .function) (hg : env.kindOf x = some .globalImplicit) (hG : env.globals = mainGlobals) (hm : mg x = some v) (h : Q v s) (hd : (x == ("__debug__" : Str)) = false := by decide) :
    wpAny (model P w) A (eval (.Name x pos) env) Q E s := Calls.Name_function_global hk hg (Calls.loadGlobal_global (by rw [hG]; exact M.glob) hm h) hd
theorem ev_blt (M : L2.Mod K mg s.heap) (hk : env.scope.kind = .function) (hg : env.kindOf x = some .globalImplicit) (hG : env.globals = mainGlobals) (hB : env.builtins = builtinsNs) (hm : mg x = none) (hv : bootBuiltins x = some v) (h : Q v s)
    (hn : x ≠ "__name__" := by decide) (hd : (x == ("__debug__" : Str)) = false := by decide) :
    wpAny (model P w) A (eval (.Name x pos) env) Q E s := by
  obtain ⟨mb, h1, h2⟩ := M.blt
  exact Calls.Name_function_global hk hg (Calls.loadGlobal_builtin (by rw [hG]; exact M.glob) hm (by rw [hB]; exact h1) ((h2 x hn).trans hv) h) hd
/-- isinstance(x, T) where x holds an int -/
theorem ev_isi {T y : Str} {i : Int} {t : Tok} {tn : String} {b : Bool} {p1 p2 p3 p4 : Pos} (M : L2.Mod K mg s.heap) (hk : env.scope.kind = .function) (hG : env.globals = mainGlobals) (hB : env.builtins = builtinsNs)
    (hg1 : env.kindOf "isinstance" = some .globalImplicit) (hg2 : env.kindOf T = some .globalImplicit) (hl : env.scope.names.lookup y = some .local) (hn : s.heap.Ns env.locals m) (hm : m y = some (.int i t))
    (m1 : mg "isinstance" = none) (m2 : mg T = none) (hv : bootBuiltins T = some (.type tn)) (hkit : PySem.W.kitOne K (.type "int") (.type tn) = some b) (h : ∀ tk, Q (.bool b) { s with toks := tk })
    (hT : T ≠ "__name__" := by decide) (hTd : (T == ("__debug__" : Str)) = false := by decide) (hyd : (y == ("__debug__" : Str)) = false := by decide) :
    wpAny (model P w) A (eval (.Call (.Name "isinstance" p1) [.Name y p2, .Name T p3] [] p4) env) Q E s := by
  refine wpAny_Call_Name_kw (ev_blt M hk hg1 hG hB m1 (show bootBuiltins "isinstance" = some (.builtin "isinstance") by decide +kernel) ?_)
  refine PyProof.Rows.callWith_builtin1 ?_
  refine Calls.spliced_cons (ev_loc hk hl hn hm ?_ hyd)
  refine Calls.spliced_cons (ev_blt M hk hg2 hG hB m2 hv ?_ hT hTd)
  refine Calls.spliced_nil ?_
  exact PySem.W.kia_one (H := fun _ => True) PySem.W.kitx_int M.kin True.intro hkit (fun z => nomatch z) h

theorem isin_quiet {f : Addr} {fd : FuncData} (F : Fun K "is_in" "is_in" sIsIn f fd) (hb : Binds K fd ["value", "least", "most"] []) (m1 : mg "isinstance" = none) (m2 : mg "int" = none) (m3 : mg "bool" = none) (M : L2.Mod K mg s.heap) (hdep : A.depth + 5 < recursionLimit)
    {i a b : Int} {t1 t2 t3 : Tok} :
    wpAny (model P w) A (call (.ref f) [.int i t1, .int a t2, .int b t3]) (fun y s' => y = .bool (decide (a ≤ i ∧ i ≤ b)) ∧ Keeps s s') E s := by
  obtain ⟨oc, od, kV, doc, pm, an, cdv, ct, osl, rfl, lk, hcd⟩ := F.ex
  have hbt : BindsTo s _ ⟨[.int i t1, .int a t2, .int b t3], []⟩ [("value", .int i t1), ("least", .int a t2), ("most", .int b t3)] := hb s [.int i t1, .int a t2, .int b t3] M.kin rfl
  refine wpAny_call (codeAny_call_function (by omega) (M.kin _ _ lk) rfl rfl rfl rfl (PySem.W.codeRec_of M.kin hcd) (hbt _ _ _ _ ?_))
  refine wpAny_newFunctionEnv_cells rfl (fun y hy => ?_) fun env he s1 x => ?_
  · simp only [List.mem_cons, List.mem_nil_iff, or_false] at hy
    rcases hy with rfl | rfl | rfl <;> exact .inl rfl
  · subst he
    obtain ⟨h1, tk1, rfl, hk1⟩ := x.done
    refine ⟨M.nolimit.keeps hk1, codeAny_func ?_⟩
    have M1 : L2.Mod K mg h1 := mod_keeps M hk1
    have hn := x.toInCall.ns
    have e1 : ∀ tk : Nat, ({ s with heap := h1, toks := tk } : Shared).heap.Ns s.heap.objs.size _ := fun _ => hn
    refine wpAny_execs_cons (wpAny_Return_some ?_)
    refine BoolOp_and (ev_isi (b := true) M1 rfl rfl rfl rfl rfl rfl hn rfl m1 m2 (show bootBuiltins "int" = some (.type "int") by decide +kernel) (kit_ty (by decide +kernel)) fun tk2 => ?_)
    refine wpAny_truthy_bool ?_
    refine BoolOp_and (UnaryOp_ (ev_isi (b := false) M1 rfl rfl rfl rfl rfl rfl hn rfl m1 m3 (show bootBuiltins "bool" = some (.type "bool") by decide +kernel) (kit_ty (by decide +kernel)) fun tk3 => ?_))
    refine not_of (wpAny_truthy_bool (wpAny_truthy_bool ?_))
    refine BoolOp_one ?_
    refine Compare_chain (ev_loc rfl rfl hn rfl (chain_link (ev_loc rfl rfl hn rfl ?_)))
    have fin : ∀ (b' : Bool) (tk : Nat), b' = decide (a ≤ i ∧ i ≤ b) → Value.bool b' = Value.bool (decide (a ≤ i ∧ i ≤ b)) ∧ Keeps s { s with heap := h1, toks := tk } := fun b' tk e => ⟨by rw [e], h1, tk, rfl, hk1⟩
    refine le_int (wpAny_truthy_bool ?_)
    by_cases h1' : a ≤ i
    · rw [decide_eq_true h1']
      refine ite_tt (chain_last (ev_loc rfl rfl hn rfl (le_int ?_)))
      refine fin _ _ ?_
      by_cases h2' : i ≤ b
      · rw [decide_eq_true h2', decide_eq_true ⟨h1', h2'⟩]
      · rw [decide_eq_false h2', decide_eq_false (fun z => h2' z.2)]
    · rw [decide_eq_false h1']
      exact ite_ff (fin _ _ (decide_eq_false (fun z => h1' z.1)).symm)
end
end Dw

set_option Elab.async false
set_option maxRecDepth 100000
set_option maxHeartbeats 4000000
/-! all(test for x in a tuple of ints): the test may call. -/
namespace Dw
open PySem PySem.Spec PyProof.Rows L2
/-- what is asked of the element: at any state behind the making of the generator, where all but the table at P stands -/
def EltI (X : Cx) (P : Addr) (scope : Scope) (x : Str) (elt : Expr) (R : L2.St → Hp → Prop) (pb : Int → Bool) : Prop :=
  ∀ (pins : List (Addr × Obj)) (σ : L2.St) (H1 : Hp) (s1 : Shared), Inv X pins σ H1 s1 → R σ H1 → (∃ ps, H1 P = some (.tbl ps)) →
    ∀ (cenv : Env) (A' : Around) (E' : Value → Shared → Prop) (i : Int) (t : Tok) (s₂ : Shared) (m₂ : Str → Option Value), A'.handled = none → A'.depth ≤ X.A.depth + 1 → cenv.scope = scope → cenv.globals = mainGlobals → cenv.builtins = builtinsNs →
      cenv.cells = cloFrom X.env.cells scope.names [] → (∀ b o, b ≠ P → s1.heap.get? b = some o → s₂.heap.get? b = some o) → L2.Mod X.K X.mg s₂.heap → s₂.heap.Ns cenv.locals m₂ → m₂ x = some (.int i t) →
      wpAny (model X.prog X.w) A' (eval elt cenv) (fun y s₃ => y = .bool (pb i) ∧ Keeps s₂ s₃) E' s₂
section
variable {X : Cx} {pins : List (Addr × Obj)} {σ : L2.St} {H : Hp} {s : Shared}
/-- the generator g, ready to be walked: n turns whose values are told by F -/
def ReadyG (X : Cx) (pins : List (Addr × Obj)) (σ : L2.St) (H1 : Hp) (P : Addr) (n : Nat) (F : Nat → Value → Prop) (g : Addr) (s5 : Shared) : Prop :=
  ∃ (fp wr : List Addr) (G : Array GenState → Array GenState → Prop) (St : Nat → Shared → Prop),
    WalksS X.prog X.w X.A.in1 g fp wr G n F St ∧ St 0 s5 ∧ (∀ b ∈ fp, b < s5.heap.objs.size) ∧
    ∀ s', Moved wr G s5 s' → ∃ H2, GxR.Tabbed P H1 H2 ∧ Inv X pins σ H2 s'

theorem gen_tup {c P : Addr} {elt iter : Expr} {x : Str} {px gpos : Pos} {scope : Scope} {pb : Int → Bool} {te : TE} {k : Nat} {Q' : Value → Shared → Prop} {R : L2.St → Hp → Prop} {RR : List Int → Hp → Prop}
    (hr : Room k X.A) (TB : GxR.TabB X.base X.mg c P) (hcode : X.env.code = .ref c) (S : GxR.GenS X.env scope x) (hi : PE X iter te) (hel : EltI X P scope x elt R pb)
    (hs : ∀ v, genFold iter X.env v = pure v) (I : Inv X pins σ H s) (h : te σ H fun v H1 => ∃ (yl : Addr) (ws : List Int), v = .ref yl ∧ SqT X.K H1 yl (ws.map V.int) ∧ R σ H1 ∧ GxR.TabG H1 P ∧ RR ws H1)
    (hQ : ∀ ws H1 g s5, RR ws H1 → ReadyG X pins σ H1 P ws.length (fun j y => ∃ i, ws[j]? = some i ∧ y = .bool (pb i)) g s5 → Q' (.ref g) s5) :
    wpAny (model X.prog X.w) X.A (eval (.GeneratorExp elt [⟨.Name x px, iter, [], 0⟩] scope gpos) X.env) Q' X.xe s := by
  refine wpAny_GeneratorExp_walksQD hr.hd S.co (closure_ok S.free) S.cell S.dot S.loc S.kind (by have := hr.dp; omega) ?_ hs
  refine thn (hi.run pins s σ H _ I h) fun xv s1 ⟨v, H1, I1, r1, q1⟩ => ?_
  obtain ⟨yl, ws, rfl, hyl, hR, hTG, q1⟩ := q1
  obtain ⟨ps, hP, ht⟩ := id hTG
  obtain rfl : xv = Value.ref yl := r1
  obtain ⟨its, rv, hl, hz⟩ := I1.tuple hyl
  have hIL : s1.heap.IsTuple yl its.toArray := hl
  have hlen : its.length = ws.length := by rw [← rv.length, List.length_map]
  have hat : ∀ (i : Nat) (v : Value), its.toArray[i]? = some v → ∃ (a : Int) (u : Tok), ws[i]? = some a ∧ v = .int a u := fun i v hv => by
    have hv2 : its[i]? = some v := by simpa using hv
    have hi2 : i < its.length := (List.getElem?_eq_some_iff.mp hv2).1
    obtain ⟨a, ha⟩ : ∃ a, ws[i]? = some a := ⟨ws[i]'(by omega), List.getElem?_eq_getElem _⟩
    have hb : (ws.map V.int)[i]? = some (V.int a) := by rw [List.getElem?_map, ha] <;> rfl
    obtain ⟨u, hu, ru⟩ := rv.get hb
    rw [hv2] at hu
    cases hu
    obtain ⟨t, e⟩ := (show ∃ t, v = Value.int a t from ru)
    exact ⟨a, t, ha, e⟩
  refine wpAny_pyIter_tuple hIL ?_
  generalize ho : ({ cls := .type "tuple_iterator", data := .fields #[.ref yl, .int 0 0] } : Obj) = o
  have hitr : (s1.heap.push o).IsTupleIter s1.heap.objs.size yl 0 := by
    subst ho
    exact ⟨_, Heap.get?_push_size _ rfl, rfl, rfl⟩
  have hylt : yl < s1.heap.objs.size := by
    obtain ⟨_, e, _⟩ := id hIL
    exact Heap.lt_size e
  have hPs : s1.heap.get? P = some { cls := .none, data := .fields ps } := I1.hok P _ hP
  have hPlt : P < s1.heap.objs.size := Heap.lt_size hPs
  have hP2 : (s1.heap.push o).get? P = some { cls := .none, data := .fields ps } := Heap.get?_push_of_some _ hPs
  have cd : PySem.W.CodeHd (s1.heap.push o) c P := TB.code.keeps fun b u e => Heap.get?_push_of_some _ (I1.bk b u e)
  have lim2 : (s1.heap.push o).NoLimit := I1.nolimit.push o
  have M1 : L2.Mod X.K X.mg s1.heap := mod_keeps I1.mod I1.bk
  have cont : ∀ (code : Value) (h3 : Heap) (tk : Nat) (ps' : Array Value), Heap.ExtBut P (s1.heap.push o) h3 → (s1.heap.push o).objs.size ≤ h3.objs.size → h3.get? P = some { cls := .none, data := .fields ps' } → (∃ more, ps' = ps ++ more) → TriplesOk ps'.toList →
      wpAny (model X.prog X.w) X.A (builtinsFor X.env.globals X.env.builtins) (fun bi s₄ =>
        ∃ Ia fp wr n₀ Pf St₀ pz F, Value.ref s1.heap.objs.size = .ref Ia ∧ (∀ A' : Around, A'.handled = none → Walks X.prog X.w A' Ia fp wr n₀ Pf St₀) ∧ St₀ 0 s₄.heap ∧ (∀ b ∈ fp, b < s₄.heap.objs.size) ∧ s₄.heap.NoLimit ∧ cStatics ∉ wr ∧
          (∀ href : Heap, (∀ b o, s₄.heap.get? b = some o → href.get? b = some o) →
            QuietGenD X.prog X.w (genEnv scope (cloFrom X.env.cells scope.names []) s₄.heap.objs.size code bi X.env) x [] elt (List.range s₄.heap.objs.size) wr Pf pz F href (X.A.depth + 1) (X.A.units + 8)) ∧
          (∀ a h₅ tk gs, gs.bare = true → s₄.heap.objs.size < a → h₅.objs.size = a + 1 → (∀ b o, s₄.heap.get? b = some o → h₅.get? b = some o) →
            WalksS X.prog X.w X.A.in4 a (a :: s₄.heap.objs.size :: List.range s₄.heap.objs.size) (s₄.heap.objs.size :: wr) (GenOnlyQ s₄.gens.size) (passing pz n₀ 0).length
              (fun j y => ∃ i, (passing pz n₀ 0)[j]? = some i ∧ F i y) (GenAt X.prog X.w X.A.in4 a s₄.gens.size s₄.heap.objs.size (List.range s₄.heap.objs.size) wr pz n₀ F) →
            GenAt X.prog X.w X.A.in4 a s₄.gens.size s₄.heap.objs.size (List.range s₄.heap.objs.size) wr pz n₀ F 0 { s₄ with gens := s₄.gens.push gs, toks := tk, heap := h₅ } →
            Q' (.ref a) { s₄ with gens := s₄.gens.push gs, toks := tk, heap := h₅ })) X.xe { s1 with heap := h3, toks := tk } := by
    intro code h3 tk ps' hx hsz hP3 hmore ht3
    obtain ⟨bm, ob, e1, e2, e3, e4, e5, e6, e7, e8⟩ := TB.bm
    have hcP : cStatics ≠ P := fun e => by
      obtain ⟨_, hns, _⟩ := I1.nolimit
      obtain ⟨o', es, ep, ho, hd, _⟩ := hns
      rw [e, hPs] at ho
      cases ho
      cases hd
    have hcl : cStatics < s1.heap.objs.size := let ⟨_, hns, _⟩ := I1.nolimit; hns.lt
    have sz2 : (s1.heap.push o).objs.size = s1.heap.objs.size + 1 := Heap.size_push ..
    have keep3 : ∀ b u, b ≠ P → s1.heap.get? b = some u → h3.get? b = some u := fun b u hb e => hx b u hb (Heap.get?_push_of_some _ e)
    refine wpAny_builtinsFor (m := X.mg) (by rw [I1.ok.glob]; exact ((I1.mod.glob.keeps I1.bk).push o).extBut hx TB.gP) e1 e2 (keep3 _ _ e4 (I1.bk _ _ e5)) e6 e7 e8 ?_
    have hylP : yl ≠ P := fun z => by
      obtain ⟨_, e, hc1, _, hd1⟩ := id hIL
      rw [z, hPs] at e
      cases e
      cases hd1
    have hIL3 : h3.IsTuple yl its.toArray := by
      obtain ⟨ob, e, r⟩ := id hIL
      exact ⟨ob, keep3 _ _ hylP e, r⟩
    have hItr3 : h3.IsTupleIter s1.heap.objs.size yl 0 := hitr.at fun u e => hx _ u (Nat.ne_of_gt hPlt) e
    refine ⟨s1.heap.objs.size, [s1.heap.objs.size, yl], [s1.heap.objs.size], its.toArray.size, (fun i v => its.toArray[i]? = some v), (fun i h => h.IsTupleIter s1.heap.objs.size yl i ∧ h.IsTuple yl its.toArray), (fun _ => true),
      (fun i y => ∃ (a : Int), ws[i]? = some a ∧ y = .bool (pb a)), rfl, (fun A' hA => Walks.tuple hA _ _ (Nat.ne_of_lt hylt) _), ⟨hItr3, hIL3⟩, ?_, lim2.extBut hx hcP, ?_, ?_, ?_⟩
    · intro b hb
      rcases List.mem_cons.mp hb with z | z
      · rw [z]
        show s1.heap.objs.size < h3.objs.size
        omega
      · rcases List.mem_cons.mp z with z | z
        · rw [z]
          have e9 : s1.heap.objs.size ≤ h3.objs.size := by omega
          exact Nat.lt_of_lt_of_le hylt e9
        · cases z
    · intro z
      rcases List.mem_cons.mp z with z | z
      · exact Nat.ne_of_lt hcl z
      · cases z
    · intro href hhref
      refine ⟨fun A' E' i v s₂ m₂ hA _ _ hPv hn hm hk => ?_, fun A' E' i v s₂ m₂ hA hD hU hPv hp hn hm hk => ?_⟩
      · simp only [List.forIn_nil]
        exact wpAny_pure ⟨rfl, GxR.keeps_refl _⟩
      · obtain ⟨a, u, ha, rfl⟩ := hat i v hPv
        have kp : ∀ b ob, b ≠ P → s1.heap.get? b = some ob → s₂.heap.get? b = some ob := fun b ob hb e => by
          have hlt := Heap.lt_size e
          have hle : s1.heap.objs.size ≤ h3.objs.size := by omega
          refine hk b (List.mem_range.mpr (Nat.lt_of_lt_of_le hlt hle)) (fun z => ?_) ob (hhref b ob (keep3 b ob hb e))
          rcases List.mem_cons.mp z with z | z
          · rw [z] at hlt
            exact Nat.lt_irrefl _ hlt
          · cases z
        have nB : ∀ b ob, X.base.get? b = some ob → b ≠ P := fun b ob e z => by
          have q := (I1.bs b ob e).2
          rw [z, hP] at q
          cases q
        have M2 : L2.Mod X.K X.mg s₂.heap := mod_keeps I1.mod fun b ob e => kp b ob (nB b ob e) (I1.bk b ob e)
        refine wpAny_mono (hel pins σ H1 s1 I1 hR ⟨ps, hP⟩ _ A' E' a u s₂ m₂ hA hD rfl I1.ok.glob rfl rfl kp M2 hn hm) (fun y s3 r => ?_) fun _ _ e => e
        exact ⟨⟨a, ha, r.1⟩, r.2⟩
    · intro g h5 tk5 gs hgb hag hsz5 hk5 W5 hgat
      simp only [GxR.passing_true, List.length_range] at W5
      have hn5 : its.toArray.size = ws.length := by rw [List.size_toArray, hlen]
      rw [hn5] at W5 hgat
      have W6 := W5.in4_1
      have conv : ∀ (j : Nat) (y : Value), (∃ i : Nat, (List.range ws.length)[j]? = some i ∧ ∃ (a : Int), ws[i]? = some a ∧ y = Value.bool (pb a)) → ∃ i : Int, ws[j]? = some i ∧ y = Value.bool (pb i) := fun j y hh => by
        obtain ⟨i, hij, a, ha, e⟩ := hh
        obtain ⟨hj, ej⟩ := List.getElem?_eq_some_iff.mp hij
        rw [List.getElem_range] at ej
        subst ej
        exact ⟨a, ha, e⟩
      refine hQ ws H1 g _ q1 ⟨_, _, _, _, ⟨W6.sub, W6.grefl, W6.gtrans, W6.frame, fun i s Q E hi st hQ => W6.item i s Q E hi st (fun v s' hv => hQ v s' (conv i v hv)), W6.done, W6.self⟩, hgat, ?_, fun s' hm => ?_⟩
      · intro b hb
        show b < h5.objs.size
        have e5 : h5.objs.size = g + 1 := hsz5
        have h8 : h3.objs.size < g := hag
        rw [e5]
        rcases List.mem_cons.mp hb with z | z
        · rw [z]
          exact Nat.lt_succ_self g
        · rcases List.mem_cons.mp z with z | z
          · rw [z]
            exact Nat.lt_succ_of_lt h8
          · have z2 := List.mem_range.mp z
            have h7 : b < h3.objs.size := z2
            exact Nat.lt_succ_of_lt (Nat.lt_trans h7 h8)
      · obtain ⟨more, em⟩ := hmore
        have nwr : ∀ b u, s1.heap.get? b = some u → b ∉ h3.objs.size :: [s1.heap.objs.size] := fun b u e hb => by
          have hl := Heap.lt_size e
          rcases List.mem_cons.mp hb with z | z
          · rw [z] at hl
            have h9 : (h3.objs.size : Nat) < s1.heap.objs.size := hl
            omega
          · rcases List.mem_cons.mp z with z | z
            · rw [z] at hl
              exact Nat.lt_irrefl _ hl
            · cases z
        have J := GxR.inv_tab (more := more) (h' := s'.heap) (g' := s'.gens) (d' := s'.drawn) (t' := s'.toks) I1 hP (fun b u hb e => hm.heap b u (nwr b u e) (hk5 b u (keep3 b u hb e)))
          (by rw [← em]; exact hm.heap P _ (nwr P _ hPs) (hk5 P _ hP3)) (AllBare.movedS (I1.bare.push hgb) hm)
        rw [GxR.sh_eta s1 s' hm.os] at J
        refine ⟨upd H1 P (.tbl (ps ++ more)), ⟨⟨ps ++ more, upd_same, by rw [← em]; exact ht3⟩, fun b hb => upd_ne hb⟩, J⟩
  refine ⟨lim2, ?_⟩
  cases hf : codeAmong gpos ps.toList with
  | none =>
    refine wpAny_genexprCodeX hcode (cd.code hP2 ht) (cd.tab hP2) hf fun c' h' tk hx hge hlt hco' _ htab' _ => ?_
    obtain ⟨o1, vs, f1, tf, fl, tg, inF, tx, tt, op, _, _, _, _, _, _, _, _, _, htr, _⟩ := hco'
    exact cont _ h' tk _ hx (Nat.le_trans hge (Nat.le_of_lt hlt)) htab'.2 ⟨_, rfl⟩ htr
  | some cv =>
    refine wpAny_genexprCode_hit hcode (cd.code hP2 ht) hf ?_
    exact cont cv (s1.heap.push o) s1.toks ps (Heap.ExtBut.refl _ _) (Nat.le_refl _) hP2 ⟨#[], by simp⟩ ht

/-- all(test for x in e), e a tuple of ints; behind it the def's table may have grown -/
def tAllT (K : PySem.W.Frag) (P : Addr) (R : L2.St → Hp → Prop) (pb : Int → Bool) (te : TE) : TE := fun σ H Q => te σ H fun v H1 => ∃ (yl : Addr) (ws : List Int), v = .ref yl ∧ SqT K H1 yl (ws.map V.int) ∧ R σ H1 ∧ GxR.TabG H1 P ∧ ∀ H2, GxR.Tabbed P H1 H2 → Q (.bl (ws.all pb)) H2
/-- all of a generator that is ready, its values bools -/
def blF (bs : List Bool) (j : Nat) : Bool := bs.getD j false
theorem all_blF (bs : List Bool) : (List.range bs.length).all (blF bs) = bs.all id := by
  rw [Bool.eq_iff_iff, List.all_eq_true, List.all_eq_true]
  constructor
  · intro h b hb
    obtain ⟨j, hj, e⟩ := List.getElem_of_mem hb
    have q := h j (List.mem_range.mpr hj)
    unfold blF at q
    rw [List.getD_eq_getElem?_getD, List.getElem?_eq_getElem hj, e] at q
    exact q
  · intro h j hj
    have hj' := List.mem_range.mp hj
    unfold blF
    rw [List.getD_eq_getElem?_getD, List.getElem?_eq_getElem hj']
    exact h _ (List.getElem_mem hj')
theorem all_ready {P : Addr} {H1 : Hp} {bs : List Bool} {F : Nat → Value → Prop} {g : Addr} {s5 : Shared} {Q : VK} (hF : ∀ j y, F j y → ∃ b, bs[j]? = some b ∧ y = .bool b) (hG : ReadyG X pins σ H1 P bs.length F g s5)
    (hR : ∀ H2, GxR.Tabbed P H1 H2 → Q (.bl (bs.all id)) H2) : wpAny (model X.prog X.w) X.A (call (.builtin "all") [.ref g]) (EP X pins σ Q) X.xe s5 := by
  obtain ⟨fp, wr, G, St, W, hst, hfp, hI⟩ := hG
  refine call_all_walkS (W.self 0 _ _ _ hst ⟨g, fp, wr, G, _, F, St, blF bs, rfl, W, hst, fun i v s Q E hv hq => ?_, fun s' hmv => ?_⟩)
  · obtain ⟨b, hb, rfl⟩ := hF i v hv
    refine wpAny_truthy_bool ?_
    unfold blF at hq
    rw [List.getD_eq_getElem?_getD, hb] at hq
    exact hq
  · obtain ⟨H2, hT, J⟩ := hI s' hmv
    refine ⟨.bl _, H2, J, rfl, ?_⟩
    rw [all_blF bs]
    exact hR H2 hT
theorem pe_allT {c P : Addr} {elt iter : Expr} {x : Str} {px p pos gpos : Pos} {scope : Scope} {R : L2.St → Hp → Prop} {pb : Int → Bool} {te : TE} {k : Nat}
    (hr : Room k X.A) (hg : Gl X "all") (hm : X.mg "all" = none) (TB : GxR.TabB X.base X.mg c P) (hcode : X.env.code = .ref c) (S : GxR.GenS X.env scope x) (hi : PE X iter te) (hel : EltI X P scope x elt R pb)
    (hs : ∀ v, genFold iter X.env v = pure v)
    (he : starEach [.GeneratorExp elt [⟨.Name x px, iter, [], 0⟩] scope gpos] X.env = (false, eval (.GeneratorExp elt [⟨.Name x px, iter, [], 0⟩] scope gpos) X.env) :: starEach [] X.env := by rfl) :
    PE X (.Call (.Name "all" p) [.GeneratorExp elt [⟨.Name x px, iter, [], 0⟩] scope gpos] [] pos) (tAllT X.K P R pb te) := by
  refine ⟨fun pins s σ H Q I h => ?_⟩
  refine wpAny_Call_Name_kw (ld_blt I hg hm (show bootBuiltins "all" = some (.builtin "all") by decide +kernel) ?_)
  refine PyProof.Rows.callWith_builtin1 ?_ he (by rfl)
  rw [he]
  show wpAny _ _ (spliced ((false, eval (.GeneratorExp elt [⟨.Name x px, iter, [], 0⟩] scope gpos) X.env) :: backTo pos (starEach [] X.env))) _ _ s
  refine Calls.spliced_cons (gen_tup (R := R) (RR := fun ws H1 => ∀ H2, GxR.Tabbed P H1 H2 → Q (.bl (ws.all pb)) H2) hr TB hcode S hi hel hs I h fun ws H1 g s5 hR hG => ?_)
  refine Calls.spliced_nil ?_
  have e : (ws.map pb).length = ws.length := List.length_map ..
  refine all_ready (bs := ws.map pb) (F := fun j y => ∃ i, ws[j]? = some i ∧ y = .bool (pb i)) (fun j y ⟨i, hi, hy⟩ => ⟨pb i, by rw [List.getElem?_map, hi] <;> rfl, hy⟩) (by rw [e]; exact hG) fun H2 hT => ?_
  rw [List.all_map]
  exact hR H2 hT
end
end Dw

set_option Elab.async false
set_option maxRecDepth 100000
set_option maxHeartbeats 4000000
/-! A generator expression over a walk of pairs (a, (b, c, d)), unpacked: elt for a, (b, c, d) in .. -/
namespace Dw
open PySem PySem.Spec PyProof.Rows L2
open PySem.Sem (wp)
section
variable {prog : Program} {w : World} {A : Around}
/-- the element is quiet: it changes nothing that stood -/
def QuietZ (prog : Program) (w : World) (cenv : Env) (xa x1 x2 x3 : Str) (elt : Expr) (Pt : Nat → Value → Value → Value → Value → Prop) (F : Nat → Value → Prop) : Prop :=
  ∀ (A' : Around) (E' : Value → Shared → Prop) i va v1 v2 v3 (s₂ : Shared) m₂, A'.handled = none → Pt i va v1 v2 v3 → s₂.heap.Ns cenv.locals m₂ → m₂ xa = some va → m₂ x1 = some v1 → m₂ x2 = some v2 → m₂ x3 = some v3 →
    wpAny (model prog w) A' (eval elt cenv) (fun y s₃ => F i y ∧ Keeps s₂ s₃) E' s₂

theorem seg_genLoopZ {elt iter : Expr} {xa x1 x2 x3 : Str} {pa p1 p2 p3 pt pq : Pos} {kt kq : Nat} {scope : Scope} {pos : Pos} {I : Addr} {fp wr : List Addr} {n₀ : Nat} {Pt : Nat → Array Value → Prop} {St₀ : Nat → Heap → Prop} {Mid : Nat → Addr → Heap → Prop} {cenv : Env} {PV : Nat → Value → Value → Value → Value → Prop}
    (hh : A.handled = none) (W₀ : ∀ A' : Around, A'.handled = none → WalksU prog w A' I fp wr n₀ Pt St₀ Mid) (href : Heap)
    (hsz : ∀ i vals, Pt i vals → ∃ va B v1 v2 v3, vals = #[va, .ref B] ∧ PV i va v1 v2 v3 ∧ B ∈ fp ∧ B ∉ wr ∧ href.IsTuple B #[v1, v2, v3]) (F : Nat → Value → Prop)
    (ha1 : xa ≠ x1) (ha2 : xa ≠ x2) (ha3 : xa ≠ x3) (h12 : x1 ≠ x2) (h13 : x1 ≠ x3) (h23 : x2 ≠ x3)
    (hxa : cenv.kindOf xa = some .local) (hx1 : cenv.kindOf x1 = some .local) (hx2 : cenv.kindOf x2 = some .local) (hx3 : cenv.kindOf x3 = some .local) (hp : (cenv.scope.kind == .class || (cenv.scope.kind == .module && cenv.locals != cenv.globals)) = false)
    (hco : cenv.scope.isCoroutine = false) (hCf : cenv.locals ∉ fp) (hq : QuietZ prog w cenv xa x1 x2 x3 elt PV F) :
    ∀ (k i : Nat) (s₀ s : Shared) (m : Str → Option Value), n₀ - i = k → i ≤ n₀ → St₀ i s.heap → s.heap.Ns cenv.locals m → GenSince cenv.locals wr s₀ s →
      (∀ b ∈ fp, b ∉ wr → ∀ o, href.get? b = some o → s.heap.get? b = some o) →
      Seg (model prog w) A (fun n s₀ r s₁ => r = .ok .next ∧ (n = 0 ∧ GenSince cenv.locals wr s₀ s₁)) (genProto cenv.locals fp wr (fun _ => true) n₀ F) (passing (fun _ => true) n₀ i).length s₀
        (.compLoop (.GeneratorExp elt [⟨.Tuple [.Name xa pa, .Tuple [.Name x1 p1, .Name x2 p2, .Name x3 p3] kq pq] kt pt, iter, [], 0⟩] scope pos) 0 (.ref I) .none cenv)
        ((model prog w).den (.compLoop (.GeneratorExp elt [⟨.Tuple [.Name xa pa, .Tuple [.Name x1 p1, .Name x2 p2, .Name x3 p3] kq pq] kt pt, iter, [], 0⟩] scope pos) 0 (.ref I) .none cenv)) [] s := by
  have hh' : (A.over (.compLoop (.GeneratorExp elt [⟨.Tuple [.Name xa pa, .Tuple [.Name x1 p1, .Name x2 p2, .Name x3 p3] kq pq] kt pt, iter, [], 0⟩] scope pos) 0 (.ref I) .none cenv) []).handled = none := hh
  have hCw : cenv.locals ∉ wr := fun h => hCf ((W₀ A hh).sub _ h)
  intro k
  induction k with
  | zero =>
    intro i s₀ s m hk hi hst hn hsince hkp
    have hin : i = n₀ := by omega
    subst hin
    show Seg _ A _ _ _ s₀ _ ((compTurn (.GeneratorExp elt [⟨.Tuple [.Name xa pa, .Tuple [.Name x1 p1, .Name x2 p2, .Name x3 p3] kq pq] kt pt, iter, [], 0⟩] scope pos) 0 (.ref I) .none cenv).onRaise (leaving cenv)) [] s
    rw [compTurn_gen, Sem.onRaise_eq_wrap]
    refine seg_bind_wrap (wpAny_standAt ?_)
    refine seg_bind_wrap ((W₀ _ hh').done s _ _ hst fun h' tk hk' => ?_)
    exact seg_end (.ok .next) ⟨rfl, by rw [passing_end]; rfl, hsince.step fun b o _ hw e => hk' b o hw e⟩
  | succ k ih =>
    intro i s₀ s m hk hi hst hn hsince hkp
    have hlt : i < n₀ := by omega
    show Seg _ A _ _ _ s₀ _ ((compTurn (.GeneratorExp elt [⟨.Tuple [.Name xa pa, .Tuple [.Name x1 p1, .Name x2 p2, .Name x3 p3] kq pq] kt pt, iter, [], 0⟩] scope pos) 0 (.ref I) .none cenv).onRaise (leaving cenv)) [] s
    rw [compTurn_gen, Sem.onRaise_eq_wrap]
    refine seg_bind_wrap (wpAny_standAt ?_)
    refine seg_bind_wrap ((W₀ _ hh').item i s _ _ hlt hst fun T vals h₁ tk₁ hPv hT₁ hmid hk₁ => ?_)
    obtain ⟨va, B, v1, v2, v3, rfl, hPV, hBf, hBw, hB⟩ := hsz i vals hPv
    refine seg_bind_wrap ((W₀ _ hh').go _ _ _ i T _ _ _ hmid fun h₁' hst₁ hk₁' => ?_)
    have hT₁' : h₁'.IsTuple T #[va, .ref B] := let ⟨o, e, r⟩ := hT₁; ⟨o, hk₁' _ o ((W₀ _ hh').apart i T _ hmid) e, r⟩
    refine seg_bind_wrap (wpAny_assign_Tuple hh' hT₁' rfl rfl fun h₁'' hx₁ => ?_)
    replace hx₁ : Heap.ExtBut h₁'.objs.size h₁' h₁'' := hx₁
    have old₁ : ∀ b o, h₁'.get? b = some o → h₁''.get? b = some o := fun b o e => hx₁ b o (Nat.ne_of_lt (Heap.lt_size e)) e
    show wpAny _ _ (do holding [.ref B] (assign (.Name xa pa) cenv va); do holding [] (assign (.Tuple [.Name x1 p1, .Name x2 p2, .Name x3 p3] kq pq) cenv (.ref B)); pure ()) _ _ _
    refine wpAny_bind (wpAny_holding (wpAny_assign_Name (wpAny_storeName_local hxa (hn.at' fun o e => old₁ _ o (hk₁' _ o hCw (hk₁ _ o hCw e))) (fun h₂a hn₂a hs₂a => ?_) hp)))
    replace hs₂a : Heap.SameBut cenv.locals h₁'' h₂a := hs₂a
    have hBC : B ≠ cenv.locals := fun z => hCf (z ▸ hBf)
    have upa : ∀ b o, b ≠ cenv.locals → b ∉ wr → s.heap.get? b = some o → h₂a.get? b = some o := fun b o hbC hbw e => hs₂a.extBut b o hbC (old₁ b o (hk₁' b o hbw (hk₁ b o hbw e)))
    have hB₂ : h₂a.IsTuple B #[v1, v2, v3] := let ⟨o, e, r⟩ := hB; ⟨o, upa B o hBC hBw (hkp B hBf hBw o e), r⟩
    refine wpAny_bind (wpAny_holding (wpAny_assign_Tuple hh' hB₂ rfl rfl fun h₂b hx₂ => ?_))
    replace hx₂ : Heap.ExtBut h₂a.objs.size h₂a h₂b := hx₂
    have old₂ : ∀ b o, h₂a.get? b = some o → h₂b.get? b = some o := fun b o e => hx₂ b o (Nat.ne_of_lt (Heap.lt_size e)) e
    show wpAny _ _ (do holding [v2, v3] (assign (.Name x1 p1) cenv v1); do holding [v3] (assign (.Name x2 p2) cenv v2); do holding [] (assign (.Name x3 p3) cenv v3); pure ()) _ _ _
    refine wpAny_bind (wpAny_holding (wpAny_assign_Name (wpAny_storeName_local hx1 (hn₂a.at' fun o e => old₂ _ o e) (fun h₂c hn₂c hs₂c => ?_) hp)))
    replace hs₂c : Heap.SameBut cenv.locals h₂b h₂c := hs₂c
    refine wpAny_bind (wpAny_holding (wpAny_assign_Name (wpAny_storeName_local hx2 hn₂c (fun h₂d hn₂d hs₂d => ?_) hp)))
    replace hs₂d : Heap.SameBut cenv.locals h₂c h₂d := hs₂d
    refine wpAny_bind (wpAny_holding (wpAny_assign_Name (wpAny_storeName_local hx3 hn₂d (fun h₂ hn₂ hs₂ => wpAny_pure (wpAny_pure ?_)) hp)))
    replace hs₂ : Heap.SameBut cenv.locals h₂d h₂ := hs₂
    have aft : ∀ b o, b ≠ cenv.locals → h₁'.get? b = some o → h₂.get? b = some o := fun b o hbC e => hs₂.extBut b o hbC (hs₂d.extBut b o hbC (hs₂c.extBut b o hbC (old₂ b o (hs₂a.extBut b o hbC (old₁ b o e)))))
    have up₂ : ∀ b o, b ≠ cenv.locals → b ∉ wr → s.heap.get? b = some o → h₂.get? b = some o := fun b o hbC hbw e => aft b o hbC (hk₁' b o hbw (hk₁ b o hbw e))
    have hst₂ : St₀ (i + 1) h₂ := (W₀ A hh).frame _ _ _ hst₁ fun b hb o e => aft b o (fun h => hCf (h ▸ hb)) e
    have hkp₂ : ∀ b ∈ fp, b ∉ wr → ∀ o, href.get? b = some o → h₂.get? b = some o := fun b hb hbw o e => up₂ b o (fun h => hCf (h ▸ hb)) hbw (hkp b hb hbw o e)
    have hsince₃ : GenSince cenv.locals wr s₀ { s with heap := h₂, toks := tk₁ } := hsince.step fun b o hbC hbw e => up₂ b o hbC hbw e
    simp only [List.forIn_nil]
    refine seg_bind_wrap (wpAny_pure ?_)
    rw [passing_true hlt rfl, List.length_cons]
    simp only [if_true]
    have hy : ∀ v, yieldOut cenv v = yieldValue v := fun v => by simp only [yieldOut, hco, Bool.false_eq_true, if_false]
    simp only [hy]
    rw [Sem.bind_eq_wrap', Sem.bind_eq_wrap', Sem.wrap_wrap, Sem.wrap_wrap]
    refine seg_wrap (wpAny_mono (hq _ _ i va v1 v2 v3 _ _ hh' hPV hn₂ (by simp [ha1, ha2, ha3]) (by simp [h12, h13]) (by simp [h23]) (by simp)) (fun y s₄ h₄ => ?_) fun _ _ e => e)
    obtain ⟨hFy, h₄, tk₄, rfl, hk₄⟩ := h₄
    refine seg_at (seg_yield rfl rfl rfl ⟨⟨i, passing_here hlt rfl, hFy⟩, hsince₃.step fun b o _ _ e => hk₄ b o e, fun s'' hal => ?_⟩)
    refine seg_again rfl (ih (i + 1) s'' s'' _ (by omega) hlt ((W₀ A hh).frame _ _ _ hst₂ fun b hb o e => hal b (List.mem_cons_of_mem _ hb) o (hk₄ b o e))
      ((hn₂.keeps hk₄).at' fun o e => hal _ (List.mem_cons_self ..) o e) (GenSince.refl _ _ _) fun b hb hbw o e => hal b (List.mem_cons_of_mem _ hb) o (hk₄ b o (hkp₂ b hb hbw o e)))

theorem seg_genStartZ {elt iter : Expr} {xa x1 x2 x3 : Str} {pa p1 p2 p3 pt pq : Pos} {kt kq : Nat} {scope : Scope} {pos : Pos} {I : Addr} {fp wr : List Addr} {n₀ : Nat} {Pt : Nat → Array Value → Prop} {St₀ : Nat → Heap → Prop} {Mid : Nat → Addr → Heap → Prop} {cenv : Env} {PV : Nat → Value → Value → Value → Value → Prop}
    (hh : A.handled = none) (W₀ : ∀ A' : Around, A'.handled = none → WalksU prog w A' I fp wr n₀ Pt St₀ Mid) (href : Heap)
    (hsz : ∀ i vals, Pt i vals → ∃ va B v1 v2 v3, vals = #[va, .ref B] ∧ PV i va v1 v2 v3 ∧ B ∈ fp ∧ B ∉ wr ∧ href.IsTuple B #[v1, v2, v3]) (F : Nat → Value → Prop)
    (ha1 : xa ≠ x1) (ha2 : xa ≠ x2) (ha3 : xa ≠ x3) (h12 : x1 ≠ x2) (h13 : x1 ≠ x3) (h23 : x2 ≠ x3)
    (hxa : cenv.kindOf xa = some .local) (hx1 : cenv.kindOf x1 = some .local) (hx2 : cenv.kindOf x2 = some .local) (hx3 : cenv.kindOf x3 = some .local) (hp : (cenv.scope.kind == .class || (cenv.scope.kind == .module && cenv.locals != cenv.globals)) = false)
    (hco : cenv.scope.isCoroutine = false) (hCf : cenv.locals ∉ fp) (hq : QuietZ prog w cenv xa x1 x2 x3 elt PV F)
    (s₀ s : Shared) (m : Str → Option Value) (hst : St₀ 0 s.heap) (hn : s.heap.Ns cenv.locals m) (hsince : GenSince cenv.locals wr s₀ s)
    (hkp : ∀ b ∈ fp, b ∉ wr → ∀ o, href.get? b = some o → s.heap.get? b = some o) :
    Seg (model prog w) A (fun n s₀ r s₁ => r = .ok .next ∧ (n = 0 ∧ GenSince cenv.locals wr s₀ s₁)) (genProto cenv.locals fp wr (fun _ => true) n₀ F) (passing (fun _ => true) n₀ 0).length s₀
      (.compStart (.GeneratorExp elt [⟨.Tuple [.Name xa pa, .Tuple [.Name x1 p1, .Name x2 p2, .Name x3 p3] kq pq] kt pt, iter, [], 0⟩] scope pos) 0 (.ref I) .none cenv)
      ((model prog w).den (.compStart (.GeneratorExp elt [⟨.Tuple [.Name xa pa, .Tuple [.Name x1 p1, .Name x2 p2, .Name x3 p3] kq pq] kt pt, iter, [], 0⟩] scope pos) 0 (.ref I) .none cenv)) [] s := by
  have hh' : (A.over (.compStart (.GeneratorExp elt [⟨.Tuple [.Name xa pa, .Tuple [.Name x1 p1, .Name x2 p2, .Name x3 p3] kq pq] kt pt, iter, [], 0⟩] scope pos) 0 (.ref I) .none cenv) []).handled = none := hh
  have loop := seg_genLoopZ (iter := iter) (pa := pa) (p1 := p1) (p2 := p2) (p3 := p3) (pt := pt) (pq := pq) (kt := kt) (kq := kq) (scope := scope) (pos := pos) hh W₀ href hsz F ha1 ha2 ha3 h12 h13 h23 hxa hx1 hx2 hx3 hp hco hCf hq n₀ 0 s₀ s m (Nat.sub_zero _) (Nat.zero_le _) hst hn hsince hkp
  show Seg _ A _ _ _ s₀ _ ((compStart (.GeneratorExp elt [⟨.Tuple [.Name xa pa, .Tuple [.Name x1 p1, .Name x2 p2, .Name x3 p3] kq pq] kt pt, iter, [], 0⟩] scope pos) 0 (.ref I) .none cenv).onRaise (leaving cenv)) [] s
  unfold compStart
  rw [Sem.onRaise_eq_wrap]
  show Seg _ A _ _ _ s₀ _ ((ask >>= _).wrap _ _ _ _) [] s
  refine seg_bind_wrap (wpAny_askSetting ?_)
  split
  · exact seg_again rfl loop
  · first
      | exact seg_bind_wrap (wpAny_rule (seg_bind_wrap (wpAny_standAt (seg_bind_wrap ((W₀ _ hh').self 0 s _ _ hst (seg_again rfl loop))))))
      | (refine seg_bind_wrap (wpAny_rule ?_); show Seg _ A _ _ _ s₀ _ ((standAt iter.pos >>= _).wrap _ _ _ _) [] s; exact seg_bind_wrap (wpAny_standAt (seg_bind_wrap ((W₀ _ hh').self 0 s _ _ hst (seg_again rfl loop)))))

theorem GenAt.freshZ {elt iter : Expr} {xa x1 x2 x3 : Str} {pa p1 p2 p3 pt pq : Pos} {kt kq : Nat} {scope : Scope} {pos : Pos} {I a : Addr} {g : Nat} {fp wr : List Addr} {n₀ : Nat} {Pt : Nat → Array Value → Prop} {St₀ : Nat → Heap → Prop} {Mid : Nat → Addr → Heap → Prop} {cenv : Env} {PV : Nat → Value → Value → Value → Value → Prop}
    (hh : A.handled = none) (W₀ : ∀ A' : Around, A'.handled = none → WalksU prog w A' I fp wr n₀ Pt St₀ Mid) {s : Shared}
    (hsz : ∀ i vals, Pt i vals → ∃ va B v1 v2 v3, vals = #[va, .ref B] ∧ PV i va v1 v2 v3 ∧ B ∈ fp ∧ B ∉ wr ∧ s.heap.IsTuple B #[v1, v2, v3]) (F : Nat → Value → Prop)
    (ha1 : xa ≠ x1) (ha2 : xa ≠ x2) (ha3 : xa ≠ x3) (h12 : x1 ≠ x2) (h13 : x1 ≠ x3) (h23 : x2 ≠ x3)
    (hxa : cenv.kindOf xa = some .local) (hx1 : cenv.kindOf x1 = some .local) (hx2 : cenv.kindOf x2 = some .local) (hx3 : cenv.kindOf x3 = some .local) (hp : (cenv.scope.kind == .class || (cenv.scope.kind == .module && cenv.locals != cenv.globals)) = false)
    (hco : cenv.scope.isCoroutine = false) (hCf : cenv.locals ∉ fp) {m : Str → Option Value} (hq : QuietZ prog w cenv xa x1 x2 x3 elt PV F)
    (hg : s.heap.IsGen a g) (hgs : s.gens[g]? = some (.fresh (.compStart (.GeneratorExp elt [⟨.Tuple [.Name xa pa, .Tuple [.Name x1 p1, .Name x2 p2, .Name x3 p3] kq pq] kt pt, iter, [], 0⟩] scope pos) 0 (.ref I) .none cenv)))
    (hst : St₀ 0 s.heap) (hn : s.heap.Ns cenv.locals m) (hl : s.heap.NoLimit) : GenAt prog w A a g cenv.locals fp wr (fun _ => true) n₀ F 0 s :=
  ⟨hg, hl, _, hgs, fun s'' hal => ⟨rfl, seg_genStartZ (A := A.in1) hh W₀ s.heap hsz F ha1 ha2 ha3 h12 h13 h23 hxa hx1 hx2 hx3 hp hco hCf hq s'' s'' m ((W₀ A hh).frame _ _ _ hst fun b hb o e => hal b (List.mem_cons_of_mem _ hb) o e)
    (hn.at' fun o e => hal _ (List.mem_cons_self ..) o e) (GenSince.refl _ _ _) fun b hb _ o e => hal b (List.mem_cons_of_mem _ hb) o e⟩⟩
end
section
variable {prog : Program} {w : World} {A : Around} {E : Value → Shared → Prop} {s : Shared}
theorem wpAny_GeneratorExp_walksQZ {env : Env} {elt iter : Expr} {xa x1 x2 x3 : Str} {pa p1 p2 p3 pt pq : Pos} {kt kq : Nat} {scope : Scope} {cl : List (Str × Addr)} {pos : Pos} {Q : Value → Shared → Prop}
    (hh : A.handled = none) (hco : scope.isCoroutine = false) (hclos : closureFor scope env = pure cl) (hcell : ∀ y ∈ scope.names, y.2 ≠ .cell) (h0 : scope.names.lookup (".0" : Str) = some NameKind.local)
    (hxa : scope.names.lookup xa = some .local) (hx1 : scope.names.lookup x1 = some .local) (hx2 : scope.names.lookup x2 = some .local) (hx3 : scope.names.lookup x3 = some .local)
    (ha1 : xa ≠ x1) (ha2 : xa ≠ x2) (ha3 : xa ≠ x3) (h12 : x1 ≠ x2) (h13 : x1 ≠ x3) (h23 : x2 ≠ x3) (hkind : scope.kind = .function) (hroom : A.depth < recursionLimit)
    (h : wpAny (model prog w) A (eval iter env) (fun xv s₁ => wpAny (model prog w) A (pyIter xv) (fun it s₂ => s₂.heap.NoLimit ∧
      wpAny (model prog w) A (genexprCode env pos (env.qual ++ "<genexpr>") scope) (fun code s₃ => wpAny (model prog w) A (builtinsFor env.globals env.builtins) (fun bi s₄ =>
        ∃ I fp wr n₀ Pt St₀ Mid PV F, it = .ref I ∧ (∀ A' : Around, A'.handled = none → WalksU prog w A' I fp wr n₀ Pt St₀ Mid) ∧
          (∀ i vals, Pt i vals → ∃ va B v1 v2 v3, vals = #[va, .ref B] ∧ PV i va v1 v2 v3 ∧ B < s₄.heap.objs.size ∧ B ∉ wr ∧ s₄.heap.IsTuple B #[v1, v2, v3]) ∧ St₀ 0 s₄.heap ∧ (∀ b ∈ fp, b < s₄.heap.objs.size) ∧ s₄.heap.NoLimit ∧ cStatics ∉ wr ∧
          QuietZ prog w (genEnv scope cl s₄.heap.objs.size code bi env) xa x1 x2 x3 elt PV F ∧
          (∀ a h₅ tk gs, gs.bare = true → s₄.heap.objs.size < a → h₅.objs.size = a + 1 → (∀ b o, s₄.heap.get? b = some o → h₅.get? b = some o) →
            WalksS prog w A.in4 a (a :: s₄.heap.objs.size :: List.range s₄.heap.objs.size) (s₄.heap.objs.size :: wr) (GenOnlyQ s₄.gens.size) (passing (fun _ => true) n₀ 0).length
              (fun j y => ∃ i, (passing (fun _ => true) n₀ 0)[j]? = some i ∧ F i y) (GenAt prog w A.in4 a s₄.gens.size s₄.heap.objs.size (List.range s₄.heap.objs.size) wr (fun _ => true) n₀ F) →
            GenAt prog w A.in4 a s₄.gens.size s₄.heap.objs.size (List.range s₄.heap.objs.size) wr (fun _ => true) n₀ F 0 { s₄ with gens := s₄.gens.push gs, toks := tk, heap := h₅ } →
            Q (.ref a) { s₄ with gens := s₄.gens.push gs, toks := tk, heap := h₅ })) E s₃) E s₂) E s₁) E s)
    (hs : ∀ x, genFold iter env x = pure x) :
    wpAny (model prog w) A (eval (.GeneratorExp elt [⟨.Tuple [.Name xa pa, .Tuple [.Name x1 p1, .Name x2 p2, .Name x3 p3] kq pq] kt pt, iter, [], 0⟩] scope pos) env) Q E s := by
  refine wpAny_GeneratorExp_make hco hclos hcell h0 hkind hroom (wpAny_mono h (fun xv s₁ h₁ => wpAny_mono h₁ (fun it s₂ h₂ => ⟨h₂.1, wpAny_mono h₂.2 (fun code s₃ h₃ => wpAny_mono h₃ (fun bi s₄ h₄ => ?_)
    fun _ _ e => e) fun _ _ e => e⟩) fun _ _ e => e) fun _ _ e => e) hs
  obtain ⟨I, fp, wr, n₀, Pt, St₀, Mid, PV, F, rfl, W₀, hsz2, hst, hfp, hl₄, hcw, hq, hQ⟩ := h₄
  have hclt : cStatics < s₄.heap.objs.size := let ⟨_, hn, _⟩ := hl₄; hn.lt
  intro h' hn' hs'
  have hsz : h'.objs.size = s₄.heap.objs.size + 1 := by rw [hs'.1, Heap.size_push]
  have keep' : ∀ b o, s₄.heap.get? b = some o → h'.get? b = some o := fun b o e => hs'.extBut b o (Nat.ne_of_lt (Heap.lt_size e)) (Heap.get?_push_of_some _ e)
  have hsub : ∀ b ∈ wr, b ∈ List.range s₄.heap.objs.size := fun b hb => List.mem_range.mpr (hfp b ((W₀ A hh).sub b hb))
  have haC : h'.objs.size ≠ s₄.heap.objs.size := by rw [hsz]; exact Nat.succ_ne_self _
  have haf : h'.objs.size ∉ List.range s₄.heap.objs.size := fun hm => by have := List.mem_range.mp hm; omega
  have keep₅ : ∀ b o, s₄.heap.get? b = some o → (h'.push { cls := .type "generator", data := .fields #[.int s₄.gens.size 0, .str "<genexpr>" (s₄.toks + 1), .str (env.qual ++ "<genexpr>") (s₄.toks + 1 + 1)] }).get? b = some o :=
    fun b o e => Heap.get?_push_of_some _ (keep' b o e)
  refine hQ _ _ _ _ rfl (by omega) (by rw [Heap.size_push]) keep₅ (WalksS.genexpQ (A := A.in4) hh _ _ _ _ wr (fun _ => true) n₀ F haC haf hsub hroom (List.mem_range.mpr hclt) (Nat.ne_of_lt hclt) hcw) ?_
  refine GenAt.freshZ (A := A.in4) (cenv := genEnv scope cl s₄.heap.objs.size code bi env) (m := fun y => if y = ".0" then some (.ref I) else none) hh
    (fun A' hA => (W₀ A' hA).mono_fp fun b hb => List.mem_range.mpr (hfp b hb)) (fun i vals hv => ?_) F ha1 ha2 ha3 h12 h13 h23 hxa hx1 hx2 hx3 (by simp [genEnv, hkind]) hco
    (fun hm => Nat.lt_irrefl _ (List.mem_range.mp hm)) hq ⟨_, _, _, Heap.get?_push_size _ rfl, rfl, rfl, rfl⟩ (Array.getElem?_push_size ..) ((W₀ A hh).frame _ _ _ hst fun b _ o e => keep₅ b o e) (hn'.push _) (hl₄.keeps keep₅)
  obtain ⟨va, B, v1, v2, v3, e1, e2, e3, e4, e5⟩ := hsz2 i vals hv
  exact ⟨va, B, v1, v2, v3, e1, e2, List.mem_range.mpr e3, e4, e5.at fun o e => keep₅ _ o e⟩
end
end Dw


set_option Elab.async false
set_option maxRecDepth 100000
set_option maxHeartbeats 4000000
/-! elt for a, (b, c, d) in zip(tuple of ints, list of triples), given to all or sum. -/
namespace Dw
open PySem PySem.Spec PyProof.Rows L2
/-- at b stands a list of the triples ts (new tuples each) -/
def Trip (H : Hp) (b : Addr) (ts : List (Int × Int × Int)) : Prop :=
  ∃ rs : List Addr, H b = some (.lst (rs.map V.ref)) ∧ rs.length = ts.length ∧ ∀ (i : Nat) r t, rs[i]? = some r → ts[i]? = some t → H r = some (.tup [.int t.1, .int t.2.1, .int t.2.2])
structure GenS4 (env : Env) (scope : Scope) (xa x1 x2 x3 : Str) : Prop where
  kind : scope.kind = .function
  co : scope.isCoroutine = false
  cell : ∀ y ∈ scope.names, y.2 ≠ .cell
  dot : scope.names.lookup (".0" : Str) = some NameKind.local
  la : scope.names.lookup xa = some .local
  l1 : scope.names.lookup x1 = some .local
  l2 : scope.names.lookup x2 = some .local
  l3 : scope.names.lookup x3 = some .local
  free : ∀ y ∈ scope.names, y.2 = .free → ∃ c, env.cells.lookup y.1 = some c
  a1 : xa ≠ x1
  a2 : xa ≠ x2
  a3 : xa ≠ x3
  d12 : x1 ≠ x2
  d13 : x1 ≠ x3
  d23 : x2 ≠ x3
def EltZ (X : Cx) (scope : Scope) (xa x1 : Str) (elt : Expr) (FV : Int → Int → Value → Prop) : Prop :=
  ∀ (cenv : Env) (A' : Around) (E' : Value → Shared → Prop) (d g : Int) (td tg : Tok) (s₂ : Shared) (m₂ : Str → Option Value), A'.handled = none → cenv.scope = scope → s₂.heap.Ns cenv.locals m₂ → m₂ xa = some (.int d td) → m₂ x1 = some (.int g tg) →
    wpAny (model X.prog X.w) A' (eval elt cenv) (fun y s₃ => FV d g y ∧ Keeps s₂ s₃) E' s₂
section
variable {X : Cx} {pins : List (Addr × Obj)} {σ : L2.St} {H : Hp} {s : Shared}
theorem gen_zip {c P : Addr} {elt e1 e2 : Expr} {xa x1 x2 x3 : Str} {pa p1 p2 p3 pt pq gpos pz pzz : Pos} {kt kq : Nat} {scope : Scope} {FV : Int → Int → Value → Prop} {ta : TA} {k : Nat} {Q' : Value → Shared → Prop} {RR : List Int → List (Int × Int × Int) → Hp → Prop}
    (hr : Room k X.A) (TB : GxR.TabB X.base X.mg c P) (hcode : X.env.code = .ref c) (S : GenS4 X.env scope xa x1 x2 x3) (hgz : Gl X "zip") (hmz : X.mg "zip" = none) (hi : PA X [e1, e2] ta) (hel : EltZ X scope xa x1 elt FV)
    (hs : ∀ v, genFold (.Call (.Name "zip" pz) [e1, e2] [] pzz) X.env v = pure v) (I : Inv X pins σ H s)
    (h : ta σ H fun vs H1 => ∃ (a b : Addr) (ds : List Int) (ts : List (Int × Int × Int)), vs = [.ref a, .ref b] ∧ SqT X.K H1 a (ds.map V.int) ∧ Trip H1 b ts ∧ GxR.TabG H1 P ∧ RR ds ts H1)
    (hQ : ∀ ds ts H1 g s5, RR ds ts H1 → ReadyG X pins σ H1 P (min ds.length ts.length) (fun j y => ∃ d t, ds[j]? = some d ∧ ts[j]? = some t ∧ FV d t.1 y) g s5 → Q' (.ref g) s5)
    (hse : starEach [e1, e2] X.env = (false, eval e1 X.env) :: starEach [e2] X.env := by rfl) (hpl : (backTo pzz (starEach [e2] X.env)).any (·.1) = false := by rfl) :
    wpAny (model X.prog X.w) X.A (eval (.GeneratorExp elt [⟨.Tuple [.Name xa pa, .Tuple [.Name x1 p1, .Name x2 p2, .Name x3 p3] kq pq] kt pt, .Call (.Name "zip" pz) [e1, e2] [] pzz, [], 0⟩] scope gpos) X.env) Q' X.xe s := by
  refine wpAny_GeneratorExp_walksQZ hr.hd S.co (closure_ok S.free) S.cell S.dot S.la S.l1 S.l2 S.l3 S.a1 S.a2 S.a3 S.d12 S.d13 S.d23 S.kind (by have := hr.dp; omega) ?_ hs
  refine wpAny_Call_Name_kw (ld_blt I hgz hmz (show bootBuiltins "zip" = some (.type "zip") by decide +kernel) ?_)
  refine PyProof.Rows.callWith_type1 (thn (hi.run pzz pins s σ H _ I h) fun us s1 hAP => ?_) hse hpl
  obtain ⟨vs, H1, I1, r1, q1⟩ := hAP
  obtain ⟨ya, yb, ds, ts, rfl, hya, ⟨rs, hrs, hlrs, hit⟩, hTG, q1⟩ := q1
  obtain ⟨ps, hP, ht⟩ := id hTG
  obtain ⟨ua, ub, rfl, ra, rb⟩ := Vals.two r1
  obtain rfl : ua = Value.ref ya := ra
  obtain rfl : ub = Value.ref yb := rb
  obtain ⟨ita, rva, hla, _⟩ := I1.tuple hya
  obtain ⟨itb, rvb, hlb, _⟩ := I1.list (SqL.of (K := X.K) hrs)
  have hTa : s1.heap.IsTuple ya ita.toArray := hla
  have hLb : s1.heap.IsList yb itb.toArray := hlb.isList
  have hlena : ita.length = ds.length := by rw [← rva.length, List.length_map]
  have hlenb : itb.length = ts.length := by rw [← rvb.length, List.length_map, hlrs]
  have hata : ∀ (i : Nat) (v : Value), ita.toArray[i]? = some v → ∃ (a : Int) (u : Tok), ds[i]? = some a ∧ v = .int a u := fun i v hv => by
    have hv2 : ita[i]? = some v := by simpa using hv
    have hi2 : i < ita.length := (List.getElem?_eq_some_iff.mp hv2).1
    obtain ⟨a, ha⟩ : ∃ a, ds[i]? = some a := ⟨ds[i]'(by omega), List.getElem?_eq_getElem _⟩
    have hb : (ds.map V.int)[i]? = some (V.int a) := by rw [List.getElem?_map, ha] <;> rfl
    obtain ⟨u, hu, ru⟩ := rva.get hb
    rw [hv2] at hu
    cases hu
    obtain ⟨t, e⟩ := (show ∃ t, v = Value.int a t from ru)
    exact ⟨a, t, ha, e⟩
  have hatb : ∀ (i : Nat) (v : Value), itb.toArray[i]? = some v → ∃ (B : Addr) (t : Int × Int × Int), v = .ref B ∧ rs[i]? = some B ∧ ts[i]? = some t ∧ H1 B = some (.tup [.int t.1, .int t.2.1, .int t.2.2]) := fun i v hv => by
    have hv2 : itb[i]? = some v := by simpa using hv
    have hi2 : i < itb.length := (List.getElem?_eq_some_iff.mp hv2).1
    obtain ⟨B, hB⟩ : ∃ B, rs[i]? = some B := ⟨rs[i]'(by omega), List.getElem?_eq_getElem _⟩
    obtain ⟨t, htt⟩ : ∃ t, ts[i]? = some t := ⟨ts[i]'(by omega), List.getElem?_eq_getElem _⟩
    have hb : (rs.map V.ref)[i]? = some (V.ref B) := by rw [List.getElem?_map, hB] <;> rfl
    obtain ⟨u, hu, ru⟩ := rvb.get hb
    rw [hv2] at hu
    cases hu
    exact ⟨B, t, ru, hB, htt, hit i B t hB htt⟩
  have hyalt : ya < s1.heap.objs.size := by obtain ⟨_, e, _⟩ := id hTa; exact Heap.lt_size e
  have hyblt : yb < s1.heap.objs.size := by obtain ⟨_, e, _⟩ := id hLb; exact Heap.lt_size e
  have hPs : s1.heap.get? P = some { cls := .none, data := .fields ps } := I1.hok P _ hP
  have hPlt : P < s1.heap.objs.size := Heap.lt_size hPs
  have hyaP : ya ≠ P := fun z => by
    obtain ⟨_, e, hc1, _, hd1⟩ := id hTa
    rw [z, hPs] at e
    cases e
    cases hd1
  have hybP : yb ≠ P := fun z => by
    rw [z, hP] at hrs
    cases hrs
  refine zip_begins2 (begins_tuple ya ita.toArray) (begins_list yb itb.toArray) hTa hLb fun hz zZ zI zO z1 z2 zsz zk => ?_
  have D1 : ∀ A' : Around, A'.handled = none → Draws X.prog X.w A' s1.heap.objs.size [s1.heap.objs.size, ya] ita.toArray.size (fun i v => ita.toArray[i]? = some v) (fun i h => h.IsTupleIter s1.heap.objs.size ya i ∧ h.IsTuple ya ita.toArray) := fun A' hA => Draws.tuple hA _ _ (Nat.ne_of_lt hyalt) _
  have D2 : ∀ A' : Around, A'.handled = none → Draws X.prog X.w A' (s1.heap.objs.size + 1) [s1.heap.objs.size + 1, yb] itb.toArray.size (fun i v => itb.toArray[i]? = some v) (fun i h => h.IsListIter (s1.heap.objs.size + 1) yb i ∧ h.IsList yb itb.toArray) := fun A' hA => Draws.list hA _ _ (Nat.ne_of_lt (Nat.lt_succ_of_lt hyblt)) _
  have SEP : ZipSep2 (s1.heap.objs.size + 4) (s1.heap.objs.size + 2) (s1.heap.objs.size + 3) s1.heap.objs.size (s1.heap.objs.size + 1) (s1.heap.objs.size :: [ya]) ((s1.heap.objs.size + 1) :: [yb]) :=
    zip_sep2 (fun b hb => by rcases List.mem_cons.mp hb with z | z; · rw [z]; exact hyalt
                             · cases z) (fun b hb => by rcases List.mem_cons.mp hb with z | z; · rw [z]; exact hyblt
                                                        · cases z)
  have W0 := fun (A' : Around) (hA : A'.handled = none) => (WalksT.zipD2 (A := A') SEP (D1 A'.in1 hA) (D2 A'.in1 hA)).toU
  have hst0 : IsZip hz (s1.heap.objs.size + 4) (s1.heap.objs.size + 2) (s1.heap.objs.size + 3) .none ∧ IsTupOf2 hz (s1.heap.objs.size + 2) (.ref s1.heap.objs.size) (.ref (s1.heap.objs.size + 1)) ∧ (∃ a1 a2, IsTupOf2 hz (s1.heap.objs.size + 3) a1 a2) ∧
      (hz.IsTupleIter s1.heap.objs.size ya 0 ∧ hz.IsTuple ya ita.toArray) ∧ (hz.IsListIter (s1.heap.objs.size + 1) yb 0 ∧ hz.IsList yb itb.toArray) :=
    ⟨zZ, zI, ⟨_, _, zO⟩, ⟨⟨_, z1, rfl, rfl⟩, hTa.at fun o e => zk _ o e⟩, ⟨⟨_, z2, rfl, rfl⟩, hLb.at fun o e => zk _ o e⟩⟩
  refine (W0 X.A hr.hd).self 0 _ _ _ hst0 ?_
  have Iz : Inv X pins σ H1 { s1 with heap := hz } := I1.kept (h' := hz) (t' := s1.toks) zk
  have hPz : hz.get? P = some { cls := .none, data := .fields ps } := zk _ _ hPs
  have cd : PySem.W.CodeHd hz c P := TB.code.keeps fun b u e => Iz.bk b u e
  have lim2 : hz.NoLimit := I1.nolimit.keeps zk
  have cont : ∀ (code : Value) (h3 : Heap) (tk : Nat) (ps' : Array Value), Heap.ExtBut P hz h3 → hz.objs.size ≤ h3.objs.size → h3.get? P = some { cls := .none, data := .fields ps' } → (∃ more, ps' = ps ++ more) → TriplesOk ps'.toList →
      wpAny (model X.prog X.w) X.A (builtinsFor X.env.globals X.env.builtins) (fun bi s₄ =>
        ∃ Ia fp wr n₀ Pt St₀ Mid PV F, Value.ref (s1.heap.objs.size + 4) = .ref Ia ∧ (∀ A' : Around, A'.handled = none → WalksU X.prog X.w A' Ia fp wr n₀ Pt St₀ Mid) ∧
          (∀ i vals, Pt i vals → ∃ va B v1 v2 v3, vals = #[va, .ref B] ∧ PV i va v1 v2 v3 ∧ B < s₄.heap.objs.size ∧ B ∉ wr ∧ s₄.heap.IsTuple B #[v1, v2, v3]) ∧ St₀ 0 s₄.heap ∧ (∀ b ∈ fp, b < s₄.heap.objs.size) ∧ s₄.heap.NoLimit ∧ cStatics ∉ wr ∧
          QuietZ X.prog X.w (genEnv scope (cloFrom X.env.cells scope.names []) s₄.heap.objs.size code bi X.env) xa x1 x2 x3 elt PV F ∧
          (∀ a h₅ tk gs, gs.bare = true → s₄.heap.objs.size < a → h₅.objs.size = a + 1 → (∀ b o, s₄.heap.get? b = some o → h₅.get? b = some o) →
            WalksS X.prog X.w X.A.in4 a (a :: s₄.heap.objs.size :: List.range s₄.heap.objs.size) (s₄.heap.objs.size :: wr) (GenOnlyQ s₄.gens.size) (passing (fun _ => true) n₀ 0).length
              (fun j y => ∃ i, (passing (fun _ => true) n₀ 0)[j]? = some i ∧ F i y) (GenAt X.prog X.w X.A.in4 a s₄.gens.size s₄.heap.objs.size (List.range s₄.heap.objs.size) wr (fun _ => true) n₀ F) →
            GenAt X.prog X.w X.A.in4 a s₄.gens.size s₄.heap.objs.size (List.range s₄.heap.objs.size) wr (fun _ => true) n₀ F 0 { s₄ with gens := s₄.gens.push gs, toks := tk, heap := h₅ } →
            Q' (.ref a) { s₄ with gens := s₄.gens.push gs, toks := tk, heap := h₅ })) X.xe { s1 with heap := h3, toks := tk } := by
    intro code h3 tk ps' hx hsz hP3 hmore ht3
    obtain ⟨bm, ob, e1, e2, e3, e4, e5, e6, e7, e8⟩ := TB.bm
    have hcP : cStatics ≠ P := fun e => by
      obtain ⟨_, hns, _⟩ := I1.nolimit
      obtain ⟨o', es, ep, ho, hd, _⟩ := hns
      rw [e, hPs] at ho
      cases ho
      cases hd
    have hcl : cStatics < s1.heap.objs.size := let ⟨_, hns, _⟩ := I1.nolimit; hns.lt
    have keep3 : ∀ b u, b ≠ P → s1.heap.get? b = some u → h3.get? b = some u := fun b u hb e => hx b u hb (zk _ _ e)
    refine wpAny_builtinsFor (m := X.mg) (by rw [I1.ok.glob]; exact (I1.mod.glob.keeps Iz.bk).extBut hx TB.gP) e1 e2 (keep3 _ _ e4 (I1.bk _ _ e5)) e6 e7 e8 ?_
    have memP : ∀ b ∈ (s1.heap.objs.size + 4) :: (s1.heap.objs.size + 2) :: (s1.heap.objs.size + 3) :: ([s1.heap.objs.size, ya] ++ [s1.heap.objs.size + 1, yb]), b ≠ P ∧ b < hz.objs.size := fun b hb => by
      have lp : @LT.lt Nat instLTNat P (s1.heap.objs.size) := hPlt
      have la : @LT.lt Nat instLTNat ya (s1.heap.objs.size) := hyalt
      have lb : @LT.lt Nat instLTNat yb (s1.heap.objs.size) := hyblt
      simp only [List.mem_cons, List.cons_append, List.nil_append, List.mem_nil_iff, or_false] at hb
      rw [zsz]
      rcases hb with z | z | z | z | z | z | z
      · rw [z]; exact ⟨fun q => by have q' : @Eq Nat (s1.heap.objs.size + 4) P := q; omega, by omega⟩
      · rw [z]; exact ⟨fun q => by have q' : @Eq Nat (s1.heap.objs.size + 2) P := q; omega, by omega⟩
      · rw [z]; exact ⟨fun q => by have q' : @Eq Nat (s1.heap.objs.size + 3) P := q; omega, by omega⟩
      · rw [z]; exact ⟨fun q => by have q' : @Eq Nat (s1.heap.objs.size) P := q; omega, by omega⟩
      · rw [z]; exact ⟨hyaP, Nat.lt_of_lt_of_le la (by omega)⟩
      · rw [z]; exact ⟨fun q => by have q' : @Eq Nat (s1.heap.objs.size + 1) P := q; omega, by omega⟩
      · rw [z]; exact ⟨hybP, Nat.lt_of_lt_of_le lb (by omega)⟩
    refine ⟨s1.heap.objs.size + 4, _, _, _, _, _, _, (fun i va v1 v2 v3 => ∃ (d : Int) (t : Int × Int × Int) (td : Tok) (tg : Tok), ds[i]? = some d ∧ ts[i]? = some t ∧ va = .int d td ∧ v1 = .int t.1 tg),
      (fun i y => ∃ (d : Int) (t : Int × Int × Int), ds[i]? = some d ∧ ts[i]? = some t ∧ FV d t.1 y), rfl, W0, ?_, ?_, ?_, lim2.extBut hx hcP, ?_, ?_, ?_⟩
    · intro i vals hv
      obtain ⟨va, vb, ha1, ha2, rfl⟩ := hv
      obtain ⟨d, td, hd, rfl⟩ := hata i va ha1
      obtain ⟨B, t, rfl, hB1, hB2, hB3⟩ := hatb i vb ha2
      obtain ⟨_, itt, rvt, hTB⟩ := I1.hok B _ hB3
      have hTB' : s1.heap.IsTuple B itt.toArray := hTB
      obtain ⟨w1, w2, w3, rfl, rw1, _, _⟩ : ∃ w1 w2 w3, itt = [w1, w2, w3] ∧ RelV (.int t.1) w1 ∧ RelV (.int t.2.1) w2 ∧ RelV (.int t.2.2) w3 := by
        cases rvt with
        | cons p q => cases q with
          | cons p' q' => cases q' with
            | cons p'' q'' =>
              cases q''
              exact ⟨_, _, _, rfl, p, p', p''⟩
      obtain ⟨tg, rfl⟩ := rw1
      have hBlt : B < s1.heap.objs.size := by obtain ⟨_, e, _⟩ := id hTB'; exact Heap.lt_size e
      have hBP : B ≠ P := fun z => by
        rw [z, hP] at hB3
        cases hB3
      refine ⟨_, B, _, w2, w3, rfl, ⟨d, t, td, tg, hd, hB2, rfl, rfl⟩, ?_, ?_, hTB'.at fun o e => keep3 _ o hBP e⟩
      · show B < h3.objs.size
        have l1 : @LT.lt Nat instLTNat B (s1.heap.objs.size) := hBlt
        exact Nat.lt_of_lt_of_le l1 (by omega)
      · intro hb
        have l1 : @LT.lt Nat instLTNat B (s1.heap.objs.size) := hBlt
        simp only [List.mem_cons, List.mem_nil_iff, or_false] at hb
        rcases hb with z | z | z | z
        · have z' : @Eq Nat B (s1.heap.objs.size + 4) := z
          omega
        · have z' : @Eq Nat B (s1.heap.objs.size + 3) := z
          omega
        · have z' : @Eq Nat B (s1.heap.objs.size) := z
          omega
        · have z' : @Eq Nat B (s1.heap.objs.size + 1) := z
          omega
    · exact (W0 X.A hr.hd).frame 0 hz _ hst0 fun b hb o e => hx b o (memP b hb).1 e
    · exact fun b hb => Nat.lt_of_lt_of_le (memP b hb).2 hsz
    · intro hb
      have l1 : @LT.lt Nat instLTNat cStatics (s1.heap.objs.size) := hcl
      simp only [List.mem_cons, List.mem_nil_iff, or_false] at hb
      rcases hb with z | z | z | z
      · have z' : @Eq Nat cStatics (s1.heap.objs.size + 4) := z
        omega
      · have z' : @Eq Nat cStatics (s1.heap.objs.size + 3) := z
        omega
      · have z' : @Eq Nat cStatics (s1.heap.objs.size) := z
        omega
      · have z' : @Eq Nat cStatics (s1.heap.objs.size + 1) := z
        omega
    · intro A' E' i va v1 v2 v3 s₂ m₂ hA hPV hn ma m1 m2 m3
      obtain ⟨d, t, td, tg, hd, htt, rfl, rfl⟩ := hPV
      refine wpAny_mono (hel _ A' E' d t.1 td tg s₂ m₂ hA rfl hn ma m1) (fun y s3 r => ?_) fun _ _ e => e
      exact ⟨⟨d, t, hd, htt, r.1⟩, r.2⟩
    · intro g h5 tk5 gs hgb hag hsz5 hk5 W5 hgat
      simp only [GxR.passing_true, List.length_range] at W5
      have hn5 : min ita.toArray.size itb.toArray.size = min ds.length ts.length := by rw [List.size_toArray, List.size_toArray, hlena, hlenb]
      rw [hn5] at W5 hgat
      have W6 := W5.in4_1
      have conv : ∀ (j : Nat) (y : Value), (∃ i : Nat, (List.range (min ds.length ts.length))[j]? = some i ∧ ∃ (d : Int) (t : Int × Int × Int), ds[i]? = some d ∧ ts[i]? = some t ∧ FV d t.1 y) → ∃ (d : Int) (t : Int × Int × Int), ds[j]? = some d ∧ ts[j]? = some t ∧ FV d t.1 y := fun j y hh => by
        obtain ⟨i, hij, d, t, hd, ht, e⟩ := hh
        obtain ⟨hj, ej⟩ := List.getElem?_eq_some_iff.mp hij
        rw [List.getElem_range] at ej
        subst ej
        exact ⟨d, t, hd, ht, e⟩
      refine hQ ds ts H1 g _ q1 ⟨_, _, _, _, ⟨W6.sub, W6.grefl, W6.gtrans, W6.frame, fun i s Q E hi st hQ => W6.item i s Q E hi st (fun v s' hv => hQ v s' (conv i v hv)), W6.done, W6.self⟩, hgat, ?_, fun s' hm => ?_⟩
      · intro b hb
        show b < h5.objs.size
        have e5 : h5.objs.size = g + 1 := hsz5
        have h8 : h3.objs.size < g := hag
        rw [e5]
        rcases List.mem_cons.mp hb with z | z
        · rw [z]
          exact Nat.lt_succ_self g
        · rcases List.mem_cons.mp z with z | z
          · rw [z]
            exact Nat.lt_succ_of_lt h8
          · have z2 := List.mem_range.mp z
            have h7 : b < h3.objs.size := z2
            exact Nat.lt_succ_of_lt (Nat.lt_trans h7 h8)
      · obtain ⟨more, em⟩ := hmore
        have nwr : ∀ b u, s1.heap.get? b = some u → b ∉ h3.objs.size :: [s1.heap.objs.size + 4, s1.heap.objs.size + 3, s1.heap.objs.size, s1.heap.objs.size + 1] := fun b u e hb => by
          have hl : @LT.lt Nat instLTNat b (s1.heap.objs.size) := Heap.lt_size e
          simp only [List.mem_cons, List.mem_nil_iff, or_false] at hb
          rcases hb with z | z | z | z | z
          · have z' : @Eq Nat b (h3.objs.size) := z
            omega
          · have z' : @Eq Nat b (s1.heap.objs.size + 4) := z
            omega
          · have z' : @Eq Nat b (s1.heap.objs.size + 3) := z
            omega
          · have z' : @Eq Nat b (s1.heap.objs.size) := z
            omega
          · have z' : @Eq Nat b (s1.heap.objs.size + 1) := z
            omega
        have J := GxR.inv_tab (more := more) (h' := s'.heap) (g' := s'.gens) (d' := s'.drawn) (t' := s'.toks) I1 hP (fun b u hb e => hm.heap b u (nwr b u e) (hk5 b u (keep3 b u hb e)))
          (by rw [← em]; exact hm.heap P _ (nwr P _ hPs) (hk5 P _ hP3)) (AllBare.movedS (I1.bare.push hgb) hm)
        rw [GxR.sh_eta s1 s' hm.os] at J
        refine ⟨upd H1 P (.tbl (ps ++ more)), ⟨⟨ps ++ more, upd_same, by rw [← em]; exact ht3⟩, fun b hb => upd_ne hb⟩, J⟩
  refine ⟨lim2, ?_⟩
  cases hf : codeAmong gpos ps.toList with
  | none =>
    refine wpAny_genexprCodeX hcode (cd.code hPz ht) (cd.tab hPz) hf fun c' h' tk hx hge hlt hco' _ htab' _ => ?_
    obtain ⟨o1, vs, f1, tf, fl, tg, inF, tx, tt, op, _, _, _, _, _, _, _, _, _, htr, _⟩ := hco'
    exact cont _ h' tk _ hx (Nat.le_trans hge (Nat.le_of_lt hlt)) htab'.2 ⟨_, rfl⟩ htr
  | some cv =>
    refine wpAny_genexprCode_hit hcode (cd.code hPz ht) hf ?_
    exact cont cv hz s1.toks ps (Heap.ExtBut.refl _ _) (Nat.le_refl _) hPz ⟨#[], by simp⟩ ht
end
end Dw

set_option Elab.async false
set_option maxRecDepth 100000
set_option maxHeartbeats 4000000
/-! all(..), sum(..) of such generator expressions; sum, max, sorted, enumerate of a tuple of ints. -/
namespace Dw
open PySem PySem.Spec PyProof.Rows L2
section
variable {X : Cx} {pins : List (Addr × Obj)} {σ : L2.St} {H : Hp} {s : Shared}
theorem preSum_list (vs : List Int) : ∀ j, j ≤ vs.length → preSum (fun i => vs.getD i 0) j = (vs.take j).sum
  | 0, _ => by simp [preSum]
  | j + 1, h => by
    have hj : j < vs.length := h
    rw [preSum, preSum_list vs j (Nat.le_of_lt hj), List.take_add_one, List.getElem?_eq_getElem hj, List.sum_append]
    simp [List.getD_eq_getElem?_getD, List.getElem?_eq_getElem hj]
theorem sum_ready {P : Addr} {H1 : Hp} {vs : List Int} {F : Nat → Value → Prop} {g : Addr} {s5 : Shared} {Q : VK} (hF : ∀ j y, F j y → ∃ b t, vs[j]? = some b ∧ y = .int b t) (hG : ReadyG X pins σ H1 P vs.length F g s5)
    (hR : ∀ H2, GxR.Tabbed P H1 H2 → Q (.int vs.sum) H2) : wpAny (model X.prog X.w) X.A (call (.builtin "sum") [.ref g]) (EP X pins σ Q) X.xe s5 := by
  obtain ⟨fp, wr, G, St, W, hst, hfp, hI⟩ := hG
  refine call_sum_walkAnyS (W.self 0 _ _ _ hst ⟨g, fp, wr, G, _, F, St, (fun i => vs.getD i 0), rfl, W, hst, hfp, fun i v hv => ?_, fun s' t' hmv => ?_⟩)
  · obtain ⟨b, t, hb, rfl⟩ := hF i v hv
    exact ⟨t, by simp [List.getD_eq_getElem?_getD, hb]⟩
  · obtain ⟨H2, hT, J⟩ := hI s' hmv
    refine ⟨.int _, H2, J, ⟨t', rfl⟩, ?_⟩
    rw [preSum_list vs _ (Nat.le_refl _), List.take_length]
    exact hR H2 hT

/-- sum(elt for a, (b, c, d) in zip(e1, e2)) -/
def tSumZ (K : PySem.W.Frag) (P : Addr) (f : Int → Int → Int) (ta : TA) : TE := fun σ H Q => ta σ H fun vs H1 => ∃ (a b : Addr) (ds : List Int) (ts : List (Int × Int × Int)), vs = [.ref a, .ref b] ∧ SqT K H1 a (ds.map V.int) ∧ Trip H1 b ts ∧ GxR.TabG H1 P ∧
  ∀ H2, GxR.Tabbed P H1 H2 → Q (.int (List.zipWith (fun (d : Int) (t : Int × Int × Int) => f d t.1) ds ts).sum) H2
theorem zipWith_at {α : Type} {f : Int → Int → α} {ds : List Int} {ts : List (Int × Int × Int)} {j : Nat} {d : Int} {t : Int × Int × Int} (h1 : ds[j]? = some d) (h2 : ts[j]? = some t) : (List.zipWith (fun d (t : Int × Int × Int) => f d t.1) ds ts)[j]? = some (f d t.1) := by
  rw [List.getElem?_zipWith, h1, h2]
theorem pe_sumZ {c P : Addr} {elt e1 e2 : Expr} {xa x1 x2 x3 : Str} {pa p1 p2 p3 pt pq p pos gpos pz pzz : Pos} {kt kq : Nat} {scope : Scope} {f : Int → Int → Int} {ta : TA} {k : Nat}
    (hr : Room k X.A) (hg : Gl X "sum") (hm : X.mg "sum" = none) (TB : GxR.TabB X.base X.mg c P) (hcode : X.env.code = .ref c) (S : GenS4 X.env scope xa x1 x2 x3) (hgz : Gl X "zip") (hmz : X.mg "zip" = none) (hi : PA X [e1, e2] ta)
    (hel : EltZ X scope xa x1 elt (fun d g y => ∃ t, y = .int (f d g) t))
    (hs : ∀ v, genFold (.Call (.Name "zip" pz) [e1, e2] [] pzz) X.env v = pure v)
    (he : starEach [.GeneratorExp elt [⟨.Tuple [.Name xa pa, .Tuple [.Name x1 p1, .Name x2 p2, .Name x3 p3] kq pq] kt pt, .Call (.Name "zip" pz) [e1, e2] [] pzz, [], 0⟩] scope gpos] X.env =
      (false, eval (.GeneratorExp elt [⟨.Tuple [.Name xa pa, .Tuple [.Name x1 p1, .Name x2 p2, .Name x3 p3] kq pq] kt pt, .Call (.Name "zip" pz) [e1, e2] [] pzz, [], 0⟩] scope gpos) X.env) :: starEach [] X.env := by rfl)
    (hse : starEach [e1, e2] X.env = (false, eval e1 X.env) :: starEach [e2] X.env := by rfl) (hpl : (backTo pzz (starEach [e2] X.env)).any (·.1) = false := by rfl) :
    PE X (.Call (.Name "sum" p) [.GeneratorExp elt [⟨.Tuple [.Name xa pa, .Tuple [.Name x1 p1, .Name x2 p2, .Name x3 p3] kq pq] kt pt, .Call (.Name "zip" pz) [e1, e2] [] pzz, [], 0⟩] scope gpos] [] pos) (tSumZ X.K P f ta) := by
  refine ⟨fun pins s σ H Q I h => ?_⟩
  refine wpAny_Call_Name_kw (ld_blt I hg hm (show bootBuiltins "sum" = some (.builtin "sum") by decide +kernel) ?_)
  refine PyProof.Rows.callWith_builtin1 ?_ he (by rfl)
  rw [he]
  show wpAny _ _ (spliced ((false, eval (.GeneratorExp elt [⟨.Tuple [.Name xa pa, .Tuple [.Name x1 p1, .Name x2 p2, .Name x3 p3] kq pq] kt pt, .Call (.Name "zip" pz) [e1, e2] [] pzz, [], 0⟩] scope gpos) X.env) :: backTo pos (starEach [] X.env))) _ _ s
  refine Calls.spliced_cons (gen_zip (RR := fun ds ts H1 => ∀ H2, GxR.Tabbed P H1 H2 → Q (.int (List.zipWith (fun (d : Int) (t : Int × Int × Int) => f d t.1) ds ts).sum) H2) hr TB hcode S hgz hmz hi hel hs I h (fun ds ts H1 g s5 hR hG => ?_) hse hpl)
  refine Calls.spliced_nil ?_
  refine sum_ready (vs := List.zipWith (fun (d : Int) (t : Int × Int × Int) => f d t.1) ds ts) (F := fun j y => ∃ d t, ds[j]? = some d ∧ ts[j]? = some t ∧ ∃ tk, y = .int (f d t.1) tk) (fun j y hh => ?_) (by rw [List.length_zipWith]; exact hG) hR
  obtain ⟨d, t, h1, h2, tk, e⟩ := hh
  exact ⟨_, tk, zipWith_at h1 h2, e⟩
def tAllZ (K : PySem.W.Frag) (P : Addr) (f : Int → Int → Bool) (ta : TA) : TE := fun σ H Q => ta σ H fun vs H1 => ∃ (a b : Addr) (ds : List Int) (ts : List (Int × Int × Int)), vs = [.ref a, .ref b] ∧ SqT K H1 a (ds.map V.int) ∧ Trip H1 b ts ∧ GxR.TabG H1 P ∧
  ∀ H2, GxR.Tabbed P H1 H2 → Q (.bl ((List.zipWith (fun (d : Int) (t : Int × Int × Int) => f d t.1) ds ts).all id)) H2
theorem pe_allZ {c P : Addr} {elt e1 e2 : Expr} {xa x1 x2 x3 : Str} {pa p1 p2 p3 pt pq p pos gpos pz pzz : Pos} {kt kq : Nat} {scope : Scope} {f : Int → Int → Bool} {ta : TA} {k : Nat}
    (hr : Room k X.A) (hg : Gl X "all") (hm : X.mg "all" = none) (TB : GxR.TabB X.base X.mg c P) (hcode : X.env.code = .ref c) (S : GenS4 X.env scope xa x1 x2 x3) (hgz : Gl X "zip") (hmz : X.mg "zip" = none) (hi : PA X [e1, e2] ta)
    (hel : EltZ X scope xa x1 elt (fun d g y => y = .bool (f d g)))
    (hs : ∀ v, genFold (.Call (.Name "zip" pz) [e1, e2] [] pzz) X.env v = pure v)
    (he : starEach [.GeneratorExp elt [⟨.Tuple [.Name xa pa, .Tuple [.Name x1 p1, .Name x2 p2, .Name x3 p3] kq pq] kt pt, .Call (.Name "zip" pz) [e1, e2] [] pzz, [], 0⟩] scope gpos] X.env =
      (false, eval (.GeneratorExp elt [⟨.Tuple [.Name xa pa, .Tuple [.Name x1 p1, .Name x2 p2, .Name x3 p3] kq pq] kt pt, .Call (.Name "zip" pz) [e1, e2] [] pzz, [], 0⟩] scope gpos) X.env) :: starEach [] X.env := by rfl)
    (hse : starEach [e1, e2] X.env = (false, eval e1 X.env) :: starEach [e2] X.env := by rfl) (hpl : (backTo pzz (starEach [e2] X.env)).any (·.1) = false := by rfl) :
    PE X (.Call (.Name "all" p) [.GeneratorExp elt [⟨.Tuple [.Name xa pa, .Tuple [.Name x1 p1, .Name x2 p2, .Name x3 p3] kq pq] kt pt, .Call (.Name "zip" pz) [e1, e2] [] pzz, [], 0⟩] scope gpos] [] pos) (tAllZ X.K P f ta) := by
  refine ⟨fun pins s σ H Q I h => ?_⟩
  refine wpAny_Call_Name_kw (ld_blt I hg hm (show bootBuiltins "all" = some (.builtin "all") by decide +kernel) ?_)
  refine PyProof.Rows.callWith_builtin1 ?_ he (by rfl)
  rw [he]
  show wpAny _ _ (spliced ((false, eval (.GeneratorExp elt [⟨.Tuple [.Name xa pa, .Tuple [.Name x1 p1, .Name x2 p2, .Name x3 p3] kq pq] kt pt, .Call (.Name "zip" pz) [e1, e2] [] pzz, [], 0⟩] scope gpos) X.env) :: backTo pos (starEach [] X.env))) _ _ s
  refine Calls.spliced_cons (gen_zip (RR := fun ds ts H1 => ∀ H2, GxR.Tabbed P H1 H2 → Q (.bl ((List.zipWith (fun (d : Int) (t : Int × Int × Int) => f d t.1) ds ts).all id)) H2) hr TB hcode S hgz hmz hi hel hs I h (fun ds ts H1 g s5 hR hG => ?_) hse hpl)
  refine Calls.spliced_nil ?_
  refine all_ready (bs := List.zipWith (fun (d : Int) (t : Int × Int × Int) => f d t.1) ds ts) (F := fun j y => ∃ d t, ds[j]? = some d ∧ ts[j]? = some t ∧ y = .bool (f d t.1)) (fun j y hh => ?_) (by rw [List.length_zipWith]; exact hG) hR
  obtain ⟨d, t, h1, h2, e⟩ := hh
  exact ⟨_, zipWith_at h1 h2, e⟩

/-! ### the two elements -/
theorem keeps_toks (s : Shared) (k : Nat) : Keeps s { s with toks := k } := ⟨s.heap, k, rfl, fun _ _ e => e⟩
theorem elt_sub {scope : Scope} {xa x1 : Str} {q1 q2 q3 : Pos} (hk : scope.kind = .function) (la : scope.names.lookup xa = some .local) (l1 : scope.names.lookup x1 = some .local) (da : (xa == ("__debug__" : Str)) = false := by decide) (d1 : (x1 == ("__debug__" : Str)) = false := by decide) :
    EltZ X scope xa x1 (.BinOp (.Name xa q1) .Sub (.Name x1 q2) q3) (fun d g y => ∃ t, y = .int (d - g) t) := by
  intro cenv A' E' d g td tg s₂ m₂ hA hsc hn ma m1
  refine wpAny_BinOp (ev_loc (by rw [hsc]; exact hk) (by rw [hsc]; exact la) hn ma (ev_loc (by rw [hsc]; exact hk) (by rw [hsc]; exact l1) hn m1 (sub_int ⟨⟨_, rfl⟩, keeps_toks _ _⟩) d1) da)
theorem elt_eq {scope : Scope} {xa x1 : Str} {q1 q2 q3 : Pos} (hk : scope.kind = .function) (la : scope.names.lookup xa = some .local) (l1 : scope.names.lookup x1 = some .local) (da : (xa == ("__debug__" : Str)) = false := by decide) (d1 : (x1 == ("__debug__" : Str)) = false := by decide) :
    EltZ X scope xa x1 (.Compare (.Name x1 q1) [.Eq] [.Name xa q2] q3) (fun d g y => y = .bool (g == d)) := by
  intro cenv A' E' d g td tg s₂ m₂ hA hsc hn ma m1
  refine wpAny_Compare1 (ev_loc (by rw [hsc]; exact hk) (by rw [hsc]; exact l1) hn m1 (ev_loc (by rw [hsc]; exact hk) (by rw [hsc]; exact la) hn ma (eq_int ⟨rfl, keeps_toks _ _⟩) da) d1)

/-! ### tuples of ints -/
section
variable {prog : Program} {w : World} {A : Around} {E : Value → Shared → Prop} {l : Addr} {its : List Value} {ns : List Int} {Q : Value → Shared → Prop} {xs : Array (Int × Tok)}
theorem iter_intTup {Q : Value → Shared → Prop} (hl : s.heap.IsTuple l (intItems xs))
    (h : ∀ s₂ : Shared, s₂ = { s with heap := s.heap.push { cls := .type "tuple_iterator", data := .fields #[.ref l, .int 0 0] } } →
      (s₂.heap.IsTupleIter s.heap.objs.size l 0 ∧ s₂.heap.IsTuple l (intItems xs)) → (∀ b ∈ [s.heap.objs.size, l], b < s₂.heap.objs.size) → l ≠ s.heap.objs.size → Q (.ref s.heap.objs.size) s₂) :
    wpAny (model prog w) A (pyIter (.ref l)) Q E s := by
  have hlt : l < s.heap.objs.size := by obtain ⟨_, e, _⟩ := hl; exact Heap.lt_size e
  refine wpAny_pyIter_tuple hl (h _ rfl ⟨⟨_, Heap.get?_push_size _ rfl, rfl, rfl⟩, hl.push _⟩ (fun b hb => ?_) (Nat.ne_of_lt hlt))
  show b < (s.heap.push _).objs.size
  rw [Heap.size_push]
  rcases List.mem_cons.mp hb with rfl | hb
  · exact Nat.lt_succ_self _
  · rcases List.mem_cons.mp hb with rfl | hb
    · exact Nat.lt_succ_of_lt hlt
    · cases hb
theorem old_keptT {h' : Heap} {o' : Obj} (hk : ∀ b o, b ∉ [s.heap.objs.size] → (s.heap.push o').get? b = some o → h'.get? b = some o) :
    ∀ b o, s.heap.get? b = some o → h'.get? b = some o := fun b o e => by
  refine hk b o (fun hm => ?_) (Heap.get?_push_of_some _ e)
  rcases List.mem_cons.mp hm with e1 | hm
  · exact absurd (e1 ▸ Heap.lt_size e) (Nat.lt_irrefl _)
  · cases hm
theorem sum_rawT (hh : A.handled = none) (hl : s.heap.IsTuple l its.toArray) (hi : IntsAre its ns)
    (h : ∀ h' tk t', (∀ b o, s.heap.get? b = some o → h'.get? b = some o) → Q (.int ns.sum t') { s with heap := h', toks := tk }) : wpAny (model prog w) A (call (.builtin "sum") [.ref l]) Q E s := by
  obtain ⟨xs, e⟩ := hi.allInts.items
  have hn : numsOf (intItems xs).toList = ns := by rw [← e]; exact hi.numsOf
  rw [nums_intItems] at hn
  rw [e] at hl
  refine call_sum_walkG (iter_intTup hl fun s₂ e st hfp hlI => ?_)
  subst e
  refine ⟨_, _, _, _, _, _, numAt xs, rfl, Walks.tuple (A := A.in1) hh _ l hlI (intItems xs), st, hfp, (fun _ _ => intItems_at), fun h' tk t' hk => ?_⟩
  have q := h h' tk t' (old_keptT hk)
  have e2 : (intItems xs).size = xs.size := by simp [intItems]
  rw [e2, preSum_eq, List.take_of_length_le (by simp), hn]
  exact q
theorem max_rawT (hh : A.handled = none) (hl : s.heap.IsTuple l its.toArray) (hi : IntsAre its ns) (hne : 0 < ns.length)
    (h : ∀ h' tk M t', (∀ b o, s.heap.get? b = some o → h'.get? b = some o) → M ∈ ns → (∀ a, a ∈ ns → a ≤ M) → Q (.int M t') { s with heap := h', toks := tk }) : wpAny (model prog w) A (call (.builtin "max") [.ref l]) Q E s := by
  obtain ⟨xs, e⟩ := hi.allInts.items
  have hn : numsOf (intItems xs).toList = ns := by rw [← e]; exact hi.numsOf
  rw [nums_intItems] at hn
  subst hn
  rw [e] at hl
  have hsz : 0 < xs.size := by simpa using hne
  refine call_max_walk (iter_intTup hl fun s₂ e st hfp hlI => ?_)
  subst e
  refine ⟨_, _, _, _, _, _, _, rfl, Walks.tuple (A := A.in1) hh _ l hlI (intItems xs), st, hfp, by simpa [intItems] using hsz, CmpOf.ints_gt (numAt xs) (fun _ _ => intItems_at), fun v h' tk hP hk => ?_⟩
  have hv : (intItems xs)[argBest (fun i j => decide (numAt xs i > numAt xs j)) (xs.size - 1)]? = some v := by simpa [intItems] using hP
  obtain ⟨t, rfl⟩ := intItems_at hv
  obtain ⟨h1, h2⟩ := argBest_gt (numAt xs) (xs.size - 1)
  refine h h' tk _ t (old_keptT hk) ?_ fun a ha => ?_
  · rw [numAt_eq]; exact PySem.getD_mem (by rw [List.length_map, Array.length_toList]; omega)
  · obtain ⟨j, hj, rfl⟩ := mem_getD ha
    rw [List.length_map, Array.length_toList] at hj
    rw [← numAt_eq]; exact h2 j (by omega)
end
theorem cr_sumT (hc : X.calm = true) : CallR X (.builtin "sum") (fun vs H Q => ∃ (a : Addr) (ns : List Int), vs = [V.ref a] ∧ SqT X.K H a (ns.map V.int) ∧ Q (.int ns.sum) H) := by
  intro pins s σ H vs us Q I r h
  obtain ⟨a, ns, rfl, hs, q⟩ := h
  obtain ⟨its, rv, hl, _⟩ := I.tuple hs
  rw [Vals.ref1 r]
  exact sum_rawT (I.ok.hd hc) hl rv.ints fun h' tk t' hk => ⟨.int _, H, I.kept hk, ⟨_, rfl⟩, q⟩
theorem cr_maxT (hc : X.calm = true) : CallR X (.builtin "max") (fun vs H Q => ∃ (a : Addr) (ns : List Int), vs = [V.ref a] ∧ SqT X.K H a (ns.map V.int) ∧ 0 < ns.length ∧ ∀ m, m ∈ ns → (∀ y, y ∈ ns → y ≤ m) → Q (.int m) H) := by
  intro pins s σ H vs us Q I r h
  obtain ⟨a, ns, rfl, hs, hne, q⟩ := h
  obtain ⟨its, rv, hl, _⟩ := I.tuple hs
  rw [Vals.ref1 r]
  exact max_rawT (I.ok.hd hc) hl rv.ints hne fun h' tk m t' hk h1 h2 => ⟨.int _, H, I.kept hk, ⟨_, rfl⟩, q m h1 h2⟩
end
end Dw

set_option Elab.async false
set_option maxRecDepth 100000
set_option maxHeartbeats 4000000
/-! sorted and enumerate of a tuple. -/
namespace Dw
open PySem PySem.Spec PyProof.Rows L2
section
variable {prog : Program} {w : World} {A : Around} {E : Value → Shared → Prop} {s : Shared}
theorem collect_tup {l : Addr} {vs : List Value} {Q : List Value → Shared → Prop} (hl : s.heap.IsTuple l vs.toArray)
    (h : Q vs { s with heap := (s.heap.push (seqObj "list" #[] 0)).update s.heap.objs.size (Obj.mapSeq (· ++ vs.toArray)) }) (hsz : vs.length ≤ sizeLine := by size_fits) :
    wpAny (model prog w) A (collect (.ref l)) Q E s := by
  obtain ⟨o, ho, hc, n, hd⟩ := id hl
  unfold collect
  refine wpAny_bind (wpAny_runValue (codeAny_builtin entry_proto_collect' ?_))
  show wpAny _ _ (do again (.builtin "list.__iadd__" ⟨[← newList [], .ref l], []⟩)) _ _ s
  refine wpAny_bind (wpAny_newList (wpAny_pure ⟨Code.quiet_builtin _ (by decide +kernel), codeAny_builtin entry_list_iadd' ?_⟩))
  show wpAny _ _ (Builtin.List.listExtendWith (.ref s.heap.objs.size) (.ref l) (.ref s.heap.objs.size)) _ _ { s with heap := s.heap.push (seqObj "list" #[] 0) }
  unfold Builtin.List.listExtendWith
  have ho' : (s.heap.push (seqObj "list" #[] 0)).get? l = some o := Heap.get?_push_of_some _ ho
  refine wpAny_bind (wpAny_typeOf (T := "tuple") ⟨o, ho', hc⟩ ?_)
  have ht : (Value.type "tuple" == Value.type "tuple") = true := by rfl
  rw [if_pos (by rw [ht]; simp)]
  refine wpAny_bind (listItems_at ho' hd ?_)
  refine wpAny_bind (listItems_at (xs := #[]) (n := 0) (Heap.get?_push_size _ rfl) rfl ?_)
  rw [if_neg (by simp)]
  refine wpAny_bind (listUpdate_at (xs := #[]) (n := 0) (Heap.get?_push_size _ rfl) rfl ?_ (Nat.zero_le _) (by show (#[] ++ vs.toArray).size ≤ sizeLine + 1; simp only [Array.size_append, List.size_toArray, List.length_nil]; omega))
  refine wpAny_pure ?_
  show wpAny (model prog w) A (do
      let o ← load s.heap.objs.size
      match o.data with
      | .seq xs _ => pure xs.toList
      | _ => unsupported "internal:collect") Q E { s with heap := (s.heap.push (seqObj "list" #[] 0)).update s.heap.objs.size (Obj.mapSeq (· ++ vs.toArray)) }
  refine wpAny_bind (wpAny_load (get?_update_seq (Heap.get?_push_size _ rfl) _) ?_)
  show wpAny _ _ (pure ((#[] : Array Value) ++ vs.toArray).toList) Q E _
  rw [show ((#[] : Array Value) ++ vs.toArray).toList = vs by simp]
  exact wpAny_pure h
theorem sorted_intsT {l : Addr} {vs : List Value} {ns : List Int} {Q : Value → Shared → Prop} (hl : s.heap.IsTuple l vs.toArray) (hI : IntsAre vs ns) (h64 : vs.length < 64)
    (h : ∀ (out : Array Value) (ns' : List Int), IntsAre out.toList ns' → ns'.Perm ns → ns'.Pairwise (· ≤ ·) → Q (.ref (s.heap.objs.size + 1)) { s with heap := sortedAll s.heap vs out }) :
    wpAny (model prog w) A (call (.builtin "sorted") [.ref l]) Q E s := by
  refine Calls.call_function_entry kind_sorted plain_sorted entry_sorted (args_sorted1 _) ?_
  unfold Builtin.«sorted»
  refine wpAny_bind (m := checkCount "sorted" 1 1 _) (wpAny_pure ?_)
  refine wpAny_bind (collect_tup hl ?_)
  refine wpAny_bind (wpAny_newList ?_)
  have hsz : ((s.heap.push (seqObj "list" #[] 0)).update s.heap.objs.size (Obj.mapSeq (· ++ vs.toArray))).objs.size = s.heap.objs.size + 1 := by
    rw [Heap.size_update, size_push']
  have hoL : (((s.heap.push (seqObj "list" #[] 0)).update s.heap.objs.size (Obj.mapSeq (· ++ vs.toArray))).push (seqObj "list" vs.toArray 0)).get? (s.heap.objs.size + 1) = some (seqObj "list" vs.toArray 0) := by
    rw [← hsz]; exact Heap.get?_push_size _ rfl
  show wpAny _ _ _ _ _ { s with heap := ((s.heap.push (seqObj "list" #[] 0)).update s.heap.objs.size (Obj.mapSeq (· ++ vs.toArray))).push (seqObj "list" vs.toArray 0) }
  rw [hsz]
  refine wpAny_bind (wpAny_holding (wpAny_call_entry slot_list_sort ⟨_, hoL, rfl⟩ entry_list_sort (list_sort_tree hoL hI h64 fun out ns' a1 a2 a3 => ⟨_, rfl, ?_⟩) (args_list_sort _)))
  exact wpAny_pure ⟨_, rfl, h out ns' a1 a2 a3⟩

set_option maxHeartbeats 1000000 in
theorem meets_enumerate_newT (l : Addr) (items : Array Value) :
    Meets (Builtin.«enumerate.__new__» ⟨[.type "enumerate", .ref l], []⟩) (fun _ R s => s.heap.IsTuple l items ∧
      R (.ok (.ret (.ref (s.heap.push { cls := .type "tuple_iterator", data := .fields #[.ref l, .int 0 0] }).objs.size)))
        { s with heap := (s.heap.push { cls := .type "tuple_iterator", data := .fields #[.ref l, .int 0 0] }).push { cls := .type "enumerate", data := .fields #[.none, .bool false, .ref s.heap.objs.size, rawInt 0, .none, .none] } }) :=
  .of_wp fun prog w A R s h => by
    obtain ⟨hp, g, d, tk, os⟩ := s; obtain ⟨hl, h⟩ := h
    have hsub := sub_enumerate
    have q1 : ∀ {A' : Around} {E : Value → Shared → Prop} {Q : Value → Shared → Prop}, Q (.ref hp.objs.size) ⟨hp.push { cls := .type "tuple_iterator", data := .fields #[.ref l, .int 0 0] }, g, d, tk, os⟩ → wpAny (model prog w) A' (pyIter (.ref l)) Q E ⟨hp, g, d, tk, os⟩ :=
      fun q => wpAny_pyIter_tuple (s := ⟨hp, g, d, tk, os⟩) hl q
    wp_walk using q1
    refine wpAny_stack_any fun st => wpAny_pure ?_
    split
    · rename_i c _ _ _ _ _
      cases (c == Value.type "enumerate")
      · wp_walk using q1
        exact ⟨_, rfl, h⟩
      · wp_walk using q1
        exact ⟨_, rfl, h⟩
    · wp_walk using q1
      exact ⟨_, rfl, h⟩
theorem call_enumerate_tup {l : Addr} {items : Array Value} {Q : Value → Shared → Prop} (hL : s.heap.IsTuple l items)
    (h : ∀ h', IsEnum h' (s.heap.objs.size + 1) s.heap.objs.size 0 .none → h'.IsTupleIter s.heap.objs.size l 0 → h'.objs.size = s.heap.objs.size + 2 →
      (∀ b o, s.heap.get? b = some o → h'.get? b = some o) → Q (.ref (s.heap.objs.size + 1)) { s with heap := h' }) :
    wpAny (model prog w) A (call (.type "enumerate") [.ref l]) Q E s := by
  refine callType_new F.called_enumerate (by decide) (F.typeCall_enumerate_1 _) (F.newCall_enumerate_1 _) (fun obj => F.args_object_init_2 obj _) F.entry_enumerate_new
    (meets_enumerate_newT l items) ⟨hL, ?_⟩
  have hz : (s.heap.push { cls := .type "tuple_iterator", data := .fields #[.ref l, .int 0 0] }).objs.size = s.heap.objs.size + 1 := Heap.size_push ..
  show _ ∧ _
  rw [hz]
  have he : IsEnum ((s.heap.push { cls := .type "tuple_iterator", data := .fields #[.ref l, .int 0 0] }).push
      { cls := .type "enumerate", data := .fields #[.none, .bool false, .ref s.heap.objs.size, rawInt 0, .none, .none] }) (s.heap.objs.size + 1) s.heap.objs.size 0 .none := by
    have := Heap.get?_push_size (s.heap.push { cls := .type "tuple_iterator", data := .fields #[.ref l, .int 0 0] })
      (o := { cls := .type "enumerate", data := .fields #[.none, .bool false, .ref s.heap.objs.size, rawInt 0, .none, .none] }) rfl
    rw [hz] at this; exact this
  refine ⟨⟨_, he, rfl⟩, h _ he ⟨_, Heap.get?_push_of_some _ (Heap.get?_push_size _ rfl), rfl, rfl⟩ (by rw [Heap.size_push, hz]) fun b o x => Heap.get?_push_of_some _ (Heap.get?_push_of_some _ x)⟩
end
section
variable {X : Cx}
theorem cr_sortedTI : CallR X (.builtin "sorted") (fun vs H Q => ∃ (a : Addr) (ns : List Int), vs = [V.ref a] ∧ SqT X.K H a (ns.map V.int) ∧ ns.length < 64 ∧
    ∀ (ns' : List Int) (p : Addr), ns'.Perm ns → ns'.Pairwise (· ≤ ·) → H p = none → Q (.ref p) (upd H p (.lst (ns'.map V.int)))) := by
  intro pins s σ H vs us Q I r h
  obtain ⟨a, ns, rfl, hs, h64, q⟩ := h
  obtain ⟨its, rv, hl, _⟩ := I.tuple hs
  rw [Vals.ref1 r]
  have hi := rv.ints
  refine sorted_intsT hl hi (by rw [hi.length]; exact h64) fun out ns' h1 h2 h3 => ?_
  obtain ⟨ep, he'⟩ := PyProof.Rows.sortedAll_at s.heap its out
  have hlen : (ns'.map V.int).length ≤ sizeLine := by rw [List.length_map, h2.length_eq]; exact small64 h64
  exact ⟨.ref _, upd H (s.heap.objs.size + 1) (.lst (ns'.map V.int)), I.laid (t' := s.toks) (fun _ _ => PyProof.Rows.sortedAll_old) (Nat.le_succ _) ⟨hlen, out.toList, ep, vals_of_ints h1, he'⟩, rfl, q ns' _ h2 h3 (I.hok.fresh (Nat.le_succ _))⟩

/-- enumerate(a tuple): the pairs are new tuples -/
def IteT (K : PySem.W.Frag) (a : Addr) : It :=
  ⟨fun i H => ∃ (xs : List V) (x : V), SqT K H a xs ∧ xs[i]? = some x, fun i H v H' => ∃ T x, v = .ref T ∧ H T = none ∧ H' = upd H T (.tup [.int (i : Nat), x]) ∧ ∀ xs, SqT K H a xs → xs[i]? = some x, fun i H => ∃ xs : List V, SqT K H a xs ∧ xs.length = i⟩
theorem turn_enumT {P : Program} {w : World} {K : PySem.W.Frag} {elts : List Expr} {kk : Nat} {tpos : Pos} (a e it : Addr) :
    Turn P w K (.Tuple elts kk tpos) (IteT K a) [e, it] e (fun i h => (∃ old, IsEnum h e it ((i : Nat) : Int) old) ∧ h.IsTupleIter it a i ∧ e ≠ it ∧ e ≠ a ∧ a ≠ it) where
  mem := by simp
  obj := fun i h st b hb => by
    obtain ⟨⟨old, he⟩, ⟨o, ho, hc, hd⟩, _⟩ := st
    have e' : b = e ∨ b = it := by simpa using hb
    rcases e' with z | z
    · rw [z]; exact ⟨_, he, fun v q => nomatch q⟩
    · rw [z]; exact ⟨o, ho, fun v q => by rw [hd] at q; cases q⟩
  keep := fun i h h' st k => let ⟨⟨old, he⟩, hi, hne⟩ := st; ⟨⟨old, k e (by simp) _ he⟩, hi.at fun o q => k it (by simp) o q, hne⟩
  item := by
    intro X hP hw hK hc i pins s σ H E I hf st hg
    subst hP hw hK
    obtain ⟨⟨old, he⟩, hit, hne, hea, hai⟩ := st
    obtain ⟨xs, x, hq, hx⟩ := hg
    obtain ⟨its, rv, p, hz⟩ := I.tuple hq
    obtain ⟨u, hu, ru⟩ := rv.get hx
    have hel : e < s.heap.objs.size := Heap.lt_size he
    have hil : it < s.heap.objs.size := by obtain ⟨_, q, _⟩ := hit; exact Heap.lt_size q
    have D := Draws.tuple (prog := X.prog) (w := X.w) (A := X.A.in1) (I.ok.hd hc) it a hai its.toArray
    have hi2 : i < its.toArray.size := by
      have q := (List.getElem?_eq_some_iff.mp hu).1
      simpa using q
    refine wpAny_pyNext_enum_itemD D he ⟨hit, p⟩ hi2 hne (fun z => ?_) fun y h' tk hy ho hst' hT hsz hk => ?_
    · rcases List.mem_cons.mp z with z | z
      · exact hne z
      · exact hea (List.mem_singleton.mp z)
    have hyu : y = u := by
      have q : its[i]? = some y := by simpa using hy
      rw [hu] at q
      exact (Option.some.inj q).symm
    subst hyu
    refine ⟨_, rfl, wpAny_letOwnedTupleGo_enum (s := { s with heap := h', toks := tk + 1 }) ho fun h'' he' sb => ?_⟩
    have hT2 : h''.get? s.heap.objs.size = some { cls := .type "tuple", data := .seq #[.int i tk, y] } := (sb.2 _ (Nat.ne_of_gt hel)).trans hT
    have new : ObjOk X.prog X.w (upd H s.heap.objs.size (.tup [.int (i : Nat), x])) h'' s.heap.objs.size (.tup [.int (i : Nat), x]) :=
      ⟨by show 2 ≤ sizeLine; decide, [.int i tk, y], .cons ⟨_, rfl⟩ (.cons ru .nil), ⟨_, hT2, rfl, _, rfl⟩⟩
    have I1 : Inv X pins σ (upd H s.heap.objs.size (.tup [.int (i : Nat), x])) { s with heap := h'', toks := tk + 1 } :=
      I.turnedNew (ch := [e, it]) (fun b ob hb q => (sb.2 b (fun z => hb (by simp [z]))).trans (hk b ob (fun z => hb (by simp [z])) (fun z => hb (by simp [z])) q)) hf (Nat.le_refl _) new
    refine ⟨.ref s.heap.objs.size, _, I1, rfl, ⟨_, x, rfl, I.hok.fresh (Nat.le_refl _), rfl, fun ys hy => by rw [I.tuple_inj hy hq]; exact hx⟩, ⟨⟨y, ?_⟩, hst'.1.at fun o q => (sb.2 it (Ne.symm hne)).trans q, hne, hea, hai⟩, fun b hb => ?_⟩
    · have e1 : ((i + 1 : Nat) : Int) = (i : Int) + 1 := by omega
      rw [e1]; exact he'
    · have hb' : b < s.heap.objs.size := by
        have e' : b = e ∨ b = it := by simpa using hb
        rcases e' with z | z
        · rw [z]; exact hel
        · rw [z]; exact hil
      rw [upd_ne (Nat.ne_of_lt hb')]
      exact (hf b hb).1
  done := by
    intro X hP hw hK hc i pins s σ H E I hf st hg
    subst hP hw hK
    obtain ⟨⟨old, he⟩, hit, hne, hea, hai⟩ := st
    obtain ⟨xs, hq, hx⟩ := hg
    obtain ⟨its, rv, p, hz⟩ := I.tuple hq
    obtain ⟨f0, f1, f2, f3, f4, f5⟩ := hf it (by simp)
    have hl := rv.length
    have D := Draws.tuple (prog := X.prog) (w := X.w) (A := X.A.in1) (I.ok.hd hc) it a hai its.toArray
    have e0 : its.toArray.size = i := by rw [List.size_toArray, ← hl]; exact hx
    have st0 : s.heap.IsTupleIter it a its.toArray.size := by rw [e0]; exact hit
    exact wpAny_pyNext_enum_endD D he ⟨st0, p⟩ fun h' eb => ⟨rfl, I.turned (t' := s.toks) (fun b o hb q => eb b o hb q) f0 f1 f3 f4 f5⟩
  self := fun A i s Q E st h => let ⟨⟨_, he⟩, _⟩ := st; wpAny_pyIter_enum he h
def iEnumT (K : PySem.W.Frag) (ta : TA) : TI := fun σ H R => ta σ H fun vs H1 => ∃ a xs, vs = [.ref a] ∧ SqT K H1 a xs ∧ R (IteT K a) H1
theorem pi_enumT {e : Expr} {ta : TA} {p pos tpos : Pos} {elts : List Expr} {kk : Nat} (hg : Gl X "enumerate") (hm : X.mg "enumerate" = none) (ha : PA X [e] ta) (hs : starEach [e] X.env = [(false, eval e X.env)] := by rfl) :
    PI X (.Tuple elts kk tpos) (.Call (.Name "enumerate" p) [e] [] pos) (iEnumT X.K ta) := by
  refine ⟨fun pins s σ H R I h => ?_⟩
  refine Call_ (ld_blt I hg hm boot_enumerate (PyProof.Rows.callWith_type1 (thn (ha.run pos pins s σ H _ I h) fun us s1 ⟨vs, H1, I1, r1, q1⟩ => ?_) hs rfl))
  obtain ⟨a, xs, ex, hq, q⟩ := q1
  subst ex
  cases r1 with
  | cons r rr =>
    cases rr
    cases r
    obtain ⟨its, rv, p', hz⟩ := I1.tuple hq
    have hL : s1.heap.IsTuple a its.toArray := p'
    have hlt : a < s1.heap.objs.size := by obtain ⟨_, e, _⟩ := id hL; exact Heap.lt_size e
    refine call_enumerate_tup hL fun h' he hit hsz hk => wpAny_pyIter_enum he ?_
    have I2 : Inv X pins σ H1 { s1 with heap := h' } := I1.kept (t' := s1.toks) hk
    refine ⟨s1.heap.objs.size + 1, [s1.heap.objs.size + 1, s1.heap.objs.size], _, _, H1, rfl, I2, turn_enumT a (s1.heap.objs.size + 1) s1.heap.objs.size, ⟨⟨.none, he⟩, hit, Nat.succ_ne_self _, Nat.ne_of_gt (Nat.lt_succ_of_lt hlt), Nat.ne_of_lt hlt⟩, fun b hb => ?_, q⟩
    have e' : b = s1.heap.objs.size + 1 ∨ b = s1.heap.objs.size := by simpa using hb
    have hle : s1.heap.objs.size ≤ b := by
      rcases e' with z | z
      · rw [z]; exact Nat.le_add_right _ _
      · rw [z]; exact Nat.le_refl _
    exact I1.fpOk hle (I1.hok.fresh hle)
end
end Dw

set_option Elab.async false
/-! Plain Lean: what the program's defs compute. -/
namespace Dw
structure Dam where
  cap : Int
  start : Int
  fin : Int
  ins : List Int
structure Dam.Ok (d : Dam) : Prop where
  c0 : 0 ≤ d.cap
  c1 : d.cap ≤ 1000
  s0 : 0 ≤ d.start
  s1 : d.start ≤ d.cap
  f0 : 0 ≤ d.fin
  f1 : d.fin ≤ d.cap
  n1 : 1 ≤ d.ins.length
  n7 : d.ins.length ≤ 7
  i0 : ∀ x ∈ d.ins, 0 ≤ x
  i1 : ∀ x ∈ d.ins, x ≤ 1000
structure FlowsOk (ds : List Int) : Prop where
  n1 : 1 ≤ ds.length
  n7 : ds.length ≤ 7
  i0 : ∀ x ∈ ds, 0 ≤ x
  i1 : ∀ x ∈ ds, x ≤ 1000
theorem Dam.Ok.flows {d : Dam} (h : d.Ok) : FlowsOk d.ins := ⟨h.n1, h.n7, h.i0, h.i1⟩
/-- min(a, b), max(a, b) as the calls answer -/
def mn (i j : Int) : Int := if j < i then j else i
def mx (i j : Int) : Int := if j > i then j else i
/-- given, spilled, held of all months -/
def runM (cap : Int) : Int → List Int → List Int → List (Int × Int × Int)
  | h, i :: is, d :: ds =>
    (mn d (h + i), mx 0 (h + i - mn d (h + i) - cap), h + i - mn d (h + i) - mx 0 (h + i - mn d (h + i) - cap)) ::
      runM cap (h + i - mn d (h + i) - mx 0 (h + i - mn d (h + i) - cap)) is ds
  | _, _, _ => []
def Dam.run (d : Dam) (ds : List Int) : List (Int × Int × Int) := runM d.cap d.start d.ins ds
def totM (d : Dam) (ds : List Int) : Int := (List.zipWith (fun (x : Int) (t : Int × Int × Int) => x - t.1) ds (d.run ds)).sum
def givM (d : Dam) (ds : List Int) : Bool := (List.zipWith (fun (x : Int) (t : Int × Int × Int) => t.1 == x) ds (d.run ds)).all id
/-- a ratio in lowest terms -/
def gcdI (t b : Int) : Int := ((Nat.gcd t.natAbs b.natAbs : Nat) : Int)
def mkR (t b : Int) : Int × Int := (t / gcdI t b, b / gcdI t b)
def lessR (x y : Int × Int) : Bool := decide (x.1 * y.2 < y.1 * x.2)
/-- the greater one as the loops keep it -/
def up (found x : Int × Int) : Int × Int := if lessR found x = true then x else found
/-- what some months can have at most -/
def cutI (l : List Int) (f e : Nat) : List Int := (l.drop f).take (e - f)
def waterM (d : Dam) (f l : Nat) : Int := (if f = 0 then d.start else d.cap) + (cutI d.ins f (l + 1)).sum - (if l + 1 = d.ins.length then d.fin else 0)
def spansM (n : Nat) : List (Nat × Nat) := (List.range n).flatMap fun f => (List.range (n - f)).map fun k => (f, f + k)
def sortD (l : List Int) : List Int := (l.mergeSort (fun a b => decide (a ≤ b))).reverse
def Dam.op (d : Dam) : Dam := { d with fin := 0 }
def stepS (sm : List Int) (w : Int) (found : Int × Int) (c : Nat) : Int × Int := up found (mkR ((sm.take (c + 1)).sum - w) ((c : Int) + 1))
def spanLackM (d : Dam) (ds : List Int) (s : Nat × Nat) : Int × Int :=
  (List.range (sortD (cutI ds s.1 (s.2 + 1))).length).foldl (stepS (sortD (cutI ds s.1 (s.2 + 1))) (waterM d.op s.1 s.2)) (0, 1)
def lackM (d : Dam) (ds : List Int) : Int × Int := (spansM ds.length).foldl (fun found s => up found (spanLackM d ds s)) (0, 1)
/-- the months of a row get nothing -/
def zeroed (row : List Nat) (ds : List Int) : List Int := (List.range ds.length).map fun k => if k ∈ row then 0 else ds.getD k 0
def nextRow (row : List Nat) (k : Nat) : Bool := match row.getLast? with
  | none => true
  | some l => decide (l < k)
def rowsNext (n : Nat) (rows : List (List Nat)) : List (List Nat) := rows.flatMap fun row => ((List.range n).filter (nextRow row)).map fun k => row ++ [k]
def rowsAt (n : Nat) : Nat → List (List Nat)
  | 0 => [[]]
  | m + 1 => rowsNext n (rowsAt n m)
structure FewOk (d : Dam) (ds : List Int) (r : List Nat) : Prop where
  mem : r ∈ rowsAt ds.length r.length
  gives : givM d (zeroed r ds) = true
  least : ∀ m, m < r.length → ∀ r' ∈ rowsAt ds.length m, givM d (zeroed r' ds) = false
theorem runM_length (cap : Int) : ∀ (is ds : List Int) (h : Int), (runM cap h is ds).length = min is.length ds.length
  | [], _, _ => by simp [runM]
  | _ :: _, [], _ => by simp [runM]
  | i :: is, d :: ds, h => by
    simp only [runM, List.length_cons]
    rw [runM_length cap is ds]
    omega
theorem rowsAt_len (n : Nat) : ∀ m, ∀ r ∈ rowsAt n m, r.length = m
  | 0, r, h => by
    simp [rowsAt] at h
    rw [h]; rfl
  | m + 1, r, h => by
    simp only [rowsAt, rowsNext, List.mem_flatMap, List.mem_map, List.mem_filter] at h
    obtain ⟨q, hq, k, _, rfl⟩ := h
    rw [List.length_append, rowsAt_len n m q hq]
    rfl
theorem rowsAt_lt (n : Nat) : ∀ m, ∀ r ∈ rowsAt n m, ∀ k ∈ r, k < n
  | 0, r, h, k, hk => by
    simp [rowsAt] at h
    rw [h] at hk
    cases hk
  | m + 1, r, h, k, hk => by
    simp only [rowsAt, rowsNext, List.mem_flatMap, List.mem_map, List.mem_filter] at h
    obtain ⟨q, hq, j, ⟨hj, _⟩, rfl⟩ := h
    rcases List.mem_append.mp hk with z | z
    · exact rowsAt_lt n m q hq k z
    · rw [List.mem_singleton.mp z]
      exact List.mem_range.mp hj
theorem rowsNext_len (n : Nat) : ∀ rows : List (List Nat), (rowsNext n rows).length ≤ rows.length * n
  | [] => by simp [rowsNext]
  | r :: rows => by
    have ih := rowsNext_len n rows
    unfold rowsNext at ih ⊢
    rw [List.flatMap_cons, List.length_append, List.length_map, List.length_cons, Nat.add_mul, Nat.one_mul]
    have h1 := List.length_filter_le (nextRow r) (List.range n)
    rw [List.length_range] at h1
    omega
theorem rowsAt_length (n : Nat) : ∀ m, (rowsAt n m).length ≤ n ^ m
  | 0 => by simp [rowsAt]
  | m + 1 => by
    have h1 := rowsNext_len n (rowsAt n m)
    have h2 := Nat.mul_le_mul_right n (rowsAt_length n m)
    rw [Nat.pow_succ]
    exact Nat.le_trans h1 h2
theorem rowsAt_range (n : Nat) : ∀ m, m ≤ n → List.range m ∈ rowsAt n m
  | 0, _ => by simp [rowsAt]
  | m + 1, h => by
    simp only [rowsAt, rowsNext, List.mem_flatMap, List.mem_map, List.mem_filter]
    refine ⟨List.range m, rowsAt_range n m (Nat.le_of_succ_le h), m, ⟨List.mem_range.mpr h, ?_⟩, (List.range_succ).symm⟩
    unfold nextRow
    cases m with
    | zero => simp
    | succ j =>
      rw [List.range_succ, List.getLast?_append]
      simp
theorem zeroed_length (row : List Nat) (ds : List Int) : (zeroed row ds).length = ds.length := by simp [zeroed]
end Dw

set_option Elab.async false
set_option maxRecDepth 100000
set_option maxHeartbeats 4000000
/-! What the promises speak of: heaps that only grow (but for code tables), dams, ratios, runs. -/
namespace Dw
open PySem PySem.Spec PyProof.Rows L2
/-- a code object's table -/
def IsTb : HO → Prop
  | .tbl ps => TriplesOk ps.toList
  | _ => False
/-- all that was tracked is as it was, but tables may have changed -/
def Xt (H H' : Hp) : Prop := ∀ b o, H b = some o → H' b = some o ∨ (IsTb o ∧ ∃ u, IsTb u ∧ H' b = some u)
theorem Xt.refl (H : Hp) : Xt H H := fun _ _ h => .inl h
theorem Xt.trans {H H1 H2 : Hp} (a : Xt H H1) (b : Xt H1 H2) : Xt H H2 := fun c o h => by
  rcases a c o h with z | ⟨t, u, tu, z⟩
  · exact b c o z
  · rcases b c u z with y | ⟨_, v, tv, y⟩
    · exact .inr ⟨t, u, tu, y⟩
    · exact .inr ⟨t, v, tv, y⟩
theorem Xt.same {H H' : Hp} (e : Same H H') : Xt H H' := fun b o h => .inl (e b o h)
theorem Xt.upd {H : Hp} {p : Addr} (h : H p = none) (o : HO) : Xt H (upd H p o) := fun b x e => .inl (by rw [upd_ne (ne_of_none e h)]; exact e)
theorem Xt.free {H H' : Hp} (e : Xt H H') {p : Addr} (h : H' p = none) : H p = none := by
  cases q : H p with
  | none => rfl
  | some o =>
    rcases e p o q with z | ⟨_, u, _, z⟩
    · rw [z] at h; cases h
    · rw [z] at h; cases h
theorem Xt.tup {H H' : Hp} (e : Xt H H') {p : Addr} {xs : List V} (h : H p = some (.tup xs)) : H' p = some (.tup xs) := by
  rcases e p _ h with z | ⟨t, _⟩
  · exact z
  · exact t.elim
theorem Xt.lst {H H' : Hp} (e : Xt H H') {p : Addr} {xs : List V} (h : H p = some (.lst xs)) : H' p = some (.lst xs) := by
  rcases e p _ h with z | ⟨t, _⟩
  · exact z
  · exact t.elim
theorem Xt.seqL {K : PySem.W.Frag} {H H' : Hp} {a : Addr} {xs : List V} (e : Xt H H') (h : SqL K H a xs) : SqL K H' a xs := by
  rcases h with (h | ⟨o, h⟩) | h
  · exact .inl (.inl (e.lst h))
  · rcases e a _ h with z | ⟨t, _⟩
    · exact .inl (.inr ⟨o, z⟩)
    · exact t.elim
  · exact .inr h
theorem Xt.tab {H H' : Hp} {P : Addr} (e : Xt H H') (h : GxR.TabG H P) : GxR.TabG H' P := by
  obtain ⟨ps, h1, h2⟩ := h
  rcases e P _ h1 with z | ⟨_, u, tu, z⟩
  · exact ⟨ps, z, h2⟩
  · cases u with
    | tbl qs => exact ⟨qs, z, tu⟩
    | lst _ => exact tu.elim
    | tup _ => exact tu.elim
    | dK _ => exact tu.elim
    | dT _ => exact tu.elim
    | set _ _ => exact tu.elim
    | ins _ _ _ => exact tu.elim
    | own _ => exact tu.elim
    | xd _ => exact tu.elim
    | met _ _ => exact tu.elim
    | rng _ _ => exact tu.elim
    | frz _ _ => exact tu.elim
    | ext _ => exact tu.elim
theorem Xt.tabbed {H H' : Hp} {P : Addr} (h : GxR.TabG H P) (t : GxR.Tabbed P H H') : Xt H H' := fun b o e => by
  by_cases hb : b = P
  · obtain ⟨ps, h1, h2⟩ := h
    obtain ⟨⟨qs, g1, g2⟩, _⟩ := t
    rw [hb, h1] at e
    cases e
    exact .inr ⟨h2, .tbl qs, g2, by rw [hb]; exact g1⟩
  · exact .inl (by rw [t.2 b hb]; exact e)
/-- what is at a list or a tuple stands apart from a new place -/
theorem ne_new {H : Hp} {a p : Addr} {o : HO} (h : H a = some o) (hp : H p = none) : a ≠ p := ne_of_none h hp

/-- the tables of the defs that hold generator expressions -/
structure Tabs where
  flows : Addr
  need : Addr
  total : Addr
  does : Addr
structure TabsOk (T : Tabs) (H : Hp) : Prop where
  flows : GxR.TabG H T.flows
  need : GxR.TabG H T.need
  total : GxR.TabG H T.total
  does : GxR.TabG H T.does
theorem TabsOk.xt {T : Tabs} {H H' : Hp} (t : TabsOk T H) (e : Xt H H') : TabsOk T H' := ⟨e.tab t.flows, e.tab t.need, e.tab t.total, e.tab t.does⟩

def Ints (H : Hp) (a : Addr) (ns : List Int) : Prop := H a = some (.tup (ns.map V.int))
theorem Ints.xt {H H' : Hp} {a : Addr} {ns : List Int} (h : Ints H a ns) (e : Xt H H') : Ints H' a ns := e.tup h
/-- a dam at a, its inflows at b -/
def DamAt (H : Hp) (a b : Addr) (d : Dam) : Prop := H a = some (.tup [.int d.cap, .int d.start, .int d.fin, .ref b]) ∧ Ints H b d.ins
theorem DamAt.xt {H H' : Hp} {a b : Addr} {d : Dam} (h : DamAt H a b d) (e : Xt H H') : DamAt H' a b d := ⟨e.tup h.1, e.tup h.2⟩
def RatAt (H : Hp) (p : Addr) (r : Int × Int) : Prop := H p = some (.tup [.int r.1, .int r.2])
theorem RatAt.xt {H H' : Hp} {p : Addr} {r : Int × Int} (h : RatAt H p r) (e : Xt H H') : RatAt H' p r := e.tup h
theorem Trip.xt {H H' : Hp} {b : Addr} {ts : List (Int × Int × Int)} (h : Trip H b ts) (e : Xt H H') : Trip H' b ts := by
  obtain ⟨rs, h1, h2, h3⟩ := h
  exact ⟨rs, e.lst h1, h2, fun i r t a b => e.tup (h3 i r t a b)⟩
/-- the same, the outer thing a tuple -/
def TripT (H : Hp) (b : Addr) (ts : List (Int × Int × Int)) : Prop :=
  ∃ rs : List Addr, H b = some (.tup (rs.map V.ref)) ∧ rs.length = ts.length ∧ ∀ (i : Nat) r t, rs[i]? = some r → ts[i]? = some t → H r = some (.tup [.int t.1, .int t.2.1, .int t.2.2])
theorem TripT.xt {H H' : Hp} {b : Addr} {ts : List (Int × Int × Int)} (h : TripT H b ts) (e : Xt H H') : TripT H' b ts := by
  obtain ⟨rs, h1, h2, h3⟩ := h
  exact ⟨rs, e.tup h1, h2, fun i r t a b => e.tup (h3 i r t a b)⟩
/-- a list of pairs -/
def PairsAt (H : Hp) (b : Addr) (ts : List (Nat × Nat)) : Prop :=
  ∃ rs : List Addr, H b = some (.lst (rs.map V.ref)) ∧ rs.length = ts.length ∧ ∀ (i : Nat) r (t : Nat × Nat), rs[i]? = some r → ts[i]? = some t → H r = some (.tup [.int (t.1 : Nat), .int (t.2 : Nat)])
/-- a row of months -/
def RowAt (H : Hp) (q : Addr) (r : List Nat) : Prop := H q = some (.tup (r.map fun k => V.int (k : Nat)))

/-! ### a def whose code object is known -/
structure FunC (K : PySem.W.Frag) (x qual : Str) (st : Stmt) (f : Addr) (fd : FuncData) (cd : Value) : Prop where
  ex : ∃ (oc : Value) (od : Option Addr) (kV doc pm : Value) (an : Option Addr) (ct : Value) (osl : Array (Option Value)),
    fd = PySem.W.fnOf x qual (defArgs st) (defBody st) (defScope st) .none kV doc pm an cd ct ∧ K.lookup f = some ⟨oc, od, .func fd, osl⟩ ∧ PySem.W.codeIn K cd qual = true
  kp : PySem.W.keepIn K (.ref f) = true
theorem FunC.fun {K : PySem.W.Frag} {x qual : Str} {st : Stmt} {f : Addr} {fd : FuncData} {cd : Value} (F : FunC K x qual st f fd cd) : Fun K x qual st f fd :=
  let ⟨oc, od, kV, doc, pm, an, ct, osl, e1, e2, e3⟩ := F.ex; ⟨⟨oc, od, kV, doc, pm, an, cd, ct, osl, e1, e2, e3⟩, F.kp⟩
section
variable {P : Program} {w : World} {K : PySem.W.Frag} {mg : Str → Option Value} {base : Heap}
theorem FunC.ok {x qual : Str} {st : Stmt} {f : Addr} {fd : FuncData} {cd : Value} {N ps : List Str} {k : Nat} {sp : Sp} (F : FunC K x qual st f fd cd) (S : FnScope N ps (defScope st)) (len : ∀ vs H Q E, sp vs H Q E → vs.length = ps.length)
    (hbody : ∀ (A : Around) (outer : List Env) (s : Shared) (H : Hp) (vs : List V) (Q : VK) (E : XK), Room k (A.deeper (envOfC qual (defScope st) s.heap.objs.size f cd)) → sp vs H Q E →
      ∃ t, PSs (cxOf CX0 P w K mg base N qual (defScope st) f cd A outer s H E).nox (defBody st) t ∧ t { nx := fun _ H' => Q .non H', rt := Q } (start N vs) H) : FnOk P w K mg base CX0 (k + 1) f fd ps sp := by
  obtain ⟨oc, od, kV, doc, pm, an, ct, osl, rfl, lk, hcd⟩ := F.ex
  refine fn_of lk hcd S len fun A outer s H vs Q E hr hsp => ?_
  obtain ⟨t, h, q⟩ := hbody A outer s H vs Q E hr hsp
  exact ⟨t, h.nox, q⟩
theorem func_mk {x qual : Str} {st : Stmt} {f : Addr} {oc : Value} {od an : Option Addr} {osl : Array (Option Value)} {kV doc pm cdv ct : Value} (l : K.lookup f = some ⟨oc, od, .func (PySem.W.fnOf x qual (defArgs st) (defBody st) (defScope st) .none kV doc pm an cdv ct), osl⟩)
    (c : PySem.W.codeIn K cdv qual = true) (k : PySem.W.keepIn K (.ref f) = true) : FunC K x qual st f (PySem.W.fnOf x qual (defArgs st) (defBody st) (defScope st) .none kV doc pm an cdv ct) cdv := ⟨⟨oc, od, kV, doc, pm, an, ct, osl, rfl, l, c⟩, k⟩
end
end Dw

set_option Elab.async false
set_option maxRecDepth 100000
set_option maxHeartbeats 4000000
/-! ratio, less, is_in. -/
namespace Dw
open PySem PySem.Spec PyProof.Rows L2
theorem gcdI_pos {t b : Int} (h : 0 < b) : 0 < gcdI t b ∧ gcdI t b ≤ b := by
  unfold gcdI
  have h1 : 0 < b.natAbs := by omega
  have h2 := Nat.gcd_pos_of_pos_right t.natAbs h1
  have h3 := Nat.le_of_dvd h1 (Nat.gcd_dvd_right t.natAbs b.natAbs)
  omega
section
variable {P : Program} {w : World} {K : PySem.W.Frag} {mg : Str → Option Value} {base : Heap}
def spRatio : Sp := fun vs H Q _ => ∃ (t b : Int), vs = [.int t, .int b] ∧ 0 < b ∧ b ≤ 1000 ∧ ∀ p, H p = none → Q (.ref p) (upd H p (.tup [.int (mkR t b).1, .int (mkR t b).2]))
theorem ok_ratio {f : Addr} {fd : FuncData} {k : Nat} (F : Fun K "ratio" "ratio" sRatio f fd) (mG : mg "gcd" = some (.builtin "math.gcd")) : FnOk P w K mg base CX0 (k + 1) f fd ["top", "bottom"] spRatio := by
  refine F.ok scRatio (fun vs H Q E h => ?_) (fun cdv A outer s H vs Q E hr h => ?_)
  · obtain ⟨t, b, rfl, _⟩ := h
    rfl
  · obtain ⟨t, b, rfl, h0, h1, q⟩ := h
    obtain ⟨g0, g1⟩ := gcdI_pos (t := t) h0
    refine ⟨_, pss_cons (ps_set (i := 2) scRatio.nd rfl (.inl rfl) (pe_ifExp (pt_cmpR op_gt (pv 1) pe_int (nomark _)) (pe_callBfun cr_gcd (by rfl) mG (pa_cons (pv 0) (pa_cons (pv 1) pa_nil)))
        (pe_op op_sub pe_int (pe_callBfun cr_gcd (by rfl) mG (pa_cons (pv 0) (pa_cons (pv 1) pa_nil))))))
      (pss_one (ps_ret (pe_tup (pa_cons (pe_op op_fdiv (pv 0) (pv 2)) (pa_cons (pe_op op_fdiv (pv 1) (pv 2)) pa_nil))))), ?_⟩
    refine ⟨.int b, rfl, b, 0, rfl, rfl, _, rfl, ?_⟩
    rw [decide_eq_true (show (0 : Int) < b from h0)]
    refine iteT ⟨.int t, rfl, .int b, rfl, t, b, rfl, ?_⟩
    refine ⟨.int t, rfl, .int (gcdI t b), rfl, t, gcdI t b, rfl, rfl, ⟨g0, by omega⟩, .int b, rfl, .int (gcdI t b), rfl, b, gcdI t b, rfl, rfl, ⟨g0, by omega⟩, (by show 2 ≤ sizeLine; decide), fun p hp => q p hp⟩
def spLess : Sp := fun vs H Q _ => ∃ (a b : Addr) (x y : Int × Int), vs = [.ref a, .ref b] ∧ RatAt H a x ∧ RatAt H b y ∧ (-(2 ^ 64) < x.1 ∧ x.1 < 2 ^ 64) ∧ (-(2 ^ 64) < y.1 ∧ y.1 < 2 ^ 64) ∧ Q (.bl (lessR x y)) H
theorem less_body {X : Cx} {p1 p2 p3 p4 p5 p6 p7 p8 p9 p10 p11 p12 p13 p14 p15 : Pos} {j1 j2 j3 j4 : Nat} {x y : Str} (hx : PE X (.Name x p1) (tVar 0)) (hy : PE X (.Name y p3) (tVar 1)) (hx2 : PE X (.Name x p7) (tVar 0)) (hy2 : PE X (.Name y p5) (tVar 1)) :
    PE X (.Compare (.BinOp (.Subscript (.Name x p1) (.Constant (.int 0) j1 p2) p9) .Mult (.Subscript (.Name y p3) (.Constant (.int 1) j2 p4) p10) p13) [.Lt] [.BinOp (.Subscript (.Name y p5) (.Constant (.int 0) j3 p6) p11) .Mult (.Subscript (.Name x p7) (.Constant (.int 1) j4 p8) p12) p14] p15)
      (tOp (rI0 fun i j => .bl (decide (i < j))) (tOp (rI CMul fun i j => .int (i * j)) (tOp (rIxT X.K) (tVar 0) (tC (.int 0))) (tOp (rIxT X.K) (tVar 1) (tC (.int 1)))) (tOp (rI CMul fun i j => .int (i * j)) (tOp (rIxT X.K) (tVar 1) (tC (.int 0))) (tOp (rIxT X.K) (tVar 0) (tC (.int 1))))) :=
  pe_cmpR op_lt (pe_op op_mul (pe_ix ix_tup hx pe_int (fun _ _ => rfl)) (pe_ix ix_tup hy pe_int (fun _ _ => rfl))) (pe_op op_mul (pe_ix ix_tup hy2 pe_int (fun _ _ => rfl)) (pe_ix ix_tup hx2 pe_int (fun _ _ => rfl))) (nomark _)
theorem ok_less {f : Addr} {fd : FuncData} {k : Nat} (F : Fun K "less" "less" sLess f fd) : FnOk P w K mg base CX0 (k + 1) f fd ["one", "other"] spLess := by
  refine F.ok scLess (fun vs H Q E h => ?_) (fun cdv A outer s H vs Q E hr h => ?_)
  · obtain ⟨a, b, x, y, rfl, _⟩ := h
    rfl
  · obtain ⟨a, b, x, y, rfl, ha, hb, ⟨x1, x2⟩, ⟨y1, y2⟩, q⟩ := h
    refine ⟨_, pss_one (ps_ret (less_body (pv 0) (pv 1) (pv 0) (pv 1))), ?_⟩
    have i0 : ∀ (u v : V), atI [u, v] 0 = some u := fun u v => atI_nat (j := 0) rfl
    have i1 : ∀ (u v : V), atI [u, v] 1 = some v := fun u v => atI_nat (j := 1) rfl
    refine ⟨.ref a, rfl, a, _, 0, .int x.1, rfl, rfl, SqT.of ha, i0 _ _, .ref b, rfl, b, _, 1, .int y.2, rfl, rfl, SqT.of hb, i1 _ _, _, _, rfl, rfl, .inl ⟨x1, x2⟩, ?_⟩
    refine ⟨.ref b, rfl, b, _, 0, .int y.1, rfl, rfl, SqT.of hb, i0 _ _, .ref a, rfl, a, _, 1, .int x.2, rfl, rfl, SqT.of ha, i1 _ _, _, _, rfl, rfl, .inl ⟨y1, y2⟩, _, _, rfl, rfl, ?_⟩
    exact q
def spIsIn : Sp := fun vs H Q _ => ∃ (v a b : Int), vs = [.int v, .int a, .int b] ∧ Q (.bl (decide (a ≤ v ∧ v ≤ b))) H
theorem ok_isin {f : Addr} {fd : FuncData} {k : Nat} (F : Fun K "is_in" "is_in" sIsIn f fd) (m1 : mg "isinstance" = none) (m2 : mg "int" = none) (m3 : mg "bool" = none) : FnOk P w K mg base CX0 (k + 1) f fd ["value", "least", "most"] spIsIn := by
  refine F.ok scIsIn (fun vs H Q E h => ?_) (fun cdv A outer s H vs Q E hr h => ?_)
  · obtain ⟨v, a, b, rfl, _⟩ := h
    rfl
  · obtain ⟨v, a, b, rfl, q⟩ := h
    have bI : bootBuiltins "isinstance" = some (.builtin "isinstance") := by decide +kernel
    have bi : bootBuiltins "int" = some (.type "int") := by decide +kernel
    have bb : bootBuiltins "bool" = some (.type "bool") := by decide +kernel
    refine ⟨_, pss_one (ps_ret (pe_and (pe_callB call_isi (by rfl) m1 bI (pa_cons (pv 0) (pa_cons (pe_bltn (v := .ty "int") (by rfl) m2 bi rfl) pa_nil)))
      (pe_and (pe_not (pe_callB call_isi (by rfl) m1 bI (pa_cons (pv 0) (pa_cons (pe_bltn (v := .ty "bool") (by rfl) m3 bb rfl) pa_nil)))) (pe_one (pe_chain op_le op_le (pv 1) (pv 0) (pv 2)))))), ?_⟩
    refine ⟨.int v, rfl, .int v, .ty "int", .type "int", .type "int", true, rfl, .ty "int", .base (.int v), kit_ty (by decide +kernel), true, rfl, ?_⟩
    refine iteT ⟨.int v, rfl, .int v, .ty "bool", .type "int", .type "bool", false, rfl, .ty "bool", .base (.int v), kit_ty (by decide +kernel), false, rfl, true, rfl, ?_⟩
    refine iteT ⟨.int a, rfl, .int v, rfl, a, v, rfl, rfl, _, rfl, ?_⟩
    by_cases h1 : a ≤ v
    · rw [decide_eq_true h1]
      refine iteT ⟨.int b, rfl, v, b, rfl, rfl, ?_⟩
      have e : decide (a ≤ v ∧ v ≤ b) = decide (v ≤ b) := by
        by_cases h2 : v ≤ b
        · rw [decide_eq_true h2, decide_eq_true ⟨h1, h2⟩]
        · rw [decide_eq_false h2, decide_eq_false (fun z => h2 z.2)]
      rw [e] at q
      exact q
    · rw [decide_eq_false h1]
      refine iteF ?_
      have e : decide (a ≤ v ∧ v ≤ b) = false := decide_eq_false (fun z => h1 z.1)
      rw [e] at q
      exact q
end
end Dw

set_option Elab.async false
set_option maxRecDepth 100000
set_option maxHeartbeats 4000000
/-! are_flows, need_dam, need_demands. -/
namespace Dw
open PySem PySem.Spec PyProof.Rows L2
theorem keeps_pre {s s1 : Shared} {k : Nat} (h : Keeps { s with toks := k } s1) : Keeps s s1 := by
  obtain ⟨h', tk, e, kp⟩ := h
  exact ⟨h', tk, e, kp⟩
section
variable {X : Cx} {f : Addr} {fd : FuncData}
/-- is_in(x, 0, N), N a constant of the module -/
theorem elt_isin_glob {P : Addr} {scope : Scope} {x g : Str} {N : Int} {tN : Tok} {p1 p2 p3 p4 p5 : Pos} {j : Nat} {R : L2.St → Hp → Prop} (F : Fun X.K "is_in" "is_in" sIsIn f fd) (hb : Binds X.K fd ["value", "least", "most"] []) (mf : X.mg "is_in" = some (.ref f))
    (m1 : X.mg "isinstance" = none) (m2 : X.mg "int" = none) (m3 : X.mg "bool" = none) (mN : X.mg g = some (.int N tN)) (hdep : X.A.depth + 6 < recursionLimit)
    (hk : scope.kind = .function) (hl : scope.names.lookup x = some .local) (hf : scope.names.lookup ("is_in" : Str) = some .globalImplicit) (hg : scope.names.lookup g = some .globalImplicit)
    (hxd : (x == ("__debug__" : Str)) = false := by decide) (hgd : (g == ("__debug__" : Str)) = false := by decide) :
    EltI X P scope x (.Call (.Name "is_in" p1) [.Name x p2, .Constant (.int 0) j p3, .Name g p4] [] p5) R (fun i => decide (0 ≤ i ∧ i ≤ N)) := by
  intro pins σ H1 s1 I hR hP cenv A' E' i t s₂ m₂ hA hD hsc hG hB hC kp M hn hm
  have hk' : cenv.scope.kind = .function := by rw [hsc]; exact hk
  refine wpAny_Call_Name_kw (ev_glo M hk' (by show cenv.scope.names.lookup _ = _; rw [hsc]; exact hf) hG mf ?_)
  refine PySem.W.callWith_K (h₀ := X.base) I.ok.mod.kin F.kp ?_
  refine Calls.spliced_cons (ev_loc hk' (by rw [hsc]; exact hl) hn hm ?_ hxd)
  refine Calls.spliced_cons (show wpAny _ _ (eval (.Constant (.int 0) j p3) cenv) _ _ _ from wpAny_Constant_int ?_)
  refine Calls.spliced_cons (ev_glo (s := { s₂ with toks := s₂.toks + 1 }) M hk' (by show cenv.scope.names.lookup _ = _; rw [hsc]; exact hg) hG mN ?_ hgd)
  refine Calls.spliced_nil ⟨M.kin, ?_⟩
  exact wpAny_mono (isin_quiet (s := { s₂ with toks := s₂.toks + 1 }) F hb m1 m2 m3 M (by omega)) (fun y s' h => ⟨h.1, keeps_pre h.2⟩) fun _ _ e => e
/-- is_in(x, 0, d[0]), d the def's captured parameter, a tuple that begins with the int c -/
theorem elt_isin_cell {P : Addr} {scope : Scope} {x d : Str} {c : Int} {p1 p2 p3 p4 p5 p6 p7 : Pos} {j j2 : Nat} {R : L2.St → Hp → Prop} (F : Fun X.K "is_in" "is_in" sIsIn f fd) (hb : Binds X.K fd ["value", "least", "most"] []) (mf : X.mg "is_in" = some (.ref f))
    (m1 : X.mg "isinstance" = none) (m2 : X.mg "int" = none) (m3 : X.mg "bool" = none) (hdep : X.A.depth + 6 < recursionLimit)
    (hR : ∀ σ H, R σ H → ∃ (a : Addr) (xs : List V), σ[0]? = some (some (V.ref a)) ∧ H a = some (.tup (.int c :: xs))) (hN : X.N[0]? = some d) (hkd : X.env.kindOf d = some .cell)
    (hk : scope.kind = .function) (hl : scope.names.lookup x = some .local) (hf : scope.names.lookup ("is_in" : Str) = some .globalImplicit) (hd : scope.names.lookup d = some .free)
    (hclo : (cloFrom X.env.cells scope.names []).lookup d = some ((X.env.cells.lookup d).getD 0))
    (hxd : (x == ("__debug__" : Str)) = false := by decide) (hdd : (d == ("__debug__" : Str)) = false := by decide) (hdc : (d == ("__classdict__" : Str)) = false := by decide) :
    EltI X P scope x (.Call (.Name "is_in" p1) [.Name x p2, .Constant (.int 0) j p3, .Subscript (.Name d p4) (.Constant (.int 0) j2 p6) p7] [] p5) R (fun i => decide (0 ≤ i ∧ i ≤ c)) := by
  intro pins σ H1 s1 I hRR hP cenv A' E' i t s₂ m₂ hA hD hsc hG hB hC kp M hn hm
  obtain ⟨a, xs, hσ, hHa⟩ := hR σ H1 hRR
  obtain ⟨ps, hPs⟩ := hP
  have hk' : cenv.scope.kind = .function := by rw [hsc]; exact hk
  obtain ⟨m, hnm, hloc⟩ := I.loc
  obtain ⟨u, ru, lk⟩ := hloc 0 d (.ref a) hN hσ (.inr (.inl hkd))
  cases (show u = Value.ref a from ru)
  obtain ⟨cc, hcc, hcell⟩ : ∃ cc, X.env.cells.lookup d = some cc ∧ s1.heap.IsCell cc (some (.ref a)) := by
    rcases lk with ⟨z, _⟩ | ⟨_, c', h1, h2⟩
    · rw [hkd] at z; cases z
    · exact ⟨c', h1, h2⟩
  have hccP : cc ≠ P := fun z => by
    have q := I.freeC d cc hcc
    rw [z, hPs] at q
    cases q
  have hcell2 : s₂.heap.IsCell cc (some (.ref a)) := by
    obtain ⟨o, e1, e2⟩ := hcell
    exact ⟨o, kp _ _ hccP e1, e2⟩
  have hcl : cenv.cells.lookup d = some cc := by rw [hC, hclo, hcc] <;> rfl
  obtain ⟨hz, its, rv, hTu⟩ := I.hok a _ hHa
  have haP : a ≠ P := fun z => by
    rw [z, hPs] at hHa
    cases hHa
  obtain ⟨w0, rest, rfl, r0⟩ : ∃ w0 rest, its = w0 :: rest ∧ RelV (.int c) w0 := by
    cases rv with
    | cons p q => exact ⟨_, _, rfl, p⟩
  obtain ⟨tc, rfl⟩ := r0
  have hTu2 : IsTup s₂.heap a (Value.int c tc :: rest).toArray := by
    obtain ⟨o, e1, e2⟩ := hTu
    exact ⟨o, kp _ _ haP e1, e2⟩
  refine wpAny_Call_Name_kw (ev_glo M hk' (by show cenv.scope.names.lookup _ = _; rw [hsc]; exact hf) hG mf ?_)
  refine PySem.W.callWith_K (h₀ := X.base) I.ok.mod.kin F.kp ?_
  refine Calls.spliced_cons (ev_loc hk' (by rw [hsc]; exact hl) hn hm ?_ hxd)
  refine Calls.spliced_cons (show wpAny _ _ (eval (.Constant (.int 0) j p3) cenv) _ _ _ from wpAny_Constant_int ?_)
  refine Calls.spliced_cons (Subscript_Constant (wpAny_Name (wpAny_loadName_free hk' (by show cenv.scope.names.lookup _ = _; rw [hsc]; exact hd) hcl hcell2 ?_ hdc) hdd))
  refine wpAny_Constant_int ?_
  refine ⟨"tuple", _, PyProof.Rows.slot_tuple_getitem.lookup, hTu2.typeIs, PyProof.Rows.getItem_tuple (j := 0) (x := .int c tc) hTu2 (by decide) (by decide) ?_ (by simp) ?_⟩
  · show seqIndex? 0 _ = some 0
    unfold seqIndex?
    simp
  refine Calls.spliced_nil ⟨M.kin, ?_⟩
  exact wpAny_mono (isin_quiet (s := { s₂ with toks := s₂.toks + 1 + 1 }) F hb m1 m2 m3 M (by omega)) (fun y s' h => ⟨h.1, keeps_pre h.2⟩) fun _ _ e => e
end
end Dw

set_option Elab.async false
set_option maxRecDepth 100000
set_option maxHeartbeats 4000000
/-! are_flows, need_dam, need_demands. -/
namespace Dw
open PySem PySem.Spec PyProof.Rows L2
theorem genS_nofree {env : Env} {scope : Scope} {x : Str} (h1 : scope.kind = .function) (h2 : scope.isCoroutine = false) (h3 : (scope.names.all fun y => y.2 != .cell && y.2 != .free) = true) (h4 : scope.names.lookup (".0" : Str) = some NameKind.local) (h5 : scope.names.lookup x = some .local) : GxR.GenS env scope x := by
  refine ⟨h1, h2, fun y hy e => ?_, h4, h5, fun y hy e => ?_⟩
  · have q := List.all_eq_true.mp h3 y hy
    rw [e] at q
    exact absurd q (by decide)
  · have q := List.all_eq_true.mp h3 y hy
    rw [e] at q
    exact absurd q (by decide)
theorem dep_of {k : Nat} {A : Around} (hr : Room (k + 1) A) : A.depth + 6 < recursionLimit := by have := hr.dp; omega
theorem bISI : bootBuiltins "isinstance" = some (.builtin "isinstance") := by decide +kernel
theorem bTUP : bootBuiltins "tuple" = some (.type "tuple") := by decide +kernel
section
variable {P : Program} {w : World} {K : PySem.W.Frag} {mg : Str → Option Value} {base : Heap}
/-- what the promises of the checks want of the module -/
structure ChkM (K : PySem.W.Frag) (mg : Str → Option Value) (fI : Addr) (fdI : FuncData) : Prop where
  F : Fun K "is_in" "is_in" sIsIn fI fdI
  b : Binds K fdI ["value", "least", "most"] []
  g : mg "is_in" = some (.ref fI)
  isi : mg "isinstance" = none
  int : mg "int" = none
  bool : mg "bool" = none
  tuple : mg "tuple" = none
  len : mg "len" = none
  all : mg "all" = none
  cap : ∃ t, mg "MOST_CAPACITY" = some (.int 1000 t)
  months : ∃ t, mg "MOST_MONTHS" = some (.int 12 t)
  flow : ∃ t, mg "MOST_FLOW" = some (.int 1000 t)
def spFlows (Pt : Addr) : Sp := fun vs H Q _ => ∃ (a : Addr) (ns : List Int), vs = [.ref a] ∧ Ints H a ns ∧ FlowsOk ns ∧ GxR.TabG H Pt ∧ ∀ H', Xt H H' → Q (.bl true) H'
theorem ok_flows {f c Pt fI : Addr} {fd fdI : FuncData} {k : Nat} (F : FunC K "are_flows" "are_flows" sFlows f fd (.ref c)) (TB : GxR.TabB base mg c Pt) (M : ChkM K mg fI fdI) : FnOk P w K mg base CX0 (k + 2) f fd ["value"] (spFlows Pt) := by
  refine F.ok scFlows (fun vs H Q E h => ?_) (fun A outer s H vs Q E hr h => ?_)
  · obtain ⟨a, ns, rfl, _⟩ := h
    rfl
  · obtain ⟨a, ns, rfl, ha, ok, hT, q⟩ := h
    obtain ⟨tm, hm⟩ := M.months
    obtain ⟨tf, hf⟩ := M.flow
    refine ⟨_, pss_cons (ps_if (PW.pt (pw_or (pt_not (pt_val (pe_callB call_isi (by rfl) M.isi bISI (pa_cons (pv 0) (pa_cons (pe_bltn (v := .ty "tuple") (by rfl) M.tuple bTUP rfl) pa_nil)))))
        (pw_or1 (pt_not (pt_chain op_le op_le pe_int (pe_callB call_len_seq (by rfl) M.len PySem.boot_len (pa_cons (pv 0) pa_nil)) (pe_glob (v := .int 12) (by rfl) hm ⟨_, rfl⟩))))))
        (pss_one (ps_ret pe_bl)) pss_nil)
      (pss_one (ps_ret (pe_allT (R := fun _ _ => True) (pb := fun i => decide (0 ≤ i ∧ i ≤ 1000)) hr (by rfl) M.all TB rfl (genS_nofree rfl rfl (by decide +kernel) rfl rfl) (pv 0)
        (elt_isin_glob M.F M.b M.g M.isi M.int M.bool hf (dep_of hr) rfl rfl rfl rfl) (fun _ => rfl)))), ?_⟩
    have hl : ((ns.map V.int).length : Int) = (ns.length : Int) := by rw [List.length_map]
    refine ⟨.ref a, rfl, .ref a, .ty "tuple", .type "tuple", .type "tuple", true, rfl, .ty "tuple", .base (.tup ha), kit_ty (by decide +kernel), true, rfl, iteF ?_⟩
    refine ⟨.ref a, rfl, a, _, rfl, .inr (SqT.of ha), 1, _, rfl, rfl, _, rfl, ?_⟩
    rw [decide_eq_true (show (1 : Int) ≤ ((ns.map V.int).length : Int) by rw [hl]; have := ok.n1; omega)]
    refine iteT ⟨_, _, rfl, rfl, _, rfl, ?_⟩
    rw [decide_eq_true (show ((ns.map V.int).length : Int) ≤ 12 by rw [hl]; have := ok.n7; omega)]
    refine iteF ?_
    refine ⟨.ref a, rfl, a, ns, rfl, SqT.of ha, True.intro, hT, fun H2 hT2 => ?_⟩
    have e : ns.all (fun i => decide (0 ≤ i ∧ i ≤ 1000)) = true := List.all_eq_true.mpr fun x hx => decide_eq_true ⟨ok.i0 x hx, ok.i1 x hx⟩
    rw [e]
    exact q H2 (Xt.tabbed hT hT2)
/-- the captured name of need_dam -/
theorem genS_dam {env : Env} {scope : Scope} {x d : Str} (h1 : scope.kind = .function) (h2 : scope.isCoroutine = false) (h3 : (scope.names.all fun y => y.2 != .cell && (y.2 != .free || y.1 == d)) = true) (h4 : scope.names.lookup (".0" : Str) = some NameKind.local) (h5 : scope.names.lookup x = some .local)
    (hd : ∃ c, env.cells.lookup d = some c) : GxR.GenS env scope x := by
  refine ⟨h1, h2, fun y hy e => ?_, h4, h5, fun y hy e => ?_⟩
  · have q := List.all_eq_true.mp h3 y hy
    rw [e] at q
    exact absurd q (by simp)
  · have q := List.all_eq_true.mp h3 y hy
    rw [e] at q
    have q2 : y.1 = d := by simpa using q
    rw [q2]
    exact hd
def spNeedDam (T : Tabs) : Sp := fun vs H Q _ => ∃ (a b : Addr) (d : Dam), vs = [.ref a] ∧ DamAt H a b d ∧ d.Ok ∧ TabsOk T H ∧ ∀ H', Xt H H' → Q .non H'
theorem ok_needdam {f c fI fF : Addr} {fd fdI fdF : FuncData} {k : Nat} {T : Tabs} (F : FunC K "need_dam" "need_dam" sNeedDam f fd (.ref c)) (TB : GxR.TabB base mg c T.need) (M : ChkM K mg fI fdI)
    (GF : FnOk P w K mg base CX0 (k + 2) fF fdF ["value"] (spFlows T.flows)) (bF : Binds K fdF ["value"] []) (gF : mg "are_flows" = some (.ref fF)) (kF : PySem.W.keepIn K (.ref fF) = true) : FnOk P w K mg base CX0 (k + 3) f fd ["dam"] (spNeedDam T) := by
  have GI : FnOk P w K mg base CX0 (k + 1) fI fdI ["value", "least", "most"] spIsIn := ok_isin M.F M.isi M.int M.bool
  refine F.ok scNeedDam (fun vs H Q E h => ?_) (fun A outer s H vs Q E hr h => ?_)
  · obtain ⟨a, b, d, rfl, _⟩ := h
    rfl
  · obtain ⟨a, b, d, rfl, ⟨ha, hb⟩, ok, hT, q⟩ := h
    obtain ⟨tc, hc⟩ := M.cap
    have hr1 : Room (k + 1) _ := hr.mono (Nat.le_succ _)
    refine ⟨_, pss_cons (ps_if (PW.pt (pw_or (pt_not (pt_val (pe_callB call_isi (by rfl) M.isi bISI (pa_cons (pv 0) (pa_cons (pe_bltn (v := .ty "tuple") (by rfl) M.tuple bTUP rfl) pa_nil)))))
        (pw_or (pt_cmpR op_ne (pe_callB call_len_seq (by rfl) M.len PySem.boot_len (pa_cons (pv 0) pa_nil)) pe_int (nomark _))
        (pw_or1 (pt_not (pt_val (pe_call GI hr1 (by rfl) M.g M.F.kp M.b .nil pass0 (pa_cons (pe_ix ix_tup (pv 0) pe_int (fun _ _ => rfl)) (pa_cons pe_int (pa_cons (pe_glob (v := .int 1000) (by rfl) hc ⟨_, rfl⟩) pa_nil))))))))))
        (pss_one ps_never) pss_nil)
      (pss_one (ps_if (PW.pt (pw_or (pt_not (pt_val (pe_allT (R := fun σ H => ∃ (a : Addr) (xs : List V), σ[0]? = some (some (V.ref a)) ∧ H a = some (.tup (.int d.cap :: xs))) (pb := fun i => decide (0 ≤ i ∧ i ≤ d.cap)) hr1 (by rfl) M.all TB rfl
            (genS_dam (d := "dam") rfl rfl (by decide +kernel) rfl rfl (cell_has (by rfl))) (pe_slice sl_tup (pv 0) (po_some pe_int) (po_some pe_int))
            (elt_isin_cell M.F M.b M.g M.isi M.int M.bool (dep_of hr1) (fun _ _ z => z) rfl rfl rfl rfl rfl rfl rfl) (fun _ => rfl))))
          (pw_or1 (pt_not (pt_val (pe_call GF hr (by rfl) gF kF bF .nil pass0 (pa_cons (pe_ix ix_tup (pv 0) pe_int (fun _ _ => rfl)) pa_nil)))))))
        (pss_one ps_never) pss_nil)), ?_⟩
    have i0 : atI [V.int d.cap, .int d.start, .int d.fin, .ref b] 0 = some (.int d.cap) := atI_nat (j := 0) rfl
    have i3 : atI [V.int d.cap, .int d.start, .int d.fin, .ref b] 3 = some (.ref b) := atI_nat (j := 3) rfl
    have hcap : decide ((0 : Int) ≤ d.cap ∧ d.cap ≤ 1000) = true := decide_eq_true ⟨ok.c0, ok.c1⟩
    refine ⟨.ref a, rfl, .ref a, .ty "tuple", .type "tuple", .type "tuple", true, rfl, .ty "tuple", .base (.tup ha), kit_ty (by decide +kernel), true, rfl, iteF ?_⟩
    refine ⟨.ref a, rfl, a, _, rfl, .inr (SqT.of ha), rfl, _, rfl, iteF ?_⟩
    refine ⟨.ref a, rfl, a, _, 0, _, rfl, rfl, SqT.of ha, i0, d.cap, 0, 1000, rfl, ?_⟩
    rw [hcap]
    refine ⟨true, rfl, iteF ?_⟩
    have e12 : cutV [V.int d.cap, .int d.start, .int d.fin, .ref b] (some 1) (some 3) = ([d.start, d.fin].map V.int) := by rfl
    refine ⟨.ref a, rfl, 1, rfl, 3, rfl, a, _, rfl, SqT.of ha, (by show ¬ (HT.sIx 4 0 (some 1) = 0 ∧ HT.sIx 4 4 (some 3) = 4); decide), fun p hp => ?_⟩
    have x1 : Xt H (upd H p (.tup (cutV [V.int d.cap, .int d.start, .int d.fin, .ref b] (some 1) (some 3)))) := Xt.upd hp _
    refine ⟨p, [d.start, d.fin], rfl, SqT.of (by rw [upd_same, e12]), ⟨a, _, rfl, x1.tup ha⟩, x1.tab hT.need, fun H2 hT2 => ?_⟩
    have x2 : Xt H H2 := x1.trans (Xt.tabbed (x1.tab hT.need) hT2)
    have e2 : [d.start, d.fin].all (fun i => decide (0 ≤ i ∧ i ≤ d.cap)) = true := List.all_eq_true.mpr fun x hx => by
      rcases List.mem_cons.mp hx with z | z
      · rw [z]; exact decide_eq_true ⟨ok.s0, ok.s1⟩
      · rw [List.mem_singleton.mp z]; exact decide_eq_true ⟨ok.f0, ok.f1⟩
    rw [e2]
    refine ⟨true, rfl, iteF ?_⟩
    refine ⟨.ref a, rfl, a, _, 3, _, rfl, rfl, SqT.of (x2.tup ha), i3, b, d.ins, rfl, x2.tup hb, ok.flows, x2.tab hT.flows, fun H3 x3 => ⟨true, rfl, iteF ?_⟩⟩
    exact q H3 (x2.trans x3)
def spNeedDem (T : Tabs) : Sp := fun vs H Q _ => ∃ (m : Int) (a : Addr) (ds : List Int), vs = [.int m, .ref a] ∧ Ints H a ds ∧ FlowsOk ds ∧ m = (ds.length : Int) ∧ TabsOk T H ∧ ∀ H', Xt H H' → Q .non H'
theorem ok_needdem {f fI fF : Addr} {fd fdI fdF : FuncData} {k : Nat} {T : Tabs} (F : Fun K "need_demands" "need_demands" sNeedDem f fd) (M : ChkM K mg fI fdI)
    (GF : FnOk P w K mg base CX0 (k + 2) fF fdF ["value"] (spFlows T.flows)) (bF : Binds K fdF ["value"] []) (gF : mg "are_flows" = some (.ref fF)) (kF : PySem.W.keepIn K (.ref fF) = true) : FnOk P w K mg base CX0 (k + 3) f fd ["months", "demands"] (spNeedDem T) := by
  refine F.ok scNeedDem (fun vs H Q E h => ?_) (fun cdv A outer s H vs Q E hr h => ?_)
  · obtain ⟨m, a, ds, rfl, _⟩ := h
    rfl
  · obtain ⟨m, a, ds, rfl, ha, ok, em, hT, q⟩ := h
    refine ⟨_, pss_one (ps_if (PW.pt (pw_or (pt_not (pt_val (pe_call GF hr (by rfl) gF kF bF .nil pass0 (pa_cons (pv 1) pa_nil)))) (pw_or1 (pt_cmpR op_ne (pe_callB call_len_seq (by rfl) M.len PySem.boot_len (pa_cons (pv 1) pa_nil)) (pv 0) (nomark _))))) (pss_one ps_never) pss_nil), ?_⟩
    refine ⟨.ref a, rfl, a, ds, rfl, ha, ok, hT.flows, fun H1 x1 => ⟨true, rfl, iteF ?_⟩⟩
    refine ⟨.ref a, rfl, a, _, rfl, .inr (SqT.of (ha.xt x1)), _, rfl, rfl, _, rfl, iteNS ?_ ?_⟩
    · rw [List.length_map, em]
    · exact q H1 x1
end
end Dw

set_option Elab.async false
set_option maxRecDepth 100000
set_option maxHeartbeats 4000000
/-! run_of, run, need_lack, open_dam. -/
namespace Dw
open PySem PySem.Spec PyProof.Rows L2
theorem Xt.updOld {H H' : Hp} {p : Addr} (e : Xt H H') (h : H p = none) (o : HO) : Xt H (L2.upd H' p o) := fun b x q => by
  have hb : b ≠ p := ne_of_none q h
  rw [upd_ne hb]
  exact e b x q
theorem drop_at {α : Type} {l : List α} {i : Nat} {x : α} (h : l[i]? = some x) : l.drop i = x :: l.drop (i + 1) := by
  obtain ⟨hi, e⟩ := List.getElem?_eq_some_iff.mp h
  rw [List.drop_eq_getElem_cons hi, e]
theorem at_drop {α : Type} {l r : List α} {i : Nat} {x : α} (h : l.drop i = x :: r) : l[i]? = some x ∧ l.drop (i + 1) = r := by
  have h1 : (l.drop i)[0]? = some x := by rw [h] <;> rfl
  rw [List.getElem?_drop] at h1
  refine ⟨h1, ?_⟩
  have h2 := congrArg (List.drop 1) h
  rw [List.drop_drop] at h2
  exact h2
theorem map_at {ns : List Int} {i : Nat} {x : V} (h : (ns.map V.int)[i]? = some x) : ∃ n, ns[i]? = some n ∧ x = .int n := by
  rw [List.getElem?_map] at h
  cases e : ns[i]? with
  | none => rw [e] at h; cases h
  | some n => rw [e] at h; exact ⟨n, rfl, (Option.some.inj h).symm⟩
theorem bMIN : bootBuiltins "min" = some (.builtin "min") := by decide +kernel
theorem bMAX : bootBuiltins "max" = some (.builtin "max") := by decide +kernel
section
variable {P : Program} {w : World} {K : PySem.W.Frag} {mg : Str → Option Value} {base : Heap}
def spRunOf : Sp := fun vs H Q _ => ∃ (a b c : Addr) (d : Dam) (ds : List Int), vs = [.ref a, .ref c] ∧ DamAt H a b d ∧ Ints H c ds ∧ d.ins.length = ds.length ∧ ds.length ≤ 7 ∧ ∀ H' p, Xt H H' → H p = none → Trip H' p (d.run ds) → Q (.ref p) H'
theorem ok_runof {f : Addr} {fd : FuncData} {k : Nat} (F : Fun K "run_of" "run_of" sRunOf f fd) (mz : mg "zip" = none) (m1 : mg "min" = none) (m2 : mg "max" = none) : FnOk P w K mg base CX0 (k + 1) f fd ["dam", "demands"] spRunOf := by
  refine F.ok scRunOf (fun vs H Q E h => ?_) (fun cdv A outer s H vs Q E hr h => ?_)
  · obtain ⟨a, b, c, d, ds, rfl, _⟩ := h
    rfl
  · obtain ⟨a, b, c, d, ds, rfl, ⟨ha, hb⟩, hc, hlen, h7, q⟩ := h
    refine ⟨_, pss_cons (ps_par (i := 2) (j := 3) (by rfl) scRunOf.nd rfl rfl (by decide) rfl rfl (pa_cons (pe_ix ix_tup (pv 0) pe_int (fun _ _ => rfl)) (pa_cons (pe_lst pa_nil) pa_nil)) (by rfl))
      (pss_cons (ps_for PassesOwn.never rfl (RZ.pi_zipA (by rfl) mz (pa_cons (pe_ix ix_tup (pv 0) pe_int (fun _ _ => rfl)) (pa_cons (pv 1) pa_nil)))
          (pg_tup rfl (pgs_cons (pg_name (i := 4) scRunOf.nd rfl (.inl rfl)) (pgs_cons (pg_name (i := 5) scRunOf.nd rfl (.inl rfl)) pgs_nil)))
        (pss_cons (ps_set (i := 6) scRunOf.nd rfl (.inl rfl) (pe_callB (call_min2 rfl) (by rfl) m1 bMIN (pa_cons (pv 5) (pa_cons (pe_op op_add (pv 2) (pv 4)) pa_nil))))
        (pss_cons (ps_set (i := 7) scRunOf.nd rfl (.inl rfl) (pe_callB (call_max2 rfl) (by rfl) m2 bMAX (pa_cons pe_int (pa_cons (pe_op op_sub (pe_op op_sub (pe_op op_add (pv 2) (pv 4)) (pv 6)) (pe_ix ix_tup (pv 0) pe_int (fun _ _ => rfl))) pa_nil))))
        (pss_cons (ps_set (i := 2) scRunOf.nd rfl (.inl rfl) (pe_op op_sub (pe_op op_sub (pe_op op_add (pv 2) (pv 4)) (pv 6)) (pv 7)))
        (pss_one (ps_expr (pe_bm PySem.F.plainAttrs_list PySem.F.slot_list_append PySem.F.type_list_append mt_append (pv 3) (pa_cons (pe_tup (pa_cons (pv 6) (pa_cons (pv 7) (pa_cons (pv 2) pa_nil)))) pa_nil))))))))
      (pss_one (ps_ret (pv 3)))), ?_⟩
    have i0 : atI [V.int d.cap, .int d.start, .int d.fin, .ref b] 0 = some (.int d.cap) := atI_nat (j := 0) rfl
    have i1 : atI [V.int d.cap, .int d.start, .int d.fin, .ref b] 1 = some (.int d.start) := atI_nat (j := 1) rfl
    have i3 : atI [V.int d.cap, .int d.start, .int d.fin, .ref b] 3 = some (.ref b) := atI_nat (j := 3) rfl
    refine ⟨.ref a, rfl, a, _, 1, _, rfl, rfl, SqT.of ha, i1, Nat.zero_le _, fun o ho => ⟨_, _, rfl, ?_⟩⟩
    have x1 : Xt H (upd H o (.lst [])) := Xt.upd ho _
    refine ⟨.ref a, rfl, a, _, 3, _, rfl, rfl, SqT.of (x1.tup ha), i3, .ref c, rfl, b, c, _, _, rfl, .inr ⟨SqT.of (x1.tup hb), SqT.of (x1.tup hc), ?_⟩⟩
    have hl2 : (d.ins.map V.int).length = (ds.map V.int).length := by rw [List.length_map, List.length_map]; exact hlen
    refine RZ.for_zipT hl2 (fun i σ H' => ∃ (h' : Int) (y4 y5 y6 y7 : Option V) (rs : List Addr), σ = [some (.ref a), some (.ref c), some (.int h'), some (.ref o), y4, y5, y6, y7] ∧ Xt H H' ∧
        H' o = some (.lst (rs.map V.ref)) ∧ rs.length = i ∧ runM d.cap h' (d.ins.drop i) (ds.drop i) = (d.run ds).drop i ∧ ∀ (j : Nat) r t, rs[j]? = some r → (d.run ds)[j]? = some t → H' r = some (.tup [.int t.1, .int t.2.1, .int t.2.2]))
      ⟨d.start, none, none, none, none, [], rfl, x1, upd_same, rfl, rfl, fun j r t hj => by simp at hj⟩ ?_ ?_ ?_
    · rintro i σ H' ⟨h', y4, y5, y6, y7, rs, rfl, x, _⟩
      exact ⟨SqT.of (x.tup hb), SqT.of (x.tup hc)⟩
    · rintro i x y T σ H' hx hy ⟨h', y4, y5, y6, y7, rs, rfl, xt, hO, hrs, hrem, hit⟩ hT
      obtain ⟨iv, hiv, rfl⟩ := map_at hx
      obtain ⟨dv, hdv, rfl⟩ := map_at hy
      rw [drop_at hiv, drop_at hdv] at hrem
      obtain ⟨hti, hrem2⟩ := at_drop (hrem.symm)
      have nTo : o ≠ T := ne_of_none hO hT
      have xT : Xt H' (upd H' T (.tup [.int iv, .int dv])) := Xt.upd hT _
      refine ⟨T, [.int iv, .int dv], rfl, SqT.of upd_same, rfl, .int iv, [.int dv], rfl, .int dv, [], rfl, rfl, ?_⟩
      refine ⟨.int dv, rfl, .int h', rfl, .int iv, rfl, h', iv, rfl, rfl, dv, h' + iv, rfl, ?_⟩
      refine ⟨.int h', rfl, .int iv, rfl, h', iv, rfl, rfl, .int (mn dv (h' + iv)), rfl, h' + iv, mn dv (h' + iv), rfl, rfl, .ref a, rfl, a, _, 0, _, rfl, rfl, SqT.of (xT.tup (xt.tup ha)), i0, h' + iv - mn dv (h' + iv), d.cap, rfl, rfl, 0, _, rfl, ?_⟩
      refine ⟨.int h', rfl, .int iv, rfl, h', iv, rfl, rfl, .int (mn dv (h' + iv)), rfl, h' + iv, mn dv (h' + iv), rfl, rfl, .int (mx 0 (h' + iv - mn dv (h' + iv) - d.cap)), rfl, _, _, rfl, rfl, ?_⟩
      have eo : upd H' T (.tup [.int iv, .int dv]) o = some (.lst (rs.map V.ref)) := by rw [upd_ne nTo]; exact hO
      refine ⟨.ref o, rfl, .inl ⟨rfl, _, SqL.of eo⟩, .int (mn dv (h' + iv)), rfl, .int (mx 0 (h' + iv - mn dv (h' + iv) - d.cap)), rfl, .int (h' + iv - mn dv (h' + iv) - mx 0 (h' + iv - mn dv (h' + iv) - d.cap)), rfl, (by show 3 ≤ sizeLine; decide), fun r hr2 => ?_⟩
      have nro : o ≠ r := ne_of_none eo hr2
      have eo2 : upd (upd H' T (.tup [.int iv, .int dv])) r (.tup [.int (mn dv (h' + iv)), .int (mx 0 (h' + iv - mn dv (h' + iv) - d.cap)), .int (h' + iv - mn dv (h' + iv) - mx 0 (h' + iv - mn dv (h' + iv) - d.cap))]) o = some (.lst (rs.map V.ref)) := by rw [upd_ne nro]; exact eo
      refine ⟨o, _, _, rfl, rfl, eo2, (by rw [List.length_map, hrs]; exact Nat.lt_of_lt_of_le (Nat.lt_of_lt_of_le (List.getElem?_eq_some_iff.mp hdv).1 h7) (by decide)), ?_⟩
      have xr : Xt H' (upd (upd H' T (.tup [.int iv, .int dv])) r (.tup [.int (mn dv (h' + iv)), .int (mx 0 (h' + iv - mn dv (h' + iv) - d.cap)), .int (h' + iv - mn dv (h' + iv) - mx 0 (h' + iv - mn dv (h' + iv) - d.cap))])) := xT.trans (Xt.upd hr2 _)
      refine ⟨h' + iv - mn dv (h' + iv) - mx 0 (h' + iv - mn dv (h' + iv) - d.cap), _, _, _, _, rs ++ [r], rfl, Xt.updOld (xt.trans xr) ho _, by rw [upd_same, List.map_append]; rfl, by rw [List.length_append, hrs]; rfl, hrem2.symm, fun j r' t hj ht => ?_⟩
      by_cases hjl : j < rs.length
      · rw [List.getElem?_append_left hjl] at hj
        have e1 := hit j r' t hj ht
        have n1 : r' ≠ o := ne_of e1 hO (by intro z; cases z)
        rw [upd_ne n1]
        exact xr.tup e1
      · rw [List.getElem?_append_right (by omega)] at hj
        have ej : j - rs.length = 0 := by
          have := (List.getElem?_eq_some_iff.mp hj).1
          simp at this
          omega
        rw [ej] at hj
        have er : r = r' := Option.some.inj hj
        subst er
        have ej2 : j = i := by omega
        rw [ej2, hti] at ht
        cases ht
        rw [upd_ne (Ne.symm nro), upd_same]
    · rintro σ H' ⟨h', y4, y5, y6, y7, rs, rfl, xt, hO, hrs, hrem, hit⟩
      refine ⟨.ref o, rfl, ?_⟩
      refine q H' o xt ho ⟨rs, hO, ?_, hit⟩
      rw [hrs, List.length_map]
      unfold Dam.run
      rw [runM_length]
      omega
end
end Dw

set_option Elab.async false
set_option maxRecDepth 100000
set_option maxHeartbeats 4000000
/-! Calls of promised defs by name; walks by count; slices of tuples of ints. -/
namespace Dw
open PySem PySem.Spec PyProof.Rows L2
/-- a def of the module, by its name -/
structure Cl (P : Program) (w : World) (K : PySem.W.Frag) (mg : Str → Option Value) (base : Heap) (k : Nat) (x : Str) (ps : List Str) (sp : Sp) : Prop where
  ex : ∃ (f : Addr) (fd : FuncData), FnOk P w K mg base CX0 k f fd ps sp ∧ mg x = some (.ref f) ∧ PySem.W.keepIn K (.ref f) = true ∧ Binds K fd ps []
theorem pe_cl {X : Cx} {j k : Nat} {x : Str} {ps : List Str} {sp : Sp} {p pos : Pos} {e : Expr} {es : List Expr} {t : TA} (c : Cl X.prog X.w X.K X.mg X.base k x ps sp) (hr : Room j X.A) (hk : k ≤ j) (hg : Gl X x) (ha : PA X (e :: es) t)
    (hdb : (x == ("__debug__" : Str)) = false := by decide) (he : starEach (e :: es) X.env = (false, eval e X.env) :: starEach es X.env := by rfl) (hpl : (backTo pos (starEach es X.env)).any (·.1) = false := by rfl) :
    PE X (.Call (.Name x p) (e :: es) [] pos) (tCall sp [] E0 t) := by
  obtain ⟨f, fd, F, hm, hkp, hb⟩ := c.ex
  exact pe_call F (hr.mono hk) hg hm hkp hb .nil pass0 ha hdb he hpl

/-! ### walks by count -/
theorem it_range {lo : Int} {n : Nat} {st : Hp} {Qd : Hp → Prop} {Bd : V → Hp → (Hp → Prop) → Prop} (Pv : Nat → Hp → Prop) (h0 : Pv 0 st) (hs : ∀ (i : Nat) (H : Hp), i < n → Pv i H → Bd (.int (lo + i)) H (Pv (i + 1))) (hd : ∀ H, Pv n H → Qd H) :
    ∃ W : Nat → Nat → Hp → Prop, (∃ m, W 0 m st) ∧ ∀ i m H, W i m H → ((Itr lo n).stop i H ∧ Qd H) ∨ ((Itr lo n).go i H ∧ ∃ Nx : Hp → Prop, (∀ H', Nx H' → ∃ m', m' < m ∧ W (i + 1) m' H') ∧ ∀ x H', (Itr lo n).yld i H x H' → Bd x H' Nx) := by
  refine ⟨fun i m H => m = n - i ∧ i ≤ n ∧ Pv i H, ⟨n, by simp, Nat.zero_le _, h0⟩, ?_⟩
  rintro i m H ⟨rfl, hi, p⟩
  by_cases hlt : i < n
  · refine .inr ⟨hlt, Pv (i + 1), fun H' p' => ⟨n - (i + 1), by omega, rfl, hlt, p'⟩, fun x H' y => ?_⟩
    obtain ⟨e, y⟩ := y
    subst e y
    exact hs i _ hlt p
  · have e : i = n := by omega
    subst e
    exact .inl ⟨Nat.le_refl _, hd H p⟩
theorem it_list {K : PySem.W.Frag} {a : Addr} {xs : List V} {st : Hp} {Qd : Hp → Prop} {Bd : V → Hp → (Hp → Prop) → Prop} (Pv : Nat → Hp → Prop) (h0 : Pv 0 st) (hl : ∀ i H, i ≤ xs.length → Pv i H → SqL K H a xs)
    (hs : ∀ (i : Nat) (x : V) (H : Hp), xs[i]? = some x → Pv i H → Bd x H (Pv (i + 1))) (hd : ∀ H, Pv xs.length H → Qd H) :
    ∃ W : Nat → Nat → Hp → Prop, (∃ m, W 0 m st) ∧ ∀ i m H, W i m H → ((Itl K a).stop i H ∧ Qd H) ∨ ((Itl K a).go i H ∧ ∃ Nx : Hp → Prop, (∀ H', Nx H' → ∃ m', m' < m ∧ W (i + 1) m' H') ∧ ∀ x H', (Itl K a).yld i H x H' → Bd x H' Nx) := by
  refine ⟨fun i m H => m = xs.length - i ∧ i ≤ xs.length ∧ Pv i H, ⟨xs.length, by simp, Nat.zero_le _, h0⟩, ?_⟩
  rintro i m H ⟨rfl, hi, p⟩
  have q := hl i H hi p
  by_cases hlt : i < xs.length
  · refine .inr ⟨⟨xs, xs[i], q, by simp [hlt]⟩, Pv (i + 1), fun H' p' => ⟨xs.length - (i + 1), by omega, rfl, hlt, p'⟩, fun x H' y => ?_⟩
    obtain ⟨e, y⟩ := y
    subst e
    exact hs i x _ (y xs q) p
  · have e : i = xs.length := by omega
    subst e
    exact .inl ⟨⟨xs, q, Nat.le_refl _⟩, hd H p⟩
theorem it_tup {K : PySem.W.Frag} {a : Addr} {xs : List V} {st : Hp} {Qd : Hp → Prop} {Bd : V → Hp → (Hp → Prop) → Prop} (Pv : Nat → Hp → Prop) (h0 : Pv 0 st) (hl : ∀ i H, i ≤ xs.length → Pv i H → SqT K H a xs)
    (hs : ∀ (i : Nat) (x : V) (H : Hp), xs[i]? = some x → Pv i H → Bd x H (Pv (i + 1))) (hd : ∀ H, Pv xs.length H → Qd H) :
    ∃ W : Nat → Nat → Hp → Prop, (∃ m, W 0 m st) ∧ ∀ i m H, W i m H → ((Itt K a).stop i H ∧ Qd H) ∨ ((Itt K a).go i H ∧ ∃ Nx : Hp → Prop, (∀ H', Nx H' → ∃ m', m' < m ∧ W (i + 1) m' H') ∧ ∀ x H', (Itt K a).yld i H x H' → Bd x H' Nx) := by
  refine ⟨fun i m H => m = xs.length - i ∧ i ≤ xs.length ∧ Pv i H, ⟨xs.length, by simp, Nat.zero_le _, h0⟩, ?_⟩
  rintro i m H ⟨rfl, hi, p⟩
  have q := hl i H hi p
  by_cases hlt : i < xs.length
  · refine .inr ⟨⟨xs, xs[i], q, by simp [hlt]⟩, Pv (i + 1), fun H' p' => ⟨xs.length - (i + 1), by omega, rfl, hlt, p'⟩, fun x H' y => ?_⟩
    obtain ⟨e, y⟩ := y
    subst e
    exact hs i x _ (y xs q) p
  · have e : i = xs.length := by omega
    subst e
    exact .inl ⟨⟨xs, q, Nat.le_refl _⟩, hd H p⟩
theorem it_enumT {K : PySem.W.Frag} {a : Addr} {xs : List V} {st : Hp} {Qd : Hp → Prop} {Bd : V → Hp → (Hp → Prop) → Prop} (Pv : Nat → Hp → Prop) (h0 : Pv 0 st) (hl : ∀ i H, i ≤ xs.length → Pv i H → SqT K H a xs)
    (hs : ∀ (i : Nat) (x : V) (T : Addr) (H : Hp), xs[i]? = some x → Pv i H → H T = none → Bd (.ref T) (upd H T (.tup [.int (i : Nat), x])) (Pv (i + 1))) (hd : ∀ H, Pv xs.length H → Qd H) :
    ∃ W : Nat → Nat → Hp → Prop, (∃ m, W 0 m st) ∧ ∀ i m H, W i m H → ((IteT K a).stop i H ∧ Qd H) ∨ ((IteT K a).go i H ∧ ∃ Nx : Hp → Prop, (∀ H', Nx H' → ∃ m', m' < m ∧ W (i + 1) m' H') ∧ ∀ x H', (IteT K a).yld i H x H' → Bd x H' Nx) := by
  refine ⟨fun i m H => m = xs.length - i ∧ i ≤ xs.length ∧ Pv i H, ⟨xs.length, by simp, Nat.zero_le _, h0⟩, ?_⟩
  rintro i m H ⟨rfl, hi, p⟩
  have q := hl i H hi p
  by_cases hlt : i < xs.length
  · refine .inr ⟨⟨xs, xs[i], q, by simp [hlt]⟩, Pv (i + 1), fun H' p' => ⟨xs.length - (i + 1), by omega, rfl, hlt, p'⟩, fun x H' y => ?_⟩
    obtain ⟨T, x', e, hT, eH, f⟩ := y
    subst e eH
    exact hs i x' T H (f xs q) p hT
  · have e : i = xs.length := by omega
    subst e
    exact .inl ⟨⟨xs, q, rfl⟩, hd H p⟩

/-! ### slices -/
theorem cutV_map (ns : List Int) (f e : Nat) (hf : f ≤ ns.length) (he : e ≤ ns.length) : cutV (ns.map V.int) (some (f : Int)) (some (e : Int)) = (cutI ns f e).map V.int := by
  unfold cutV cutI
  rw [List.length_map, HT.sIx_nat, HT.sIx_nat, Nat.min_eq_left hf, Nat.min_eq_left he, ← List.map_drop, ← List.map_take]
theorem cut_whole (ns : List Int) (f e : Nat) (hn : 0 < ns.length) (h : HT.sIx (ns.map V.int).length 0 (some (f : Int)) = 0 ∧ HT.sIx (ns.map V.int).length (ns.map V.int).length (some (e : Int)) = (ns.map V.int).length) : cutI ns f e = ns := by
  obtain ⟨h1, h2⟩ := h
  rw [List.length_map] at h1 h2
  rw [HT.sIx_nat] at h1 h2
  have e1 : f = 0 := by omega
  subst e1
  unfold cutI
  rw [List.drop_zero]
  exact List.take_of_length_le (by omega)
/-- t[f:e] of a tuple of ints: some tuple of the ints there -/
theorem rd_cut {K : PySem.W.Frag} {H : Hp} {a : Addr} {ns : List Int} {f e : Nat} {zf ze : Int} {Q : VK} (ha : Ints H a ns) (hn : 0 < ns.length) (hf : f ≤ ns.length) (he : e ≤ ns.length) (ef : zf = (f : Int)) (ee : ze = (e : Int))
    (q : ∀ (p : Addr) (H' : Hp), Xt H H' → Ints H' p (cutI ns f e) → Q (.ref p) H') : rSlA K (.ref a) (some zf) (some ze) H Q := by
  subst ef ee
  refine ⟨a, _, rfl, SqT.of ha, fun hw => ?_, fun _ p hp => ?_⟩
  · refine q a H (Xt.refl H) ?_
    unfold Ints
    rw [cut_whole ns f e hn hw]
    exact ha
  · refine q p _ (Xt.upd hp _) ?_
    unfold Ints
    rw [upd_same, cutV_map ns f e hf he]
end Dw

set_option Elab.async false
set_option maxRecDepth 100000
set_option maxHeartbeats 4000000
/-! run, need_lack, open_dam, water_of, spans. -/
namespace Dw
open PySem PySem.Spec PyProof.Rows L2
theorem bSUM : bootBuiltins "sum" = some (.builtin "sum") := by decide +kernel
section
variable {P : Program} {w : World} {K : PySem.W.Frag} {mg : Str → Option Value} {base : Heap}
/-- the module, as the defs behind the checks want it -/
structure Md (P : Program) (w : World) (K : PySem.W.Frag) (mg : Str → Option Value) (base : Heap) (T : Tabs) : Prop where
  ratio : Cl P w K mg base 1 "ratio" ["top", "bottom"] spRatio
  less : Cl P w K mg base 1 "less" ["one", "other"] spLess
  need : Cl P w K mg base 3 "need_dam" ["dam"] (spNeedDam T)
  dem : Cl P w K mg base 3 "need_demands" ["months", "demands"] (spNeedDem T)
  runof : Cl P w K mg base 1 "run_of" ["dam", "demands"] spRunOf
  len : mg "len" = none
  tuple : mg "tuple" = none
  sum : mg "sum" = none
  min : mg "min" = none
  max : mg "max" = none
  zip : mg "zip" = none
  all : mg "all" = none
  range : mg "range" = none
  sorted : mg "sorted" = none
  enum : mg "enumerate" = none
def spRun (T : Tabs) : Sp := fun vs H Q _ => ∃ (a b c : Addr) (d : Dam) (ds : List Int), vs = [.ref a, .ref c] ∧ DamAt H a b d ∧ d.Ok ∧ Ints H c ds ∧ FlowsOk ds ∧ ds.length = d.ins.length ∧ TabsOk T H ∧ ∀ H' p, Xt H H' → H p = none → TripT H' p (d.run ds) → Q (.ref p) H'
theorem ok_run {f : Addr} {fd : FuncData} {k : Nat} {T : Tabs} (F : Fun K "run" "run" sRun f fd) (M : Md P w K mg base T) : FnOk P w K mg base CX0 (k + 4) f fd ["dam", "demands"] (spRun T) := by
  refine F.ok scRun (fun vs H Q E h => ?_) (fun cdv A outer s H vs Q E hr h => ?_)
  · obtain ⟨a, b, c, d, ds, rfl, _⟩ := h
    rfl
  · obtain ⟨a, b, c, d, ds, rfl, hd, ok, hc, okd, hl, hT, q⟩ := h
    refine ⟨_, pss_cons (ps_expr (pe_cl M.need hr (by omega) (by rfl) (pa_cons (pv 0) pa_nil)))
      (pss_cons (ps_expr (pe_cl M.dem hr (by omega) (by rfl) (pa_cons (pe_callB call_len_seq (by rfl) M.len PySem.boot_len (pa_cons (pe_ix ix_tup (pv 0) pe_int (fun _ _ => rfl)) pa_nil)) (pa_cons (pv 1) pa_nil))))
      (pss_one (ps_ret (pe_callTy call_tuple_of (by rfl) M.tuple bTUP (pa_cons (pe_cl M.runof hr (by omega) (by rfl) (pa_cons (pv 0) (pa_cons (pv 1) pa_nil))) pa_nil))))), ?_⟩
    have i3 : atI [V.int d.cap, .int d.start, .int d.fin, .ref b] 3 = some (.ref b) := atI_nat (j := 3) rfl
    refine ⟨.ref a, rfl, a, b, d, rfl, hd, ok, hT, fun H1 x1 => ?_⟩
    refine ⟨.ref a, rfl, a, _, 3, _, rfl, rfl, SqT.of (x1.tup hd.1), i3, b, _, rfl, .inr (SqT.of (x1.tup hd.2)), .ref c, rfl, _, c, ds, rfl, hc.xt x1, okd, (by rw [List.length_map, hl]), hT.xt x1, fun H2 x2 => ?_⟩
    have x12 := x1.trans x2
    refine ⟨.ref a, rfl, .ref c, rfl, a, b, c, d, ds, rfl, hd.xt x12, hc.xt x12, hl.symm, okd.n7, fun H3 p x3 hp ht => ?_⟩
    obtain ⟨rs, h1, h2, h3⟩ := ht
    refine ⟨p, _, rfl, .inl ⟨SqL.of h1, fun l hlf => ?_⟩⟩
    have x4 : Xt H3 (upd H3 l (.tup (rs.map V.ref))) := Xt.upd hlf _
    exact q _ l (x12.trans (x3.trans x4)) (x12.free (x3.free hlf)) ⟨rs, upd_same, h2, fun i r t e1 e2 => x4.tup (h3 i r t e1 e2)⟩
def spNeedLack (T : Tabs) : Sp := fun vs H Q _ => ∃ (a b c : Addr) (d : Dam) (ds : List Int), vs = [.ref a, .ref c] ∧ DamAt H a b d ∧ d.Ok ∧ Ints H c ds ∧ FlowsOk ds ∧ ds.length = d.ins.length ∧ TabsOk T H ∧ ∀ H', Xt H H' → Q .non H'
theorem ok_needlack {f : Addr} {fd : FuncData} {k : Nat} {T : Tabs} (F : Fun K "need_lack" "need_lack" sNeedLack f fd) (M : Md P w K mg base T) : FnOk P w K mg base CX0 (k + 4) f fd ["dam", "demands"] (spNeedLack T) := by
  refine F.ok scNeedLack (fun vs H Q E h => ?_) (fun cdv A outer s H vs Q E hr h => ?_)
  · obtain ⟨a, b, c, d, ds, rfl, _⟩ := h
    rfl
  · obtain ⟨a, b, c, d, ds, rfl, hd, ok, hc, okd, hl, hT, q⟩ := h
    refine ⟨_, pss_cons (ps_expr (pe_cl M.need hr (by omega) (by rfl) (pa_cons (pv 0) pa_nil)))
      (pss_one (ps_expr (pe_cl M.dem hr (by omega) (by rfl) (pa_cons (pe_callB call_len_seq (by rfl) M.len PySem.boot_len (pa_cons (pe_ix ix_tup (pv 0) pe_int (fun _ _ => rfl)) pa_nil)) (pa_cons (pv 1) pa_nil))))), ?_⟩
    have i3 : atI [V.int d.cap, .int d.start, .int d.fin, .ref b] 3 = some (.ref b) := atI_nat (j := 3) rfl
    refine ⟨.ref a, rfl, a, b, d, rfl, hd, ok, hT, fun H1 x1 => ?_⟩
    refine ⟨.ref a, rfl, a, _, 3, _, rfl, rfl, SqT.of (x1.tup hd.1), i3, b, _, rfl, .inr (SqT.of (x1.tup hd.2)), .ref c, rfl, _, c, ds, rfl, hc.xt x1, okd, (by rw [List.length_map, hl]), hT.xt x1, fun H2 x2 => ?_⟩
    exact q H2 (x1.trans x2)
def spOpen : Sp := fun vs H Q _ => ∃ (a b : Addr) (d : Dam), vs = [.ref a] ∧ DamAt H a b d ∧ ∀ H' p, Xt H H' → H p = none → DamAt H' p b d.op → Q (.ref p) H'
theorem ok_open {f : Addr} {fd : FuncData} {k : Nat} (F : Fun K "open_dam" "open_dam" sOpen f fd) : FnOk P w K mg base CX0 (k + 1) f fd ["dam"] spOpen := by
  refine F.ok scOpen (fun vs H Q E h => ?_) (fun cdv A outer s H vs Q E hr h => ?_)
  · obtain ⟨a, b, d, rfl, _⟩ := h
    rfl
  · obtain ⟨a, b, d, rfl, ⟨ha, hb⟩, q⟩ := h
    refine ⟨_, pss_one (ps_ret (pe_tup (pa_cons (pe_ix ix_tup (pv 0) pe_int (fun _ _ => rfl)) (pa_cons (pe_ix ix_tup (pv 0) pe_int (fun _ _ => rfl)) (pa_cons pe_int (pa_cons (pe_ix ix_tup (pv 0) pe_int (fun _ _ => rfl)) pa_nil)))))), ?_⟩
    have i0 : atI [V.int d.cap, .int d.start, .int d.fin, .ref b] 0 = some (.int d.cap) := atI_nat (j := 0) rfl
    have i1 : atI [V.int d.cap, .int d.start, .int d.fin, .ref b] 1 = some (.int d.start) := atI_nat (j := 1) rfl
    have i3 : atI [V.int d.cap, .int d.start, .int d.fin, .ref b] 3 = some (.ref b) := atI_nat (j := 3) rfl
    refine ⟨.ref a, rfl, a, _, 0, _, rfl, rfl, SqT.of ha, i0, .ref a, rfl, a, _, 1, _, rfl, rfl, SqT.of ha, i1, .ref a, rfl, a, _, 3, _, rfl, rfl, SqT.of ha, i3, (by show 4 ≤ sizeLine; decide), fun p hp => ?_⟩
    exact q _ p (Xt.upd hp _) hp ⟨upd_same, (Xt.upd hp _).tup hb⟩
def spWater : Sp := fun vs H Q _ => ∃ (a b : Addr) (d : Dam) (f l : Nat), vs = [.ref a, .int (f : Int), .int (l : Int)] ∧ DamAt H a b d ∧ f ≤ l ∧ l < d.ins.length ∧ ∀ H', Xt H H' → Q (.int (waterM d f l)) H'
theorem ok_water {f : Addr} {fd : FuncData} {k : Nat} (F : Fun K "water_of" "water_of" sWater f fd) (ml : mg "len" = none) (ms : mg "sum" = none) : FnOk P w K mg base CX0 (k + 1) f fd ["dam", "first", "last"] spWater := by
  refine F.ok scWater (fun vs H Q E h => ?_) (fun cdv A outer s H vs Q E hr h => ?_)
  · obtain ⟨a, b, d, f, l, rfl, _⟩ := h
    rfl
  · obtain ⟨a, b, d, f, l, rfl, ⟨ha, hb⟩, hfl, hln, q⟩ := h
    refine ⟨_, pss_cons (ps_set (i := 3) scWater.nd rfl (.inl rfl) (pe_ifExp (pt_cmpR op_eq (pv 1) pe_int (nomark _)) (pe_ix ix_tup (pv 0) pe_int (fun _ _ => rfl)) (pe_ix ix_tup (pv 0) pe_int (fun _ _ => rfl))))
      (pss_cons (ps_set (i := 4) scWater.nd rfl (.inl rfl) (pe_ifExp (pt_cmpR op_eq (pv 2) (pe_op op_sub (pe_callB call_len_seq (by rfl) ml PySem.boot_len (pa_cons (pe_ix ix_tup (pv 0) pe_int (fun _ _ => rfl)) pa_nil)) pe_int) (nomark _)) (pe_ix ix_tup (pv 0) pe_int (fun _ _ => rfl)) pe_int))
      (pss_one (ps_ret (pe_op op_sub (pe_op op_add (pv 3) (pe_callB (cr_sumT rfl) (by rfl) ms bSUM (pa_cons (pe_slice sl_tupA (pe_ix ix_tup (pv 0) pe_int (fun _ _ => rfl)) (po_some (pv 1)) (po_some (pe_op op_add (pv 2) pe_int))) pa_nil))) (pv 4))))), ?_⟩
    have i0 : atI [V.int d.cap, .int d.start, .int d.fin, .ref b] 0 = some (.int d.cap) := atI_nat (j := 0) rfl
    have i1 : atI [V.int d.cap, .int d.start, .int d.fin, .ref b] 1 = some (.int d.start) := atI_nat (j := 1) rfl
    have i2 : atI [V.int d.cap, .int d.start, .int d.fin, .ref b] 2 = some (.int d.fin) := atI_nat (j := 2) rfl
    have i3 : atI [V.int d.cap, .int d.start, .int d.fin, .ref b] 3 = some (.ref b) := atI_nat (j := 3) rfl
    -- the rest, from the two values on
    have rest : ∀ (hv ev : Int), hv = (if f = 0 then d.start else d.cap) → ev = (if l + 1 = d.ins.length then d.fin else 0) →
        tRet (tOp (rI0 fun i j => .int (i - j)) (tOp (rI0 fun i j => .int (i + j)) (tVar 3) (tCB (fun vs H Q => ∃ (a : Addr) (ns : List Int), vs = [V.ref a] ∧ SqT K H a (ns.map V.int) ∧ Q (.int ns.sum) H) (tCons (tSl (rSlA K) (tOp (rIxT K) (tVar 0) (tC (.int 3))) (tPart (tVar 1)) (tPart (tOp (rI0 fun i j => .int (i + j)) (tVar 2) (tC (.int 1))))) tNil))) (tVar 4))
          { nx := fun _ H' => Q .non H', rt := Q } [some (.ref a), some (.int (f : Int)), some (.int (l : Int)), some (.int hv), some (.int ev)] H := by
      intro hv ev e1 e2
      refine ⟨.int hv, rfl, .ref a, rfl, a, _, 3, _, rfl, rfl, SqT.of ha, i3, .int f, rfl, (f : Int), rfl, .int l, rfl, (l : Int), 1, rfl, rfl, (l : Int) + 1, rfl, ?_⟩
      refine rd_cut (f := f) (e := l + 1) hb (by omega) (by omega) hln rfl (by omega) fun p H1 x1 hp => ?_
      refine ⟨p, _, rfl, SqT.of hp, hv, _, rfl, rfl, .int ev, rfl, _, ev, rfl, rfl, ?_⟩
      have e : hv + (cutI d.ins f (l + 1)).sum - ev = waterM d f l := by rw [e1, e2] <;> rfl
      show Q (.int (hv + (cutI d.ins f (l + 1)).sum - ev)) H1
      rw [e]
      exact q H1 x1
    have second : ∀ (hv : Int), hv = (if f = 0 then d.start else d.cap) → ∀ D : Ends, D = { nx := fun _ H' => Q .non H', rt := Q } →
        (tSeq (tAsg (tIf (tTest (tOp rEq (tVar 2) (tOp (rI0 fun i j => .int (i - j)) (tCB (fun xs H Q => ∃ p ys, xs = [.ref p] ∧ (SqL K H p ys ∨ SqT K H p ys) ∧ Q (.int ys.length) H) (tCons (tOp (rIxT K) (tVar 0) (tC (.int 3))) tNil)) (tC (.int 1))))) (tOp (rIxT K) (tVar 0) (tC (.int 2))) (tC (.int 0))) (gName 4))
          (tRet (tOp (rI0 fun i j => .int (i - j)) (tOp (rI0 fun i j => .int (i + j)) (tVar 3) (tCB (fun vs H Q => ∃ (a : Addr) (ns : List Int), vs = [V.ref a] ∧ SqT K H a (ns.map V.int) ∧ Q (.int ns.sum) H) (tCons (tSl (rSlA K) (tOp (rIxT K) (tVar 0) (tC (.int 3))) (tPart (tVar 1)) (tPart (tOp (rI0 fun i j => .int (i + j)) (tVar 2) (tC (.int 1))))) tNil))) (tVar 4))))
          D [some (.ref a), some (.int (f : Int)), some (.int (l : Int)), some (.int hv), none] H := by
      intro hv e1 D hD
      subst hD
      refine ⟨.int l, rfl, .ref a, rfl, a, _, 3, _, rfl, rfl, SqT.of ha, i3, b, _, rfl, .inr (SqT.of hb), _, 1, rfl, rfl, rfl, _, rfl, ?_⟩
      rw [List.length_map]
      by_cases hl : l + 1 = d.ins.length
      · have e : decide (V.int (l : Int) = V.int ((d.ins.length : Int) - 1)) = true := decide_eq_true (by rw [← hl]; congr 1; omega)
        rw [e]
        exact iteT ⟨.ref a, rfl, a, _, 2, _, rfl, rfl, SqT.of ha, i2, rest hv d.fin e1 (by rw [if_pos hl])⟩
      · have e : decide (V.int (l : Int) = V.int ((d.ins.length : Int) - 1)) = false := decide_eq_false (fun z => hl (by have := V.int.inj z; omega))
        rw [e]
        exact iteF (rest hv 0 e1 (by rw [if_neg hl]))
    refine ⟨.int f, rfl, rfl, _, rfl, ?_⟩
    by_cases hf : f = 0
    · have e : decide (V.int (f : Int) = V.int 0) = true := decide_eq_true (by rw [hf] <;> rfl)
      rw [e]
      exact iteT ⟨.ref a, rfl, a, _, 1, _, rfl, rfl, SqT.of ha, i1, second d.start (by rw [if_pos hf]) _ rfl⟩
    · have e : decide (V.int (f : Int) = V.int 0) = false := decide_eq_false (fun z => hf (by have := V.int.inj z; omega))
      rw [e]
      exact iteF ⟨.ref a, rfl, a, _, 0, _, rfl, rfl, SqT.of ha, i0, second d.cap (by rw [if_neg hf]) _ rfl⟩
end
end Dw

set_option Elab.async false
set_option maxRecDepth 100000
set_option maxHeartbeats 4000000
/-! spans. -/
namespace Dw
open PySem PySem.Spec PyProof.Rows L2
theorem pairs_push {H : Hp} {D r : Addr} {rs : List Addr} {ts : List (Nat × Nat)} {t : Nat × Nat} (h : H D = some (.lst (rs.map V.ref))) (hl : rs.length = ts.length) (hit : ∀ (i : Nat) r (t : Nat × Nat), rs[i]? = some r → ts[i]? = some t → H r = some (.tup [.int (t.1 : Nat), .int (t.2 : Nat)]))
    (hr : H r = none) : PairsAt (upd (upd H r (.tup [.int (t.1 : Nat), .int (t.2 : Nat)])) D (.lst (rs.map V.ref ++ [.ref r]))) D (ts ++ [t]) := by
  have nD : D ≠ r := ne_of_none h hr
  refine ⟨rs ++ [r], by rw [upd_same, List.map_append] <;> rfl, by rw [List.length_append, List.length_append, hl] <;> rfl, fun i r' t' e1 e2 => ?_⟩
  by_cases hi : i < rs.length
  · rw [List.getElem?_append_left hi] at e1
    rw [List.getElem?_append_left (by omega)] at e2
    have q := hit i r' t' e1 e2
    rw [upd_ne (ne_of q h (by intro z; cases z)), upd_ne (ne_of_none q hr)]
    exact q
  · rw [List.getElem?_append_right (by omega)] at e1
    rw [List.getElem?_append_right (by omega)] at e2
    have ej : i - rs.length = 0 := by
      have := (List.getElem?_eq_some_iff.mp e1).1
      simp at this
      omega
    have ej2 : i - ts.length = 0 := by omega
    rw [ej] at e1
    rw [ej2] at e2
    have er : r = r' := Option.some.inj e1
    have et : t = t' := Option.some.inj e2
    subst er et
    rw [upd_ne (Ne.symm nD), upd_same]
/-- the spans that begin below i -/
def spansTo (n i : Nat) : List (Nat × Nat) := (List.range i).flatMap fun f => (List.range (n - f)).map fun k => (f, f + k)
theorem spansTo_len (n : Nat) : ∀ i, (spansTo n i).length ≤ i * n
  | 0 => by simp [spansTo]
  | i + 1 => by
    have ih := spansTo_len n i
    unfold spansTo at ih ⊢
    rw [List.range_succ, List.flatMap_append, List.length_append]
    simp only [List.flatMap_cons, List.flatMap_nil, List.append_nil, List.length_map, List.length_range]
    rw [Nat.add_mul, Nat.one_mul]
    omega
theorem spansTo_succ (n i : Nat) : spansTo n (i + 1) = spansTo n i ++ (List.range (n - i)).map fun k => (i, i + k) := by
  unfold spansTo
  rw [List.range_succ, List.flatMap_append]
  simp only [List.flatMap_cons, List.flatMap_nil, List.append_nil]
section
variable {P : Program} {w : World} {K : PySem.W.Frag} {mg : Str → Option Value} {base : Heap}
def spSpans : Sp := fun vs H Q _ => ∃ (n : Nat), vs = [.int (n : Int)] ∧ n ≤ 7 ∧ ∀ H' p, Xt H H' → H p = none → PairsAt H' p (spansM n) → Q (.ref p) H'
theorem ok_spans {f : Addr} {fd : FuncData} {k : Nat} (F : Fun K "spans" "spans" sSpans f fd) (mr : mg "range" = none) : FnOk P w K mg base CX0 (k + 1) f fd ["months"] spSpans := by
  refine F.ok scSpans (fun vs H Q E h => ?_) (fun cdv A outer s H vs Q E hr h => ?_)
  · obtain ⟨n, rfl, _⟩ := h
    rfl
  · obtain ⟨n, rfl, h7, q⟩ := h
    refine ⟨_, pss_one (ps_ret (pe_lc2 (own := [("first", 1), ("last", 2)]) (vs1 := [2]) (g := gName 1) (g1 := gName 2) (tt := tYes) (tt1 := tYes) rfl scSpans.nd (pi_range1 (by rfl) mr (pa_cons (pv 0) pa_nil))
      (blkOk_by (N := ["months", "first", "last"]) (sc := defScope sSpans) (by decide +kernel)) (by decide) (fun _ _ _ _ _ => pg_name (i := 1) scSpans.nd rfl (.inl rfl)) (fun _ _ _ _ _ => pts_nil)
      (fun _ _ _ _ _ => pi_range2 (by rfl) mr (pa_cons (pv 1) (pa_cons (pv 0) pa_nil))) (fun _ _ _ _ _ => pg_name (i := 2) scSpans.nd rfl (.inl rfl)) (fun _ _ _ _ _ => pts_nil)
      (fun _ _ _ _ _ => pe_tup (pa_cons (pv 1) (pa_cons (pv 2) pa_nil))))), ?_⟩
    refine ⟨.int n, rfl, (n : Int), rfl, by omega, by omega, fun D hD => ?_⟩
    refine it_range (fun i H' => Xt H H' ∧ PairsAt H' D (spansTo n i)) ⟨Xt.upd hD _, [], upd_same, rfl, fun i r t e _ => by simp at e⟩ ?_ ?_
    · rintro i H1 hi ⟨x1, p1⟩
      have hin : i < n := by omega
      refine ⟨rfl, .int (0 + (i : Int)), rfl, .int n, rfl, 0 + (i : Int), (n : Int), rfl, by omega, ?_⟩
      refine it_range (fun j H' => Xt H H' ∧ PairsAt H' D (spansTo n i ++ (List.range j).map fun k => (i, i + k))) ⟨x1, by simpa using p1⟩ ?_ ?_
      · rintro j H2 hj ⟨x2, p2⟩
        have hjn : j < n - i := by omega
        obtain ⟨rs, h1, h2, h3⟩ := p2
        refine ⟨rfl, .int (0 + (i : Int)), rfl, .int (0 + (i : Int) + (j : Int)), rfl, (by show 2 ≤ sizeLine; decide), fun r hr2 => ?_⟩
        have nD : D ≠ r := ne_of_none h1 hr2
        refine ⟨rs.map V.ref, by rw [upd_ne nD]; exact h1, ?_, Xt.updOld (x2.trans (Xt.upd hr2 _)) hD _, ?_⟩
        · rw [List.length_map, h2, List.length_append, List.length_map, List.length_range]
          have q1 := spansTo_len n i
          have q2 : i * n ≤ 7 * 7 := Nat.mul_le_mul (by omega) h7
          exact Nat.lt_of_le_of_lt (show _ ≤ 100 by omega) (by decide)
        · have e1 : (0 : Int) + (i : Int) = ((i : Nat) : Int) := by omega
          have e2 : (0 : Int) + (i : Int) + (j : Int) = ((i + j : Nat) : Int) := by omega
          have q1 := pairs_push (t := (i, i + j)) h1 h2 h3 hr2
          rw [List.range_succ, List.map_append, ← List.append_assoc]
          rw [e2, e1]
          exact q1
      · rintro H2 ⟨x2, p2⟩
        have e : ((n : Int) - (0 + (i : Int))).toNat = n - i := by omega
        rw [e] at p2
        exact ⟨x2, by rw [spansTo_succ]; exact p2⟩
    · rintro H1 ⟨x1, p1⟩
      have e : (n : Int).toNat = n := Int.toNat_natCast n
      rw [e] at p1
      exact q H1 D x1 hD p1
end
end Dw

set_option Elab.async false
set_option maxRecDepth 100000
set_option maxHeartbeats 4000000
/-! total_lack, does_give, span_lack. -/
namespace Dw
open PySem PySem.Spec PyProof.Rows L2
theorem genS4_nofree {env : Env} {scope : Scope} {xa x1 x2 x3 : Str} (h1 : scope.kind = .function) (h2 : scope.isCoroutine = false) (h3 : (scope.names.all fun y => y.2 != .cell && y.2 != .free) = true) (h4 : scope.names.lookup (".0" : Str) = some NameKind.local)
    (la : scope.names.lookup xa = some .local) (l1 : scope.names.lookup x1 = some .local) (l2 : scope.names.lookup x2 = some .local) (l3 : scope.names.lookup x3 = some .local)
    (hd : [xa, x1, x2, x3].Nodup) : GenS4 env scope xa x1 x2 x3 := by
  have hd' : xa ≠ x1 ∧ xa ≠ x2 ∧ xa ≠ x3 ∧ x1 ≠ x2 ∧ x1 ≠ x3 ∧ x2 ≠ x3 := by
    simp only [List.nodup_cons, List.mem_cons, List.mem_nil_iff, or_false, not_or] at hd
    exact ⟨hd.1.1, hd.1.2.1, hd.1.2.2, hd.2.1.1, hd.2.1.2, hd.2.2.1⟩
  refine ⟨h1, h2, fun y hy e => ?_, h4, la, l1, l2, l3, fun y hy e => ?_, hd'.1, hd'.2.1, hd'.2.2.1, hd'.2.2.2.1, hd'.2.2.2.2.1, hd'.2.2.2.2.2⟩
  · have q := List.all_eq_true.mp h3 y hy
    rw [e] at q
    exact absurd q (by decide)
  · have q := List.all_eq_true.mp h3 y hy
    rw [e] at q
    exact absurd q (by decide)
theorem sortD_of {l ns : List Int} (hp : ns.Perm l) (hs : ns.Pairwise (· ≤ ·)) : ns.reverse = sortD l := by
  unfold sortD
  congr 1
  have h2 : (l.mergeSort (fun a b => decide (a ≤ b))).Pairwise (· ≤ ·) := by
    have q := List.pairwise_mergeSort (le := fun (a b : Int) => decide (a ≤ b)) (fun a b c h1 h2 => by simp at h1 h2 ⊢; omega) (fun a b => by simp; omega) l
    exact q.imp fun h => by simpa using h
  have h3 : (l.mergeSort (fun a b => decide (a ≤ b))).Perm l := List.mergeSort_perm l _
  exact PySem.W.ksm_same (hp.trans h3.symm) hs h2
theorem sortD_perm (l : List Int) : (sortD l).Perm l := (List.reverse_perm _).trans (List.mergeSort_perm l _)
theorem bSORTED : bootBuiltins "sorted" = some (.builtin "sorted") := by decide +kernel
section
variable {P : Program} {w : World} {K : PySem.W.Frag} {mg : Str → Option Value} {base : Heap}
def spTotal (T : Tabs) : Sp := fun vs H Q _ => ∃ (a b c : Addr) (d : Dam) (ds : List Int), vs = [.ref a, .ref c] ∧ DamAt H a b d ∧ d.Ok ∧ Ints H c ds ∧ FlowsOk ds ∧ ds.length = d.ins.length ∧ TabsOk T H ∧ ∀ H', Xt H H' → Q (.int (totM d ds)) H'
theorem ok_total {f c : Addr} {fd : FuncData} {k : Nat} {T : Tabs} (F : FunC K "total_lack" "total_lack" sTotal f fd (.ref c)) (TB : GxR.TabB base mg c T.total) (M : Md P w K mg base T) (N : Cl P w K mg base 4 "need_lack" ["dam", "demands"] (spNeedLack T)) :
    FnOk P w K mg base CX0 (k + 5) f fd ["dam", "demands"] (spTotal T) := by
  refine F.ok scTotal (fun vs H Q E h => ?_) (fun A outer s H vs Q E hr h => ?_)
  · obtain ⟨a, b, c, d, ds, rfl, _⟩ := h
    rfl
  · obtain ⟨a, b, c, d, ds, rfl, hd, ok, hc, okd, hl, hT, q⟩ := h
    refine ⟨_, pss_cons (ps_expr (pe_cl N hr (by omega) (by rfl) (pa_cons (pv 0) (pa_cons (pv 1) pa_nil))))
      (pss_one (ps_ret (pe_sumZ (f := fun d g => d - g) hr (by rfl) M.sum TB rfl (genS4_nofree rfl rfl (by decide +kernel) rfl rfl rfl rfl rfl (by decide +kernel)) (by rfl) M.zip
        (pa_cons (pv 1) (pa_cons (pe_cl M.runof hr (by omega) (by rfl) (pa_cons (pv 0) (pa_cons (pv 1) pa_nil))) pa_nil)) (elt_sub rfl rfl rfl) (fun _ => rfl)))), ?_⟩
    refine ⟨.ref a, rfl, .ref c, rfl, a, b, c, d, ds, rfl, hd, ok, hc, okd, hl, hT, fun H1 x1 => ?_⟩
    refine ⟨.ref c, rfl, .ref a, rfl, .ref c, rfl, a, b, c, d, ds, rfl, hd.xt x1, hc.xt x1, hl.symm, okd.n7, fun H2 p x2 hp ht => ?_⟩
    have x12 := x1.trans x2
    refine ⟨c, p, ds, d.run ds, rfl, SqT.of (hc.xt x12), ht, x12.tab hT.total, fun H3 hT3 => ?_⟩
    exact q H3 (x12.trans (Xt.tabbed (x12.tab hT.total) hT3))
def spDoes (T : Tabs) : Sp := fun vs H Q _ => ∃ (a b c : Addr) (d : Dam) (ds : List Int), vs = [.ref a, .ref c] ∧ DamAt H a b d ∧ Ints H c ds ∧ ds.length = d.ins.length ∧ ds.length ≤ 7 ∧ TabsOk T H ∧ ∀ H', Xt H H' → Q (.bl (givM d ds)) H'
theorem ok_does {f c : Addr} {fd : FuncData} {k : Nat} {T : Tabs} (F : FunC K "does_give" "does_give" sDoes f fd (.ref c)) (TB : GxR.TabB base mg c T.does) (M : Md P w K mg base T) :
    FnOk P w K mg base CX0 (k + 2) f fd ["dam", "demands"] (spDoes T) := by
  refine F.ok scDoes (fun vs H Q E h => ?_) (fun A outer s H vs Q E hr h => ?_)
  · obtain ⟨a, b, c, d, ds, rfl, _⟩ := h
    rfl
  · obtain ⟨a, b, c, d, ds, rfl, hd, hc, hl, h7, hT, q⟩ := h
    refine ⟨_, pss_one (ps_ret (pe_allZ (f := fun d g => g == d) hr (by rfl) M.all TB rfl (genS4_nofree rfl rfl (by decide +kernel) rfl rfl rfl rfl rfl (by decide +kernel)) (by rfl) M.zip
        (pa_cons (pv 1) (pa_cons (pe_cl M.runof hr (by omega) (by rfl) (pa_cons (pv 0) (pa_cons (pv 1) pa_nil))) pa_nil)) (elt_eq rfl rfl rfl) (fun _ => rfl))), ?_⟩
    refine ⟨.ref c, rfl, .ref a, rfl, .ref c, rfl, a, b, c, d, ds, rfl, hd, hc, hl.symm, h7, fun H2 p x2 hp ht => ?_⟩
    refine ⟨c, p, ds, d.run ds, rfl, SqT.of (hc.xt x2), ht, x2.tab hT.does, fun H3 hT3 => ?_⟩
    exact q H3 (x2.trans (Xt.tabbed (x2.tab hT.does) hT3))
end
end Dw

set_option Elab.async false
set_option maxRecDepth 100000
set_option maxHeartbeats 4000000
/-! span_lack, lack_of, least_lack. -/
namespace Dw
open PySem PySem.Spec PyProof.Rows L2
theorem sum_bound : ∀ (l : List Int), (∀ x ∈ l, 0 ≤ x) → (∀ x ∈ l, x ≤ 1000) → 0 ≤ l.sum ∧ l.sum ≤ 1000 * (l.length : Int)
  | [], _, _ => by simp
  | a :: l, h0, h1 => by
    have ih := sum_bound l (fun x hx => h0 x (List.mem_cons_of_mem _ hx)) (fun x hx => h1 x (List.mem_cons_of_mem _ hx))
    have a0 := h0 a List.mem_cons_self
    have a1 := h1 a List.mem_cons_self
    rw [List.sum_cons, List.length_cons]
    push_cast
    omega
theorem cutI_mem {l : List Int} {f e : Nat} {x : Int} (h : x ∈ cutI l f e) : x ∈ l := List.mem_of_mem_drop (List.mem_of_mem_take h)
theorem cutI_len (l : List Int) (f e : Nat) : (cutI l f e).length ≤ l.length := by
  unfold cutI
  rw [List.length_take, List.length_drop]
  omega
theorem water_bound {d : Dam} (ok : d.Ok) (f l : Nat) : 0 ≤ waterM d.op f l ∧ waterM d.op f l ≤ 8000 := by
  have h1 := sum_bound (cutI d.ins f (l + 1)) (fun x hx => ok.i0 x (cutI_mem hx)) (fun x hx => ok.i1 x (cutI_mem hx))
  have h2 := cutI_len d.ins f (l + 1)
  have h3 := ok.n7
  have := ok.c0
  have := ok.c1
  have := ok.s0
  have := ok.s1
  unfold waterM Dam.op
  simp only
  have e0 : (if l + 1 = d.ins.length then (0 : Int) else 0) = 0 := by split <;> rfl
  rw [e0]
  split <;> omega
/-- a bounded ratio -/
def RB (r : Int × Int) : Prop := -100000 ≤ r.1 ∧ r.1 ≤ 100000
theorem mkR_bound {t b : Int} (hb : 0 < b) (h0 : -100000 ≤ t) (h1 : t ≤ 100000) : RB (mkR t b) := by
  obtain ⟨g0, _⟩ := gcdI_pos (t := t) hb
  unfold RB mkR
  simp only
  constructor
  · rw [Int.le_ediv_iff_mul_le g0]
    have : -100000 * gcdI t b ≤ -100000 * 1 := by
      have := Int.mul_le_mul_of_nonneg_left (show (1 : Int) ≤ gcdI t b by omega) (show (0 : Int) ≤ 100000 by decide)
      omega
    omega
  · have : t / gcdI t b ≤ 100000 / 1 := by
      have h2 : t / gcdI t b ≤ 100000 / gcdI t b := Int.ediv_le_ediv g0 h1
      have h3 : (100000 : Int) / gcdI t b ≤ 100000 := Int.ediv_le_self _ (by decide)
      omega
    omega
theorem up_bound {a b : Int × Int} (ha : RB a) (hb : RB b) : RB (up a b) := by
  unfold up
  split
  · exact hb
  · exact ha
theorem RB0 : RB (0, 1) := by unfold RB; simp
theorem RB.lo {r : Int × Int} (h : RB r) : -(2 ^ 64) < r.1 ∧ r.1 < 2 ^ 64 := by
  have h1 := h.1
  have h2 := h.2
  constructor
  · have : (-(2 ^ 64) : Int) = -18446744073709551616 := by decide
    omega
  · have : ((2 ^ 64) : Int) = 18446744073709551616 := by decide
    omega
theorem take_sum_bound {l : List Int} (h0 : ∀ x ∈ l, 0 ≤ x) (h1 : ∀ x ∈ l, x ≤ 1000) (hl : l.length ≤ 7) (c : Nat) : 0 ≤ (l.take c).sum ∧ (l.take c).sum ≤ 7000 := by
  have q := sum_bound (l.take c) (fun x hx => h0 x (List.mem_of_mem_take hx)) (fun x hx => h1 x (List.mem_of_mem_take hx))
  have q2 : (l.take c).length ≤ l.length := by rw [List.length_take]; omega
  omega
theorem foldS_bound {sm : List Int} {w : Int} (h0 : ∀ x ∈ sm, 0 ≤ x) (h1 : ∀ x ∈ sm, x ≤ 1000) (hl : sm.length ≤ 7) (w0 : 0 ≤ w) (w1 : w ≤ 8000) : ∀ i, RB ((List.range i).foldl (stepS sm w) (0, 1))
  | 0 => RB0
  | i + 1 => by
    rw [List.range_succ, List.foldl_append]
    have q := take_sum_bound h0 h1 hl (i + 1)
    exact up_bound (foldS_bound h0 h1 hl w0 w1 i) (mkR_bound (by omega) (by omega) (by omega))
section
variable {P : Program} {w : World} {K : PySem.W.Frag} {mg : Str → Option Value} {base : Heap}
def spSpanLack : Sp := fun vs H Q _ => ∃ (a b c e : Addr) (d : Dam) (ds : List Int) (f l : Nat), vs = [.ref a, .ref c, .ref e] ∧ DamAt H a b d ∧ d.Ok ∧ Ints H c ds ∧ FlowsOk ds ∧ ds.length = d.ins.length ∧ H e = some (.tup [.int (f : Nat), .int (l : Nat)]) ∧ f ≤ l ∧ l < ds.length ∧
  ∀ H' p, Xt H H' → H p = none → RatAt H' p (spanLackM d ds (f, l)) → Q (.ref p) H'
theorem ok_spanlack {f : Addr} {fd : FuncData} {k : Nat} {T : Tabs} (F : Fun K "span_lack" "span_lack" sSpanLack f fd) (M : Md P w K mg base T) (O : Cl P w K mg base 1 "open_dam" ["dam"] spOpen) (Wt : Cl P w K mg base 1 "water_of" ["dam", "first", "last"] spWater) :
    FnOk P w K mg base CX0 (k + 2) f fd ["dam", "demands", "span"] spSpanLack := by
  refine F.ok scSpanLack (fun vs H Q E h => ?_) (fun cdv A outer s H vs Q E hr h => ?_)
  · obtain ⟨a, b, c, e, d, ds, f, l, rfl, _⟩ := h
    rfl
  · obtain ⟨a, b, c, e, d, ds, f, l, rfl, hd, ok, hc, okd, hlen, he, hfl, hln, q⟩ := h
    refine ⟨_, pss_cons (ps_set (i := 3) scSpanLack.nd rfl (.inl rfl) (pe_revL (pe_callB cr_sortedTI (by rfl) M.sorted bSORTED (pa_cons (pe_slice sl_tupA (pv 1) (po_some (pe_ix ix_tup (pv 2) pe_int (fun _ _ => rfl))) (po_some (pe_op op_add (pe_ix ix_tup (pv 2) pe_int (fun _ _ => rfl)) pe_int))) pa_nil))))
      (pss_cons (ps_set (i := 4) scSpanLack.nd rfl (.inl rfl) (pe_cl Wt hr (by omega) (by rfl) (pa_cons (pe_cl O hr (by omega) (by rfl) (pa_cons (pv 0) pa_nil)) (pa_cons (pe_ix ix_tup (pv 2) pe_int (fun _ _ => rfl)) (pa_cons (pe_ix ix_tup (pv 2) pe_int (fun _ _ => rfl)) pa_nil)))))
      (pss_cons (ps_set (i := 5) scSpanLack.nd rfl (.inl rfl) (pe_tup (pa_cons pe_int (pa_cons pe_int pa_nil))))
      (pss_cons (ps_for PassesOwn.never rfl (pi_range2 (by rfl) M.range (pa_cons pe_int (pa_cons (pe_op op_add (pe_callB call_len_seq (by rfl) M.len PySem.boot_len (pa_cons (pv 3) pa_nil)) pe_int) pa_nil))) (pg_name (i := 6) scSpanLack.nd rfl (.inl rfl))
        (pss_cons (ps_set (i := 7) scSpanLack.nd rfl (.inl rfl) (pe_cl M.ratio hr (by omega) (by rfl) (pa_cons (pe_op op_sub (pe_callB (cr_sum rfl) (by rfl) M.sum bSUM (pa_cons (pe_slice sl_list (pv 3) po_none (po_some (pv 6))) pa_nil)) (pv 4)) (pa_cons (pv 6) pa_nil))))
        (pss_one (ps_set (i := 5) scSpanLack.nd rfl (.inl rfl) (pe_ifExp (pt_val (pe_cl M.less hr (by omega) (by rfl) (pa_cons (pv 5) (pa_cons (pv 7) pa_nil)))) (pv 7) (pv 5))))))
      (pss_one (ps_ret (pv 5)))))), ?_⟩
    have i0 : ∀ (u v : V), atI [u, v] 0 = some u := fun u v => atI_nat (j := 0) rfl
    have i1 : ∀ (u v : V), atI [u, v] 1 = some v := fun u v => atI_nat (j := 1) rfl
    refine ⟨.ref c, rfl, .ref e, rfl, e, _, 0, _, rfl, rfl, SqT.of he, i0 _ _, (f : Int), rfl, .ref e, rfl, e, _, 1, _, rfl, rfl, SqT.of he, i1 _ _, (l : Int), 1, rfl, rfl, (l : Int) + 1, rfl, ?_⟩
    refine rd_cut (f := f) (e := l + 1) hc (by omega) (by omega) hln rfl (by omega) fun p1 H1 x1 hp1 => ?_
    refine ⟨p1, _, rfl, SqT.of hp1, (by have := cutI_len ds f (l + 1); have := okd.n7; omega), fun ns' p2 hperm hsort hp2 => ?_⟩
    have x2 : Xt H1 (upd H1 p2 (.lst (ns'.map V.int))) := Xt.upd hp2 _
    refine ⟨p2, _, rfl, SqL.of upd_same, fun sp hsp => ?_⟩
    have x3 : Xt _ (upd (upd H1 p2 (.lst (ns'.map V.int))) sp (.lst (ns'.map V.int).reverse)) := Xt.upd hsp _
    have x13 := x1.trans (x2.trans x3)
    have esm : (ns'.map V.int).reverse = (sortD (cutI ds f (l + 1))).map V.int := by rw [← List.map_reverse, sortD_of hperm hsort]
    have hS : (upd (upd H1 p2 (.lst (ns'.map V.int))) sp (.lst (ns'.map V.int).reverse)) sp = some (.lst ((sortD (cutI ds f (l + 1))).map V.int)) := by rw [upd_same, esm]
    have hspf : H sp = none := x1.free (x2.free hsp)
    -- the sorted demands and the water
    generalize hsm : sortD (cutI ds f (l + 1)) = sm at hS
    have sm0 : ∀ x ∈ sm, 0 ≤ x := fun x hx => okd.i0 x (cutI_mem ((sortD_perm _).mem_iff.mp (by rw [hsm]; exact hx)))
    have sm1 : ∀ x ∈ sm, x ≤ 1000 := fun x hx => okd.i1 x (cutI_mem ((sortD_perm _).mem_iff.mp (by rw [hsm]; exact hx)))
    have sml : sm.length ≤ 7 := by
      have q1 := (sortD_perm (cutI ds f (l + 1))).length_eq
      rw [hsm] at q1
      have := cutI_len ds f (l + 1)
      have := okd.n7
      omega
    obtain ⟨w0, w1⟩ := water_bound ok f l
    refine ⟨.ref a, rfl, a, b, d, rfl, hd.xt x13, fun H4 op x4 hop hdo => ?_⟩
    have x14 := x13.trans x4
    refine ⟨.ref e, rfl, e, _, 0, _, rfl, rfl, SqT.of (x14.tup he), i0 _ _, .ref e, rfl, e, _, 1, _, rfl, rfl, SqT.of (x14.tup he), i1 _ _, ?_⟩
    refine ⟨op, b, d.op, f, l, rfl, hdo, hfl, (by show l < d.ins.length; omega), fun H5 x5 => ?_⟩
    have x15 := x14.trans x5
    generalize hwt : waterM d.op f l = wt at w0 w1
    have hS5 : H5 sp = some (.lst (sm.map V.int)) := (x4.trans x5).lst hS
    refine ⟨(by show 2 ≤ sizeLine; decide), fun fp hfp => ?_⟩
    have x6 : Xt H5 (upd H5 fp (.tup [.int 0, .int 1])) := Xt.upd hfp _
    refine ⟨.ref sp, rfl, sp, _, rfl, .inl (SqL.of (x6.lst hS5)), _, 1, rfl, rfl, 1, _, rfl, (by rw [List.length_map]; omega), ?_⟩
    have en : (((sm.map V.int).length : Int) + 1 - 1).toNat = sm.length := by rw [List.length_map]; omega
    rw [en]
    refine for_range (lo := 1) (n := sm.length) (fun i σ H' => ∃ (fp : Addr) (y6 y7 : Option V), σ = [some (.ref a), some (.ref c), some (.ref e), some (.ref sp), some (.int wt), some (.ref fp), y6, y7] ∧ Xt H H' ∧ H' sp = some (.lst (sm.map V.int)) ∧ H fp = none ∧ RatAt H' fp ((List.range i).foldl (stepS sm wt) (0, 1)))
      ⟨fp, none, none, rfl, x15.trans x6, x6.lst hS5, x15.free hfp, upd_same⟩ ?_ ?_
    · rintro i σ H' hi ⟨fp', y6, y7, rfl, x, hs, hf, hr'⟩
      have ec : cutV (sm.map V.int) none (some (1 + (i : Int))) = (sm.take (i + 1)).map V.int := by
        have e1 : (1 + (i : Int)) = ((i + 1 : Nat) : Int) := by omega
        unfold cutV
        rw [e1, List.length_map, HT.sIx_nat, HT.sIx_none, List.drop_zero, Nat.sub_zero, Nat.min_eq_left (by omega), ← List.map_take]
      refine ⟨.ref sp, rfl, .int (1 + (i : Int)), rfl, 1 + (i : Int), rfl, sp, _, rfl, SqL.of hs, fun cp hcp => ?_⟩
      have xc : Xt H' (upd H' cp (.lst (cutV (sm.map V.int) none (some (1 + (i : Int)))))) := Xt.upd hcp _
      refine ⟨cp, sm.take (i + 1), rfl, SqL.of (by rw [upd_same, ec]), .int wt, rfl, _, wt, rfl, rfl, .int (1 + (i : Int)), rfl, _, 1 + (i : Int), rfl, by omega, by omega, fun rp hrp => ?_⟩
      have xr := xc.trans (Xt.upd hrp (.tup [.int (mkR ((sm.take (i + 1)).sum - wt) (1 + (i : Int))).1, .int (mkR ((sm.take (i + 1)).sum - wt) (1 + (i : Int))).2]))
      have hb := foldS_bound sm0 sm1 sml w0 w1 i
      have ht := take_sum_bound sm0 sm1 sml (i + 1)
      have hxb : RB (mkR ((sm.take (i + 1)).sum - wt) (1 + (i : Int))) := mkR_bound (by omega) (by omega) (by omega)
      refine ⟨.ref fp', rfl, .ref rp, rfl, fp', rp, _, _, rfl, hr'.xt xr, upd_same, hb.lo, hxb.lo, _, rfl, ?_⟩
      have es : (List.range (i + 1)).foldl (stepS sm wt) (0, 1) = up ((List.range i).foldl (stepS sm wt) (0, 1)) (mkR ((sm.take (i + 1)).sum - wt) (1 + (i : Int))) := by
        rw [List.range_succ, List.foldl_append]
        show stepS sm wt _ i = _
        unfold stepS
        rw [Int.add_comm (i : Int) 1]
      refine ite2 (fun hlt => ?_) (fun hlt => ?_)
      · refine ⟨.ref rp, rfl, rp, _, _, rfl, x.trans xr, xr.lst hs, x.free (xc.free hrp), ?_⟩
        rw [es]
        unfold up
        rw [if_pos hlt]
        exact upd_same
      · refine ⟨.ref fp', rfl, fp', _, _, rfl, x.trans xr, xr.lst hs, hf, ?_⟩
        rw [es]
        unfold up
        rw [if_neg hlt]
        exact hr'.xt xr
    · rintro σ H' ⟨fp', y6, y7, rfl, x, hs, hf, hr'⟩
      refine ⟨.ref fp', rfl, q H' fp' x hf ?_⟩
      unfold spanLackM
      simp only
      rw [hsm, hwt]
      exact hr'
end
end Dw

set_option Elab.async false
set_option maxRecDepth 100000
set_option maxHeartbeats 4000000
/-! lack_of, least_lack. -/
namespace Dw
open PySem PySem.Spec PyProof.Rows L2
theorem spansM_mem {n f l : Nat} (h : (f, l) ∈ spansM n) : f ≤ l ∧ l < n := by
  simp only [spansM, List.mem_flatMap, List.mem_map, List.mem_range] at h
  obtain ⟨f', hf, k, hk, e⟩ := h
  have e1 : f' = f := congrArg Prod.fst e
  have e2 : f' + k = l := congrArg Prod.snd e
  omega
theorem spanLack_bound {d : Dam} {ds : List Int} (ok : d.Ok) (okd : FlowsOk ds) (s : Nat × Nat) : RB (spanLackM d ds s) := by
  unfold spanLackM
  obtain ⟨w0, w1⟩ := water_bound ok s.1 s.2
  have hp := sortD_perm (cutI ds s.1 (s.2 + 1))
  refine foldS_bound (fun x hx => okd.i0 x (cutI_mem (hp.mem_iff.mp hx))) (fun x hx => okd.i1 x (cutI_mem (hp.mem_iff.mp hx))) ?_ w0 w1 _
  have := hp.length_eq
  have := cutI_len ds s.1 (s.2 + 1)
  have := okd.n7
  omega
/-- the first so many spans' answer -/
def lackTo (d : Dam) (ds : List Int) (i : Nat) : Int × Int := ((spansM ds.length).take i).foldl (fun found s => up found (spanLackM d ds s)) (0, 1)
theorem lackTo_succ {d : Dam} {ds : List Int} {i : Nat} {s : Nat × Nat} (h : (spansM ds.length)[i]? = some s) : lackTo d ds (i + 1) = up (lackTo d ds i) (spanLackM d ds s) := by
  unfold lackTo
  rw [List.take_add_one, h, List.foldl_append]
  rfl
theorem lackTo_bound {d : Dam} {ds : List Int} (ok : d.Ok) (okd : FlowsOk ds) (i : Nat) : RB (lackTo d ds i) := by
  unfold lackTo
  generalize (spansM ds.length).take i = l
  have : ∀ (l : List (Nat × Nat)) (r : Int × Int), RB r → RB (l.foldl (fun found s => up found (spanLackM d ds s)) r) := by
    intro l
    induction l with
    | nil => exact fun r h => h
    | cons s l ih => exact fun r h => ih _ (up_bound h (spanLack_bound ok okd s))
  exact this l _ RB0
theorem lackTo_all {d : Dam} {ds : List Int} : lackTo d ds (spansM ds.length).length = lackM d ds := by
  unfold lackTo lackM
  rw [List.take_length]
theorem lackM_bound {d : Dam} {ds : List Int} (ok : d.Ok) (okd : FlowsOk ds) : RB (lackM d ds) := by rw [← lackTo_all]; exact lackTo_bound ok okd _
section
variable {P : Program} {w : World} {K : PySem.W.Frag} {mg : Str → Option Value} {base : Heap}
def spLackOf : Sp := fun vs H Q _ => ∃ (a b c : Addr) (d : Dam) (ds : List Int), vs = [.ref a, .ref c] ∧ DamAt H a b d ∧ d.Ok ∧ Ints H c ds ∧ FlowsOk ds ∧ ds.length = d.ins.length ∧ ∀ H' p, Xt H H' → H p = none → RatAt H' p (lackM d ds) → Q (.ref p) H'
theorem ok_lackof {f : Addr} {fd : FuncData} {k : Nat} {T : Tabs} (F : Fun K "lack_of" "lack_of" sLackOf f fd) (M : Md P w K mg base T) (Sp : Cl P w K mg base 1 "spans" ["months"] spSpans) (SL : Cl P w K mg base 2 "span_lack" ["dam", "demands", "span"] spSpanLack) :
    FnOk P w K mg base CX0 (k + 3) f fd ["dam", "demands"] spLackOf := by
  refine F.ok scLackOf (fun vs H Q E h => ?_) (fun cdv A outer s H vs Q E hr h => ?_)
  · obtain ⟨a, b, c, d, ds, rfl, _⟩ := h
    rfl
  · obtain ⟨a, b, c, d, ds, rfl, hd, ok, hc, okd, hlen, q⟩ := h
    refine ⟨_, pss_cons (ps_set (i := 2) scLackOf.nd rfl (.inl rfl) (pe_tup (pa_cons pe_int (pa_cons pe_int pa_nil))))
      (pss_cons (ps_for PassesOwn.never rfl (pi_list (pe_cl Sp hr (by omega) (by rfl) (pa_cons (pe_callB call_len_seq (by rfl) M.len PySem.boot_len (pa_cons (pv 1) pa_nil)) pa_nil))) (pg_name (i := 3) scLackOf.nd rfl (.inl rfl))
        (pss_cons (ps_set (i := 4) scLackOf.nd rfl (.inl rfl) (pe_cl SL hr (by omega) (by rfl) (pa_cons (pv 0) (pa_cons (pv 1) (pa_cons (pv 3) pa_nil)))))
        (pss_one (ps_set (i := 2) scLackOf.nd rfl (.inl rfl) (pe_ifExp (pt_val (pe_cl M.less hr (by omega) (by rfl) (pa_cons (pv 2) (pa_cons (pv 4) pa_nil)))) (pv 4) (pv 2))))))
      (pss_one (ps_ret (pv 2)))), ?_⟩
    refine ⟨(by show 2 ≤ sizeLine; decide), fun fp hfp => ?_⟩
    have x1 : Xt H (upd H fp (.tup [.int 0, .int 1])) := Xt.upd hfp _
    refine ⟨.ref c, rfl, c, _, rfl, .inr (SqT.of (x1.tup hc)), ds.length, (by show [V.int ((ds.map V.int).length : Int)] ++ [] = [V.int (ds.length : Int)]; rw [List.length_map] <;> rfl), okd.n7, fun H2 sp x2 hsp hps => ?_⟩
    obtain ⟨rs, h1, h2, h3⟩ := hps
    have hspf : H sp = none := x1.free hsp
    refine ⟨sp, rfl, ⟨_, SqL.of h1⟩, for_list (K := K) (a := sp) (xs := rs.map V.ref) (fun i σ H' => ∃ (fp : Addr) (y3 y4 : Option V), σ = [some (.ref a), some (.ref c), some (.ref fp), y3, y4] ∧ Xt H2 H' ∧ H fp = none ∧ RatAt H' fp (lackTo d ds i))
      ⟨fp, none, none, rfl, Xt.refl _, hfp, x2.tup upd_same⟩ (fun i σ H' _ ⟨_, _, _, _, x, _⟩ => SqL.of (x.lst h1)) ?_ ?_⟩
    · rintro i y σ H' hi ⟨fp', y3, y4, rfl, x, hf, hr'⟩
      have hil : i < rs.length := by
        have q1 := (List.getElem?_eq_some_iff.mp hi).1
        rw [List.length_map] at q1
        exact q1
      have er : rs[i]? = some rs[i] := List.getElem?_eq_getElem hil
      have ey : y = .ref rs[i] := by
        rw [List.getElem?_map, er] at hi
        exact (Option.some.inj hi).symm
      subst ey
      have hit : i < (spansM ds.length).length := by omega
      have et : (spansM ds.length)[i]? = some (spansM ds.length)[i] := List.getElem?_eq_getElem hit
      generalize (spansM ds.length)[i] = t at et
      obtain ⟨tf, tl⟩ := t
      obtain ⟨b1, b2⟩ := spansM_mem (List.mem_of_getElem? et)
      have hpair := x.tup (h3 i _ _ er et)
      have xa := x1.trans (x2.trans x)
      refine ⟨.ref a, rfl, .ref c, rfl, .ref rs[i], rfl, a, b, c, rs[i], d, ds, tf, tl, rfl, hd.xt xa, ok, hc.xt xa, okd, hlen, hpair, b1, b2, fun H3 rp x3 hrp hrat => ?_⟩
      refine ⟨.ref fp', rfl, .ref rp, rfl, fp', rp, _, _, rfl, hr'.xt x3, hrat, (lackTo_bound ok okd i).lo, (spanLack_bound ok okd _).lo, _, rfl, ?_⟩
      have es := lackTo_succ (d := d) et
      refine ite2 (fun hlt => ?_) (fun hlt => ?_)
      · refine ⟨.ref rp, rfl, rp, _, _, rfl, x.trans x3, xa.free hrp, ?_⟩
        rw [es]
        unfold up
        rw [if_pos hlt]
        exact hrat
      · refine ⟨.ref fp', rfl, fp', _, _, rfl, x.trans x3, hf, ?_⟩
        rw [es]
        unfold up
        rw [if_neg hlt]
        exact hr'.xt x3
    · rintro σ H' ⟨fp', y3, y4, rfl, x, hf, hr'⟩
      refine ⟨.ref fp', rfl, q H' fp' (x1.trans (x2.trans x)) hf ?_⟩
      have el : (rs.map V.ref).length = (spansM ds.length).length := by rw [List.length_map, h2]
      rw [el, lackTo_all] at hr'
      exact hr'
def spLeast (T : Tabs) : Sp := fun vs H Q _ => ∃ (a b c : Addr) (d : Dam) (ds : List Int), vs = [.ref a, .ref c] ∧ DamAt H a b d ∧ d.Ok ∧ Ints H c ds ∧ FlowsOk ds ∧ ds.length = d.ins.length ∧ TabsOk T H ∧ ∀ H' p, Xt H H' → H p = none → RatAt H' p (lackM d ds) → Q (.ref p) H'
theorem ok_least {f : Addr} {fd : FuncData} {k : Nat} {T : Tabs} (F : Fun K "least_lack" "least_lack" sLeast f fd) (N : Cl P w K mg base 4 "need_lack" ["dam", "demands"] (spNeedLack T)) (L : Cl P w K mg base 3 "lack_of" ["dam", "demands"] spLackOf) :
    FnOk P w K mg base CX0 (k + 5) f fd ["dam", "demands"] (spLeast T) := by
  refine F.ok scLeast (fun vs H Q E h => ?_) (fun cdv A outer s H vs Q E hr h => ?_)
  · obtain ⟨a, b, c, d, ds, rfl, _⟩ := h
    rfl
  · obtain ⟨a, b, c, d, ds, rfl, hd, ok, hc, okd, hl, hT, q⟩ := h
    refine ⟨_, pss_cons (ps_expr (pe_cl N hr (by omega) (by rfl) (pa_cons (pv 0) (pa_cons (pv 1) pa_nil)))) (pss_one (ps_ret (pe_cl L hr (by omega) (by rfl) (pa_cons (pv 0) (pa_cons (pv 1) pa_nil))))), ?_⟩
    refine ⟨.ref a, rfl, .ref c, rfl, a, b, c, d, ds, rfl, hd, ok, hc, okd, hl, hT, fun H1 x1 => ?_⟩
    exact ⟨.ref a, rfl, .ref c, rfl, a, b, c, d, ds, rfl, hd.xt x1, ok, hc.xt x1, okd, hl, fun H2 p x2 hp hrat => q H2 p (x1.trans x2) (x1.free hp) hrat⟩
end
end Dw

set_option Elab.async false
set_option maxRecDepth 100000
set_option maxHeartbeats 4000000
/-! fewest_failures. -/
namespace Dw
open PySem PySem.Spec PyProof.Rows L2
/-- a list of rows -/
def RowsAt (H : Hp) (b : Addr) (rows : List (List Nat)) : Prop :=
  ∃ rs : List Addr, H b = some (.lst (rs.map V.ref)) ∧ rs.length = rows.length ∧ ∀ (i : Nat) r t, rs[i]? = some r → rows[i]? = some t → RowAt H r t
theorem RowsAt.xt {H H' : Hp} {b : Addr} {rows : List (List Nat)} (h : RowsAt H b rows) (e : Xt H H') : RowsAt H' b rows := by
  obtain ⟨rs, h1, h2, h3⟩ := h
  exact ⟨rs, e.lst h1, h2, fun i r t a b => e.tup (h3 i r t a b)⟩
theorem zeroGiv {cap : Int} (hc : 0 ≤ cap) : ∀ (is zs : List Int) (h : Int), 0 ≤ h → (∀ x ∈ is, 0 ≤ x) → (∀ x ∈ zs, x = 0) → (List.zipWith (fun (x : Int) (t : Int × Int × Int) => t.1 == x) zs (runM cap h is zs)).all id = true
  | [], zs, h, _, _, _ => by cases zs <;> simp [runM]
  | _ :: _, [], h, _, _, _ => by simp
  | i :: is, z :: zs, h, h0, hi, hz => by
    have e := hz z List.mem_cons_self
    have i0 := hi i List.mem_cons_self
    subst e
    have e1 : mn 0 (h + i) = 0 := by unfold mn; rw [if_neg (by omega)]
    have ih := zeroGiv hc is zs (h + i - mn 0 (h + i) - mx 0 (h + i - mn 0 (h + i) - cap)) (by rw [e1]; unfold mx; split <;> omega) (fun x hx => hi x (List.mem_cons_of_mem _ hx)) (fun x hx => hz x (List.mem_cons_of_mem _ hx))
    simp only [runM, List.zipWith_cons_cons, List.all_cons, ih, Bool.and_true]
    rw [e1]
    rfl
theorem zero_all {d : Dam} (ok : d.Ok) (ds : List Int) : givM d (zeroed (List.range ds.length) ds) = true := by
  refine zeroGiv ok.c0 d.ins _ d.start ok.s0 ok.i0 fun x hx => ?_
  obtain ⟨k, hk, rfl⟩ := List.mem_map.mp hx
  rw [if_pos hk]
/-- the rows made so far -/
theorem rowsNext_take {n : Nat} {rows : List (List Nat)} {i : Nat} {r : List Nat} (h : rows[i]? = some r) : rowsNext n (rows.take (i + 1)) = rowsNext n (rows.take i) ++ ((List.range n).filter (nextRow r)).map fun k => r ++ [k] := by
  unfold rowsNext
  rw [List.take_add_one, h, List.flatMap_append]
  simp
theorem inV_row (r : List Nat) (k : Nat) : inV (.int (k : Nat)) (r.map fun k => V.int (k : Nat)) = decide (k ∈ r) := by
  unfold inV
  rw [List.any_map]
  by_cases h : k ∈ r
  · rw [decide_eq_true h]
    exact List.any_eq_true.mpr ⟨k, h, by show ((k : Int) == (k : Int)) = true; simp⟩
  · rw [decide_eq_false h]
    refine Bool.eq_false_iff.mpr fun z => h ?_
    obtain ⟨x, hx, e⟩ := List.any_eq_true.mp z
    have e2 : ((x : Int) == (k : Int)) = true := e
    have e3 : (x : Int) = (k : Int) := by simpa using e2
    have e4 : x = k := by omega
    rw [← e4]; exact hx
theorem row_flat (r : List Nat) : (r.map fun k => V.int (k : Nat)).all flatV = true := by
  rw [List.all_map]
  exact List.all_eq_true.mpr fun _ _ => rfl
theorem rows_push {H : Hp} {D r : Addr} {rows : List (List Nat)} {t : List Nat} {acc : List V} (h : RowsAt H D rows) (hr : H r = none) (hD : H D = some (.lst acc)) :
    RowsAt (upd (upd H r (.tup (t.map fun k => V.int (k : Nat)))) D (.lst (acc ++ [.ref r]))) D (rows ++ [t]) := by
  obtain ⟨rs, h1, hl, hit⟩ := h
  rw [h1] at hD
  cases hD
  have nD : D ≠ r := ne_of_none h1 hr
  refine ⟨rs ++ [r], by rw [upd_same, List.map_append] <;> rfl, by rw [List.length_append, List.length_append, hl] <;> rfl, fun i r' t' e1 e2 => ?_⟩
  unfold RowAt
  by_cases hi : i < rs.length
  · rw [List.getElem?_append_left hi] at e1
    rw [List.getElem?_append_left (by omega)] at e2
    have q : H r' = _ := hit i r' t' e1 e2
    rw [upd_ne (ne_of q h1 (by intro z; cases z)), upd_ne (ne_of_none q hr)]
    exact q
  · rw [List.getElem?_append_right (by omega)] at e1
    rw [List.getElem?_append_right (by omega)] at e2
    have ej : i - rs.length = 0 := by
      have := (List.getElem?_eq_some_iff.mp e1).1
      simp at this
      omega
    have ej2 : i - rows.length = 0 := by omega
    rw [ej] at e1
    rw [ej2] at e2
    have er : r = r' := Option.some.inj e1
    have et : t = t' := Option.some.inj e2
    subst er et
    rw [upd_ne (Ne.symm nD), upd_same]
/-- not row or k > row[-1] -/
theorem row_test {K : PySem.W.Frag} {x0 x1 x2 x5 : Option V} {H : Hp} {Q : Bool → Hp → Prop} {ra : Addr} {r : List Nat} {z : Int} {j : Nat} (hr : RowAt H ra r) (ez : z = (j : Int)) (hq : Q (nextRow r j) H) :
    tOr (tNot (fun σ H Q => tVar 3 σ H fun x H2 => ∃ k, TruV K x H2 k ∧ Q k H2)) (tTest (tOp (rI0 fun i j => .bl (decide (j < i))) (tVar 4) (tOp (rIxT K) (tVar 3) (tUn (rU fun i => .int (-i)) (tC (.int 1))))))
      [x0, x1, x2, some (.ref ra), some (.int z), x5] H Q := by
  subst ez
  rcases List.eq_nil_or_concat r with rfl | ⟨r0, l, rfl⟩
  · exact ⟨.ref ra, rfl, _, .inr (.inl ⟨_, SqT.of hr, rfl⟩), hq⟩
  · unfold RowAt at hr
    rw [List.concat_eq_append, List.map_append] at hr
    have e1 : nextRow (r0.concat l) j = decide ((l : Int) < (j : Int)) := by
      unfold nextRow
      rw [List.concat_eq_append, List.getLast?_append]
      show decide (l < j) = _
      exact decide_eq_decide.mpr (by omega)
    rw [e1] at hq
    refine ⟨.ref ra, rfl, true, .inr (.inl ⟨_, SqT.of hr, ?_⟩), .int (j : Nat), rfl, .ref ra, rfl, 1, rfl, ra, _, _, _, rfl, rfl, SqT.of hr, atI_last _ _, _, _, rfl, rfl, _, rfl, hq⟩
    cases r0 <;> rfl
section
variable {P : Program} {w : World} {K : PySem.W.Frag} {mg : Str → Option Value} {base : Heap}
def spFewest (T : Tabs) : Sp := fun vs H Q _ => ∃ (a b c : Addr) (d : Dam) (ds : List Int), vs = [.ref a, .ref c] ∧ DamAt H a b d ∧ d.Ok ∧ Ints H c ds ∧ FlowsOk ds ∧ ds.length = d.ins.length ∧ TabsOk T H ∧
  ∀ H' p q r, Xt H H' → H p = none → H' p = some (.tup [.int (r.length : Nat), .ref q]) → RowAt H' q r → FewOk d ds r → Q (.ref p) H'
theorem ok_fewest {f : Addr} {fd : FuncData} {k : Nat} {T : Tabs} (F : Fun K "fewest_failures" "fewest_failures" sFewest f fd) (M : Md P w K mg base T) (N : Cl P w K mg base 4 "need_lack" ["dam", "demands"] (spNeedLack T)) (Do : Cl P w K mg base 2 "does_give" ["dam", "demands"] (spDoes T)) :
    FnOk P w K mg base CX0 (k + 5) f fd ["dam", "demands"] (spFewest T) := by
  refine F.ok scFewest (fun vs H Q E h => ?_) (fun cdv A outer s H vs Q E hr h => ?_)
  · obtain ⟨a, b, c, d, ds, rfl, _⟩ := h
    rfl
  · obtain ⟨a, b, c, d, ds, rfl, hd, ok, hc, okd, hlen, hT, q⟩ := h
    refine ⟨_, pss_cons (ps_expr (pe_cl N hr (by omega) (by rfl) (pa_cons (pv 0) (pa_cons (pv 1) pa_nil))))
      (pss_cons (ps_set (i := 2) scFewest.nd rfl (.inl rfl) (pe_lst (pa_cons (pe_tup pa_nil) pa_nil)))
      (pss_one (ps_while PassesOwn.never (pt_val pe_bl)
        (pss_cons (ps_for PassesOwn.never rfl (pi_list (pv 2)) (pg_name (i := 3) scFewest.nd rfl (.inr rfl))
          (pss_one (ps_if (pt_val (pe_cl Do hr (by omega) (by rfl) (pa_cons (pv 0) (pa_cons (pe_callTy call_tuple_of (by rfl) M.tuple bTUP (pa_cons
              (pe_lc (own := [("k", 4), ("demand", 5)]) (g := gTup K 2 (gCons (gName 4) (gCons (gName 5) gNil))) (tt := tYes) (te := tIf (tTest (tOp (rIn K false) (tVar 4) (tVar 3))) (tC (.int 0)) (tVar 5)) rfl scFewest.nd (pi_enumT (by rfl) M.enum (pa_cons (pv 1) pa_nil)) (blkOk_by (N := ["dam", "demands", "rows", "row", "k", "demand"]) (sc := defScope sFewest) (by decide +kernel))
                (fun _ _ _ _ _ => pg_tup rfl (pgs_cons (pg_name (i := 4) scFewest.nd rfl (.inl rfl)) (pgs_cons (pg_name (i := 5) scFewest.nd rfl (.inl rfl)) pgs_nil))) (fun _ _ _ _ _ => pts_nil)
                (fun _ _ _ _ _ => pe_ifExp (pt_cmpR op_in_seq (pv 4) (pv 3) (by rfl)) pe_int (pv 5))) pa_nil)) pa_nil))))
            (pss_one (ps_ret (pe_tup (pa_cons (pe_callB call_len_seq (by rfl) M.len PySem.boot_len (pa_cons (pv 3) pa_nil)) (pa_cons (pv 3) pa_nil))))) pss_nil)))
        (pss_one (ps_setLc2 (i := 2) (own := [("row", 3), ("k", 4)]) (vs1 := [4]) (g := gName 3) (g1 := gName 4) (wi1 := iRng1 (tCons (tCB (fun xs H Q => ∃ p ys, xs = [.ref p] ∧ (SqL K H p ys ∨ SqT K H p ys) ∧ Q (.int ys.length) H) (tCons (tVar 1) tNil)) tNil)) (tt := tYes) (tt1 := tOr (tNot (fun σ H Q => tVar 3 σ H fun x H2 => ∃ k, TruV K x H2 k ∧ Q k H2)) (tTest (tOp (rI0 fun i j => .bl (decide (j < i))) (tVar 4) (tOp (rIxT K) (tVar 3) (tUn (rU fun i => .int (-i)) (tC (.int 1))))))) (te := fun σ H Q => StX.tStar K (tVar 3) (tCons (tVar 4) tNil) σ H fun vs H1 => vs.length ≤ sizeLine ∧ ∀ p, H1 p = none → Q (.ref p) (upd H1 p (.tup vs))) rfl scFewest.nd rfl rfl (sw_true rfl rfl rfl (by decide +kernel)) (pi_list (pv 2)) (blkOk_by (N := ["dam", "demands", "rows", "row", "k", "demand"]) (sc := defScope sFewest) (by decide +kernel)) (by decide)
          (fun _ _ _ _ _ => pg_name (i := 3) scFewest.nd rfl (.inl rfl)) (fun _ _ _ _ _ => pts_nil)
          (fun _ _ _ _ _ => pi_range1 (by rfl) M.range (pa_cons (pe_callB call_len_seq (by rfl) M.len PySem.boot_len (pa_cons (pv 1) pa_nil)) pa_nil)) (fun _ _ _ _ _ => pg_name (i := 4) scFewest.nd rfl (.inl rfl))
          (fun _ _ _ _ _ => pts_one (PW.pt (pw_or (pt_not (pt_truth (pv 3) (fun _ => rfl))) (pw_or1 (pt_cmpR op_gt (pv 4) (pe_ix ix_tup (pv 3) (pe_un un_neg pe_int) (fun _ _ => rfl)) (nomark _))))))
          (fun _ _ _ _ _ => pe_tup (StX.pa_star (pv 3) (pa_cons (pv 4) pa_nil)))))))))
      , ?_⟩
    have nle : ds.length ≤ 7 := okd.n7
    refine ⟨.ref a, rfl, .ref c, rfl, a, b, c, d, ds, rfl, hd, ok, hc, okd, hlen, hT, fun H1 x1 => ?_⟩
    refine ⟨(by show 0 ≤ sizeLine; decide), fun e he => ⟨(by show 1 ≤ sizeLine; decide), fun l hl => ?_⟩⟩
    have x2 : Xt H1 (upd (upd H1 e (.tup [])) l (.lst [.ref e])) := (Xt.upd he _).trans (Xt.upd hl _)
    have nel : e ≠ l := ne_of_none upd_same hl
    refine ⟨fun t σ H' => ∃ (m : Nat) (lr : Addr) (y3 y4 y5 : Option V), t = ds.length - m ∧ m ≤ ds.length ∧ σ = [some (.ref a), some (.ref c), some (.ref lr), y3, y4, y5] ∧ Xt H H' ∧ RowsAt H' lr (rowsAt ds.length m) ∧
      ∀ m', m' < m → ∀ r' ∈ rowsAt ds.length m', givM d (zeroed r' ds) = false, ⟨_, 0, l, none, none, none, rfl, Nat.zero_le _, rfl, x1.trans x2, ⟨[e], upd_same, rfl, fun i r t e1 e2 => ?_⟩, fun m' h => absurd h (Nat.not_lt_zero _)⟩, ?_⟩
    · cases i with
      | zero =>
        have q1 : e = r := Option.some.inj e1
        have q2 : ([] : List Nat) = t := Option.some.inj e2
        subst q1 q2
        unfold RowAt
        rw [upd_ne nel, upd_same]
        rfl
      | succ i => simp at e1
    rintro t σ H2 ⟨m, lr, y3, y4, y5, rfl, hm, rfl, x02, hrows, hleast⟩
    obtain ⟨rs, h1, h2, h3⟩ := hrows
    refine ⟨true, rfl, iteT ⟨fun σ' H' => m < ds.length ∧ ∃ (lr : Addr) (y3 y4 y5 : Option V), σ' = [some (.ref a), some (.ref c), some (.ref lr), y3, y4, y5] ∧ Xt H H' ∧ RowsAt H' lr (rowsAt ds.length (m + 1)) ∧
      ∀ m', m' < m + 1 → ∀ r' ∈ rowsAt ds.length m', givM d (zeroed r' ds) = false, fun σ' H' ⟨g0, lr', z3, z4, z5, g1, g2, g3, g4⟩ => ⟨ds.length - (m + 1), by omega, m + 1, lr', z3, z4, z5, rfl, g0, g1, g2, g3, g4⟩, ?_⟩⟩
    refine ⟨.ref lr, rfl, lr, rfl, ⟨_, SqL.of h1⟩, for_list (K := K) (a := lr) (xs := rs.map V.ref) (fun i σ H' => ∃ (y3 y4 y5 : Option V), σ = [some (.ref a), some (.ref c), some (.ref lr), y3, y4, y5] ∧ Xt H2 H' ∧ ∀ r' ∈ (rowsAt ds.length m).take i, givM d (zeroed r' ds) = false)
      ⟨y3, y4, y5, rfl, Xt.refl _, fun r' h => by simp at h⟩ (fun i σ H' _ ⟨_, _, _, _, x, _⟩ => SqL.of (x.lst h1)) ?_ ?_⟩
    · rintro i y σ H3 hi ⟨z3, z4, z5, rfl, x23, hno⟩
      have hil : i < rs.length := by
        have q1 := (List.getElem?_eq_some_iff.mp hi).1
        rw [List.length_map] at q1
        exact q1
      have er : rs[i]? = some rs[i] := List.getElem?_eq_getElem hil
      have ey : y = .ref rs[i] := by
        rw [List.getElem?_map, er] at hi
        exact (Option.some.inj hi).symm
      subst ey
      have hit : i < (rowsAt ds.length m).length := by omega
      have et : (rowsAt ds.length m)[i]? = some (rowsAt ds.length m)[i] := List.getElem?_eq_getElem hit
      generalize (rowsAt ds.length m)[i] = r at et
      have hr0 : RowAt H2 rs[i] r := h3 i _ _ er et
      have hmem : r ∈ rowsAt ds.length m := List.mem_of_getElem? et
      have hrl := rowsAt_len _ _ r hmem
      generalize rs[i] = ra at hr0
      have x03 := x02.trans x23
      refine ⟨.ref a, rfl, .ref c, rfl, c, _, rfl, SqT.of (hc.xt x03), fun D hD => ?_⟩
      have x3D : Xt H3 (upd H3 D (.lst [])) := Xt.upd hD _
      refine it_enumT (fun j H' => Xt H3 H' ∧ H' D = some (.lst (((List.range j).map fun k => if k ∈ r then 0 else ds.getD k 0).map V.int))) ⟨x3D, upd_same⟩ (fun j H' _ ⟨x, _⟩ => SqT.of ((hc.xt x03).xt x)) ?_ ?_
      · rintro j y T' H4 hj ⟨x34, hD4⟩ hT'
        obtain ⟨dv, hdv, rfl⟩ := map_at hj
        have nDT : D ≠ T' := ne_of_none hD4 hT'
        have xT : Xt H4 (upd H4 T' (.tup [.int (j : Nat), .int dv])) := Xt.upd hT' _
        have hjn : j < ds.length := (List.getElem?_eq_some_iff.mp hdv).1
        have hDT : upd H4 T' (.tup [.int (j : Nat), .int dv]) D = some (.lst (((List.range j).map fun k => if k ∈ r then 0 else ds.getD k 0).map V.int)) := by rw [upd_ne nDT]; exact hD4
        have hval : ∀ v : Int, v = (if j ∈ r then 0 else ds.getD j 0) → ∃ acc, upd H4 T' (.tup [.int (j : Nat), .int dv]) D = some (.lst acc) ∧ acc.length < sizeLine ∧ (Xt H3 (upd (upd H4 T' (.tup [.int (j : Nat), .int dv])) D (.lst (acc ++ [.int v]))) ∧ upd (upd H4 T' (.tup [.int (j : Nat), .int dv])) D (.lst (acc ++ [.int v])) D = some (.lst (((List.range (j + 1)).map fun k => if k ∈ r then 0 else ds.getD k 0).map V.int))) := by
          intro v ev
          refine ⟨_, hDT, ?_, Xt.updOld (x34.trans xT) hD _, ?_⟩
          · rw [List.length_map, List.length_map, List.length_range]
            exact Nat.lt_of_lt_of_le (Nat.lt_of_lt_of_le hjn nle) (by decide)
          · rw [upd_same, List.range_succ, List.map_append, List.map_append, ev]
            rfl
        refine ⟨T', _, rfl, SqT.of upd_same, rfl, .int (j : Nat), _, rfl, .int dv, [], rfl, rfl, rfl, ?_⟩
        refine ⟨.int (j : Nat), rfl, .ref ra, rfl, ra, _, rfl, .inr (SqT.of ((x23.trans (x34.trans xT)).tup hr0)), rfl, row_flat r, _, rfl, ?_⟩
        show if inV (.int (j : Nat)) (r.map fun k => V.int (k : Nat)) = true then _ else _
        rw [inV_row]
        refine ite2 (fun hin => ?_) (fun hin => ?_)
        · exact hval 0 (by rw [if_pos (of_decide_eq_true hin)])
        · refine ⟨.int dv, rfl, hval dv ?_⟩
          rw [if_neg (fun z => hin (decide_eq_true z)), List.getD_eq_getElem?_getD, hdv]
          rfl
      · rintro H4 ⟨x34, hD4⟩
        rw [List.length_map] at hD4
        have x04 := x03.trans x34
        refine ⟨D, _, rfl, .inl ⟨SqL.of hD4, fun l2 hl2 => ?_⟩⟩
        have x5 : Xt H4 (upd H4 l2 (.tup ((zeroed r ds).map V.int))) := Xt.upd hl2 _
        have x05 := x04.trans x5
        refine ⟨a, b, l2, d, zeroed r ds, rfl, hd.xt x05, upd_same, by rw [zeroed_length, hlen], by rw [zeroed_length]; exact nle, hT.xt (x05), fun H6 x6 => ⟨_, rfl, ite2 (fun hg => ?_) (fun hg => ?_)⟩⟩
        · have x06 := x05.trans x6
          refine ⟨.ref ra, rfl, ra, _, rfl, .inr (SqT.of ((x23.trans (x34.trans (x5.trans x6))).tup hr0)), .ref ra, rfl, (by show 2 ≤ sizeLine; decide), fun p hp => ?_⟩
          refine q _ p ra r (x06.trans (Xt.upd hp _)) (x06.free hp) ?_ ((Xt.upd hp _).tup ((x23.trans (x34.trans (x5.trans x6))).tup hr0)) ⟨by rw [hrl]; exact hmem, hg, fun m' hm' r' hr' => hleast m' (by omega) r' hr'⟩
          rw [upd_same, List.length_map]
        · refine ⟨_, _, _, rfl, x23.trans (x34.trans (x5.trans x6)), fun r' hr' => ?_⟩
          rw [List.take_add_one, et] at hr'
          rcases List.mem_append.mp hr' with z | z
          · exact hno r' z
          · have e : r' = r := by simpa using z
            rw [e]
            exact Bool.eq_false_iff.mpr hg
    · rintro σ H3 ⟨z3, z4, z5, rfl, x23, hno⟩
      have hall : ∀ r' ∈ rowsAt ds.length m, givM d (zeroed r' ds) = false := fun r' h => hno r' (by rw [List.length_map, h2, List.take_length]; exact h)
      have hmn : m < ds.length := by
        by_cases e : m = ds.length
        · have q1 := hall (List.range ds.length) (by rw [e]; exact rowsAt_range _ _ (Nat.le_refl _))
          rw [zero_all ok ds] at q1
          cases q1
        · omega
      have x03 := x02.trans x23
      refine ⟨.ref lr, rfl, lr, rfl, ⟨_, SqL.of (x23.lst h1)⟩, fun D hD => ?_⟩
      have xD : Xt H3 (upd H3 D (.lst [])) := Xt.upd hD _
      refine it_list (K := K) (a := lr) (xs := rs.map V.ref) (fun i H' => Xt H3 H' ∧ RowsAt H' D (rowsNext ds.length ((rowsAt ds.length m).take i))) ⟨xD, [], upd_same, rfl, fun i r t e _ => by simp at e⟩ (fun i H' _ ⟨x, _⟩ => SqL.of ((x23.trans x).lst h1)) ?_ ?_
      · rintro i y H4 hi ⟨x34, hD4⟩
        have hil : i < rs.length := by
          have q1 := (List.getElem?_eq_some_iff.mp hi).1
          rw [List.length_map] at q1
          exact q1
        have er : rs[i]? = some rs[i] := List.getElem?_eq_getElem hil
        have ey : y = .ref rs[i] := by
          rw [List.getElem?_map, er] at hi
          exact (Option.some.inj hi).symm
        subst ey
        have hit : i < (rowsAt ds.length m).length := by omega
        have et : (rowsAt ds.length m)[i]? = some (rowsAt ds.length m)[i] := List.getElem?_eq_getElem hit
        generalize (rowsAt ds.length m)[i] = r at et
        have hr0 : RowAt H2 rs[i] r := h3 i _ _ er et
        generalize rs[i] = ra at hr0
        have hmem : r ∈ rowsAt ds.length m := List.mem_of_getElem? et
        have hrl := rowsAt_len _ _ r hmem
        have x04 := x03.trans x34
        refine ⟨rfl, .ref c, rfl, c, _, rfl, .inr (SqT.of (hc.xt x04)), (ds.length : Int), (by show [V.int ((ds.map V.int).length : Int)] ++ [] = [V.int (ds.length : Int)]; rw [List.length_map] <;> rfl), by omega, by omega, ?_⟩
        have en : ((ds.length : Int)).toNat = ds.length := by omega
        rw [en]
        refine it_range (fun j H' => Xt H3 H' ∧ RowsAt H' D (rowsNext ds.length ((rowsAt ds.length m).take i) ++ ((List.range j).filter (nextRow r)).map fun k => r ++ [k])) ⟨x34, by simpa using hD4⟩ ?_ ?_
        · rintro j H5 hj ⟨x35, hD5⟩
          have hr5 : RowAt H5 ra r := (x23.trans x35).tup hr0
          refine ⟨rfl, row_test (j := j) hr5 (Int.zero_add _) ?_⟩
          refine ite2 (fun hnx => ?_) (fun hnx => ?_)
          · refine ⟨.ref ra, rfl, ra, _, rfl, .inl (SqT.of hr5), .int (0 + (j : Int)), rfl, ?_, fun p hp => ?_⟩
            · rw [List.length_append, List.length_map]
              show r.length + 1 ≤ sizeLine
              exact Nat.le_trans (show r.length + 1 ≤ 8 by omega) (by decide)
            · have e1 : (r.map fun k => V.int (k : Nat)) ++ [V.int (0 + (j : Int))] = (r ++ [j]).map fun k => V.int (k : Nat) := by
                rw [List.map_append]
                show _ ++ [V.int (0 + (j : Int))] = _ ++ [V.int (j : Int)]
                rw [Int.zero_add]
              obtain ⟨acc, hacc, hal⟩ : ∃ acc, H5 D = some (.lst acc) ∧ acc.length = (rowsNext ds.length ((rowsAt ds.length m).take i) ++ ((List.range j).filter (nextRow r)).map fun k => r ++ [k]).length := by
                obtain ⟨rs5, g1, g2, _⟩ := hD5
                exact ⟨_, g1, by rw [List.length_map, g2]⟩
              have nDp : D ≠ p := ne_of_none hacc hp
              refine ⟨acc, by rw [upd_ne nDp]; exact hacc, ?_, Xt.updOld (x35.trans (Xt.upd hp _)) hD _, ?_⟩
              · rw [hal]
                rw [List.length_append, List.length_map]
                have b1 := rowsNext_len ds.length ((rowsAt ds.length m).take i)
                have b2 : ((rowsAt ds.length m).take i).length ≤ (rowsAt ds.length m).length := by rw [List.length_take]; omega
                have b3 := List.length_filter_le (nextRow r) (List.range j)
                rw [List.length_range] at b3
                have b4 := rowsAt_length ds.length m
                have b5 : ds.length ^ m ≤ 7 ^ 7 := Nat.le_trans (Nat.pow_le_pow_left nle m) (Nat.pow_le_pow_right (by decide) (by omega))
                have b6 := Nat.mul_le_mul_right ds.length (Nat.le_trans b2 (Nat.le_trans b4 b5))
                have b7 : 7 ^ 7 * ds.length ≤ 7 ^ 7 * 7 := Nat.mul_le_mul_left _ nle
                have b8 : 7 ^ 7 * 7 + 7 < sizeLine := by decide
                omega
              · have q1 := rows_push (t := r ++ [j]) hD5 hp hacc
                rw [List.range_succ, List.filter_append, List.map_append, ← List.append_assoc]
                have e2 : List.filter (nextRow r) [j] = [j] := List.filter_cons_of_pos hnx
                rw [e2]
                show RowsAt (upd (upd H5 p (.tup ((r.map fun k => V.int (k : Nat)) ++ [V.int (0 + (j : Int))]))) D _) D _
                rw [e1]
                exact q1
          · refine ⟨x35, ?_⟩
            rw [List.range_succ, List.filter_append]
            have e2 : List.filter (nextRow r) [j] = [] := List.filter_cons_of_neg hnx
            rw [e2, List.append_nil]
            exact hD5
        · rintro H5 ⟨x35, hD5⟩
          refine ⟨x35, ?_⟩
          rw [rowsNext_take et]
          exact hD5
      · rintro H4 ⟨x34, hD4⟩
        refine ⟨hmn, D, z3, z4, z5, rfl, x03.trans x34, ?_, fun m' hm' r' hr' => ?_⟩
        · rw [List.length_map, h2, List.take_length] at hD4
          exact hD4
        · by_cases e : m' = m
          · subst e
            exact hall r' hr'
          · exact hleast m' (by omega) r' hr'
end
end Dw

set_option Elab.async false
set_option maxRecDepth 100000
set_option maxHeartbeats 4000000
/-! _law_taken, _law_pick, _law_flow, _law_dam, _law_demands. -/
namespace Dw
open PySem PySem.Spec PyProof.Rows L2
/-- all that was tracked is as it was, but for the row of draws -/
def Xr (w : Addr) (H H' : Hp) : Prop := ∀ b o, b ≠ w → H b = some o → H' b = some o
theorem Xr.refl (w : Addr) (H : Hp) : Xr w H H := fun _ _ _ e => e
theorem Xr.trans {w : Addr} {H H1 H2 : Hp} (a : Xr w H H1) (b : Xr w H1 H2) : Xr w H H2 := fun c o n e => b c o n (a c o n e)
theorem Xr.own {w : Addr} {H : Hp} {o : HO} : Xr w H (upd H w o) := fun b _ n e => by rw [upd_ne n]; exact e
theorem Xr.upd {w p : Addr} {H : Hp} {o : HO} (h : H p = none) : Xr w H (L2.upd H p o) := fun _ _ _ e => by rw [upd_ne (ne_of_none e h)]; exact e
/-- the row of draws at w: the script at sc -/
def RowSt (K : PySem.W.Frag) (H : Hp) (w sc : Addr) (ns : List Int) : Prop :=
  ∃ i z r : Int, H w = some (.lst [.ref sc, .int i, .int z, .int r]) ∧ 0 ≤ i ∧ SqL K H sc (ns.map V.int)
theorem sc_ne {K : PySem.W.Frag} {H : Hp} {w sc : Addr} {ns : List Int} {ys : List V} (h : H w = some (.lst (.ref sc :: ys))) (q : SqL K H sc (ns.map V.int)) (o : HO) : SqL K (upd H w o) sc (ns.map V.int) := by
  have hn : ∀ u, H sc = some u → (∀ xs, u = .lst xs → xs = ns.map V.int) → sc ≠ w := fun u hu hx e => by
    rw [e, h] at hu
    have z := hx _ (Option.some.inj hu).symm
    cases ns with
    | nil => cases z
    | cons n l => cases z
  rcases q with (q | ⟨ob, q⟩) | q
  · exact .inl (.inl (by rw [upd_ne (hn _ q fun xs e => by cases e; rfl)]; exact q))
  · exact .inl (.inr ⟨ob, by rw [upd_ne (hn _ q fun xs e => by cases e)]; exact q⟩)
  · exact .inr q
theorem RowSt.new {K : PySem.W.Frag} {H : Hp} {w p sc : Addr} {ns : List Int} {o : HO} (h : RowSt K H w sc ns) (hp : H p = none) : RowSt K (upd H p o) w sc ns := by
  obtain ⟨i, z, r, h1, h2, h3⟩ := h
  exact ⟨i, z, r, by rw [upd_ne (ne_of_none h1 hp)]; exact h1, h2, (Xt.upd hp o).seqL h3⟩
/-- a place that was new at first is written -/
theorem RowSt.old {K : PySem.W.Frag} {H H2 : Hp} {w D sc : Addr} {ns : List Int} {o : HO} (h : RowSt K H w sc ns) (x : Xr w H H2) (h2 : RowSt K H2 w sc ns) (hD : H D = none) : RowSt K (upd H2 D o) w sc ns := by
  obtain ⟨i, z, r, h1, _, hs⟩ := h
  obtain ⟨i', z', r', g1, g2, _⟩ := h2
  have hn : ∀ u, H sc = some u → (∀ xs, u = .lst xs → xs = ns.map V.int) → sc ≠ w := fun u hu hx e => by
    rw [e, h1] at hu
    have z := hx _ (Option.some.inj hu).symm
    cases ns with
    | nil => cases z
    | cons n l => cases z
  have nD : w ≠ D := ne_of_none h1 hD
  refine ⟨i', z', r', by rw [upd_ne nD]; exact g1, g2, ?_⟩
  rcases hs with (q | ⟨ob, q⟩) | q
  · exact .inl (.inl (by rw [upd_ne (ne_of_none q hD)]; exact x sc _ (hn _ q fun xs e => by cases e; rfl) q))
  · exact .inl (.inr ⟨ob, by rw [upd_ne (ne_of_none q hD)]; exact x sc _ (hn _ q fun xs e => by cases e) q⟩)
  · exact .inr q
theorem bINT : bootBuiltins "int" = some (.type "int") := by decide +kernel
section
variable {P : Program} {w : World} {K : PySem.W.Frag} {mg : Str → Option Value} {base : Heap}
def spTaken (K : PySem.W.Frag) (sc : Addr) (ns : List Int) : Sp := fun vs H Q _ => ∃ (a : Addr) (m : Int), vs = [.ref a, .int m] ∧ (0 < m ∧ m < 1073741824) ∧ RowSt K H a sc ns ∧
  ∀ H' v, Xr a H H' → RowSt K H' a sc ns → 0 ≤ v → v < m → Q (.int v) H'
theorem ok_taken {f : Addr} {fd : FuncData} {k : Nat} {sc : Addr} {ns : List Int} (F : Fun K "_law_taken" "_law_taken" sTaken f fd) (mi : mg "int" = none) (ml : mg "len" = none) :
    FnOk P w K mg base CX0 (k + 1) f fd ["_law_row", "_law_many"] (spTaken K sc ns) := by
  refine F.ok scTaken (fun vs H Q E h => ?_) (fun cdv A outer s H vs Q E hr h => ?_)
  · obtain ⟨a, m, rfl, _⟩ := h
    rfl
  · obtain ⟨a, m, rfl, hm, ⟨i, z, r, hrow, hi0, hsc⟩, q⟩ := h
    refine ⟨_, pss_cons (ps_if (pt_cmpR op_gt (pe_ix ix_list (pv 0) pe_int (fun _ _ => rfl)) pe_int (nomark _))
        (pss_cons (ps_set (i := 2) scTaken.nd rfl (.inl rfl) (pe_op op_mod (pe_callTy call_int1 (by rfl) mi bINT (pa_cons (pe_ix ix_list (pv 0) pe_int (fun _ _ => rfl)) pa_nil)) (pv 1)))
        (pss_cons (ps_asg (pe_op op_fdiv (pe_ix ix_list (pv 0) pe_int (fun _ _ => rfl)) (pv 1)) (pg_sub (pv 0) pe_int set_list))
        (pss_one (ps_ret (pv 2))))) pss_nil)
      (pss_cons (ps_asg (pe_op op_add (pe_ix ix_list (pv 0) pe_int (fun _ _ => rfl)) pe_int) (pg_sub (pv 0) pe_int set_list))
      (pss_cons (ps_if (pt_cmpR op_gt (pe_ix ix_list (pv 0) pe_int (fun _ _ => rfl)) (pe_callB call_len_seq (by rfl) ml PySem.boot_len (pa_cons (pe_ix ix_list (pv 0) pe_int (fun _ _ => rfl)) pa_nil)) (nomark _))
        (pss_cons (ps_asg (pe_op op_mod (pe_callTy call_int1 (by rfl) mi bINT (pa_cons (pe_op op_add (pe_op op_mul (pe_ix ix_list (pv 0) pe_int (fun _ _ => rfl)) pe_int) pe_int) pa_nil)) pe_int) (pg_sub (pv 0) pe_int set_list))
        (pss_one (ps_ret (pe_op op_mod (pe_callTy call_int1 (by rfl) mi bINT (pa_cons (pe_op op_fdiv (pe_ix ix_list (pv 0) pe_int (fun _ _ => rfl)) pe_int) pa_nil)) (pv 1))))) pss_nil)
      (pss_cons (ps_set (i := 3) scTaken.nd rfl (.inl rfl) (pe_ix ix_list (pe_ix ix_list (pv 0) pe_int (fun _ _ => rfl)) (pe_op op_sub (pe_ix ix_list (pv 0) pe_int (fun _ _ => rfl)) pe_int) (fun _ _ => rfl)))
      (pss_cons (ps_asg (pe_op op_mod (pe_callTy call_int1 (by rfl) mi bINT (pa_cons (pe_op op_add (pe_op op_add (pe_op op_mul (pe_ix ix_list (pv 0) pe_int (fun _ _ => rfl)) pe_int) (pv 3)) pe_int) pa_nil)) pe_int) (pg_sub (pv 0) pe_int set_list))
      (pss_cons (ps_if (pt_cmpR op_ge (pv 3) (pe_op op_pow pe_int pe_int) (nomark _))
        (pss_one (ps_asg (pe_op op_fdiv (pv 3) (pv 1)) (pg_sub (pv 0) pe_int set_list))) pss_nil)
      (pss_one (ps_ret (pe_op op_mod (pe_callTy call_int1 (by rfl) mi bINT (pa_cons (pv 3) pa_nil)) (pv 1))))))))), ?_⟩
    have i0 : ∀ i z r : Int, atI [V.ref sc, .int i, .int z, .int r] 0 = some (.ref sc) := fun _ _ _ => atI_nat (j := 0) rfl
    have i1 : ∀ i z r : Int, atI [V.ref sc, .int i, .int z, .int r] 1 = some (.int i) := fun _ _ _ => atI_nat (j := 1) rfl
    have i2 : ∀ i z r : Int, atI [V.ref sc, .int i, .int z, .int r] 2 = some (.int z) := fun _ _ _ => atI_nat (j := 2) rfl
    have i3 : ∀ i z r : Int, atI [V.ref sc, .int i, .int z, .int r] 3 = some (.int r) := fun _ _ _ => atI_nat (j := 3) rfl
    refine ⟨.ref a, rfl, a, _, 3, _, rfl, rfl, SqL.of hrow, i3 _ _ _, r, 0, rfl, rfl, _, rfl, ite2 (fun hpos => ?_) (fun hpos => ?_)⟩
    · refine ⟨.ref a, rfl, a, _, 3, _, rfl, rfl, SqL.of hrow, i3 _ _ _, .inl ⟨r, rfl, .int m, rfl, r, m, rfl, rfl, hm.1, ?_⟩⟩
      refine ⟨.ref a, rfl, a, _, 3, _, rfl, rfl, SqL.of hrow, i3 _ _ _, .int m, rfl, r, m, rfl, rfl, hm, .ref a, rfl, a, _, 3, 3, rfl, rfl, hrow, rfl, ?_⟩
      refine ⟨.int (r % m), rfl, q _ _ Xr.own ⟨i, z, r / m, upd_same, hi0, sc_ne hrow hsc _⟩ (Int.emod_nonneg _ (by omega)) (Int.emod_lt_of_pos _ hm.1)⟩
    · refine ⟨.ref a, rfl, a, _, 1, _, rfl, rfl, SqL.of hrow, i1 _ _ _, i, 1, rfl, rfl, .ref a, rfl, a, _, 1, 1, rfl, rfl, hrow, rfl, ?_⟩
      have hs1 := sc_ne hrow hsc (.lst [.ref sc, .int (i + 1), .int z, .int r])
      have hr1 : (upd H a (.lst [.ref sc, .int (i + 1), .int z, .int r])) a = some (.lst [.ref sc, .int (i + 1), .int z, .int r]) := upd_same
      have x1 : Xr a H (upd H a (.lst [.ref sc, .int (i + 1), .int z, .int r])) := Xr.own
      show tSeq _ _ _ _ (upd H a (.lst [.ref sc, .int (i + 1), .int z, .int r]))
      generalize upd H a (.lst [.ref sc, .int (i + 1), .int z, .int r]) = H1 at hs1 hr1 x1
      refine ⟨.ref a, rfl, a, _, 1, _, rfl, rfl, SqL.of hr1, i1 _ _ _, .ref a, rfl, a, _, 0, _, rfl, rfl, SqL.of hr1, i0 _ _ _, sc, _, rfl, .inl hs1, i + 1, _, rfl, rfl, _, rfl, ite2 (fun hlt => ?_) (fun hlt => ?_)⟩
      · refine ⟨.ref a, rfl, a, _, 2, _, rfl, rfl, SqL.of hr1, i2 _ _ _, z, 48271, rfl, rfl, .inr ⟨by decide, by decide⟩, z * 48271, 11, rfl, rfl, .inl ⟨_, rfl, z * 48271 + 11, 2147483647, rfl, rfl, (show (0 : Int) < 2147483647 by decide), .ref a, rfl, a, _, 2, 2, rfl, rfl, hr1, rfl, ?_⟩⟩
        refine ⟨.ref a, rfl, a, _, 2, _, rfl, rfl, SqL.of upd_same, i2 _ _ _, _, 7, rfl, rfl, ⟨by decide, by decide⟩, .inl ⟨_, rfl, .int m, rfl, _, m, rfl, rfl, hm.1, ?_⟩⟩
        exact q _ _ (x1.trans Xr.own) ⟨_, _, _, upd_same, by omega, sc_ne hr1 hs1 _⟩ (Int.emod_nonneg _ (by omega)) (Int.emod_lt_of_pos _ hm.1)
      · have hlt2 : i.toNat < ns.length := by
          have e : ¬ (((ns.map V.int).length : Int) < i + 1) := fun z => hlt (decide_eq_true z)
          rw [List.length_map] at e
          omega
        have hcell : atI (ns.map V.int) (i + 1 - 1) = some (.int ns[i.toNat]) := by
          have e : i + 1 - 1 = ((i.toNat : Nat) : Int) := by omega
          rw [e]
          exact atI_nat (by rw [List.getElem?_map, List.getElem?_eq_getElem hlt2] <;> rfl)
        generalize ns[i.toNat] = cell at hcell
        refine ⟨.ref a, rfl, a, _, 0, _, rfl, rfl, SqL.of hr1, i0 _ _ _, .ref a, rfl, a, _, 1, _, rfl, rfl, SqL.of hr1, i1 _ _ _, i + 1, 1, rfl, rfl, sc, _, _, _, rfl, rfl, hs1, hcell, ?_⟩
        refine ⟨.ref a, rfl, a, _, 2, _, rfl, rfl, SqL.of hr1, i2 _ _ _, z, 48271, rfl, rfl, .inr ⟨by decide, by decide⟩, .int cell, rfl, z * 48271, cell, rfl, rfl, z * 48271 + cell, 11, rfl, rfl, .inl ⟨_, rfl, z * 48271 + cell + 11, 2147483647, rfl, rfl, (show (0 : Int) < 2147483647 by decide), .ref a, rfl, a, _, 2, 2, rfl, rfl, hr1, rfl, ?_⟩⟩
        refine ⟨.int cell, rfl, 10, 18, rfl, rfl, ⟨by decide, by decide, by decide⟩, cell, _, rfl, rfl, _, rfl, ite2 (fun hbig => ?_) (fun hbig => ?_)⟩
        · refine ⟨.int cell, rfl, .int m, rfl, cell, m, rfl, rfl, hm, .ref a, rfl, a, _, 3, 3, rfl, rfl, upd_same, rfl, ?_⟩
          refine ⟨.int cell, rfl, .inl ⟨_, rfl, .int m, rfl, cell, m, rfl, rfl, hm.1, ?_⟩⟩
          exact q _ _ ((x1.trans Xr.own).trans Xr.own) ⟨_, _, _, upd_same, by omega, sc_ne upd_same (sc_ne hr1 hs1 _) _⟩ (Int.emod_nonneg _ (by omega)) (Int.emod_lt_of_pos _ hm.1)
        · refine ⟨.int cell, rfl, .inl ⟨_, rfl, .int m, rfl, cell, m, rfl, rfl, hm.1, ?_⟩⟩
          exact q _ _ (x1.trans Xr.own) ⟨_, _, _, upd_same, by omega, sc_ne hr1 hs1 _⟩ (Int.emod_nonneg _ (by omega)) (Int.emod_lt_of_pos _ hm.1)
end
end Dw

set_option Elab.async false
set_option maxRecDepth 100000
set_option maxHeartbeats 4000000
/-! _law_pick, _law_flow, _law_dam, _law_demands. -/
namespace Dw
open PySem PySem.Spec PyProof.Rows L2
section
variable {P : Program} {w : World} {K : PySem.W.Frag} {mg : Str → Option Value} {base : Heap}
def spPick (K : PySem.W.Frag) (sc : Addr) (ns : List Int) : Sp := fun vs H Q _ => ∃ (a t : Addr) (xs : List Int), vs = [.ref a, .ref t] ∧ RowSt K H a sc ns ∧ H t = some (.lst (xs.map V.int)) ∧ 0 < xs.length ∧ xs.length ≤ 100 ∧
  ∀ H' x, Xr a H H' → RowSt K H' a sc ns → x ∈ xs → Q (.int x) H'
theorem things_ne {K : PySem.W.Frag} {H : Hp} {a t sc : Addr} {ns xs : List Int} (h : RowSt K H a sc ns) (ht : H t = some (.lst (xs.map V.int))) (h0 : 0 < xs.length) : t ≠ a := fun e => by
  obtain ⟨i, z, r, h1, _⟩ := h
  rw [e, h1] at ht
  cases xs with
  | nil => cases h0
  | cons x l => cases ht
theorem ok_pick {f : Addr} {fd : FuncData} {k : Nat} {sc : Addr} {ns : List Int} (F : Fun K "_law_pick" "_law_pick" sPick f fd) (ml : mg "len" = none) (T : Cl P w K mg base 1 "_law_taken" ["_law_row", "_law_many"] (spTaken K sc ns)) :
    FnOk P w K mg base CX0 (k + 2) f fd ["_law_row", "_law_things"] (spPick K sc ns) := by
  refine F.ok scPick (fun vs H Q E h => ?_) (fun cdv A outer s H vs Q E hr h => ?_)
  · obtain ⟨a, t, xs, rfl, _⟩ := h
    rfl
  · obtain ⟨a, t, xs, rfl, hrow, ht, h0, h1, q⟩ := h
    refine ⟨_, pss_one (ps_ret (pe_ix ix_list (pv 1) (pe_cl T hr (by omega) (by rfl) (pa_cons (pv 0) (pa_cons (pe_callB call_len_seq (by rfl) ml PySem.boot_len (pa_cons (pv 1) pa_nil)) pa_nil))) (fun _ _ => rfl))), ?_⟩
    have hne := things_ne hrow ht h0
    have el : ((xs.map V.int).length : Int) = (xs.length : Int) := by rw [List.length_map]
    refine ⟨.ref t, rfl, .ref a, rfl, .ref t, rfl, t, _, rfl, .inl (SqL.of ht), a, _, rfl, ⟨by rw [el]; omega, by rw [el]; omega⟩, hrow, fun H1 v x1 r1 v0 v1 => ?_⟩
    have hv : v.toNat < xs.length := by rw [el] at v1; omega
    have ha : atI (xs.map V.int) ((v.toNat : Nat) : Int) = some (.int xs[v.toNat]) := atI_nat (by rw [List.getElem?_map, List.getElem?_eq_getElem hv] <;> rfl)
    have ev : ((v.toNat : Nat) : Int) = v := by omega
    rw [ev] at ha
    exact ⟨t, _, v, _, rfl, rfl, SqL.of (x1 t _ hne ht), ha, q H1 _ x1 r1 (List.getElem_mem hv)⟩
def spFlow (K : PySem.W.Frag) (sc : Addr) (ns : List Int) : Sp := fun vs H Q _ => ∃ (a : Addr), vs = [.ref a] ∧ RowSt K H a sc ns ∧ ∀ H' x, Xr a H H' → RowSt K H' a sc ns → 0 ≤ x → x ≤ 1000 → Q (.int x) H'
theorem ok_flow {f : Addr} {fd : FuncData} {k : Nat} {sc : Addr} {ns : List Int} (F : Fun K "_law_flow" "_law_flow" sLFlow f fd) (T : Cl P w K mg base 1 "_law_taken" ["_law_row", "_law_many"] (spTaken K sc ns)) (Pk : Cl P w K mg base 2 "_law_pick" ["_law_row", "_law_things"] (spPick K sc ns)) :
    FnOk P w K mg base CX0 (k + 3) f fd ["_law_row"] (spFlow K sc ns) := by
  refine F.ok scLFlow (fun vs H Q E h => ?_) (fun cdv A outer s H vs Q E hr h => ?_)
  · obtain ⟨a, rfl, _⟩ := h
    rfl
  · obtain ⟨a, rfl, hrow, q⟩ := h
    refine ⟨_, pss_one (ps_ret (pe_cl Pk hr (by omega) (by rfl) (pa_cons (pv 0) (pa_cons (pe_lst (pa_cons pe_int (pa_cons pe_int (pa_cons pe_int (pa_cons pe_int
      (pa_cons (pe_cl T hr (by omega) (by rfl) (pa_cons (pv 0) (pa_cons pe_int pa_nil))) (pa_cons (pe_cl Pk hr (by omega) (by rfl) (pa_cons (pv 0) (pa_cons (pe_lst (pa_cons pe_int (pa_cons pe_int pa_nil))) pa_nil))) pa_nil))))))) pa_nil)))), ?_⟩
    refine ⟨.ref a, rfl, .ref a, rfl, a, 30, rfl, ⟨by decide, by decide⟩, hrow, fun H1 v x1 r1 v0 v1 => ?_⟩
    refine ⟨.ref a, rfl, (by show 2 ≤ sizeLine; decide), fun p hp => ⟨a, p, [100, 1000], rfl, r1.new hp, upd_same, by decide, by decide, fun H2 y x2 r2 hy => ?_⟩⟩
    have x12 : Xr a H H2 := x1.trans ((Xr.upd hp).trans x2)
    have yb : 0 ≤ y ∧ y ≤ 1000 := by
      rcases List.mem_cons.mp hy with rfl | hy
      · decide
      · rw [List.mem_singleton.mp hy]
        decide
    refine ⟨(by show 6 ≤ sizeLine; decide), fun p2 hp2 => ⟨a, p2, [0, 1, 5, 10, v, y], rfl, r2.new hp2, upd_same, by show 0 < 6; decide, by show 6 ≤ 100; decide, fun H3 x x3 r3 hx => ?_⟩⟩
    have xb : 0 ≤ x ∧ x ≤ 1000 := by
      simp only [List.mem_cons, List.not_mem_nil, or_false] at hx
      omega
    exact q H3 x (x12.trans ((Xr.upd hp2).trans x3)) r3 xb.1 xb.2
def spLDem (K : PySem.W.Frag) (sc : Addr) (ns : List Int) : Sp := fun vs H Q _ => ∃ (a : Addr) (n : Nat), vs = [.ref a, .int (n : Int)] ∧ (1 ≤ n ∧ n ≤ 7) ∧ RowSt K H a sc ns ∧ ∀ H' c ds, Xr a H H' → RowSt K H' a sc ns → Ints H' c ds → FlowsOk ds → ds.length = n → Q (.ref c) H'
theorem ok_ldem {f : Addr} {fd : FuncData} {k : Nat} {sc : Addr} {ns : List Int} (F : Fun K "_law_demands" "_law_demands" sLDem f fd) (mr : mg "range" = none) (mt : mg "tuple" = none) (Fl : Cl P w K mg base 3 "_law_flow" ["_law_row"] (spFlow K sc ns)) :
    FnOk P w K mg base CX0 (k + 4) f fd ["_law_row", "_law_many"] (spLDem K sc ns) := by
  refine F.ok scLDem (fun vs H Q E h => ?_) (fun cdv A outer s H vs Q E hr h => ?_)
  · obtain ⟨a, n, rfl, _⟩ := h
    rfl
  · obtain ⟨a, n, rfl, ⟨n1, n7⟩, hrow, q⟩ := h
    refine ⟨_, pss_one (ps_ret (pe_callTy call_tuple_of (by rfl) mt bTUP (pa_cons
        (pe_lc (own := [("_law_k", 2)]) (g := gName 2) (tt := tYes) (te := tCall (spFlow K sc ns) [] E0 (tCons (tVar 0) tNil)) rfl scLDem.nd (pi_range1 (by rfl) mr (pa_cons (pv 1) pa_nil)) (blkOk_by (N := ["_law_row", "_law_many", "_law_k"]) (sc := defScope sLDem) (by decide +kernel))
          (fun _ _ _ _ _ => pg_name (i := 2) scLDem.nd rfl (.inl rfl)) (fun _ _ _ _ _ => pts_nil) (fun _ _ _ _ _ => pe_cl Fl hr (by omega) (by rfl) (pa_cons (pv 0) pa_nil))) pa_nil))), ?_⟩
    refine ⟨.int n, rfl, (n : Int), rfl, by omega, by omega, fun D hD => ?_⟩
    obtain ⟨ir, zr, rr, hw, _⟩ := id hrow
    have nDa : D ≠ a := Ne.symm (ne_of_none hw hD)
    refine it_range (fun i H' => ∃ ds : List Int, Xr a H H' ∧ RowSt K H' a sc ns ∧ H' D = some (.lst (ds.map V.int)) ∧ ds.length = i ∧ (∀ x ∈ ds, 0 ≤ x) ∧ ∀ x ∈ ds, x ≤ 1000) ⟨[], Xr.upd hD, hrow.new hD, upd_same, rfl, (fun x h => nomatch h), (fun x h => nomatch h)⟩ ?_ ?_
    · rintro i H1 hi ⟨ds, x1, r1, hD1, hl, b0, b1⟩
      refine ⟨rfl, .ref a, rfl, a, rfl, r1, fun H2 x x2 r2 p0 p1 => ?_⟩
      have hD2 := x2 D _ nDa hD1
      refine ⟨_, hD2, by rw [List.length_map, hl]; exact Nat.lt_of_lt_of_le (show i < 7 by omega) (by decide), ds ++ [x], ?_, hrow.old (x1.trans x2) r2 hD, by rw [upd_same, List.map_append] <;> rfl, by rw [List.length_append, hl] <;> rfl, ?_, ?_⟩
      · intro b o nb e
        have hb : b ≠ D := ne_of_none e hD
        rw [upd_ne hb]
        exact (x1.trans x2) b o nb e
      · intro y hy
        rcases List.mem_append.mp hy with z | z
        · exact b0 y z
        · rw [List.mem_singleton.mp z]; exact p0
      · intro y hy
        rcases List.mem_append.mp hy with z | z
        · exact b1 y z
        · rw [List.mem_singleton.mp z]; exact p1
    · rintro H1 ⟨ds, x1, r1, hD1, hl, b0, b1⟩
      have hl2 : ds.length = n := by omega
      refine ⟨D, _, rfl, .inl ⟨SqL.of hD1, fun l hl3 => ?_⟩⟩
      exact q _ l ds (x1.trans (Xr.upd hl3)) (r1.new hl3) upd_same ⟨by omega, by omega, b0, b1⟩ hl2
end
end Dw

set_option Elab.async false
set_option maxRecDepth 100000
set_option maxHeartbeats 4000000
/-! _law_dam, _law_ratio, _law_by, _law_less. -/
namespace Dw
open PySem PySem.Spec PyProof.Rows L2
theorem bABS : bootBuiltins "abs" = some (.builtin "abs") := by decide +kernel
section
variable {P : Program} {w : World} {K : PySem.W.Frag} {mg : Str → Option Value} {base : Heap}
theorem Xr.tup {a b : Addr} {H H' : Hp} {xs : List V} {i z r : V} {sc : V} (x : Xr a H H') (ha : H a = some (.lst [sc, i, z, r])) (h : H b = some (.tup xs)) : H' b = some (.tup xs) := x b _ (fun e => by rw [e, ha] at h; cases h) h
def spLDam (K : PySem.W.Frag) (sc : Addr) (ns : List Int) : Sp := fun vs H Q _ => ∃ (a : Addr) (n : Nat), vs = [.ref a, .int (n : Int)] ∧ (1 ≤ n ∧ n ≤ 7) ∧ RowSt K H a sc ns ∧ ∀ H' p b d, Xr a H H' → RowSt K H' a sc ns → DamAt H' p b d → d.Ok → Q (.ref p) H'
theorem ok_ldam {f : Addr} {fd : FuncData} {k : Nat} {sc : Addr} {ns : List Int} (F : Fun K "_law_dam" "_law_dam" sLDam f fd) (mr : mg "range" = none) (mt : mg "tuple" = none) (T : Cl P w K mg base 1 "_law_taken" ["_law_row", "_law_many"] (spTaken K sc ns)) (Pk : Cl P w K mg base 2 "_law_pick" ["_law_row", "_law_things"] (spPick K sc ns)) (Fl : Cl P w K mg base 3 "_law_flow" ["_law_row"] (spFlow K sc ns)) :
    FnOk P w K mg base CX0 (k + 4) f fd ["_law_row", "_law_most"] (spLDam K sc ns) := by
  refine F.ok scLDam (fun vs H Q E h => ?_) (fun cdv A outer s H vs Q E hr h => ?_)
  · obtain ⟨a, n, rfl, _⟩ := h
    rfl
  · obtain ⟨a, n, rfl, ⟨n1, n7⟩, hrow, q⟩ := h
    refine ⟨_, pss_cons (ps_set (i := 2) scLDam.nd rfl (.inl rfl) (pe_cl Pk hr (by omega) (by rfl) (pa_cons (pv 0) (pa_cons (pe_lst (pa_cons pe_int (pa_cons pe_int (pa_cons pe_int
        (pa_cons (pe_cl T hr (by omega) (by rfl) (pa_cons (pv 0) (pa_cons pe_int pa_nil))) (pa_cons pe_int pa_nil)))))) pa_nil))))
      (pss_cons (ps_set (i := 3) scLDam.nd rfl (.inl rfl) (pe_callTy call_tuple_of (by rfl) mt bTUP (pa_cons
        (pe_lc (own := [("_law_k", 4)]) (g := gName 4) (tt := tYes) (te := tCall (spFlow K sc ns) [] E0 (tCons (tVar 0) tNil)) rfl scLDam.nd (pi_range1 (by rfl) mr (pa_cons (pe_op op_add pe_int (pe_cl T hr (by omega) (by rfl) (pa_cons (pv 0) (pa_cons (pv 1) pa_nil)))) pa_nil)) (blkOk_by (N := ["_law_row", "_law_most", "_law_capacity", "_law_inflows", "_law_k"]) (sc := defScope sLDam) (by decide +kernel))
          (fun _ _ _ _ _ => pg_name (i := 4) scLDam.nd rfl (.inl rfl)) (fun _ _ _ _ _ => pts_nil) (fun _ _ _ _ _ => pe_cl Fl hr (by omega) (by rfl) (pa_cons (pv 0) pa_nil))) pa_nil)))
      (pss_one (ps_ret (pe_tup (pa_cons (pv 2) (pa_cons (pe_cl T hr (by omega) (by rfl) (pa_cons (pv 0) (pa_cons (pe_op op_add (pv 2) pe_int) pa_nil)))
        (pa_cons (pe_cl Pk hr (by omega) (by rfl) (pa_cons (pv 0) (pa_cons (pe_lst (pa_cons pe_int (pa_cons pe_int (pa_cons pe_int (pa_cons (pe_cl T hr (by omega) (by rfl) (pa_cons (pv 0) (pa_cons (pe_op op_add (pv 2) pe_int) pa_nil))) pa_nil))))) pa_nil))) (pa_cons (pv 3) pa_nil)))))))), ?_⟩
    refine ⟨.ref a, rfl, .ref a, rfl, a, 60, rfl, ⟨by decide, by decide⟩, hrow, fun H1 v x1 r1 v0 v1 => ?_⟩
    refine ⟨(by show 5 ≤ sizeLine; decide), fun p hp => ⟨a, p, [0, 1, 10, v, 1000], rfl, r1.new hp, upd_same, by show 0 < 5; decide, by show 5 ≤ 100; decide, fun H2 c x2 r2 hc => ?_⟩⟩
    have cb : 0 ≤ c ∧ c ≤ 1000 := by
      simp only [List.mem_cons, List.not_mem_nil, or_false] at hc
      omega
    have x02 : Xr a H H2 := x1.trans ((Xr.upd hp).trans x2)
    -- the inflows
    refine ⟨.ref a, rfl, .int (n : Int), rfl, a, (n : Int), rfl, ⟨by omega, by omega⟩, r2, fun H3 m x3 r3 m0 m1 => ?_⟩
    have x03 := x02.trans x3
    refine ⟨1, m, rfl, rfl, 1 + m, rfl, by omega, by omega, fun D hD => ?_⟩
    obtain ⟨ir, zr, rr, hw, _⟩ := id r3
    have nDa : D ≠ a := Ne.symm (ne_of_none hw hD)
    refine it_range (fun i H' => ∃ ds : List Int, Xr a H3 H' ∧ RowSt K H' a sc ns ∧ H' D = some (.lst (ds.map V.int)) ∧ ds.length = i ∧ (∀ x ∈ ds, 0 ≤ x) ∧ ∀ x ∈ ds, x ≤ 1000) ⟨[], Xr.upd hD, r3.new hD, upd_same, rfl, (fun x h => nomatch h), (fun x h => nomatch h)⟩ ?_ ?_
    · rintro i H4 hi ⟨ds, x4, r4, hD4, hl, b0, b1⟩
      refine ⟨rfl, .ref a, rfl, a, rfl, r4, fun H5 x x5 r5 p0 p1 => ?_⟩
      have hD5 := x5 D _ nDa hD4
      refine ⟨_, hD5, by rw [List.length_map, hl]; exact Nat.lt_of_lt_of_le (show i < 7 by omega) (by decide), ds ++ [x], ?_, r3.old (x4.trans x5) r5 hD, by rw [upd_same, List.map_append] <;> rfl, by rw [List.length_append, hl] <;> rfl, ?_, ?_⟩
      · intro b o nb e
        have hb : b ≠ D := ne_of_none e hD
        rw [upd_ne hb]
        exact (x4.trans x5) b o nb e
      · intro y hy
        rcases List.mem_append.mp hy with z | z
        · exact b0 y z
        · rw [List.mem_singleton.mp z]; exact p0
      · intro y hy
        rcases List.mem_append.mp hy with z | z
        · exact b1 y z
        · rw [List.mem_singleton.mp z]; exact p1
    · rintro H4 ⟨ds, x4, r4, hD4, hl, b0, b1⟩
      refine ⟨D, _, rfl, .inl ⟨SqL.of hD4, fun b hb => ?_⟩⟩
      have x05 : Xr a H (upd H4 b (.tup (ds.map V.int))) := x03.trans (x4.trans (Xr.upd hb))
      have r5 := r4.new (o := .tup (ds.map V.int)) hb
      have hb5 : (upd H4 b (.tup (ds.map V.int))) b = some (.tup (ds.map V.int)) := upd_same
      generalize upd H4 b (.tup (ds.map V.int)) = H5 at x05 r5 hb5 ⊢
      refine ⟨.int c, rfl, .ref a, rfl, .int c, rfl, c, 1, rfl, rfl, a, c + 1, rfl, ⟨by omega, by omega⟩, r5, fun H6 st x6 r6 s0 s1 => ?_⟩
      refine ⟨.ref a, rfl, .ref a, rfl, .int c, rfl, c, 1, rfl, rfl, a, c + 1, rfl, ⟨by omega, by omega⟩, r6, fun H7 fv x7 r7 f0 f1 => ?_⟩
      refine ⟨(by show 4 ≤ sizeLine; decide), fun p2 hp2 => ⟨a, p2, [0, 0, 0, fv], rfl, r7.new hp2, upd_same, by show 0 < 4; decide, by show 4 ≤ 100; decide, fun H8 fin x8 r8 hfin => ?_⟩⟩
      have fb : 0 ≤ fin ∧ fin < c + 1 := by
        simp only [List.mem_cons, List.not_mem_nil, or_false] at hfin
        omega
      have x58 : Xr a H5 H8 := x6.trans (x7.trans ((Xr.upd hp2).trans x8))
      obtain ⟨i5, z5, r5', hw5, _⟩ := id r5
      have hb8 := x58.tup hw5 hb5
      refine ⟨.ref b, rfl, (by show 4 ≤ sizeLine; decide), fun rp hrp => ?_⟩
      refine q _ rp b ⟨c, st, fin, ds⟩ (x05.trans (x58.trans (Xr.upd hrp))) (r8.new hrp) ⟨upd_same, by unfold Ints; rw [upd_ne (ne_of_none hb8 hrp)]; exact hb8⟩ ⟨cb.1, cb.2, s0, by show st ≤ c; omega, fb.1, by show fin ≤ c; omega, by show 1 ≤ ds.length; omega, by show ds.length ≤ 7; omega, b0, b1⟩
end
end Dw

set_option Elab.async false
set_option maxRecDepth 100000
set_option maxHeartbeats 4000000
/-! _law_ratio, _law_by, _law_less. -/
namespace Dw
open PySem PySem.Spec PyProof.Rows L2
theorem abs_nat (i : Int) : (if i < 0 then -i else i) = ((i.natAbs : Nat) : Int) := by split <;> omega
section
variable {P : Program} {w : World} {K : PySem.W.Frag} {mg : Str → Option Value} {base : Heap}
def spLRatio : Sp := fun vs H Q _ => ∃ (t b : Int), vs = [.int t, .int b] ∧ 0 < b ∧ b ≤ 1000 ∧ ∀ p, H p = none → Q (.ref p) (upd H p (.tup [.int (mkR t b).1, .int (mkR t b).2]))
theorem ok_lratio {f : Addr} {fd : FuncData} {k : Nat} (F : Fun K "_law_ratio" "_law_ratio" sLRatio f fd) (ma : mg "abs" = none) (mi : mg "int" = none) : FnOk P w K mg base CX0 (k + 1) f fd ["_law_top", "_law_bottom"] spLRatio := by
  refine F.ok scLRatio (fun vs H Q E h => ?_) (fun cdv A outer s H vs Q E hr h => ?_)
  · obtain ⟨t, b, rfl, _⟩ := h
    rfl
  · obtain ⟨t, b, rfl, h0, h1, q⟩ := h
    obtain ⟨g0, g1⟩ := gcdI_pos (t := t) h0
    refine ⟨_, pss_cons (ps_par (i := 2) (j := 3) (by rfl) scLRatio.nd rfl rfl (by decide) rfl rfl (pa_cons (pe_callB call_abs (by rfl) ma bABS (pa_cons (pv 0) pa_nil)) (pa_cons (pe_callB call_abs (by rfl) ma bABS (pa_cons (pv 1) pa_nil)) pa_nil)) (by rfl))
      (pss_cons (ps_while PassesOwn.never (pt_cmpR op_ne (pv 3) pe_int (nomark _))
        (pss_one (ps_par (i := 2) (j := 3) (by rfl) scLRatio.nd rfl rfl (by decide) rfl rfl (pa_cons (pv 3) (pa_cons (pe_op op_mod (pe_callTy call_int1 (by rfl) mi bINT (pa_cons (pv 2) pa_nil)) (pv 3)) pa_nil)) (by rfl))))
      (pss_one (ps_ret (pe_ifExp (pt_cmpR op_gt (pv 1) pe_int (nomark _)) (pe_tup (pa_cons (pe_op op_fdiv (pv 0) (pv 2)) (pa_cons (pe_op op_fdiv (pv 1) (pv 2)) pa_nil)))
        (pe_tup (pa_cons (pe_op op_sub pe_int (pe_op op_fdiv (pv 0) (pv 2))) (pa_cons (pe_op op_sub pe_int (pe_op op_fdiv (pv 1) (pv 2))) pa_nil))))))), ?_⟩
    refine ⟨.int t, rfl, t, rfl, .int b, rfl, b, rfl, _, _, rfl, ?_⟩
    refine ⟨fun n σ H' => ∃ x y : Nat, n = y ∧ σ = [some (.int t), some (.int b), some (.int (x : Int)), some (.int (y : Int))] ∧ H' = H ∧ Nat.gcd x y = Nat.gcd t.natAbs b.natAbs, ⟨_, t.natAbs, b.natAbs, rfl, ?_, rfl, rfl⟩, ?_⟩
    · rw [abs_nat, abs_nat]
      rfl
    · rintro n σ H' ⟨x, y, rfl, rfl, rfl, hg⟩
      refine ⟨.int (n : Int), rfl, rfl, _, rfl, ?_⟩
      by_cases hy : n = 0
      · subst hy
        rw [Nat.gcd_zero_right] at hg
        have e : (!decide (V.int ((0 : Nat) : Int) = V.int 0)) = false := rfl
        rw [e]
        refine iteF ?_
        have ex : (x : Int) = gcdI t b := by rw [hg]; rfl
        rw [ex]
        refine ⟨.int b, rfl, b, 0, rfl, rfl, _, rfl, ?_⟩
        rw [decide_eq_true (show (0 : Int) < b from h0)]
        refine iteT ⟨.int t, rfl, .int (gcdI t b), rfl, t, gcdI t b, rfl, rfl, ⟨g0, by omega⟩, .int b, rfl, .int (gcdI t b), rfl, b, gcdI t b, rfl, rfl, ⟨g0, by omega⟩, (by show 2 ≤ sizeLine; decide), fun p hp => q p hp⟩
      · have e : (!decide (V.int (n : Int) = V.int 0)) = true := by
          rw [decide_eq_false (fun z => hy (by have := V.int.inj z; omega))]
          rfl
        rw [e]
        refine iteT ⟨fun σ' H'' => ∃ x' y' : Nat, y' < n ∧ σ' = [some (.int t), some (.int b), some (.int (x' : Int)), some (.int (y' : Int))] ∧ H'' = H' ∧ Nat.gcd x' y' = Nat.gcd t.natAbs b.natAbs, fun σ' H'' ⟨x', y', hlt, h1, h2, h3⟩ => ⟨y', hlt, x', y', rfl, h1, h2, h3⟩, ?_⟩
        refine ⟨.int (n : Int), rfl, .int (x : Int), rfl, .inl ⟨(x : Int), rfl, .int (n : Int), rfl, (x : Int), (n : Int), rfl, rfl, (show (0 : Int) < (n : Int) by omega), ?_⟩⟩
        refine ⟨_, _, rfl, n, x % n, Nat.mod_lt _ (by omega), ?_, rfl, ?_⟩
        · have em : ((x : Int) % (n : Int)) = ((x % n : Nat) : Int) := rfl
          rw [← em]
          rfl
        · rw [← hg, Nat.gcd_comm n (x % n), ← Nat.gcd_rec, Nat.gcd_comm]
def spLBy : Sp := fun vs H Q _ => ∃ (a b : Addr) (x y : Int × Int), vs = [.ref a, .ref b] ∧ RatAt H a x ∧ RatAt H b y ∧ (-(2 ^ 64) < x.1 ∧ x.1 < 2 ^ 64) ∧ (-(2 ^ 64) < x.2 ∧ x.2 < 2 ^ 64) ∧ 0 < x.2 * y.2 ∧ x.2 * y.2 ≤ 1000 ∧
  ∀ p, H p = none → Q (.ref p) (upd H p (.tup [.int (mkR (x.1 * y.1) (x.2 * y.2)).1, .int (mkR (x.1 * y.1) (x.2 * y.2)).2]))
theorem ok_lby {f : Addr} {fd : FuncData} {k : Nat} (F : Fun K "_law_by" "_law_by" sLBy f fd) (R : Cl P w K mg base 1 "_law_ratio" ["_law_top", "_law_bottom"] spLRatio) : FnOk P w K mg base CX0 (k + 2) f fd ["_law_one", "_law_other"] spLBy := by
  refine F.ok scLBy (fun vs H Q E h => ?_) (fun cdv A outer s H vs Q E hr h => ?_)
  · obtain ⟨a, b, x, y, rfl, _⟩ := h
    rfl
  · obtain ⟨a, b, x, y, rfl, ha, hb, x1, x2, h0, h1, q⟩ := h
    have i0 : ∀ (u v : V), atI [u, v] 0 = some u := fun u v => atI_nat (j := 0) rfl
    have i1 : ∀ (u v : V), atI [u, v] 1 = some v := fun u v => atI_nat (j := 1) rfl
    refine ⟨_, pss_one (ps_ret (pe_cl R hr (by omega) (by rfl) (pa_cons (pe_op op_mul (pe_ix ix_tup (pv 0) pe_int (fun _ _ => rfl)) (pe_ix ix_tup (pv 1) pe_int (fun _ _ => rfl)))
      (pa_cons (pe_op op_mul (pe_ix ix_tup (pv 0) pe_int (fun _ _ => rfl)) (pe_ix ix_tup (pv 1) pe_int (fun _ _ => rfl))) pa_nil)))), ?_⟩
    refine ⟨.ref a, rfl, a, _, 0, .int x.1, rfl, rfl, SqT.of ha, i0 _ _, .ref b, rfl, b, _, 0, .int y.1, rfl, rfl, SqT.of hb, i0 _ _, _, _, rfl, rfl, .inl x1, ?_⟩
    refine ⟨.ref a, rfl, a, _, 1, .int x.2, rfl, rfl, SqT.of ha, i1 _ _, .ref b, rfl, b, _, 1, .int y.2, rfl, rfl, SqT.of hb, i1 _ _, _, _, rfl, rfl, .inl x2, ?_⟩
    exact ⟨_, _, rfl, h0, h1, q⟩
theorem ok_lless {f : Addr} {fd : FuncData} {k : Nat} (F : Fun K "_law_less" "_law_less" sLLess f fd) : FnOk P w K mg base CX0 (k + 1) f fd ["_law_one", "_law_other"] spLess := by
  refine F.ok scLLess (fun vs H Q E h => ?_) (fun cdv A outer s H vs Q E hr h => ?_)
  · obtain ⟨a, b, x, y, rfl, _⟩ := h
    rfl
  · obtain ⟨a, b, x, y, rfl, ha, hb, ⟨x1, x2⟩, ⟨y1, y2⟩, q⟩ := h
    refine ⟨_, pss_one (ps_ret (less_body (pv 0) (pv 1) (pv 0) (pv 1))), ?_⟩
    have i0 : ∀ (u v : V), atI [u, v] 0 = some u := fun u v => atI_nat (j := 0) rfl
    have i1 : ∀ (u v : V), atI [u, v] 1 = some v := fun u v => atI_nat (j := 1) rfl
    refine ⟨.ref a, rfl, a, _, 0, .int x.1, rfl, rfl, SqT.of ha, i0 _ _, .ref b, rfl, b, _, 1, .int y.2, rfl, rfl, SqT.of hb, i1 _ _, _, _, rfl, rfl, .inl ⟨x1, x2⟩, ?_⟩
    refine ⟨.ref b, rfl, b, _, 0, .int y.1, rfl, rfl, SqT.of hb, i0 _ _, .ref a, rfl, a, _, 1, .int x.2, rfl, rfl, SqT.of ha, i1 _ _, _, _, rfl, rfl, .inl ⟨y1, y2⟩, _, _, rfl, rfl, ?_⟩
    exact q
end
end Dw

set_option Elab.async false
set_option maxRecDepth 100000
set_option maxHeartbeats 4000000
/-! The plain law: what the lacks answer. -/
namespace Dw
/-- held after a month -/
def nxt (cap h i d : Int) : Int := h + i - mn d (h + i) - mx 0 (h + i - mn d (h + i) - cap)
def lackS (cap h : Int) (is ds : List Int) : Int := (List.zipWith (fun (x : Int) (t : Int × Int × Int) => x - t.1) ds (runM cap h is ds)).sum
def givS (cap h : Int) (is ds : List Int) : Bool := (List.zipWith (fun (x : Int) (t : Int × Int × Int) => t.1 == x) ds (runM cap h is ds)).all id
theorem lackS_cons (cap h i d : Int) (is ds : List Int) : lackS cap h (i :: is) (d :: ds) = d - mn d (h + i) + lackS cap (nxt cap h i d) is ds := by
  simp [lackS, runM, nxt]
theorem givS_cons (cap h i d : Int) (is ds : List Int) : givS cap h (i :: is) (d :: ds) = (mn d (h + i) == d && givS cap (nxt cap h i d) is ds) := by
  simp [givS, runM, nxt]
theorem lackS_nil1 (cap h : Int) (ds : List Int) : lackS cap h [] ds = 0 := by cases ds <;> simp [lackS, runM]
theorem lackS_nil2 (cap h : Int) (is : List Int) : lackS cap h is [] = 0 := by cases is <;> simp [lackS, runM]
theorem givS_nil1 (cap h : Int) (ds : List Int) : givS cap h [] ds = true := by cases ds <;> simp [givS, runM]
theorem givS_nil2 (cap h : Int) (is : List Int) : givS cap h is [] = true := by cases is <;> simp [givS, runM]
theorem mn_spec (d x : Int) : (mn d x = d ∧ d ≤ x) ∨ (mn d x = x ∧ x < d) := by
  unfold mn
  by_cases h : x < d
  · rw [if_pos h]; exact .inr ⟨rfl, h⟩
  · rw [if_neg h]; exact .inl ⟨rfl, by omega⟩
theorem nxt_spec (cap h i d : Int) : (nxt cap h i d = cap ∧ cap < h + i - mn d (h + i)) ∨ (nxt cap h i d = h + i - mn d (h + i) ∧ h + i - mn d (h + i) ≤ cap) := by
  unfold nxt mx
  by_cases hx : h + i - mn d (h + i) - cap > 0
  · rw [if_pos hx]; exact .inl ⟨by omega, by omega⟩
  · rw [if_neg hx]; exact .inr ⟨by omega, by omega⟩
theorem nxt_nn {cap h i d : Int} (hc : 0 ≤ cap) : 0 ≤ nxt cap h i d := by
  have h1 := mn_spec d (h + i)
  have h2 := nxt_spec cap h i d
  omega
theorem nxt_cap {cap h i d : Int} : nxt cap h i d ≤ cap := by
  have h2 := nxt_spec cap h i d
  omega
theorem lack_zero {cap : Int} (hc : 0 ≤ cap) : ∀ (is ds : List Int) (h : Int), 0 ≤ h → (∀ x ∈ is, 0 ≤ x) → (∀ x ∈ ds, 0 ≤ x) → 0 ≤ lackS cap h is ds ∧ (lackS cap h is ds = 0 ↔ givS cap h is ds = true)
  | [], ds, h, _, _, _ => by rw [lackS_nil1, givS_nil1]; simp
  | i :: is, [], h, _, _, _ => by rw [lackS_nil2, givS_nil2]; simp
  | i :: is, d :: ds, h, h0, hi, hd => by
    obtain ⟨a, b⟩ := lack_zero hc is ds (nxt cap h i d) (nxt_nn hc) (fun x hx => hi x (List.mem_cons_of_mem _ hx)) (fun x hx => hd x (List.mem_cons_of_mem _ hx))
    have h1 := mn_spec d (h + i)
    rw [lackS_cons, givS_cons, Bool.and_eq_true, beq_iff_eq, ← b]
    omega
/-- more water, more room: as much is given -/
theorem lack_mono {c c2 : Int} (hc : 0 ≤ c) (hcc : c ≤ c2) : ∀ (is is2 ds : List Int) (h h2 : Int), 0 ≤ h → h ≤ h2 → is.length = is2.length → (∀ (k : Nat) (x y : Int), is[k]? = some x → is2[k]? = some y → x ≤ y) → (∀ x ∈ ds, 0 ≤ x) →
    lackS c2 h2 is2 ds ≤ lackS c h is ds ∧ (givS c h is ds = true → givS c2 h2 is2 ds = true)
  | [], is2, ds, h, h2, _, _, hl, _, _ => by
    cases is2 with
    | nil => rw [lackS_nil1, lackS_nil1]; exact ⟨Int.le_refl _, fun _ => givS_nil1 _ _ _⟩
    | cons y ys => cases hl
  | i :: is, [], ds, h, h2, _, _, hl, _, _ => by cases hl
  | i :: is, i2 :: is2, [], h, h2, _, _, hl, _, _ => by rw [lackS_nil2, lackS_nil2]; exact ⟨Int.le_refl _, fun _ => givS_nil2 _ _ _⟩
  | i :: is, i2 :: is2, d :: ds, h, h2, h0, hh, hl, hi, hd => by
    have hii : i ≤ i2 := hi 0 i i2 rfl rfl
    have d0 := hd d List.mem_cons_self
    have m1 := mn_spec d (h + i)
    have m2 := mn_spec d (h2 + i2)
    have n1 := nxt_spec c h i d
    have n2 := nxt_spec c2 h2 i2 d
    obtain ⟨a, b⟩ := lack_mono hc hcc is is2 ds (nxt c h i d) (nxt c2 h2 i2 d) (nxt_nn hc) (by omega) (by simpa using hl) (fun k x y e1 e2 => hi (k + 1) x y e1 e2) (fun x hx => hd x (List.mem_cons_of_mem _ hx))
    rw [lackS_cons, lackS_cons, givS_cons, givS_cons, Bool.and_eq_true, Bool.and_eq_true, beq_iff_eq, beq_iff_eq]
    exact ⟨by omega, fun ⟨e1, e2⟩ => ⟨by omega, b e2⟩⟩
/-- what some months are given is there -/
theorem lack_water {cap : Int} (hc : 0 ≤ cap) : ∀ (is ds : List Int) (h : Int) (m : Nat), 0 ≤ h → is.length = ds.length → (∀ x ∈ is, 0 ≤ x) → (∀ x ∈ ds, 0 ≤ x) → (ds.take m).sum ≤ h + (is.take m).sum + lackS cap h is ds
  | [], ds, h, m, h0, hl, _, _ => by
    cases ds with
    | nil => rw [lackS_nil1]; simp; exact h0
    | cons y ys => cases hl
  | i :: is, [], h, m, h0, hl, _, _ => by cases hl
  | i :: is, d :: ds, h, 0, h0, hl, hi, hd => by
    have q := (lack_zero hc (i :: is) (d :: ds) h h0 hi hd).1
    simp
    omega
  | i :: is, d :: ds, h, m + 1, h0, hl, hi, hd => by
    have ih := lack_water hc is ds (nxt cap h i d) m (nxt_nn hc) (by simpa using hl) (fun x hx => hi x (List.mem_cons_of_mem _ hx)) (fun x hx => hd x (List.mem_cons_of_mem _ hx))
    have h1 := mn_spec d (h + i)
    have h2 := nxt_spec cap h i d
    rw [lackS_cons, List.take_succ_cons, List.take_succ_cons, List.sum_cons, List.sum_cons]
    omega
/-- the same of months behind the first f: what is held is at most the capacity -/
theorem lack_water2 {cap : Int} (hc : 0 ≤ cap) : ∀ (f : Nat) (is ds : List Int) (h : Int) (m : Nat), 0 ≤ h → h ≤ cap → is.length = ds.length → (∀ x ∈ is, 0 ≤ x) → (∀ x ∈ ds, 0 ≤ x) → ((ds.drop f).take m).sum ≤ cap + ((is.drop f).take m).sum + lackS cap h is ds
  | 0, is, ds, h, m, h0, h1, hl, hi, hd => by
    have q := lack_water hc is ds h m h0 hl hi hd
    simp only [List.drop_zero]
    omega
  | f + 1, [], ds, h, m, h0, h1, hl, hi, hd => by
    cases ds with
    | nil => rw [lackS_nil1]; simp; exact hc
    | cons y ys => cases hl
  | f + 1, i :: is, [], h, m, h0, h1, hl, hi, hd => by cases hl
  | f + 1, i :: is, d :: ds, h, m, h0, h1, hl, hi, hd => by
    have ih := lack_water2 hc f is ds (nxt cap h i d) m (nxt_nn hc) nxt_cap (by simpa using hl) (fun x hx => hi x (List.mem_cons_of_mem _ hx)) (fun x hx => hd x (List.mem_cons_of_mem _ hx))
    have m1 := mn_spec d (h + i)
    rw [lackS_cons, List.drop_succ_cons, List.drop_succ_cons]
    omega
/-- what is asked, but so much less -/
def low (q p d : Int) : Int := if q * d - p > 0 then q * d - p else 0
theorem low_spec (q p d : Int) : (low q p d = q * d - p ∧ 0 < q * d - p) ∨ (low q p d = 0 ∧ q * d - p ≤ 0) := by
  unfold low
  by_cases h : q * d - p > 0
  · rw [if_pos h]; exact .inl ⟨rfl, h⟩
  · rw [if_neg h]; exact .inr ⟨rfl, by omega⟩
theorem mn_q {q : Int} (hq : 0 < q) (d h i : Int) : (q * mn d (h + i) = q * d ∧ q * d ≤ q * h + q * i) ∨ (q * mn d (h + i) = q * h + q * i ∧ q * h + q * i < q * d) := by
  rcases mn_spec d (h + i) with ⟨e, l⟩ | ⟨e, l⟩
  · exact .inl ⟨by rw [e], by rw [← Int.mul_add]; exact Int.mul_le_mul_of_nonneg_left l (Int.le_of_lt hq)⟩
  · exact .inr ⟨by rw [e, Int.mul_add], by rw [← Int.mul_add]; exact Int.mul_lt_mul_of_pos_left l hq⟩
theorem nxt_q {q : Int} (hq : 0 < q) (cap h i d : Int) : (q * nxt cap h i d = q * cap ∧ q * cap < q * h + q * i - q * mn d (h + i)) ∨ (q * nxt cap h i d = q * h + q * i - q * mn d (h + i) ∧ q * h + q * i - q * mn d (h + i) ≤ q * cap) := by
  have e0 : q * (h + i - mn d (h + i)) = q * h + q * i - q * mn d (h + i) := by rw [Int.mul_sub, Int.mul_add]
  rcases nxt_spec cap h i d with ⟨e, l⟩ | ⟨e, l⟩
  · exact .inl ⟨by rw [e], by rw [← e0]; exact Int.mul_lt_mul_of_pos_left l hq⟩
  · exact .inr ⟨by rw [e, e0], by rw [← e0]; exact Int.mul_le_mul_of_nonneg_left l (Int.le_of_lt hq)⟩
/-- a run of the lowered demands, in parts of 1/q, gives all: the lack is at most what they are lowered by -/
theorem low_run {q p cap : Int} (hq : 0 < q) (hp : 0 ≤ p) (hc : 0 ≤ cap) : ∀ (is ds : List Int) (h h' : Int), 0 ≤ h → q * h ≤ h' → is.length = ds.length → (∀ x ∈ is, 0 ≤ x) → (∀ x ∈ ds, 0 ≤ x) →
    (∀ m, ((ds.take m).map (low q p)).sum ≤ h' + q * (is.take m).sum) → (∀ f m, ((((ds.drop (f + 1)).take m).map (low q p))).sum ≤ q * cap + q * ((is.drop (f + 1)).take m).sum) →
    q * lackS cap h is ds ≤ (ds.length : Int) * p + (h' - q * h)
  | [], ds, h, h', h0, hh, hl, _, _, _, _ => by
    cases ds with
    | nil => rw [lackS_nil1]; simp; omega
    | cons y ys => cases hl
  | i :: is, [], h, h', h0, hh, hl, _, _, _, _ => by cases hl
  | i :: is, d :: ds, h, h', h0, hh, hl, hi, hd, hpre, hfit => by
    have d0 := hd d List.mem_cons_self
    have i0 := hi i List.mem_cons_self
    have m1 := mn_q hq d h i
    have n1 := nxt_q hq cap h i d
    have l1 := low_spec q p d
    have a0 : 0 ≤ q * d := Int.mul_nonneg (Int.le_of_lt hq) d0
    have c0 : 0 ≤ q * cap := Int.mul_nonneg (Int.le_of_lt hq) hc
    have g1 := hpre 1
    simp only [List.take_succ_cons, List.take_zero, List.map_cons, List.map_nil, List.sum_cons, List.sum_nil, Int.add_zero] at g1
    -- the lowered run's next
    have key : ∀ u : Int, (u = q * cap ∧ q * cap ≤ h' + q * i - low q p d) ∨ (u = h' + q * i - low q p d ∧ h' + q * i - low q p d ≤ q * cap) → q * lackS cap (nxt cap h i d) is ds ≤ (ds.length : Int) * p + (u - q * nxt cap h i d) := by
      intro u hu
      refine low_run hq hp hc is ds (nxt cap h i d) u (nxt_nn hc) ?_ (by simpa using hl) (fun x hx => hi x (List.mem_cons_of_mem _ hx)) (fun x hx => hd x (List.mem_cons_of_mem _ hx)) (fun m => ?_) (fun f m => hfit (f + 1) m)
      · omega
      · have g2 := hpre (m + 1)
        have g3 := hfit 0 m
        simp only [List.take_succ_cons, List.map_cons, List.sum_cons, Int.mul_add] at g2
        simp only [Nat.zero_add, List.drop_succ_cons, List.drop_zero] at g3
        omega
    have e1 : q * (d - mn d (h + i) + lackS cap (nxt cap h i d) is ds) = q * d - q * mn d (h + i) + q * lackS cap (nxt cap h i d) is ds := by rw [Int.mul_add, Int.mul_sub]
    rw [lackS_cons, e1]
    have e2 : ((d :: ds).length : Int) * p = (ds.length : Int) * p + p := by
      rw [List.length_cons]
      push_cast
      rw [Int.add_mul, Int.one_mul]
    rw [e2]
    by_cases hu : q * cap ≤ h' + q * i - low q p d
    · have k1 := key _ (.inl ⟨rfl, hu⟩)
      omega
    · have k1 := key _ (.inr ⟨rfl, by omega⟩)
      omega
end Dw

set_option Elab.async false
set_option maxRecDepth 100000
set_option maxHeartbeats 4000000
/-! The plain law: ratios, the greatest of the spans' lacks. -/
namespace Dw
/-- a is at least b -/
def Ge (a b : Int × Int) : Prop := 0 < a.2 ∧ 0 < b.2 ∧ b.1 * a.2 ≤ a.1 * b.2
theorem Ge.refl {a : Int × Int} (h : 0 < a.2) : Ge a a := ⟨h, h, Int.le_refl _⟩
theorem Ge.trans {a b c : Int × Int} (h1 : Ge a b) (h2 : Ge b c) : Ge a c := by
  obtain ⟨a2, b2, l1⟩ := h1
  obtain ⟨_, c2, l2⟩ := h2
  refine ⟨a2, c2, ?_⟩
  have x1 := Int.mul_le_mul_of_nonneg_right l2 (Int.le_of_lt a2)
  have x2 := Int.mul_le_mul_of_nonneg_right l1 (Int.le_of_lt c2)
  have e1 : c.1 * b.2 * a.2 = b.2 * (c.1 * a.2) := by rw [Int.mul_comm c.1 b.2, Int.mul_assoc]
  have e2 : b.1 * c.2 * a.2 = b.1 * a.2 * c.2 := Int.mul_right_comm _ _ _
  have e3 : a.1 * b.2 * c.2 = b.2 * (a.1 * c.2) := by rw [Int.mul_comm a.1 b.2, Int.mul_assoc]
  rw [e1, e2] at x1
  rw [e3] at x2
  exact Int.le_of_mul_le_mul_left (Int.le_trans x1 x2) b2
theorem gcdI_dvd (t b : Int) : gcdI t b ∣ t ∧ gcdI t b ∣ b := by
  unfold gcdI
  exact ⟨Int.ofNat_dvd_left.mpr (Nat.gcd_dvd_left _ _), Int.ofNat_dvd_left.mpr (Nat.gcd_dvd_right _ _)⟩
theorem mkR_eq {t b : Int} (hb : 0 < b) : ∃ g : Int, 0 < g ∧ t = g * (mkR t b).1 ∧ b = g * (mkR t b).2 ∧ 0 < (mkR t b).2 ∧ (mkR t b).2 ≤ b := by
  obtain ⟨g0, g1⟩ := gcdI_pos (t := t) hb
  obtain ⟨d1, d2⟩ := gcdI_dvd t b
  have e2 : b = gcdI t b * (mkR t b).2 := (Int.mul_ediv_cancel' d2).symm
  have p2 : 0 < (mkR t b).2 := by
    rcases Int.lt_or_le 0 (mkR t b).2 with h | h
    · exact h
    · have := Int.mul_nonpos_of_nonneg_of_nonpos (Int.le_of_lt g0) h
      omega
  refine ⟨gcdI t b, g0, (Int.mul_ediv_cancel' d1).symm, e2, p2, ?_⟩
  have h1 : 1 * (mkR t b).2 ≤ gcdI t b * (mkR t b).2 := Int.mul_le_mul_of_nonneg_right (by omega) (Int.le_of_lt p2)
  omega
theorem ge_mkR {a : Int × Int} {t b : Int} (ha : 0 < a.2) (hb : 0 < b) (h : t * a.2 ≤ a.1 * b) : Ge a (mkR t b) := by
  obtain ⟨g, g0, e1, e2, p, _⟩ := mkR_eq (t := t) hb
  refine ⟨ha, p, ?_⟩
  generalize (mkR t b).1 = x at e1 ⊢
  generalize (mkR t b).2 = y at e2 p ⊢
  subst e1 e2
  have q1 : g * x * a.2 = g * (x * a.2) := Int.mul_assoc _ _ _
  have q2 : a.1 * (g * y) = g * (a.1 * y) := by rw [← Int.mul_assoc, Int.mul_comm a.1 g, Int.mul_assoc]
  rw [q1, q2] at h
  exact Int.le_of_mul_le_mul_left h g0
theorem of_ge_mkR {a : Int × Int} {t b : Int} (hb : 0 < b) (h : Ge a (mkR t b)) : t * a.2 ≤ a.1 * b := by
  obtain ⟨g, g0, e1, e2, p, _⟩ := mkR_eq (t := t) hb
  obtain ⟨_, _, l⟩ := h
  generalize (mkR t b).1 = x at e1 l
  generalize (mkR t b).2 = y at e2 p l
  subst e1 e2
  have q1 : g * x * a.2 = g * (x * a.2) := Int.mul_assoc _ _ _
  have q2 : a.1 * (g * y) = g * (a.1 * y) := by rw [← Int.mul_assoc, Int.mul_comm a.1 g, Int.mul_assoc]
  rw [q1, q2]
  exact Int.mul_le_mul_of_nonneg_left l (Int.le_of_lt g0)
/-- the ratio mkR t b is at least a -/
theorem mkR_ge {a : Int × Int} {t b : Int} (ha : 0 < a.2) (hb : 0 < b) (h : a.1 * b ≤ t * a.2) : Ge (mkR t b) a := by
  obtain ⟨g, g0, e1, e2, p, _⟩ := mkR_eq (t := t) hb
  refine ⟨p, ha, ?_⟩
  generalize (mkR t b).1 = x at e1 ⊢
  generalize (mkR t b).2 = y at e2 p ⊢
  subst e1 e2
  have q1 : g * x * a.2 = g * (x * a.2) := Int.mul_assoc _ _ _
  have q2 : a.1 * (g * y) = g * (a.1 * y) := by rw [← Int.mul_assoc, Int.mul_comm a.1 g, Int.mul_assoc]
  rw [q1, q2] at h
  exact Int.le_of_mul_le_mul_left h g0
theorem less_of {x y : Int × Int} (h : Ge x y) : lessR x y = false := decide_eq_false (by have := h.2.2; omega)
theorem up_ge {f x : Int × Int} (hf : 0 < f.2) (hx : 0 < x.2) : Ge (up f x) f ∧ Ge (up f x) x := by
  unfold up
  by_cases h : lessR f x = true
  · rw [if_pos h]
    have h2 : f.1 * x.2 < x.1 * f.2 := of_decide_eq_true h
    exact ⟨⟨hx, hf, by omega⟩, Ge.refl hx⟩
  · rw [if_neg h]
    have h2 : ¬ f.1 * x.2 < x.1 * f.2 := fun z => h (decide_eq_true z)
    exact ⟨Ge.refl hf, hf, hx, by omega⟩
theorem fold_prop {α : Type} (g : α → Int × Int) (Pr : Int × Int → Prop) : ∀ (l : List α) (r : Int × Int), Pr r → (∀ s ∈ l, Pr (g s)) → Pr (l.foldl (fun f s => up f (g s)) r)
  | [], _, h, _ => h
  | s :: l, r, h, hs => by
    refine fold_prop g Pr l (up r (g s)) ?_ fun x hx => hs x (List.mem_cons_of_mem _ hx)
    unfold up
    split
    · exact hs s List.mem_cons_self
    · exact h
theorem fold_ge {α : Type} (g : α → Int × Int) : ∀ (l : List α) (r : Int × Int), 0 < r.2 → (∀ s ∈ l, 0 < (g s).2) → Ge (l.foldl (fun f s => up f (g s)) r) r ∧ ∀ s ∈ l, Ge (l.foldl (fun f s => up f (g s)) r) (g s)
  | [], _, h, _ => ⟨Ge.refl h, fun _ h => by cases h⟩
  | s :: l, r, h, hs => by
    have s2 := hs s List.mem_cons_self
    obtain ⟨u1, u2⟩ := up_ge h s2
    obtain ⟨a, b⟩ := fold_ge g l (up r (g s)) u1.1 fun x hx => hs x (List.mem_cons_of_mem _ hx)
    refine ⟨a.trans u1, fun x hx => ?_⟩
    rcases List.mem_cons.mp hx with rfl | z
    · exact a.trans u2
    · exact b x z
/-! ### the candidates -/
def topS' (ds : List Int) (f l c : Nat) : Int := ((sortD (cutI ds f (l + 1))).take (c + 1)).sum
def cand (d : Dam) (ds : List Int) (f l c : Nat) : Int × Int := mkR (topS' ds f l c - waterM d.op f l) ((c : Int) + 1)
theorem cand_pos (d : Dam) (ds : List Int) (f l c : Nat) : 0 < (cand d ds f l c).2 := by
  obtain ⟨_, _, _, _, p, _⟩ := mkR_eq (t := topS' ds f l c - waterM d.op f l) (b := (c : Int) + 1) (by omega)
  exact p
theorem cut_length {l : List Int} {f e : Nat} (h : e ≤ l.length) : (cutI l f e).length = e - f := by
  unfold cutI
  rw [List.length_take, List.length_drop]
  omega
theorem spansM_of {n f l : Nat} (h1 : f ≤ l) (h2 : l < n) : (f, l) ∈ spansM n := by
  simp only [spansM, List.mem_flatMap, List.mem_map, List.mem_range]
  exact ⟨f, by omega, l - f, by omega, by rw [Nat.add_sub_cancel' h1]⟩
theorem sortD_length (l : List Int) : (sortD l).length = l.length := (sortD_perm l).length_eq
theorem lackM_prop {d : Dam} {ds : List Int} (Pr : Int × Int → Prop) (h0 : Pr (0, 1)) (h : ∀ f l c, f ≤ l → l < ds.length → c < l + 1 - f → Pr (cand d ds f l c)) : Pr (lackM d ds) := by
  refine fold_prop (fun s => spanLackM d ds s) Pr _ _ h0 fun s hs => ?_
  obtain ⟨f, l⟩ := s
  obtain ⟨b1, b2⟩ := spansM_mem hs
  refine fold_prop (fun c => mkR (((sortD (cutI ds f (l + 1))).take (c + 1)).sum - waterM d.op f l) ((c : Int) + 1)) Pr _ _ h0 fun c hc => ?_
  rw [List.mem_range, sortD_length, cut_length (by omega)] at hc
  exact h f l c b1 b2 hc
theorem lackM_ge (d : Dam) (ds : List Int) : Ge (lackM d ds) (0, 1) ∧ ∀ f l c, f ≤ l → l < ds.length → c < l + 1 - f → Ge (lackM d ds) (cand d ds f l c) := by
  have inner : ∀ s : Nat × Nat, Ge (spanLackM d ds s) (0, 1) ∧ ∀ c, c < (sortD (cutI ds s.1 (s.2 + 1))).length → Ge (spanLackM d ds s) (cand d ds s.1 s.2 c) := fun s => by
    have q := fold_ge (fun c : Nat => mkR (((sortD (cutI ds s.1 (s.2 + 1))).take (c + 1)).sum - waterM d.op s.1 s.2) ((c : Int) + 1)) (List.range (sortD (cutI ds s.1 (s.2 + 1))).length) (0, 1) (by show (0 : Int) < 1; decide) fun c _ => cand_pos d ds s.1 s.2 c
    exact ⟨q.1, fun c hc => q.2 c (List.mem_range.mpr hc)⟩
  have q := fold_ge (fun s => spanLackM d ds s) (spansM ds.length) (0, 1) (by show (0 : Int) < 1; decide) fun s _ => (inner s).1.1
  refine ⟨q.1, fun f l c b1 b2 hc => (q.2 (f, l) (spansM_of b1 b2)).trans ((inner (f, l)).2 c ?_)⟩
  show c < (sortD (cutI ds f (l + 1))).length
  rw [sortD_length, cut_length (by omega)]
  exact hc
end Dw

set_option Elab.async false
set_option maxRecDepth 100000
set_option maxHeartbeats 4000000
/-! The plain law: what the law asks. -/
namespace Dw
theorem sum_nn : ∀ {l : List Int}, (∀ x ∈ l, 0 ≤ x) → 0 ≤ l.sum
  | [], _ => by simp
  | a :: l, h => by
    have ih := sum_nn (l := l) fun x hx => h x (List.mem_cons_of_mem _ hx)
    have := h a List.mem_cons_self
    rw [List.sum_cons]
    omega
theorem take_le : ∀ {l : List Int} (m : Nat), (∀ x ∈ l, 0 ≤ x) → (l.take m).sum ≤ l.sum
  | l, 0, h => by have := sum_nn h; simpa using this
  | [], m + 1, _ => by simp
  | a :: l, m + 1, h => by
    have ih := take_le (l := l) m fun x hx => h x (List.mem_cons_of_mem _ hx)
    rw [List.take_succ_cons, List.sum_cons, List.sum_cons]
    omega
theorem sum_le {M : Int} : ∀ {l : List Int}, (∀ x ∈ l, x ≤ M) → l.sum ≤ (l.length : Int) * M
  | [], _ => by simp
  | a :: l, h => by
    have ih := sum_le (l := l) fun x hx => h x (List.mem_cons_of_mem _ hx)
    have := h a List.mem_cons_self
    rw [List.sum_cons, List.length_cons]
    push_cast
    rw [Int.add_mul, Int.one_mul]
    omega
theorem perm_sum {a b : List Int} (h : a.Perm b) : a.sum = b.sum := by
  induction h with
  | nil => rfl
  | cons x _ ih => rw [List.sum_cons, List.sum_cons, ih]
  | swap x y l => simp only [List.sum_cons]; omega
  | trans _ _ i1 i2 => rw [i1, i2]
theorem sortD_desc (l : List Int) : (sortD l).Pairwise (fun a b => b ≤ a) := by
  unfold sortD
  rw [List.pairwise_reverse]
  have q := List.pairwise_mergeSort (le := fun (a b : Int) => decide (a ≤ b)) (fun a b c h1 h2 => by simp at h1 h2 ⊢; omega) (fun a b => by simp; omega) l
  exact q.imp fun h => by simpa using h
/-- the lowered ones are the greatest -/
theorem low_sorted {q p : Int} (hq : 0 < q) : ∀ {l : List Int}, l.Pairwise (fun a b => b ≤ a) → (∀ x ∈ l, low q p x = 0) ∨ ∃ c, c < l.length ∧ (l.map (low q p)).sum = q * (l.take (c + 1)).sum - ((c : Int) + 1) * p
  | [], _ => .inl fun x h => nomatch h
  | a :: l, h => by
    obtain ⟨h1, h2⟩ := List.pairwise_cons.mp h
    have la := low_spec q p a
    rcases la with ⟨ea, pa⟩ | ⟨ea, pa⟩
    · refine .inr ?_
      rcases low_sorted (q := q) (p := p) hq h2 with z | ⟨c, hc, e⟩
      · refine ⟨0, by simp, ?_⟩
        have e0 : (l.map (low q p)).sum = 0 := by
          have : ∀ {l : List Int}, (∀ x ∈ l, low q p x = 0) → (l.map (low q p)).sum = 0 := by
            intro l
            induction l with
            | nil => intro _; rfl
            | cons y l ih => intro h; rw [List.map_cons, List.sum_cons, h y List.mem_cons_self, ih fun x hx => h x (List.mem_cons_of_mem _ hx)]; rfl
          exact this z
        rw [List.map_cons, List.sum_cons, e0, ea]
        simp
      · refine ⟨c + 1, by rw [List.length_cons]; omega, ?_⟩
        rw [List.map_cons, List.sum_cons, e, ea, List.take_succ_cons, List.sum_cons, Int.mul_add]
        have e3 : (((c + 1 : Nat) : Int) + 1) * p = ((c : Int) + 1) * p + p := by
          push_cast
          rw [Int.add_mul ((c : Int) + 1) 1 p, Int.one_mul]
        rw [e3]
        omega
    · refine .inl fun x hx => ?_
      rcases List.mem_cons.mp hx with rfl | z
      · exact ea
      · have hx2 := h1 x z
        have hm := Int.mul_le_mul_of_nonneg_left hx2 (Int.le_of_lt hq)
        have lx := low_spec q p x
        omega
section
variable {d : Dam} {ds : List Int}
theorem lack_nn (ok : d.Ok) (okd : FlowsOk ds) : 0 ≤ totM d ds := (lack_zero ok.c0 d.ins ds d.start ok.s0 ok.i0 okd.i0).1
theorem lack_giv (ok : d.Ok) (okd : FlowsOk ds) : totM d ds = 0 ↔ givM d ds = true := (lack_zero ok.c0 d.ins ds d.start ok.s0 ok.i0 okd.i0).2
theorem water_op (f l : Nat) : waterM d.op f l = (if f = 0 then d.start else d.cap) + (cutI d.ins f (l + 1)).sum := by
  unfold waterM Dam.op
  simp
/-- 2a: a span's lack is at most all that lacks -/
theorem span_tot (ok : d.Ok) (okd : FlowsOk ds) (hl : ds.length = d.ins.length) {f l c : Nat} : topS' ds f l c - waterM d.op f l ≤ totM d ds := by
  have a1 : topS' ds f l c ≤ (cutI ds f (l + 1)).sum := by
    unfold topS'
    rw [← perm_sum (sortD_perm (cutI ds f (l + 1)))]
    exact take_le _ fun x hx => okd.i0 x (cutI_mem ((sortD_perm _).mem_iff.mp hx))
  rw [water_op]
  have a2 : (cutI ds f (l + 1)).sum ≤ (if f = 0 then d.start else d.cap) + (cutI d.ins f (l + 1)).sum + totM d ds := by
    unfold cutI
    by_cases hf : f = 0
    · subst hf
      rw [if_pos rfl]
      exact lack_water ok.c0 d.ins ds d.start _ ok.s0 hl.symm ok.i0 okd.i0
    · rw [if_neg hf]
      exact lack_water2 ok.c0 f d.ins ds d.start _ ok.s0 ok.s1 hl.symm ok.i0 okd.i0
  omega
theorem each_le_whole (ok : d.Ok) (okd : FlowsOk ds) (hl : ds.length = d.ins.length) : Ge (totM d ds, 1) (lackM d ds) := by
  have w0 := lack_nn ok okd
  refine lackM_prop (fun x => Ge (totM d ds, 1) x) ⟨(show (0 : Int) < 1 by decide), (show (0 : Int) < 1 by decide), by simp; exact w0⟩ fun f l c _ _ _ => ?_
  refine ge_mkR (show (0 : Int) < 1 by decide) (by omega) ?_
  have h3 := span_tot ok okd hl (f := f) (l := l) (c := c)
  have h4 : totM d ds * 1 ≤ totM d ds * ((c : Int) + 1) := Int.mul_le_mul_of_nonneg_left (by omega) w0
  show _ * (1 : Int) ≤ totM d ds * ((c : Int) + 1)
  omega
/-- the lowered demands of a span are there -/
theorem hall (ok : d.Ok) {f l : Nat} (h1 : f ≤ l) (h2 : l < ds.length) : ((cutI ds f (l + 1)).map (low (lackM d ds).2 (lackM d ds).1)).sum ≤ (lackM d ds).2 * waterM d.op f l := by
  obtain ⟨g0, g1⟩ := lackM_ge d ds
  have q0 := g0.1
  have w0 := (water_bound ok f l).1
  have e : ((cutI ds f (l + 1)).map (low (lackM d ds).2 (lackM d ds).1)).sum = ((sortD (cutI ds f (l + 1))).map (low (lackM d ds).2 (lackM d ds).1)).sum := perm_sum ((sortD_perm _).symm.map _)
  rw [e]
  rcases low_sorted (q := (lackM d ds).2) (p := (lackM d ds).1) q0 (sortD_desc (cutI ds f (l + 1))) with z | ⟨c, hc, e2⟩
  · have : ∀ {l : List Int}, (∀ x ∈ l, low (lackM d ds).2 (lackM d ds).1 x = 0) → (l.map (low (lackM d ds).2 (lackM d ds).1)).sum = 0 := by
      intro l
      induction l with
      | nil => intro _; rfl
      | cons y l ih => intro h; rw [List.map_cons, List.sum_cons, h y List.mem_cons_self, ih fun x hx => h x (List.mem_cons_of_mem _ hx)]; rfl
    rw [this z]
    exact Int.mul_nonneg (Int.le_of_lt q0) w0
  · rw [e2]
    rw [sortD_length, cut_length (by omega)] at hc
    have k := of_ge_mkR (by omega) (g1 f l c h1 h2 hc)
    have e3 : (topS' ds f l c - waterM d.op f l) * (lackM d ds).2 = (lackM d ds).2 * ((sortD (cutI ds f (l + 1))).take (c + 1)).sum - (lackM d ds).2 * waterM d.op f l := by
      rw [Int.mul_comm, Int.mul_sub]
      rfl
    rw [e3, Int.mul_comm (lackM d ds).1] at k
    omega
/-- 2b: all that lacks is at most the least of a month, as often as there are months -/
theorem whole_le (ok : d.Ok) (okd : FlowsOk ds) (hl : ds.length = d.ins.length) : (lackM d ds).2 * totM d ds ≤ (ds.length : Int) * (lackM d ds).1 := by
  obtain ⟨g0, g1⟩ := lackM_ge d ds
  have q0 := g0.1
  have p0 : 0 ≤ (lackM d ds).1 := by have := g0.2.2; simp at this; exact this
  have hallD : ∀ f m, ((((ds.drop f).take m).map (low (lackM d ds).2 (lackM d ds).1))).sum ≤ (lackM d ds).2 * (if f = 0 then d.start else d.cap) + (lackM d ds).2 * ((d.ins.drop f).take m).sum := by
    intro f m
    have hb : 0 ≤ (lackM d ds).2 * (if f = 0 then d.start else d.cap) := Int.mul_nonneg (Int.le_of_lt q0) (by split; exact ok.s0; exact ok.c0)
    by_cases hf : f < ds.length
    · by_cases hm : m = 0
      · subst hm
        simp
        exact hb
      · have hh : ∀ m', 0 < m' → m' ≤ ds.length - f → ((((ds.drop f).take m').map (low (lackM d ds).2 (lackM d ds).1))).sum ≤ (lackM d ds).2 * (if f = 0 then d.start else d.cap) + (lackM d ds).2 * ((d.ins.drop f).take m').sum := by
          intro m' h0 h1
          have q := hall ok (ds := ds) (f := f) (l := f + m' - 1) (by omega) (by omega)
          rw [water_op, Int.mul_add] at q
          unfold cutI at q
          have e : f + m' - 1 + 1 - f = m' := by omega
          rw [e] at q
          exact q
        by_cases hmn : m ≤ ds.length - f
        · exact hh m (by omega) hmn
        · have q := hh (ds.length - f) (by omega) (Nat.le_refl _)
          rw [List.take_of_length_le (by rw [List.length_drop]; omega), List.take_of_length_le (by rw [List.length_drop]; omega)] at q ⊢
          exact q
    · rw [List.drop_eq_nil_of_le (by omega), List.drop_eq_nil_of_le (by omega)]
      simp
      exact hb
  have q := low_run q0 p0 ok.c0 d.ins ds d.start ((lackM d ds).2 * d.start) ok.s0 (Int.le_refl _) hl.symm ok.i0 okd.i0 (fun m => by have := hallD 0 m; simpa using this) (fun f m => by have := hallD (f + 1) m; simpa using this)
  have e : (lackM d ds).2 * d.start - (lackM d ds).2 * d.start = 0 := Int.sub_self _
  rw [e, Int.add_zero] at q
  exact q
end
end Dw

set_option Elab.async false
set_option maxRecDepth 100000
set_option maxHeartbeats 4000000
/-! The plain law: each of the law's questions. -/
namespace Dw
theorem lack_le {cap : Int} (hc : 0 ≤ cap) : ∀ (is ds : List Int) (h : Int), 0 ≤ h → (∀ x ∈ is, 0 ≤ x) → (∀ x ∈ ds, 0 ≤ x) → lackS cap h is ds ≤ ds.sum
  | [], ds, h, _, _, hd => by rw [lackS_nil1]; exact sum_nn hd
  | i :: is, [], h, _, _, _ => by rw [lackS_nil2]; simp
  | i :: is, d :: ds, h, h0, hi, hd => by
    have ih := lack_le hc is ds (nxt cap h i d) (nxt_nn hc) (fun x hx => hi x (List.mem_cons_of_mem _ hx)) (fun x hx => hd x (List.mem_cons_of_mem _ hx))
    have h1 := mn_spec d (h + i)
    have i0 := hi i List.mem_cons_self
    have d0 := hd d List.mem_cons_self
    rw [lackS_cons, List.sum_cons]
    omega
/-- nothing is lost -/
theorem run_balance (cap : Int) : ∀ (is ds : List Int) (h : Int), is.length = ds.length → is ≠ [] → ∃ t, (runM cap h is ds).getLast? = some t ∧ h + is.sum = ((runM cap h is ds).map fun t => t.1 + t.2.1).sum + t.2.2
  | [], _, _, _, hn => absurd rfl hn
  | i :: is, [], h, hl, _ => by cases hl
  | i :: is, d :: ds, h, hl, _ => by
    have hl2 : is.length = ds.length := by simpa using hl
    by_cases hn : is = []
    · subst hn
      have e : ds = [] := by
        cases ds with
        | nil => rfl
        | cons y ys => cases hl2
      subst e
      refine ⟨(mn d (h + i), mx 0 (h + i - mn d (h + i) - cap), h + i - mn d (h + i) - mx 0 (h + i - mn d (h + i) - cap)), rfl, ?_⟩
      simp only [runM, List.map_cons, List.map_nil, List.sum_cons, List.sum_nil]
      omega
    · obtain ⟨t, e, b⟩ := run_balance cap is ds (h + i - mn d (h + i) - mx 0 (h + i - mn d (h + i) - cap)) hl2 hn
      refine ⟨t, ?_, ?_⟩
      · simp only [runM]
        rw [List.getLast?_cons, e]
        rfl
      · simp only [runM, List.map_cons, List.sum_cons]
        omega
theorem run_given (cap : Int) : ∀ (is ds : List Int) (h : Int), is.length = ds.length → lackS cap h is ds = ds.sum - ((runM cap h is ds).map fun t => t.1).sum
  | [], ds, h, hl => by
    cases ds with
    | nil => rw [lackS_nil1]; simp [runM]
    | cons y ys => cases hl
  | i :: is, [], h, hl => by cases hl
  | i :: is, d :: ds, h, hl => by
    have ih := run_given cap is ds (nxt cap h i d) (by simpa using hl)
    rw [lackS_cons, ih]
    simp only [runM, List.map_cons, List.sum_cons, nxt]
    omega
theorem fold_keep {α : Type} (g : α → Int × Int) : ∀ (l : List α) (r : Int × Int), (∀ s ∈ l, lessR r (g s) = false) → l.foldl (fun f s => up f (g s)) r = r
  | [], _, _ => rfl
  | s :: l, r, h => by
    have e : up r (g s) = r := by
      unfold up
      rw [h s List.mem_cons_self]
      rfl
    rw [List.foldl_cons, e]
    exact fold_keep g l r fun x hx => h x (List.mem_cons_of_mem _ hx)
/-- a bigger dam -/
structure Bg (d d2 : Dam) : Prop where
  c : d.cap ≤ d2.cap
  s : d.start ≤ d2.start
  l : d.ins.length = d2.ins.length
  i : ∀ (k : Nat) (x y : Int), d.ins[k]? = some x → d2.ins[k]? = some y → x ≤ y
theorem take_at_le : ∀ {a b : List Int}, a.length = b.length → (∀ (k : Nat) (x y : Int), a[k]? = some x → b[k]? = some y → x ≤ y) → ∀ f m, ((a.drop f).take m).sum ≤ ((b.drop f).take m).sum
  | [], [], _, _, f, m => by simp
  | [], y :: b, h, _, _, _ => by cases h
  | x :: a, [], h, _, _, _ => by cases h
  | x :: a, y :: b, _, _, 0, 0 => by simp
  | x :: a, y :: b, hl, h, 0, m + 1 => by
    have ih := take_at_le (a := a) (b := b) (by simpa using hl) (fun k x y e1 e2 => h (k + 1) x y e1 e2) 0 m
    have h0 := h 0 x y rfl rfl
    simp only [List.drop_zero, List.take_succ_cons, List.sum_cons] at ih ⊢
    omega
  | x :: a, y :: b, hl, h, f + 1, m => by
    have ih := take_at_le (a := a) (b := b) (by simpa using hl) (fun k x y e1 e2 => h (k + 1) x y e1 e2) f m
    simp only [List.drop_succ_cons]
    exact ih
section
variable {d d2 : Dam} {ds : List Int} {r : List Nat}
theorem whole_bound (ok : d.Ok) (okd : FlowsOk ds) : 0 ≤ totM d ds ∧ totM d ds ≤ 7000 := by
  refine ⟨lack_nn ok okd, ?_⟩
  have h1 : totM d ds ≤ ds.sum := lack_le ok.c0 d.ins ds d.start ok.s0 ok.i0 okd.i0
  have h2 := (sum_bound ds okd.i0 okd.i1).2
  have := okd.n7
  omega
theorem lackM_den (d : Dam) (ds : List Int) (okd : FlowsOk ds) : 0 < (lackM d ds).2 ∧ (lackM d ds).2 ≤ 1000 := by
  refine ⟨(lackM_ge d ds).1.1, ?_⟩
  refine lackM_prop (fun x => x.2 ≤ 1000) (by decide) fun f l c _ h2 h3 => ?_
  obtain ⟨_, _, _, _, _, q⟩ := mkR_eq (t := topS' ds f l c - waterM d.op f l) (b := (c : Int) + 1) (by omega)
  show (mkR (topS' ds f l c - waterM d.op f l) ((c : Int) + 1)).2 ≤ 1000
  have := okd.n7
  omega
/-- 1 -/
theorem f_each (ok : d.Ok) (okd : FlowsOk ds) (hl : ds.length = d.ins.length) : totM d ds = 0 ↔ lackM d ds = (0, 1) := by
  constructor
  · intro h
    refine fold_keep (fun s => spanLackM d ds s) _ (0, 1) fun s hs => ?_
    obtain ⟨f, l⟩ := s
    have e : spanLackM d ds (f, l) = (0, 1) := by
      refine fold_keep (fun c : Nat => mkR (((sortD (cutI ds f (l + 1))).take (c + 1)).sum - waterM d.op f l) ((c : Int) + 1)) _ (0, 1) fun c hc => ?_
      have h3 := span_tot ok okd hl (f := f) (l := l) (c := c)
      rw [h] at h3
      refine less_of (ge_mkR (by decide) (by omega) ?_)
      unfold topS' at h3
      simp
      exact h3
    show lessR (0, 1) (spanLackM d ds (f, l)) = false
    rw [e]
    rfl
  · intro h
    have h1 := whole_le ok okd hl
    rw [h] at h1
    have h2 := lack_nn ok okd
    simp at h1
    omega
theorem f_fails (ok : d.Ok) (okd : FlowsOk ds) (hr : FewOk d ds r) : totM d ds = 0 ↔ r = [] := by
  have e : zeroed [] ds = ds := by
    unfold zeroed
    refine List.ext_getElem? fun k => ?_
    rw [List.getElem?_map]
    by_cases hk : k < ds.length
    · rw [List.getElem?_range hk, List.getElem?_eq_getElem hk]
      simp [List.getD_eq_getElem?_getD, hk]
    · rw [List.getElem?_eq_none (by rw [List.length_range]; omega), List.getElem?_eq_none (by omega)]
      rfl
  rw [lack_giv ok okd]
  constructor
  · intro h
    by_cases h0 : r.length = 0
    · exact List.eq_nil_of_length_eq_zero h0
    · have q := hr.least 0 (by omega) [] (by simp [rowsAt])
      rw [e, h] at q
      cases q
  · intro h
    have q := hr.gives
    rw [h, e] at q
    exact q
/-- 2 -/
theorem f_less (ok : d.Ok) (okd : FlowsOk ds) (hl : ds.length = d.ins.length) : lessR (totM d ds, 1) (lackM d ds) = false := less_of (each_le_whole ok okd hl)
theorem f_by (ok : d.Ok) (okd : FlowsOk ds) (hl : ds.length = d.ins.length) : lessR (mkR ((ds.length : Int) * (lackM d ds).1) (1 * (lackM d ds).2)) (totM d ds, 1) = false := by
  have h1 := whole_le ok okd hl
  have h2 := (lackM_den d ds okd).1
  refine less_of (mkR_ge (show (0 : Int) < 1 by decide) (by omega) ?_)
  show totM d ds * (1 * (lackM d ds).2) ≤ (ds.length : Int) * (lackM d ds).1 * 1
  rw [Int.one_mul, Int.mul_one, Int.mul_comm]
  exact h1
/-- 3, 4 -/
theorem f_balance (ok : d.Ok) (hl : ds.length = d.ins.length) : ∃ t, (d.run ds).getLast? = some t ∧ d.start + d.ins.sum = ((d.run ds).map fun t => t.1 + t.2.1).sum + t.2.2 :=
  run_balance d.cap d.ins ds d.start hl.symm fun e => by
    have := ok.n1
    rw [e] at this
    cases this
theorem f_given (hl : ds.length = d.ins.length) : totM d ds = ds.sum - ((d.run ds).map fun t => t.1).sum := run_given d.cap d.ins ds d.start hl.symm
/-- 5 -/
theorem f_mono (ok : d.Ok) (okd : FlowsOk ds) (b : Bg d d2) : totM d2 ds ≤ totM d ds := (lack_mono ok.c0 b.c d.ins d2.ins ds d.start d2.start ok.s0 b.s b.l b.i okd.i0).1
theorem giv_mono (ok : d.Ok) (b : Bg d d2) {zs : List Int} (hz : ∀ x ∈ zs, 0 ≤ x) (h : givM d zs = true) : givM d2 zs = true := (lack_mono ok.c0 b.c d.ins d2.ins zs d.start d2.start ok.s0 b.s b.l b.i hz).2 h
theorem zeroed_nn (okd : FlowsOk ds) (r : List Nat) : ∀ x ∈ zeroed r ds, 0 ≤ x := fun x hx => by
  obtain ⟨k, hk, rfl⟩ := List.mem_map.mp hx
  rw [List.mem_range] at hk
  show 0 ≤ if k ∈ r then (0 : Int) else ds.getD k 0
  split
  · exact Int.le_refl _
  · rw [List.getD_eq_getElem?_getD, List.getElem?_eq_getElem hk]
    exact okd.i0 _ (List.getElem_mem hk)
theorem f_few (ok : d.Ok) (okd : FlowsOk ds) (b : Bg d d2) {r2 : List Nat} (hr : FewOk d ds r) (hr2 : FewOk d2 ds r2) : r2.length ≤ r.length := by
  by_cases h : r.length < r2.length
  · have q := hr2.least r.length h r hr.mem
    rw [giv_mono ok b (zeroed_nn okd r) hr.gives] at q
    cases q
  · omega
theorem f_least (b : Bg d d2) : lessR (lackM d ds) (lackM d2 ds) = false := by
  obtain ⟨g0, g1⟩ := lackM_ge d ds
  have q0 := g0.1
  refine less_of (lackM_prop (fun x => Ge (lackM d ds) x) g0 fun f l c h1 h2 hc => ?_)
  have k := of_ge_mkR (by omega) (g1 f l c h1 h2 hc)
  refine ge_mkR q0 (by omega) (Int.le_trans (Int.mul_le_mul_of_nonneg_right ?_ (Int.le_of_lt q0)) k)
  rw [water_op, water_op]
  have h3 := take_at_le b.l b.i f (l + 1 - f)
  have h4 := b.c
  have h5 := b.s
  unfold cutI
  split <;> omega
/-- 6 -/
theorem f_max (ok : d.Ok) {M : Int} (hM : ∀ x ∈ ds, x ≤ M) (h0 : 0 ≤ M) : (lackM d ds).1 / (lackM d ds).2 ≤ M := by
  have h : 0 < (lackM d ds).2 ∧ (lackM d ds).1 ≤ M * (lackM d ds).2 := by
    have q : Ge (M, 1) (lackM d ds) := by
      refine lackM_prop (fun x => Ge (M, 1) x) ⟨(show (0 : Int) < 1 by decide), (show (0 : Int) < 1 by decide), by simp; exact h0⟩ fun f l c h1 h2 h3 => ?_
      refine ge_mkR (show (0 : Int) < 1 by decide) (by omega) ?_
      have w0 := (water_bound ok f l).1
      have a1 : topS' ds f l c ≤ (((sortD (cutI ds f (l + 1))).take (c + 1)).length : Int) * M := sum_le fun x hx => hM x (cutI_mem ((sortD_perm _).mem_iff.mp (List.mem_of_mem_take hx)))
      rw [List.length_take, sortD_length, cut_length (by omega), Nat.min_eq_left (by omega)] at a1
      have e : ((c + 1 : Nat) : Int) * M = M * ((c : Int) + 1) := by rw [Int.mul_comm]; push_cast; rfl
      rw [e] at a1
      show _ * (1 : Int) ≤ M * ((c : Int) + 1)
      omega
    obtain ⟨_, q2, q3⟩ := q
    exact ⟨q2, by simpa using q3⟩
  exact Int.ediv_le_of_le_mul h.1 h.2
theorem f_fewM (ok : d.Ok) (okd : FlowsOk ds) (hr : FewOk d ds r) {M : Int} (hM : ∀ x ∈ ds, x ≤ M) : r.length < ds.length ∨ 0 < M := by
  by_cases h : 0 < M
  · exact .inr h
  · refine .inl ?_
    have hz : givM d ds = true := zeroGiv ok.c0 d.ins ds d.start ok.s0 ok.i0 fun x hx => by
      have := hM x hx
      have := okd.i0 x hx
      omega
    have e := (f_fails ok okd hr).mp ((lack_giv ok okd).mpr hz)
    rw [e]
    have := okd.n1
    exact this
end
end Dw

set_option Elab.async false
set_option maxRecDepth 100000
set_option maxHeartbeats 4000000
/-! law. -/
namespace Dw
open PySem PySem.Spec PyProof.Rows L2
theorem Xr.rat {a b : Addr} {H H' : Hp} {K : PySem.W.Frag} {sc : Addr} {ns : List Int} {xs : List V} (x : Xr a H H') (hr : RowSt K H a sc ns) (h : H b = some (.tup xs)) : H' b = some (.tup xs) := by
  obtain ⟨i, z, r, h1, _⟩ := hr
  exact x.tup h1 h
theorem Xr.dam {a p b : Addr} {H H' : Hp} {K : PySem.W.Frag} {sc : Addr} {ns : List Int} {d : Dam} (x : Xr a H H') (hr : RowSt K H a sc ns) (h : DamAt H p b d) : DamAt H' p b d := ⟨x.rat hr h.1, x.rat hr h.2⟩
theorem Xr.tab {a P : Addr} {H H' : Hp} {K : PySem.W.Frag} {sc : Addr} {ns : List Int} (x : Xr a H H') (hr : RowSt K H a sc ns) (h : GxR.TabG H P) : GxR.TabG H' P := by
  obtain ⟨i, z, r, h1, _⟩ := hr
  obtain ⟨ps, g1, g2⟩ := h
  exact ⟨ps, x P _ (fun e => by rw [e, h1] at g1; cases g1) g1, g2⟩
theorem Xr.tabs {a : Addr} {T : Tabs} {H H' : Hp} {K : PySem.W.Frag} {sc : Addr} {ns : List Int} (x : Xr a H H') (hr : RowSt K H a sc ns) (h : TabsOk T H) : TabsOk T H' := ⟨x.tab hr h.flows, x.tab hr h.need, x.tab hr h.total, x.tab hr h.does⟩
theorem ne_same {x y : Bool} (h : x = y) : (!decide (V.bl x = V.bl y)) = false := by subst h; simp
theorem eqv_pair (a b c e : Int) : PyData.eqv (.tuple [.int a, .int b]) (.tuple [.int c, .int e]) = decide ((a, b) = (c, e)) := by
  simp only [PyData.eqv, PyData.eqvAll, Bool.and_true]
  by_cases h1 : a = c
  · by_cases h2 : b = e
    · subst h1 h2
      simp
    · simp [h1, h2]
  · simp [h1]
theorem eqv_row (n : Int) (r : List Nat) (e : n = (r.length : Int)) : PyData.eqv (.tuple [.int n, .tuple ((r.map fun k => ((k : Nat) : Int)).map .int)]) (.tuple [.int 0, .tuple []]) = decide (r = []) := by
  cases r with
  | nil => subst e; simp [PyData.eqv, PyData.eqvAll]
  | cons k r =>
    subst e
    simp only [PyData.eqv, PyData.eqvAll, List.map_cons, Bool.and_true, Bool.and_false]
    rfl
theorem dp_ints {K : PySem.W.Frag} {H : Hp} : ∀ (ns : List Int), DpAll K H (ns.map V.int) (ns.map PyData.int)
  | [] => .nil
  | n :: ns => .cons (.int n) (dp_ints ns)
theorem shaped_row (n : Int) (ns : List Int) : SeqAt.shaped (.tuple [.int n, .tuple (ns.map PyData.int)]) = true := by
  simp [SeqAt.shaped, PyData.canLay0, PyData.canLayAll0, PyData.depth, PyData.depthAll, PySem.W.ke_canLayAll0, PySem.W.ke_depthAll]
theorem mkR_num {t b : Int} (hb : 0 < b) (h0 : 0 ≤ t) (h1 : t < 1000000000) : -(2 ^ 64) < (mkR t b).1 ∧ (mkR t b).1 < 2 ^ 64 := by
  obtain ⟨g0, _⟩ := gcdI_pos (t := t) hb
  have e1 : 0 ≤ (mkR t b).1 := Int.ediv_nonneg h0 (Int.le_of_lt g0)
  have e2 : (mkR t b).1 ≤ t := Int.ediv_le_self _ h0
  have p : ((2 ^ 64) : Int) = 18446744073709551616 := by decide
  omega
def dA (d : Dam) : Dam := { d with cap := mn 1000 (d.cap + 5) }
def dB (d : Dam) : Dam := { d with start := mn d.cap (d.start + 3) }
def dC (d : Dam) : Dam := { d with ins := d.ins.map fun x => mn 1000 (x + 2) }
theorem dA_ok {d : Dam} (ok : d.Ok) : (dA d).Ok ∧ Bg d (dA d) := by
  have h := mn_spec 1000 (d.cap + 5)
  obtain ⟨c0, c1, s0, s1, f0, f1, n1, n7, a0, a1⟩ := ok
  refine ⟨⟨?_, ?_, s0, ?_, f0, ?_, n1, n7, a0, a1⟩, ⟨?_, Int.le_refl _, rfl, fun k x y e1 e2 => ?_⟩⟩
  · show 0 ≤ mn 1000 (d.cap + 5); omega
  · show mn 1000 (d.cap + 5) ≤ 1000; omega
  · show d.start ≤ mn 1000 (d.cap + 5); omega
  · show d.fin ≤ mn 1000 (d.cap + 5); omega
  · show d.cap ≤ mn 1000 (d.cap + 5); omega
  · have e3 : d.ins[k]? = some y := e2
    rw [e1] at e3
    cases e3
    exact Int.le_refl _
theorem dB_ok {d : Dam} (ok : d.Ok) : (dB d).Ok ∧ Bg d (dB d) := by
  have h := mn_spec d.cap (d.start + 3)
  obtain ⟨c0, c1, s0, s1, f0, f1, n1, n7, a0, a1⟩ := ok
  refine ⟨⟨c0, c1, ?_, ?_, f0, f1, n1, n7, a0, a1⟩, ⟨Int.le_refl _, ?_, rfl, fun k x y e1 e2 => ?_⟩⟩
  · show 0 ≤ mn d.cap (d.start + 3); omega
  · show mn d.cap (d.start + 3) ≤ d.cap; omega
  · show d.start ≤ mn d.cap (d.start + 3); omega
  · have e3 : d.ins[k]? = some y := e2
    rw [e1] at e3
    cases e3
    exact Int.le_refl _
theorem dC_ok {d : Dam} (ok : d.Ok) : (dC d).Ok ∧ Bg d (dC d) := by
  obtain ⟨c0, c1, s0, s1, f0, f1, n1, n7, a0, a1⟩ := ok
  have hl : (d.ins.map fun x => mn 1000 (x + 2)).length = d.ins.length := List.length_map ..
  refine ⟨⟨c0, c1, s0, s1, f0, f1, ?_, ?_, fun y hy => ?_, fun y hy => ?_⟩, ⟨Int.le_refl _, Int.le_refl _, hl.symm, fun k x y e1 e2 => ?_⟩⟩
  · show 1 ≤ (d.ins.map fun x => mn 1000 (x + 2)).length; omega
  · show (d.ins.map fun x => mn 1000 (x + 2)).length ≤ 7; omega
  · obtain ⟨x, hx, rfl⟩ := List.mem_map.mp hy
    have h := mn_spec 1000 (x + 2)
    have := a0 x hx
    show 0 ≤ mn 1000 (x + 2); omega
  · obtain ⟨x, hx, rfl⟩ := List.mem_map.mp hy
    have h := mn_spec 1000 (x + 2)
    show mn 1000 (x + 2) ≤ 1000; omega
  · have e3 : (d.ins.map fun x => mn 1000 (x + 2))[k]? = some y := e2
    rw [List.getElem?_map, e1] at e3
    have e4 : mn 1000 (x + 2) = y := Option.some.inj e3
    have h := mn_spec 1000 (x + 2)
    have := a1 x (List.mem_of_getElem? e1)
    omega
section
variable {K : PySem.W.Frag}
abbrev rMn : List V → Hp → VK → Prop := fun xs H Q => ∃ i j, xs = [.int i, .int j] ∧ Q (.int (if j < i then j else i)) H
theorem el_A {x0 x1 x3 x4 x5 x6 x7 x8 x9 x10 x11 : Option V} {H : Hp} {Q : VK} {p b : Addr} {d : Dam} (hd : DamAt H p b d) (q : ∀ u H', Xt H H' → DamAt H' u b (dA d) → Q (.ref u) H') :
    tOp (rCatA K) (tTup (tCons (tCB rMn (tCons (tC (.int 1000)) (tCons (tOp (rI0 fun i j => .int (i + j)) (tOp (rIxT K) (tVar 2) (tC (.int 0))) (tC (.int 5))) tNil))) tNil)) (tSl (rSlA K) (tVar 2) (tPart (tC (.int 1))) tNoPart)
      [x0, x1, some (.ref p), x3, x4, x5, x6, x7, x8, x9, x10, x11] H Q := by
  have i0 : atI [V.int d.cap, .int d.start, .int d.fin, .ref b] 0 = some (.int d.cap) := atI_nat (j := 0) rfl
  refine ⟨.ref p, rfl, p, _, 0, _, rfl, rfl, SqT.of hd.1, i0, d.cap, 5, rfl, rfl, 1000, _, rfl, (by show 1 ≤ sizeLine; decide), fun t1 ht1 => ?_⟩
  have y1 : Xt H (upd H t1 (.tup [.int (mn 1000 (d.cap + 5))])) := Xt.upd ht1 _
  have k1 : (upd H t1 (.tup [.int (mn 1000 (d.cap + 5))])) t1 = some (.tup [.int (mn 1000 (d.cap + 5))]) := upd_same
  refine ⟨.ref p, rfl, 1, rfl, p, _, rfl, SqT.of (y1.tup hd.1), (fun hw => absurd hw (by show ¬ (HT.sIx 4 0 (some 1) = 0 ∧ HT.sIx 4 4 none = 4); decide)), fun _ t2 ht2 => ?_⟩
  have y2 := y1.trans (Xt.upd ht2 (.tup (cutV [V.int d.cap, .int d.start, .int d.fin, .ref b] (some 1) none)))
  have k2 := (Xt.upd ht2 (.tup (cutV [V.int d.cap, .int d.start, .int d.fin, .ref b] (some 1) none))).tup k1
  refine ⟨t1, t2, _, _, rfl, rfl, SqT.of k2, SqT.of upd_same, (by show 1 + 3 ≤ sizeLine; decide), (fun z => by cases z), (fun _ z => by cases z), fun _ _ u1 hu1 => ?_⟩
  have y3 := y2.trans (Xt.upd hu1 (.tup ([.int (mn 1000 (d.cap + 5))] ++ cutV [V.int d.cap, .int d.start, .int d.fin, .ref b] (some 1) none)))
  exact q u1 _ y3 ⟨upd_same, y3.tup hd.2⟩
theorem el_B {x0 x1 x3 x4 x5 x6 x7 x8 x9 x10 x11 : Option V} {H : Hp} {Q : VK} {p b : Addr} {d : Dam} (hd : DamAt H p b d) (q : ∀ u H', Xt H H' → DamAt H' u b (dB d) → Q (.ref u) H') :
    tOp (rCatA K) (tTup (tCons (tOp (rIxT K) (tVar 2) (tC (.int 0))) (tCons (tCB rMn (tCons (tOp (rIxT K) (tVar 2) (tC (.int 0))) (tCons (tOp (rI0 fun i j => .int (i + j)) (tOp (rIxT K) (tVar 2) (tC (.int 1))) (tC (.int 3))) tNil))) tNil))) (tSl (rSlA K) (tVar 2) (tPart (tC (.int 2))) tNoPart)
      [x0, x1, some (.ref p), x3, x4, x5, x6, x7, x8, x9, x10, x11] H Q := by
  have i0 : atI [V.int d.cap, .int d.start, .int d.fin, .ref b] 0 = some (.int d.cap) := atI_nat (j := 0) rfl
  have i1 : atI [V.int d.cap, .int d.start, .int d.fin, .ref b] 1 = some (.int d.start) := atI_nat (j := 1) rfl
  refine ⟨.ref p, rfl, p, _, 0, _, rfl, rfl, SqT.of hd.1, i0, .ref p, rfl, p, _, 0, _, rfl, rfl, SqT.of hd.1, i0, .ref p, rfl, p, _, 1, _, rfl, rfl, SqT.of hd.1, i1, d.start, 3, rfl, rfl, d.cap, _, rfl, (by show 2 ≤ sizeLine; decide), fun t1 ht1 => ?_⟩
  have y1 : Xt H (upd H t1 (.tup [.int d.cap, .int (mn d.cap (d.start + 3))])) := Xt.upd ht1 _
  have k1 : (upd H t1 (.tup [.int d.cap, .int (mn d.cap (d.start + 3))])) t1 = some (.tup [.int d.cap, .int (mn d.cap (d.start + 3))]) := upd_same
  refine ⟨.ref p, rfl, 2, rfl, p, _, rfl, SqT.of (y1.tup hd.1), (fun hw => absurd hw (by show ¬ (HT.sIx 4 0 (some 2) = 0 ∧ HT.sIx 4 4 none = 4); decide)), fun _ t2 ht2 => ?_⟩
  have y2 := y1.trans (Xt.upd ht2 (.tup (cutV [V.int d.cap, .int d.start, .int d.fin, .ref b] (some 2) none)))
  have k2 := (Xt.upd ht2 (.tup (cutV [V.int d.cap, .int d.start, .int d.fin, .ref b] (some 2) none))).tup k1
  refine ⟨t1, t2, _, _, rfl, rfl, SqT.of k2, SqT.of upd_same, (by show 2 + 2 ≤ sizeLine; decide), (fun z => by cases z), (fun _ z => by cases z), fun _ _ u1 hu1 => ?_⟩
  have y3 := y2.trans (Xt.upd hu1 (.tup ([.int d.cap, .int (mn d.cap (d.start + 3))] ++ cutV [V.int d.cap, .int d.start, .int d.fin, .ref b] (some 2) none)))
  exact q u1 _ y3 ⟨upd_same, y3.tup hd.2⟩
theorem el_C {x0 x1 x3 x4 x5 x6 x7 x8 x9 x10 x11 : Option V} {H : Hp} {Q : VK} {p b : Addr} {d : Dam} (hd : DamAt H p b d) (ok : d.Ok) (q : ∀ u b' H', Xt H H' → DamAt H' u b' (dC d) → Q (.ref u) H') :
    tOp (rCatA K) (tSl (rSlA K) (tVar 2) tNoPart (tPart (tC (.int 3)))) (tTup (tCons (tCB (fun xs H Q => ∃ p ys, xs = [V.ref p] ∧ (SqL K H p ys ∧ (∀ l, H l = none → Q (.ref l) (upd H l (.tup ys))) ∨ SqT K H p ys ∧ Q (.ref p) H)) (tCons (tLc (iTup K (tOp (rIxT K) (tVar 2) (tC (.int 3)))) (gName 11) tYes (tCB rMn (tCons (tC (.int 1000)) (tCons (tOp (rI0 fun i j => .int (i + j)) (tVar 11) (tC (.int 2))) tNil))) [11]) tNil)) tNil))
      [x0, x1, some (.ref p), x3, x4, x5, x6, x7, x8, x9, x10, x11] H Q := by
  have i3 : atI [V.int d.cap, .int d.start, .int d.fin, .ref b] 3 = some (.ref b) := atI_nat (j := 3) rfl
  refine ⟨.ref p, rfl, 3, rfl, p, _, rfl, SqT.of hd.1, (fun hw => absurd hw (by show ¬ (HT.sIx 4 0 none = 0 ∧ HT.sIx 4 4 (some 3) = 4); decide)), fun _ t1 ht1 => ?_⟩
  have y1 : Xt H (upd H t1 (.tup (cutV [V.int d.cap, .int d.start, .int d.fin, .ref b] none (some 3)))) := Xt.upd ht1 _
  have k1 : (upd H t1 (.tup (cutV [V.int d.cap, .int d.start, .int d.fin, .ref b] none (some 3)))) t1 = some (.tup [.int d.cap, .int d.start, .int d.fin]) := upd_same
  generalize upd H t1 (.tup (cutV [V.int d.cap, .int d.start, .int d.fin, .ref b] none (some 3))) = H1 at y1 k1 ⊢
  refine ⟨.ref p, rfl, p, _, 3, _, rfl, rfl, SqT.of (y1.tup hd.1), i3, b, rfl, ⟨_, SqT.of (y1.tup hd.2)⟩, fun D hD => ?_⟩
  refine it_tup (fun i H' => Xt H1 H' ∧ H' D = some (.lst (((d.ins.take i).map fun x => mn 1000 (x + 2)).map V.int))) ⟨Xt.upd hD _, upd_same⟩ (fun i H' _ ⟨x, _⟩ => SqT.of ((y1.trans x).tup hd.2)) ?_ ?_
  · rintro i y H' hi ⟨x, hD'⟩
    obtain ⟨v, hv, rfl⟩ := map_at hi
    refine ⟨rfl, .int v, rfl, v, 2, rfl, rfl, 1000, v + 2, rfl, _, hD', ?_, Xt.updOld x hD _, ?_⟩
    · rw [List.length_map, List.length_map, List.length_take]
      have := ok.n7
      exact Nat.lt_of_lt_of_le (show _ < 8 by omega) (by decide)
    · rw [upd_same, List.take_add_one, hv, List.map_append, List.map_append]
      rfl
  · rintro H2 ⟨x2, hD2⟩
    rw [List.length_map, List.take_length] at hD2
    refine ⟨D, _, rfl, .inl ⟨SqL.of hD2, fun b' hb' => ?_⟩⟩
    have y3 := y1.trans (x2.trans (Xt.upd hb' (.tup ((d.ins.map fun x => mn 1000 (x + 2)).map V.int))))
    have k3 := (x2.trans (Xt.upd hb' (.tup ((d.ins.map fun x => mn 1000 (x + 2)).map V.int)))).tup k1
    have j3 : (upd H2 b' (.tup ((d.ins.map fun x => mn 1000 (x + 2)).map V.int))) b' = some (.tup ((d.ins.map fun x => mn 1000 (x + 2)).map V.int)) := upd_same
    generalize upd H2 b' (.tup ((d.ins.map fun x => mn 1000 (x + 2)).map V.int)) = H3 at y3 k3 j3 ⊢
    refine ⟨(by show 1 ≤ sizeLine; decide), fun t2 ht2 => ?_⟩
    refine ⟨t1, t2, _, _, rfl, rfl, SqT.of ((Xt.upd ht2 (.tup [.ref b'])).tup k3), SqT.of upd_same, (by show 3 + 1 ≤ sizeLine; decide), (fun z => by cases z), (fun _ z => by cases z), fun _ _ u hu => ?_⟩
    have y5 := (Xt.upd ht2 (.tup [.ref b'])).trans (Xt.upd hu (.tup ([V.int d.cap, .int d.start, .int d.fin] ++ [.ref b'])))
    exact q u b' _ (y3.trans y5) ⟨upd_same, y5.tup j3⟩
end
section
variable {P : Program} {w : World} {K : PySem.W.Frag} {mg : Str → Option Value} {base : Heap}
/-- the module, as the law wants it -/
structure Lm (P : Program) (w : World) (K : PySem.W.Frag) (mg : Str → Option Value) (base : Heap) (T : Tabs) : Prop where
  ldam : ∀ sc ns, Cl P w K mg base 4 "_law_dam" ["_law_row", "_law_most"] (spLDam K sc ns)
  ldem : ∀ sc ns, Cl P w K mg base 4 "_law_demands" ["_law_row", "_law_many"] (spLDem K sc ns)
  total : Cl P w K mg base 5 "total_lack" ["dam", "demands"] (spTotal T)
  least : Cl P w K mg base 5 "least_lack" ["dam", "demands"] (spLeast T)
  fewest : Cl P w K mg base 5 "fewest_failures" ["dam", "demands"] (spFewest T)
  run : Cl P w K mg base 4 "run" ["dam", "demands"] (spRun T)
  less : Cl P w K mg base 1 "_law_less" ["_law_one", "_law_other"] spLess
  by_ : Cl P w K mg base 2 "_law_by" ["_law_one", "_law_other"] spLBy
  len : mg "len" = none
  tuple : mg "tuple" = none
  sum : mg "sum" = none
  min : mg "min" = none
  max : mg "max" = none
def NL : List Str := ["_law_script", "_law_row", "_law_dam_here", "_law_many", "_law_demands_here", "_law_whole", "_law_each", "_law_fails", "_law_months", "_law_more", "_law_other", "_law_one"]
def spLaw (T : Tabs) : Sp := fun vs H Q _ => ∃ (sc : Addr) (ns : List Int), vs = [.ref sc] ∧ SqL K H sc (ns.map V.int) ∧ TabsOk T H ∧ ∀ H', Q (.bl true) H'
theorem ok_law {f : Addr} {fd : FuncData} {k : Nat} {T : Tabs} (F : Fun K "law" "law" sLaw f fd) (M : Lm P w K mg base T) : FnOk P w K mg base CX0 (k + 6) f fd ["_law_script"] (spLaw (K := K) T) := by
  refine F.ok scLaw (fun vs H Q E h => ?_) (fun cdv A outer s H vs Q E hr h => ?_)
  · obtain ⟨sc, ns, rfl, _⟩ := h
    rfl
  · obtain ⟨sc, ns, rfl, hsc, hT, q⟩ := h
    refine ⟨_, pss_cons (ps_set (i := 1) scLaw.nd rfl (.inl rfl) (pe_lst (pa_cons (pv 0) (pa_cons pe_int (pa_cons pe_int (pa_cons pe_int pa_nil))))))
      (pss_cons (ps_set (i := 2) scLaw.nd rfl (.inl rfl) (pe_cl (M.ldam sc ns) hr (by omega) (by rfl) (pa_cons (pv 1) (pa_cons pe_int pa_nil))))
      (pss_cons (ps_set (i := 3) scLaw.nd rfl (.inl rfl) (pe_callB call_len_seq (by rfl) M.len PySem.boot_len (pa_cons (pe_ix ix_tup (pv 2) pe_int (fun _ _ => rfl)) pa_nil)))
      (pss_cons (ps_set (i := 4) scLaw.nd rfl (.inl rfl) (pe_cl (M.ldem sc ns) hr (by omega) (by rfl) (pa_cons (pv 1) (pa_cons (pv 3) pa_nil))))
      (pss_cons (ps_par3 (i := 5) (j := 6) (l := 7) (by rfl) scLaw.nd rfl rfl rfl (by decide) (by decide) (by decide) rfl rfl rfl (pa_cons (pe_cl M.total hr (by omega) (by rfl) (pa_cons (pv 2) (pa_cons (pv 4) pa_nil))) (pa_cons (pe_cl M.least hr (by omega) (by rfl) (pa_cons (pv 2) (pa_cons (pv 4) pa_nil))) (pa_cons (pe_cl M.fewest hr (by omega) (by rfl) (pa_cons (pv 2) (pa_cons (pv 4) pa_nil))) pa_nil))) (by rfl))
      (pss_cons (ps_if (PW.pt (pw_or (pt_cmpR op_ne (pe_cmpR op_eq (pv 5) pe_int (nomark _)) (pe_cmpR (op_eqD hr.units) (pv 6) (pe_tup (pa_cons pe_int (pa_cons pe_int pa_nil))) (nomark _)) (nomark _))
          (pw_or1 (pt_cmpR op_ne (pe_cmpR op_eq (pv 5) pe_int (nomark _)) (pe_cmpR (op_eqD hr.units) (pv 7) (pe_tup (pa_cons pe_int (pa_cons (pe_tup pa_nil) pa_nil))) (nomark _)) (nomark _))))) (pss_one (ps_ret pe_bl)) pss_nil)
      (pss_cons (ps_if (PW.pt (pw_or (pt_val (pe_cl M.less hr (by omega) (by rfl) (pa_cons (pe_tup (pa_cons (pv 5) (pa_cons pe_int pa_nil))) (pa_cons (pv 6) pa_nil))))
          (pw_or1 (pt_val (pe_cl M.less hr (by omega) (by rfl) (pa_cons (pe_cl M.by_ hr (by omega) (by rfl) (pa_cons (pe_tup (pa_cons (pv 3) (pa_cons pe_int pa_nil))) (pa_cons (pv 6) pa_nil))) (pa_cons (pe_tup (pa_cons (pv 5) (pa_cons pe_int pa_nil))) pa_nil))))))) (pss_one (ps_ret pe_bl)) pss_nil)
      (pss_cons (ps_set (i := 8) scLaw.nd rfl (.inl rfl) (pe_cl M.run hr (by omega) (by rfl) (pa_cons (pv 2) (pa_cons (pv 4) pa_nil))))
      (pss_cons (ps_if (pt_cmpR op_ne (pe_op op_add (pe_ix ix_tup (pv 2) pe_int (fun _ _ => rfl)) (pe_callB (cr_sumT rfl) (by rfl) M.sum bSUM (pa_cons (pe_ix ix_tup (pv 2) pe_int (fun _ _ => rfl)) pa_nil)))
          (pe_op op_add (pe_callB (cr_sum rfl) (by rfl) M.sum bSUM (pa_cons (pe_lc (own := [("_law_one", 11)]) (g := gName 11) (tt := tYes) (te := tOp (rI0 fun i j => .int (i + j)) (tOp (rIxT K) (tVar 11) (tC (.int 0))) (tOp (rIxT K) (tVar 11) (tC (.int 1)))) rfl scLaw.nd (pi_tup (pv 8)) (blkOk_by (N := NL) (sc := defScope sLaw) (by decide +kernel))
            (fun _ _ _ _ _ => pg_name (i := 11) scLaw.nd rfl (.inl rfl)) (fun _ _ _ _ _ => pts_nil) (fun _ _ _ _ _ => pe_op op_add (pe_ix ix_tup (pv 11) pe_int (fun _ _ => rfl)) (pe_ix ix_tup (pv 11) pe_int (fun _ _ => rfl)))) pa_nil))
            (pe_ix ix_tup (pe_ix ix_tup (pv 8) (pe_un un_neg pe_int) (fun _ _ => rfl)) pe_int (fun _ _ => rfl))) (nomark _)) (pss_one (ps_ret pe_bl)) pss_nil)
      (pss_cons (ps_if (pt_cmpR op_ne (pv 5) (pe_op op_sub (pe_callB (cr_sumT rfl) (by rfl) M.sum bSUM (pa_cons (pv 4) pa_nil))
          (pe_callB (cr_sum rfl) (by rfl) M.sum bSUM (pa_cons (pe_lc (own := [("_law_one", 11)]) (g := gName 11) (tt := tYes) (te := tOp (rIxT K) (tVar 11) (tC (.int 0))) rfl scLaw.nd (pi_tup (pv 8)) (blkOk_by (N := NL) (sc := defScope sLaw) (by decide +kernel))
            (fun _ _ _ _ _ => pg_name (i := 11) scLaw.nd rfl (.inl rfl)) (fun _ _ _ _ _ => pts_nil) (fun _ _ _ _ _ => pe_ix ix_tup (pv 11) pe_int (fun _ _ => rfl))) pa_nil))) (nomark _)) (pss_one (ps_ret pe_bl)) pss_nil)
      (pss_cons (ps_set (i := 9) scLaw.nd rfl (.inl rfl) (pe_lst (pa_cons (pe_op op_catA (pe_tup (pa_cons (pe_callB (call_min2 rfl) (by rfl) M.min bMIN (pa_cons pe_int (pa_cons (pe_op op_add (pe_ix ix_tup (pv 2) pe_int (fun _ _ => rfl)) pe_int) pa_nil))) pa_nil)) (pe_slice sl_tupA (pv 2) (po_some pe_int) po_none))
          (pa_cons (pe_op op_catA (pe_tup (pa_cons (pe_ix ix_tup (pv 2) pe_int (fun _ _ => rfl)) (pa_cons (pe_callB (call_min2 rfl) (by rfl) M.min bMIN (pa_cons (pe_ix ix_tup (pv 2) pe_int (fun _ _ => rfl)) (pa_cons (pe_op op_add (pe_ix ix_tup (pv 2) pe_int (fun _ _ => rfl)) pe_int) pa_nil))) pa_nil))) (pe_slice sl_tupA (pv 2) (po_some pe_int) po_none))
          (pa_cons (pe_op op_catA (pe_slice sl_tupA (pv 2) po_none (po_some pe_int)) (pe_tup (pa_cons (pe_callTy call_tuple_of (by rfl) M.tuple bTUP (pa_cons
            (pe_lc (own := [("_law_one", 11)]) (g := gName 11) (tt := tYes) (te := tCB (fun xs H Q => ∃ i j, xs = [.int i, .int j] ∧ Q (.int (if j < i then j else i)) H) (tCons (tC (.int 1000)) (tCons (tOp (rI0 fun i j => .int (i + j)) (tVar 11) (tC (.int 2))) tNil))) rfl scLaw.nd (pi_tup (pe_ix ix_tup (pv 2) pe_int (fun _ _ => rfl))) (blkOk_by (N := NL) (sc := defScope sLaw) (by decide +kernel))
              (fun _ _ _ _ _ => pg_name (i := 11) scLaw.nd rfl (.inl rfl)) (fun _ _ _ _ _ => pts_nil) (fun _ _ _ _ _ => pe_callB (call_min2 rfl) (by rfl) M.min bMIN (pa_cons pe_int (pa_cons (pe_op op_add (pv 11) pe_int) pa_nil)))) pa_nil)) pa_nil))) pa_nil)))))
      (pss_cons (ps_for PassesOwn.never rfl (pi_list (pv 9)) (pg_name (i := 10) scLaw.nd rfl (.inl rfl))
        (pss_cons (ps_if (pt_cmpR op_gt (pe_cl M.total hr (by omega) (by rfl) (pa_cons (pv 10) (pa_cons (pv 4) pa_nil))) (pv 5) (nomark _)) (pss_one (ps_ret pe_bl)) pss_nil)
        (pss_cons (ps_if (pt_val (pe_cl M.less hr (by omega) (by rfl) (pa_cons (pv 6) (pa_cons (pe_cl M.least hr (by omega) (by rfl) (pa_cons (pv 10) (pa_cons (pv 4) pa_nil))) pa_nil)))) (pss_one (ps_ret pe_bl)) pss_nil)
        (pss_one (ps_if (pt_cmpR op_gt (pe_ix ix_tup (pe_cl M.fewest hr (by omega) (by rfl) (pa_cons (pv 10) (pa_cons (pv 4) pa_nil))) pe_int (fun _ _ => rfl)) (pe_ix ix_tup (pv 7) pe_int (fun _ _ => rfl)) (nomark _)) (pss_one (ps_ret pe_bl)) pss_nil)))))
      (pss_one (ps_ret (pe_and (pe_cmpR op_ge (pe_callB (cr_maxT rfl) (by rfl) M.max bMAX (pa_cons (pv 4) pa_nil)) (pe_op op_fdiv (pe_ix ix_tup (pv 6) pe_int (fun _ _ => rfl)) (pe_ix ix_tup (pv 6) pe_int (fun _ _ => rfl))) (nomark _))
        (pe_one (pe_or (pe_cmpR op_lt (pe_ix ix_tup (pv 7) pe_int (fun _ _ => rfl)) (pv 3) (nomark _)) (pe_one (pe_cmpR op_gt (pe_callB (cr_maxT rfl) (by rfl) M.max bMAX (pa_cons (pv 4) pa_nil)) pe_int (nomark _))))))))))))))))))), ?_⟩
    refine ⟨.ref sc, rfl, (by show 4 ≤ sizeLine; decide), fun a ha => ?_⟩
    have hrow : RowSt K (upd H a (.lst [.ref sc, .int 0, .int 4450, .int 0])) a sc ns := ⟨0, 4450, 0, upd_same, Int.le_refl _, (Xt.upd ha _).seqL hsc⟩
    have hT1 : TabsOk T (upd H a (.lst [.ref sc, .int 0, .int 4450, .int 0])) := hT.xt (Xt.upd ha _)
    generalize upd H a (.lst [.ref sc, .int 0, .int 4450, .int 0]) = H1 at hrow hT1 ⊢
    refine ⟨.ref a, rfl, a, 7, rfl, ⟨by decide, by decide⟩, hrow, fun H2 p b d x2 r2 hd2 ok => ?_⟩
    have i0 : atI [V.int d.cap, .int d.start, .int d.fin, .ref b] 0 = some (.int d.cap) := atI_nat (j := 0) rfl
    have i1 : atI [V.int d.cap, .int d.start, .int d.fin, .ref b] 1 = some (.int d.start) := atI_nat (j := 1) rfl
    have i3 : atI [V.int d.cap, .int d.start, .int d.fin, .ref b] 3 = some (.ref b) := atI_nat (j := 3) rfl
    refine ⟨.ref p, rfl, p, _, 3, _, rfl, rfl, SqT.of hd2.1, i3, b, _, rfl, .inr (SqT.of hd2.2), ?_⟩
    have en : ((d.ins.map V.int).length : Int) = (d.ins.length : Int) := by rw [List.length_map]
    rw [en]
    refine ⟨.ref a, rfl, .int (d.ins.length : Int), rfl, a, d.ins.length, rfl, ⟨ok.n1, ok.n7⟩, r2, fun H3 c ds x3 r3 hc okd hl => ?_⟩
    have hd3 := x3.dam r2 hd2
    have hT3 := x3.tabs r2 (x2.tabs hrow hT1)
    refine ⟨.ref p, rfl, .ref c, rfl, p, b, c, d, ds, rfl, hd3, ok, hc, okd, hl, hT3, fun H4 x4 => ?_⟩
    refine ⟨.ref p, rfl, .ref c, rfl, p, b, c, d, ds, rfl, hd3.xt x4, ok, hc.xt x4, okd, hl, hT3.xt x4, fun H5 e x5 _ hrat5 => ?_⟩
    have x35 := x4.trans x5
    refine ⟨.ref p, rfl, .ref c, rfl, p, b, c, d, ds, rfl, hd3.xt x35, ok, hc.xt x35, okd, hl, hT3.xt x35, fun H6 fa qa r x6 _ hfa hqa hfew => ?_⟩
    have x36 := x35.trans x6
    have hd6 := hd3.xt x36
    have hc6 := hc.xt x36
    have hT6 := hT3.xt x36
    have hrat6 := hrat5.xt x6
    have fE := f_each ok okd hl
    have fF := f_fails ok okd hfew
    have fL := f_less ok okd hl
    have fB := f_by ok okd hl
    have bE := lackM_bound ok okd
    have bD := lackM_den d ds okd
    have bW := whole_bound ok okd
    have fBal := f_balance ok hl
    have fG := f_given hl
    have p64 : ((2 ^ 64) : Int) = 18446744073709551616 := by decide
    have e0 : 0 ≤ (lackM d ds).1 := by have := (lackM_ge d ds).1.2.2; simp at this; exact this
    clear x36 x35 x6 x5 x4 hT3 hd3 x3 x2 hd2 hT1 hrow hsc hrat5
    refine ⟨_, _, _, rfl, ?_⟩
    -- the first question
    refine ⟨.int (totM d ds), rfl, rfl, .ref e, rfl, (by show 2 ≤ sizeLine; decide), fun t1 ht1 => ?_⟩
    have x7 : Xt H6 (upd H6 t1 (.tup [.int 0, .int 1])) := Xt.upd ht1 _
    have ht1s : (upd H6 t1 (.tup [.int 0, .int 1])) t1 = some (.tup [.int 0, .int 1]) := upd_same
    generalize upd H6 t1 (.tup [.int 0, .int 1]) = H7 at x7 ht1s ⊢
    refine ⟨.tuple [.int (lackM d ds).1, .int (lackM d ds).2], .tuple [.int 0, .int 1], .tup (SqT.of (hrat6.xt x7)) (.cons (.int _) (.cons (.int _) .nil)), .tup (SqT.of ht1s) (.cons (.int _) (.cons (.int _) .nil)), rfl, rfl, rfl, _, rfl, ?_⟩
    have c1 : decide (V.int (totM d ds) = V.int 0) = PyData.eqv (.tuple [.int (lackM d ds).1, .int (lackM d ds).2]) (.tuple [.int 0, .int 1]) := by
      rw [eqv_pair]
      refine decide_eq_decide.mpr ?_
      have e1 : V.int (totM d ds) = V.int 0 ↔ totM d ds = 0 := ⟨V.int.inj, fun z => by rw [z]⟩
      rw [e1]
      exact fE
    rw [ne_same c1]
    refine iteF ?_
    refine ⟨.int (totM d ds), rfl, rfl, .ref fa, rfl, (by show 0 ≤ sizeLine; decide), fun t2 ht2 => ?_⟩
    have x8 : Xt H6 (upd H7 t2 (.tup [])) := x7.trans (Xt.upd ht2 _)
    have ht2s : (upd H7 t2 (.tup [])) t2 = some (.tup []) := upd_same
    generalize upd H7 t2 (.tup []) = H8 at x8 ht2s ⊢
    refine ⟨(by show 2 ≤ sizeLine; decide), fun t3 ht3 => ?_⟩
    have x9 : Xt H6 (upd H8 t3 (.tup [.int 0, .ref t2])) := x8.trans (Xt.upd ht3 _)
    have ht2n : (upd H8 t3 (.tup [.int 0, .ref t2])) t2 = some (.tup []) := (Xt.upd ht3 _).tup ht2s
    have ht3s : (upd H8 t3 (.tup [.int 0, .ref t2])) t3 = some (.tup [.int 0, .ref t2]) := upd_same
    generalize upd H8 t3 (.tup [.int 0, .ref t2]) = H9 at x9 ht2n ht3s ⊢
    have hq9 : SqT K H9 qa ((r.map fun k => ((k : Nat) : Int)).map V.int) := by
      rw [List.map_map]
      exact SqT.of (x9.tup hqa)
    refine ⟨.tuple [.int (r.length : Int), .tuple ((r.map fun k => ((k : Nat) : Int)).map .int)], .tuple [.int 0, .tuple []], .tup (SqT.of (x9.tup hfa)) (.cons (.int _) (.cons (.tup hq9 (dp_ints _)) .nil)), .tup (SqT.of ht3s) (.cons (.int _) (.cons (.tup (SqT.of ht2n) .nil) .nil)), shaped_row _ _, rfl, rfl, _, rfl, ?_⟩
    have c2 : decide (V.int (totM d ds) = V.int 0) = PyData.eqv (.tuple [.int (r.length : Int), .tuple ((r.map fun k => ((k : Nat) : Int)).map .int)]) (.tuple [.int 0, .tuple []]) := by
      rw [eqv_row _ _ rfl]
      refine decide_eq_decide.mpr ?_
      have e1 : V.int (totM d ds) = V.int 0 ↔ totM d ds = 0 := ⟨V.int.inj, fun z => by rw [z]⟩
      rw [e1]
      exact fF
    rw [ne_same c2]
    refine iteF ?_
    clear c1 c2 hq9 x7 x8 ht1s ht2s ht2n ht3s
    -- the second question
    have bE2 := bE.lo
    have bW2 : -(2 ^ 64) < totM d ds ∧ totM d ds < 2 ^ 64 := by omega
    refine ⟨.int (totM d ds), rfl, (by show 2 ≤ sizeLine; decide), fun t4 ht4 => ?_⟩
    have x10 : Xt H6 (upd H9 t4 (.tup [.int (totM d ds), .int 1])) := x9.trans (Xt.upd ht4 _)
    have ht4s : (upd H9 t4 (.tup [.int (totM d ds), .int 1])) t4 = some (.tup [.int (totM d ds), .int 1]) := upd_same
    generalize upd H9 t4 (.tup [.int (totM d ds), .int 1]) = H10 at x10 ht4s ⊢
    refine ⟨.ref e, rfl, t4, e, (totM d ds, 1), lackM d ds, rfl, ht4s, hrat6.xt x10, bW2, bE2, _, rfl, ?_⟩
    rw [fL]
    refine iteF ?_
    have n7 := okd.n7
    have n1 := okd.n1
    refine ⟨.int (d.ins.length : Int), rfl, (by show 2 ≤ sizeLine; decide), fun t5 ht5 => ?_⟩
    have x11 : Xt H6 (upd H10 t5 (.tup [.int (d.ins.length : Int), .int 1])) := x10.trans (Xt.upd ht5 _)
    have ht5s : (upd H10 t5 (.tup [.int (d.ins.length : Int), .int 1])) t5 = some (.tup [.int (d.ins.length : Int), .int 1]) := upd_same
    generalize upd H10 t5 (.tup [.int (d.ins.length : Int), .int 1]) = H11 at x11 ht5s ⊢
    have m1 : 0 ≤ (d.ins.length : Int) * (lackM d ds).1 := Int.mul_nonneg (by omega) e0
    have m2 : (d.ins.length : Int) * (lackM d ds).1 ≤ 7 * (lackM d ds).1 := Int.mul_le_mul_of_nonneg_right (by omega) e0
    have bE3 := bE.2
    refine ⟨.ref e, rfl, t5, e, ((d.ins.length : Int), 1), lackM d ds, rfl, ht5s, hrat6.xt x11, ⟨by show -(2 ^ 64) < (d.ins.length : Int); omega, by show (d.ins.length : Int) < 2 ^ 64; omega⟩, ⟨show -(2 ^ 64) < (1 : Int) by decide, show (1 : Int) < 2 ^ 64 by decide⟩, by show 0 < 1 * (lackM d ds).2; omega, by show 1 * (lackM d ds).2 ≤ 1000; omega, fun t6 ht6 => ?_⟩
    have x12 : Xt H6 (upd H11 t6 (.tup [.int (mkR ((d.ins.length : Int) * (lackM d ds).1) (1 * (lackM d ds).2)).1, .int (mkR ((d.ins.length : Int) * (lackM d ds).1) (1 * (lackM d ds).2)).2])) := x11.trans (Xt.upd ht6 _)
    have ht6s : (upd H11 t6 (.tup [.int (mkR ((d.ins.length : Int) * (lackM d ds).1) (1 * (lackM d ds).2)).1, .int (mkR ((d.ins.length : Int) * (lackM d ds).1) (1 * (lackM d ds).2)).2])) t6 = some (.tup [.int (mkR ((d.ins.length : Int) * (lackM d ds).1) (1 * (lackM d ds).2)).1, .int (mkR ((d.ins.length : Int) * (lackM d ds).1) (1 * (lackM d ds).2)).2]) := upd_same
    generalize upd H11 t6 (.tup [.int (mkR ((d.ins.length : Int) * (lackM d ds).1) (1 * (lackM d ds).2)).1, .int (mkR ((d.ins.length : Int) * (lackM d ds).1) (1 * (lackM d ds).2)).2]) = H12 at x12 ht6s ⊢
    refine ⟨.int (totM d ds), rfl, (by show 2 ≤ sizeLine; decide), fun t7 ht7 => ?_⟩
    have x13 : Xt H6 (upd H12 t7 (.tup [.int (totM d ds), .int 1])) := x12.trans (Xt.upd ht7 _)
    have ht6n := (Xt.upd ht7 (.tup [.int (totM d ds), .int 1])).tup ht6s
    have ht7s : (upd H12 t7 (.tup [.int (totM d ds), .int 1])) t7 = some (.tup [.int (totM d ds), .int 1]) := upd_same
    generalize upd H12 t7 (.tup [.int (totM d ds), .int 1]) = H13 at x13 ht6n ht7s ⊢
    refine ⟨t6, t7, mkR ((d.ins.length : Int) * (lackM d ds).1) (1 * (lackM d ds).2), (totM d ds, 1), rfl, ht6n, ht7s, mkR_num (by omega) m1 (by omega), bW2, _, rfl, ?_⟩
    rw [← hl, fB]
    refine iteF ?_
    clear x9 x10 x11 x12 ht4s ht5s ht6s ht6n ht7s
    -- the months
    refine ⟨.ref p, rfl, .ref c, rfl, p, b, c, d, ds, rfl, hd6.xt x13, ok, hc6.xt x13, okd, hl, hT6.xt x13, fun H14 m x14 _ hmt => ?_⟩
    have x6e : Xt H6 H14 := x13.trans x14
    obtain ⟨rs, hm1, hm2, hm3⟩ := hmt
    have hrl : (d.run ds).length ≤ 7 := by
      unfold Dam.run
      rw [runM_length]
      omega
    have j0 : ∀ (u v z : V), atI [u, v, z] 0 = some u := fun u v z => atI_nat (j := 0) rfl
    have j1 : ∀ (u v z : V), atI [u, v, z] 1 = some v := fun u v z => atI_nat (j := 1) rfl
    have j2 : ∀ (u v z : V), atI [u, v, z] 2 = some z := fun u v z => atI_nat (j := 2) rfl
    have x0 : Xt H14 H14 := Xt.refl _
    refine ⟨.ref p, rfl, p, _, 1, _, rfl, rfl, SqT.of (x6e.tup hd6.1), i1, .ref p, rfl, p, _, 3, _, rfl, rfl, SqT.of (x6e.tup hd6.1), i3, b, d.ins, rfl, SqT.of (x6e.tup hd6.2), d.start, d.ins.sum, rfl, rfl, ?_⟩
    refine ⟨.ref m, rfl, m, rfl, ⟨_, SqT.of hm1⟩, fun D hD => ?_⟩
    refine it_tup (fun i H' => Xt H14 H' ∧ H' D = some (.lst ((((d.run ds).take i).map fun t => t.1 + t.2.1).map V.int))) ⟨Xt.upd hD _, upd_same⟩ (fun i H' _ ⟨x, _⟩ => SqT.of ((x0.trans x).tup hm1)) ?_ ?_
    · rintro i y H' hi ⟨x, hD'⟩
      have hil : i < rs.length := by
        have q1 := (List.getElem?_eq_some_iff.mp hi).1
        rw [List.length_map] at q1
        exact q1
      have er : rs[i]? = some rs[i] := List.getElem?_eq_getElem hil
      have ey : y = .ref rs[i] := by
        rw [List.getElem?_map, er] at hi
        exact (Option.some.inj hi).symm
      subst ey
      have et : (d.run ds)[i]? = some (d.run ds)[i] := List.getElem?_eq_getElem (by omega)
      generalize (d.run ds)[i] = t at et
      have hra := hm3 i _ _ er et
      generalize rs[i] = ra at hra
      have hra' := (x0.trans x).tup hra
      refine ⟨rfl, .ref ra, rfl, ra, _, 0, _, rfl, rfl, SqT.of hra', j0 _ _ _, .ref ra, rfl, ra, _, 1, _, rfl, rfl, SqT.of hra', j1 _ _ _, t.1, t.2.1, rfl, rfl, _, hD', ?_, Xt.updOld x hD _, ?_⟩
      · rw [List.length_map, List.length_map, List.length_take]
        exact Nat.lt_of_lt_of_le (show _ < 8 by omega) (by decide)
      · rw [upd_same, List.take_add_one, et, List.map_append, List.map_append]
        rfl
    rintro H15 ⟨x15, hD'⟩
    rw [List.length_map, hm2, List.take_length] at hD'
    obtain ⟨t, ht, hbal⟩ := fBal
    obtain ⟨ts0, ets⟩ := List.getLast?_eq_some_iff.mp ht
    obtain ⟨rs0, rl, ers⟩ : ∃ rs0 rl, rs = rs0 ++ [rl] := by
      rcases List.eq_nil_or_concat rs with z | ⟨rs0, rl, z⟩
      · rw [z, ets] at hm2
        simp at hm2
      · exact ⟨rs0, rl, by rw [z, List.concat_eq_append]⟩
    have hlen0 : rs0.length = ts0.length := by
      rw [ers, ets] at hm2
      simp at hm2
      exact hm2
    have hlast : H14 rl = some (.tup [.int t.1, .int t.2.1, .int t.2.2]) := hm3 rs0.length rl t (by rw [ers]; simp) (by rw [ets, hlen0]; simp)
    have em : rs.map V.ref = rs0.map V.ref ++ [.ref rl] := by rw [ers, List.map_append]; rfl
    have hm' := x15.tup hm1
    rw [em] at hm'
    refine ⟨D, _, rfl, SqL.of hD', .ref m, rfl, 1, rfl, m, _, _, _, rfl, rfl, SqT.of hm', atI_last _ _, rl, _, 2, _, rfl, rfl, SqT.of (x15.tup hlast), j2 _ _ _, _, t.2.2, rfl, rfl, rfl, _, rfl, iteNS (congrArg V.int hbal) ?_⟩
    clear hm' em hlast hlen0 ers ets hD' hD
    refine ⟨.int (totM d ds), rfl, .ref c, rfl, c, ds, rfl, SqT.of ((x6e.trans x15).tup hc6), .ref m, rfl, m, rfl, ⟨_, SqT.of (x15.tup hm1)⟩, fun D hD => ?_⟩
    refine it_tup (fun i H' => Xt H15 H' ∧ H' D = some (.lst ((((d.run ds).take i).map fun t => t.1).map V.int))) ⟨Xt.upd hD _, upd_same⟩ (fun i H' _ ⟨x, _⟩ => SqT.of ((x15.trans x).tup hm1)) ?_ ?_
    · rintro i y H' hi ⟨x, hD'⟩
      have hil : i < rs.length := by
        have q1 := (List.getElem?_eq_some_iff.mp hi).1
        rw [List.length_map] at q1
        exact q1
      have er : rs[i]? = some rs[i] := List.getElem?_eq_getElem hil
      have ey : y = .ref rs[i] := by
        rw [List.getElem?_map, er] at hi
        exact (Option.some.inj hi).symm
      subst ey
      have et : (d.run ds)[i]? = some (d.run ds)[i] := List.getElem?_eq_getElem (by omega)
      generalize (d.run ds)[i] = t at et
      have hra := hm3 i _ _ er et
      generalize rs[i] = ra at hra
      have hra' := (x15.trans x).tup hra
      refine ⟨rfl, .ref ra, rfl, ra, _, 0, _, rfl, rfl, SqT.of hra', j0 _ _ _, _, hD', ?_, Xt.updOld x hD _, ?_⟩
      · rw [List.length_map, List.length_map, List.length_take]
        exact Nat.lt_of_lt_of_le (show _ < 8 by omega) (by decide)
      · rw [upd_same, List.take_add_one, et, List.map_append, List.map_append]
        rfl
    rintro H16 ⟨x16, hD'⟩
    rw [List.length_map, hm2, List.take_length] at hD'
    refine ⟨D, _, rfl, SqL.of hD', ds.sum, _, rfl, rfl, rfl, _, rfl, iteNS (congrArg V.int fG) ?_⟩
    have x616 := x6e.trans (x15.trans x16)
    clear hD' hD hm3 hm2 hm1 x6e x16 x15 x0 x13 x14
    have hd16 := hd6.xt x616
    have hc16 := hc6.xt x616
    have hT16 := hT6.xt x616
    have hrat16 := hrat6.xt x616
    have hfa16 := x616.tup hfa
    clear x616 hd6 hc6 hT6 hrat6 hfa hqa
    -- the bigger dams
    refine el_A hd16 fun u1 H17 y1 k1 => ?_
    refine el_B (hd16.xt y1) fun u2 H18 y2 k2 => ?_
    refine el_C (hd16.xt (y1.trans y2)) ok fun u3 b3 H19 y3 k3 => ?_
    refine ⟨(by show 3 ≤ sizeLine; decide), fun L hL => ?_⟩
    have yL : Xt H16 (upd H19 L (.lst [.ref u1, .ref u2, .ref u3])) := y1.trans (y2.trans (y3.trans (Xt.upd hL _)))
    have kL : (upd H19 L (.lst [.ref u1, .ref u2, .ref u3])) L = some (.lst [.ref u1, .ref u2, .ref u3]) := upd_same
    have yz : Xt H19 (upd H19 L (.lst [.ref u1, .ref u2, .ref u3])) := Xt.upd hL _
    have k1' := k1.xt (y2.trans (y3.trans yz))
    have k2' := k2.xt (y3.trans yz)
    have k3' := k3.xt yz
    generalize upd H19 L (.lst [.ref u1, .ref u2, .ref u3]) = H20 at yL kL k1' k2' k3' ⊢
    clear yz y1 y2 y3 k1 k2 k3 hL
    have hd20 := hd16.xt yL
    have hc20 := hc16.xt yL
    have hT20 := hT16.xt yL
    have hrat20 := hrat16.xt yL
    have hfa20 := yL.tup hfa16
    clear yL hd16 hc16 hT16 hrat16 hfa16
    have all3 : ∀ (i : Nat) (x : V), ([.ref u1, .ref u2, .ref u3] : List V)[i]? = some x → ∃ u b' d', x = .ref u ∧ DamAt H20 u b' d' ∧ d'.Ok ∧ Bg d d' := fun i x hx => by
      have m : x ∈ ([.ref u1, .ref u2, .ref u3] : List V) := List.mem_of_getElem? hx
      simp only [List.mem_cons, List.not_mem_nil, or_false] at m
      rcases m with e | e | e
      · exact ⟨u1, b, dA d, e, k1', dA_ok ok⟩
      · exact ⟨u2, b, dB d, e, k2', dB_ok ok⟩
      · exact ⟨u3, b3, dC d, e, k3', dC_ok ok⟩
    refine ⟨.ref L, rfl, L, rfl, ⟨_, SqL.of kL⟩, for_list (K := K) (a := L) (xs := [.ref u1, .ref u2, .ref u3]) (fun i σ H' => ∃ (z9 z10 z11 : Option V), σ = [some (.ref sc), some (.ref a), some (.ref p), some (.int (ds.length : Int)), some (.ref c), some (.int (totM d ds)), some (.ref e), some (.ref fa), some (.ref m), z9, z10, z11] ∧ Xt H20 H')
      ⟨_, _, _, rfl, Xt.refl _⟩ (fun i σ H' _ ⟨_, _, _, _, x⟩ => SqL.of (x.lst kL)) ?_ ?_⟩
    · rintro i y σ H' hi ⟨z9, z10, z11, rfl, x⟩
      obtain ⟨u, b', d', rfl, hu, ok', bg⟩ := all3 i y hi
      have hl' : ds.length = d'.ins.length := hl.trans bg.l
      refine ⟨.ref u, rfl, .ref c, rfl, u, b', c, d', ds, rfl, hu.xt x, ok', hc20.xt x, okd, hl', hT20.xt x, fun H21 x21 => ?_⟩
      refine ⟨.int (totM d ds), rfl, totM d' ds, totM d ds, rfl, rfl, _, rfl, ?_⟩
      have g1 := f_mono ok okd bg
      rw [decide_eq_false (show ¬ totM d ds < totM d' ds by omega)]
      refine iteF ?_
      have x2 := x.trans x21
      refine ⟨.ref e, rfl, .ref u, rfl, .ref c, rfl, u, b', c, d', ds, rfl, hu.xt x2, ok', hc20.xt x2, okd, hl', hT20.xt x2, fun H22 e2 x22 _ hrat2 => ?_⟩
      refine ⟨e, e2, lackM d ds, lackM d' ds, rfl, hrat20.xt (x2.trans x22), hrat2, bE2, (lackM_bound ok' okd).lo, _, rfl, ?_⟩
      rw [f_least bg]
      refine iteF ?_
      have x3 := x2.trans x22
      refine ⟨.ref u, rfl, .ref c, rfl, u, b', c, d', ds, rfl, hu.xt x3, ok', hc20.xt x3, okd, hl', hT20.xt x3, fun H23 fp q' r' x23 _ hfp _ hfew' => ?_⟩
      refine ⟨fp, _, 0, .int (r'.length : Nat), rfl, rfl, SqT.of hfp, atI_nat (j := 0) rfl, .ref fa, rfl, fa, _, 0, .int (r.length : Nat), rfl, rfl, SqT.of ((x3.trans x23).tup hfa20), atI_nat (j := 0) rfl, (r'.length : Int), (r.length : Int), rfl, rfl, _, rfl, ?_⟩
      have g2 := f_few ok okd bg hfew hfew'
      rw [decide_eq_false (show ¬ (r.length : Int) < (r'.length : Int) by omega)]
      exact iteF ⟨z9, _, _, rfl, x3.trans x23⟩
    · rintro σ H' ⟨z9, z10, z11, rfl, x⟩
      refine ⟨.ref c, rfl, c, ds, rfl, SqT.of (hc20.xt x), by omega, fun M hM hMx => ?_⟩
      have M0 : 0 ≤ M := okd.i0 M hM
      have g3 := f_max ok hMx M0
      refine ⟨.ref e, rfl, e, _, 0, .int (lackM d ds).1, rfl, rfl, SqT.of (hrat20.xt x), atI_nat (j := 0) rfl, .ref e, rfl, e, _, 1, .int (lackM d ds).2, rfl, rfl, SqT.of (hrat20.xt x), atI_nat (j := 1) rfl, (lackM d ds).1, (lackM d ds).2, rfl, rfl, ⟨bD.1, by omega⟩, M, (lackM d ds).1 / (lackM d ds).2, rfl, rfl, _, rfl, ?_⟩
      rw [decide_eq_true g3]
      refine iteT ⟨.ref fa, rfl, fa, _, 0, .int (r.length : Nat), rfl, rfl, SqT.of (x.tup hfa20), atI_nat (j := 0) rfl, .int (ds.length : Int), rfl, (r.length : Int), (ds.length : Int), rfl, rfl, _, rfl, ?_⟩
      refine ite2 (fun _ => q H') (fun hlt => ?_)
      refine ⟨.ref c, rfl, c, ds, rfl, SqT.of (hc20.xt x), by omega, fun M2 hM2 hMx2 => ?_⟩
      refine ⟨M2, 0, rfl, rfl, ?_⟩
      have hpos : 0 < M2 := by
        rcases f_fewM ok okd hfew hMx2 with z | z
        · exact absurd (decide_eq_true (show (r.length : Int) < (ds.length : Int) by omega)) hlt
        · exact z
      show Q (.bl (decide (0 < M2))) H'
      rw [decide_eq_true hpos]
      exact q H'
end
end Dw

set_option Elab.async false
set_option maxRecDepth 100000
set_option maxHeartbeats 4000000
/-! What the top has written; the end. -/
namespace Dw
open PySem PySem.Spec PyProof.Rows L2
/-- a def as the top leaves it -/
def At (K : PySem.W.Frag) (x : Str) (st : Stmt) : Prop := ∃ (f : Addr) (oc : Value) (od : Option Addr) (kV doc pm : Value) (an : Option Addr) (cd ct : Value) (osl : Array (Option Value)),
  PySem.W.nsIn K mainGlobals x = some (some (.ref f)) ∧ K.lookup f = some ⟨oc, od, .func (PySem.W.fnOf x x (defArgs st) (defBody st) (defScope st) .none kV doc pm an cd ct), osl⟩ ∧ PySem.W.codeIn K cd x = true ∧ PySem.W.keepIn K (.ref f) = true
/-- the same, and its code object's table -/
def AtT (K : PySem.W.Frag) (x : Str) (st : Stmt) : Prop := ∃ (f : Addr) (oc : Value) (od : Option Addr) (kV doc pm : Value) (an : Option Addr) (c : Addr) (ct : Value) (osl : Array (Option Value)) (e : Value) (dd : Option Addr) (vs : Array Value) (sl : Array (Option Value)) (P : Addr),
  PySem.W.nsIn K mainGlobals x = some (some (.ref f)) ∧ K.lookup f = some ⟨oc, od, .func (PySem.W.fnOf x x (defArgs st) (defBody st) (defScope st) .none kV doc pm an (.ref c) ct), osl⟩ ∧ PySem.W.codeIn K (.ref c) x = true ∧ PySem.W.keepIn K (.ref f) = true ∧
  K.lookup c = some ⟨e, dd, .fields vs, sl⟩ ∧ vs[11]? = some (.ref P) ∧ K.lookup P = none
theorem At.mk {K : PySem.W.Frag} {x : Str} {st : Stmt} {f : Addr} {oc : Value} {od : Option Addr} {kV doc pm : Value} {an : Option Addr} {cd ct : Value} {osl : Array (Option Value)}
    (n : PySem.W.nsIn K mainGlobals x = some (some (.ref f))) (l : K.lookup f = some ⟨oc, od, .func (PySem.W.fnOf x x (defArgs st) (defBody st) (defScope st) .none kV doc pm an cd ct), osl⟩) (c : PySem.W.codeIn K cd x = true) (k : PySem.W.keepIn K (.ref f) = true) : At K x st :=
  ⟨f, oc, od, kV, doc, pm, an, cd, ct, osl, n, l, c, k⟩
theorem AtT.mk {K : PySem.W.Frag} {x : Str} {st : Stmt} {f : Addr} {oc : Value} {od : Option Addr} {kV doc pm : Value} {an : Option Addr} {c : Addr} {ct : Value} {osl : Array (Option Value)} {e : Value} {dd : Option Addr} {vs : Array Value} {sl : Array (Option Value)} {P : Addr}
    (n : PySem.W.nsIn K mainGlobals x = some (some (.ref f))) (l : K.lookup f = some ⟨oc, od, .func (PySem.W.fnOf x x (defArgs st) (defBody st) (defScope st) .none kV doc pm an (.ref c) ct), osl⟩) (cc : PySem.W.codeIn K (.ref c) x = true) (k : PySem.W.keepIn K (.ref f) = true)
    (lc : K.lookup c = some ⟨e, dd, .fields vs, sl⟩) (hv : vs[11]? = some (.ref P)) (hP : K.lookup P = none) : AtT K x st :=
  ⟨f, oc, od, kV, doc, pm, an, c, ct, osl, e, dd, vs, sl, P, n, l, cc, k, lc, hv, hP⟩
/-- the tables' objects in the head's heap -/
def TabIs (K : PySem.W.Frag) (mg : Str → Option Value) (h : Heap) (x : Str) : Prop := ∀ (f : Addr) (o : Obj) (fd : FuncData) (c : Addr) (e : Value) (dd : Option Addr) (vs : Array Value) (sl : Array (Option Value)) (P : Addr),
  mg x = some (.ref f) → K.lookup f = some o → o.data = .func fd → fd.code = .ref c → K.lookup c = some ⟨e, dd, .fields vs, sl⟩ → vs[11]? = some (.ref P) → PySem.W.CodeHd h c P ∧ h.get? P = some { cls := .none, data := .fields #[] }
section
variable {K : PySem.W.Frag} {h : Heap} {mg : Str → Option Value}
theorem At.get {x : Str} {st : Stmt} (A : At K x st) (X : K.In h) (G : h.Ns mainGlobals mg) : ∃ (f : Addr) (fd : FuncData) (cd : Value), FunC K x x st f fd cd ∧ mg x = some (.ref f) := by
  obtain ⟨f, oc, od, kV, doc, pm, an, cd, ct, osl, n, l, c, k⟩ := A
  exact ⟨f, _, cd, func_mk (st := st) l c k, PySem.W.mg_of X G n⟩
theorem AtT.get {x : Str} {st : Stmt} (A : AtT K x st) (X : K.In h) (G : h.Ns mainGlobals mg) (T : TabIs K mg h x) :
    ∃ (f : Addr) (fd : FuncData) (c P : Addr), FunC K x x st f fd (.ref c) ∧ mg x = some (.ref f) ∧ PySem.W.CodeHd h c P ∧ h.get? P = some { cls := .none, data := .fields #[] } ∧ K.lookup P = none := by
  obtain ⟨f, oc, od, kV, doc, pm, an, c, ct, osl, e, dd, vs, sl, P, n, l, cc, k, lc, hv, hP⟩ := A
  obtain ⟨t1, t2⟩ := T f _ _ c e dd vs sl P (PySem.W.mg_of X G n) l rfl rfl lc hv
  exact ⟨f, _, c, P, func_mk (st := st) l cc k, PySem.W.mg_of X G n, t1, t2, hP⟩
variable {P : Program} {w : World} {base : Heap}
theorem cl_of {k : Nat} {x : Str} {st : Stmt} {f : Addr} {fd : FuncData} {cd : Value} {ps : List Str} {sp : Sp} (F : FunC K x x st f fd cd) (m : mg x = some (.ref f)) (ok : FnOk P w K mg base CX0 k f fd ps sp)
    (hb : ∀ (kV doc pm : Value) (an : Option Addr) (cdv ct : Value) (us : List Value), us.length = ps.length → bindArgs (PySem.W.fnOf x x (defArgs st) (defBody st) (defScope st) .none kV doc pm an cdv ct) ⟨us, []⟩ = pure (ps.zip us)) : Cl P w K mg base k x ps sp :=
  ⟨f, fd, ok, m, F.kp, F.fun.binds hb⟩

theorem all_mk {l : PySem.W.OpenLaw} {fa : Addr} {k1 k2 k3 : Tok} (X : K.In h) (G : h.Ns mainGlobals mg) (hfa : mg "law" = some (.ref fa)) (T0 : TabIs K mg h "are_flows") (T1 : TabIs K mg h "need_dam") (T2 : TabIs K mg h "total_lack") (T3 : TabIs K mg h "does_give")
    (a0 : At K "ratio" sRatio)
    (a1 : At K "less" sLess)
    (a2 : At K "is_in" sIsIn)
    (a3 : At K "need_demands" sNeedDem)
    (a4 : At K "run_of" sRunOf)
    (a5 : At K "run" sRun)
    (a6 : At K "water_of" sWater)
    (a7 : At K "spans" sSpans)
    (a8 : At K "need_lack" sNeedLack)
    (a9 : At K "open_dam" sOpen)
    (a10 : At K "span_lack" sSpanLack)
    (a11 : At K "lack_of" sLackOf)
    (a12 : At K "least_lack" sLeast)
    (a13 : At K "fewest_failures" sFewest)
    (a14 : At K "_law_taken" sTaken)
    (a15 : At K "_law_pick" sPick)
    (a16 : At K "_law_ratio" sLRatio)
    (a17 : At K "_law_by" sLBy)
    (a18 : At K "_law_less" sLLess)
    (a19 : At K "_law_flow" sLFlow)
    (a20 : At K "_law_dam" sLDam)
    (a21 : At K "_law_demands" sLDem)
    (a22 : At K "law" sLaw)
    (t0 : AtT K "are_flows" sFlows)
    (t1 : AtT K "need_dam" sNeedDam)
    (t2 : AtT K "total_lack" sTotal)
    (t3 : AtT K "does_give" sDoes)
    (z0 : PySem.W.nsIn K mainGlobals "len" = some none)
    (z1 : PySem.W.nsIn K mainGlobals "tuple" = some none)
    (z2 : PySem.W.nsIn K mainGlobals "sum" = some none)
    (z3 : PySem.W.nsIn K mainGlobals "min" = some none)
    (z4 : PySem.W.nsIn K mainGlobals "max" = some none)
    (z5 : PySem.W.nsIn K mainGlobals "zip" = some none)
    (z6 : PySem.W.nsIn K mainGlobals "all" = some none)
    (z7 : PySem.W.nsIn K mainGlobals "range" = some none)
    (z8 : PySem.W.nsIn K mainGlobals "sorted" = some none)
    (z9 : PySem.W.nsIn K mainGlobals "enumerate" = some none)
    (z10 : PySem.W.nsIn K mainGlobals "isinstance" = some none)
    (z11 : PySem.W.nsIn K mainGlobals "int" = some none)
    (z12 : PySem.W.nsIn K mainGlobals "bool" = some none)
    (z13 : PySem.W.nsIn K mainGlobals "abs" = some none)
    (zg : PySem.W.nsIn K mainGlobals "gcd" = some (some (.builtin "math.gcd")))
    (zc : PySem.W.nsIn K mainGlobals "MOST_CAPACITY" = some (some (.int 1000 k1))) (zm : PySem.W.nsIn K mainGlobals "MOST_MONTHS" = some (some (.int 12 k2))) (zf : PySem.W.nsIn K mainGlobals "MOST_FLOW" = some (some (.int 1000 k3))) :
    LamX.LawAtS l w K CX0 6 63 "_law_script" mg fa h := by
  obtain ⟨f0, fd0, cd0, F0, m0⟩ := a0.get X G
  obtain ⟨f1, fd1, cd1, F1, m1⟩ := a1.get X G
  obtain ⟨f2, fd2, cd2, F2, m2⟩ := a2.get X G
  obtain ⟨f3, fd3, cd3, F3, m3⟩ := a3.get X G
  obtain ⟨f4, fd4, cd4, F4, m4⟩ := a4.get X G
  obtain ⟨f5, fd5, cd5, F5, m5⟩ := a5.get X G
  obtain ⟨f6, fd6, cd6, F6, m6⟩ := a6.get X G
  obtain ⟨f7, fd7, cd7, F7, m7⟩ := a7.get X G
  obtain ⟨f8, fd8, cd8, F8, m8⟩ := a8.get X G
  obtain ⟨f9, fd9, cd9, F9, m9⟩ := a9.get X G
  obtain ⟨f10, fd10, cd10, F10, m10⟩ := a10.get X G
  obtain ⟨f11, fd11, cd11, F11, m11⟩ := a11.get X G
  obtain ⟨f12, fd12, cd12, F12, m12⟩ := a12.get X G
  obtain ⟨f13, fd13, cd13, F13, m13⟩ := a13.get X G
  obtain ⟨f14, fd14, cd14, F14, m14⟩ := a14.get X G
  obtain ⟨f15, fd15, cd15, F15, m15⟩ := a15.get X G
  obtain ⟨f16, fd16, cd16, F16, m16⟩ := a16.get X G
  obtain ⟨f17, fd17, cd17, F17, m17⟩ := a17.get X G
  obtain ⟨f18, fd18, cd18, F18, m18⟩ := a18.get X G
  obtain ⟨f19, fd19, cd19, F19, m19⟩ := a19.get X G
  obtain ⟨f20, fd20, cd20, F20, m20⟩ := a20.get X G
  obtain ⟨f21, fd21, cd21, F21, m21⟩ := a21.get X G
  obtain ⟨fL, oc, od, kV, doc, pm, an, cdL, ct, osl, nL, lL, cL, kL⟩ := a22
  have eL := hfa.symm.trans (PySem.W.mg_of X G nL)
  cases eL
  obtain ⟨g0, gd0, c0, P0, U0, n0, hc0, hp0, hk0⟩ := t0.get X G T0
  obtain ⟨g1, gd1, c1, P1, U1, n1, hc1, hp1, hk1⟩ := t1.get X G T1
  obtain ⟨g2, gd2, c2, P2, U2, n2, hc2, hp2, hk2⟩ := t2.get X G T2
  obtain ⟨g3, gd3, c3, P3, U3, n3, hc3, hp3, hk3⟩ := t3.get X G T3
  have y0 := PySem.W.mg_none_of X G z0
  have y1 := PySem.W.mg_none_of X G z1
  have y2 := PySem.W.mg_none_of X G z2
  have y3 := PySem.W.mg_none_of X G z3
  have y4 := PySem.W.mg_none_of X G z4
  have y5 := PySem.W.mg_none_of X G z5
  have y6 := PySem.W.mg_none_of X G z6
  have y7 := PySem.W.mg_none_of X G z7
  have y8 := PySem.W.mg_none_of X G z8
  have y9 := PySem.W.mg_none_of X G z9
  have y10 := PySem.W.mg_none_of X G z10
  have y11 := PySem.W.mg_none_of X G z11
  have y12 := PySem.W.mg_none_of X G z12
  have y13 := PySem.W.mg_none_of X G z13
  have yg := PySem.W.mg_of X G zg
  have yc := PySem.W.mg_of X G zc
  have ym := PySem.W.mg_of X G zm
  have yf := PySem.W.mg_of X G zf
  refine ⟨PySem.W.fnOf "law" "law" (defArgs sLaw) (defBody sLaw) (defScope sLaw) .none kV doc pm an cdL ct, [(c0, P0), (c1, P1), (c2, P2), (c3, P3)], spLaw (K := K) ⟨P0, P1, P2, P3⟩, ?_, ?_, ?_, fun s v => .of_eq rfl, ?_, fun base KB GB hTB => ?_⟩
  · intro p hp
    simp only [List.mem_cons, List.not_mem_nil, or_false] at hp
    rcases hp with rfl | rfl | rfl | rfl
    · exact hp0
    · exact hp1
    · exact hp2
    · exact hp3
  · intro p hp
    simp only [List.mem_cons, List.not_mem_nil, or_false] at hp
    rcases hp with rfl | rfl | rfl | rfl
    · exact hk0
    · exact hk1
    · exact hk2
    · exact hk3
  · intro p hp
    simp only [List.mem_cons, List.not_mem_nil, or_false] at hp
    rcases hp with rfl | rfl | rfl | rfl
    · exact hc0
    · exact hc1
    · exact hc2
    · exact hc3
  · intro H a ns _ _ hH hS
    have tb : ∀ p ∈ [(c0, P0), (c1, P1), (c2, P2), (c3, P3)], GxR.TabG H p.2 := fun p hp => ⟨#[], hH p hp, by simp [TriplesOk]⟩
    exact ⟨a, ns, rfl, hS, ⟨tb (c0, P0) (by simp), tb (c1, P1) (by simp), tb (c2, P2) (by simp), tb (c3, P3) (by simp)⟩, fun _ => rfl⟩
  · have cv : ∀ p ∈ [(c0, P0), (c1, P1), (c2, P2), (c3, P3)], GxR.TabB base mg p.1 p.2 := fun p hp => ⟨(hTB p hp).code, (hTB p hp).bm, (hTB p hp).gP⟩
    have B0 := cv (c0, P0) (by simp)
    have B1 := cv (c1, P1) (by simp)
    have B2 := cv (c2, P2) (by simp)
    have B3 := cv (c3, P3) (by simp)
    have CK : ChkM K mg f2 fd2 := ⟨F2.fun, F2.fun.binds (fun _ _ _ _ _ _ us hl => match us, hl with | [_, _, _], _ => rfl), m2, y10, y11, y12, y1, y0, y6, ⟨_, yc⟩, ⟨_, ym⟩, ⟨_, yf⟩⟩
    have OF : FnOk l.prog w K mg base CX0 (0 + 2) g0 gd0 ["value"] (spFlows P0) := ok_flows U0 B0 CK
    have bF := U0.fun.binds (ps := ["value"]) (fun _ _ _ _ _ _ us hl => match us, hl with | [_], _ => rfl)
    have Cratio : Cl l.prog w K mg base 1 "ratio" ["top", "bottom"] spRatio := cl_of F0 m0 (ok_ratio (k := 0) F0.fun yg) (fun _ _ _ _ _ _ us hl => match us, hl with | [_, _], _ => rfl)
    have Cless : Cl l.prog w K mg base 1 "less" ["one", "other"] spLess := cl_of F1 m1 (ok_less (k := 0) F1.fun) (fun _ _ _ _ _ _ us hl => match us, hl with | [_, _], _ => rfl)
    have Cneed : Cl l.prog w K mg base 3 "need_dam" ["dam"] (spNeedDam ⟨P0, P1, P2, P3⟩) := cl_of U1 n1 (ok_needdam (k := 0) (T := ⟨P0, P1, P2, P3⟩) U1 B1 CK OF bF n0 U0.kp) (fun _ _ _ _ _ _ us hl => match us, hl with | [_], _ => rfl)
    have Cdem : Cl l.prog w K mg base 3 "need_demands" ["months", "demands"] (spNeedDem ⟨P0, P1, P2, P3⟩) := cl_of F3 m3 (ok_needdem (k := 0) (T := ⟨P0, P1, P2, P3⟩) F3.fun CK OF bF n0 U0.kp) (fun _ _ _ _ _ _ us hl => match us, hl with | [_, _], _ => rfl)
    have Crunof : Cl l.prog w K mg base 1 "run_of" ["dam", "demands"] spRunOf := cl_of F4 m4 (ok_runof (k := 0) F4.fun y5 y3 y4) (fun _ _ _ _ _ _ us hl => match us, hl with | [_, _], _ => rfl)
    have M : Md l.prog w K mg base ⟨P0, P1, P2, P3⟩ := ⟨Cratio, Cless, Cneed, Cdem, Crunof, y0, y1, y2, y3, y4, y5, y6, y7, y8, y9⟩
    have Crun : Cl l.prog w K mg base 4 "run" ["dam", "demands"] (spRun ⟨P0, P1, P2, P3⟩) := cl_of F5 m5 (ok_run (k := 0) F5.fun M) (fun _ _ _ _ _ _ us hl => match us, hl with | [_, _], _ => rfl)
    have Cnl : Cl l.prog w K mg base 4 "need_lack" ["dam", "demands"] (spNeedLack ⟨P0, P1, P2, P3⟩) := cl_of F8 m8 (ok_needlack (k := 0) F8.fun M) (fun _ _ _ _ _ _ us hl => match us, hl with | [_, _], _ => rfl)
    have Copen : Cl l.prog w K mg base 1 "open_dam" ["dam"] spOpen := cl_of F9 m9 (ok_open (k := 0) F9.fun) (fun _ _ _ _ _ _ us hl => match us, hl with | [_], _ => rfl)
    have Cwater : Cl l.prog w K mg base 1 "water_of" ["dam", "first", "last"] spWater := cl_of F6 m6 (ok_water (k := 0) F6.fun y0 y2) (fun _ _ _ _ _ _ us hl => match us, hl with | [_, _, _], _ => rfl)
    have Cspans : Cl l.prog w K mg base 1 "spans" ["months"] spSpans := cl_of F7 m7 (ok_spans (k := 0) F7.fun y7) (fun _ _ _ _ _ _ us hl => match us, hl with | [_], _ => rfl)
    have Ctotal : Cl l.prog w K mg base 5 "total_lack" ["dam", "demands"] (spTotal ⟨P0, P1, P2, P3⟩) := cl_of U2 n2 (ok_total (k := 0) (T := ⟨P0, P1, P2, P3⟩) U2 B2 M Cnl) (fun _ _ _ _ _ _ us hl => match us, hl with | [_, _], _ => rfl)
    have Cdoes : Cl l.prog w K mg base 2 "does_give" ["dam", "demands"] (spDoes ⟨P0, P1, P2, P3⟩) := cl_of U3 n3 (ok_does (k := 0) (T := ⟨P0, P1, P2, P3⟩) U3 B3 M) (fun _ _ _ _ _ _ us hl => match us, hl with | [_, _], _ => rfl)
    have Csl : Cl l.prog w K mg base 2 "span_lack" ["dam", "demands", "span"] spSpanLack := cl_of F10 m10 (ok_spanlack (k := 0) F10.fun M Copen Cwater) (fun _ _ _ _ _ _ us hl => match us, hl with | [_, _, _], _ => rfl)
    have Clo : Cl l.prog w K mg base 3 "lack_of" ["dam", "demands"] spLackOf := cl_of F11 m11 (ok_lackof (k := 0) F11.fun M Cspans Csl) (fun _ _ _ _ _ _ us hl => match us, hl with | [_, _], _ => rfl)
    have Cleast : Cl l.prog w K mg base 5 "least_lack" ["dam", "demands"] (spLeast ⟨P0, P1, P2, P3⟩) := cl_of F12 m12 (ok_least (k := 0) (T := ⟨P0, P1, P2, P3⟩) F12.fun Cnl Clo) (fun _ _ _ _ _ _ us hl => match us, hl with | [_, _], _ => rfl)
    have Cfew : Cl l.prog w K mg base 5 "fewest_failures" ["dam", "demands"] (spFewest ⟨P0, P1, P2, P3⟩) := cl_of F13 m13 (ok_fewest (k := 0) (T := ⟨P0, P1, P2, P3⟩) F13.fun M Cnl Cdoes) (fun _ _ _ _ _ _ us hl => match us, hl with | [_, _], _ => rfl)
    have Ctaken : ∀ sc ns, Cl l.prog w K mg base 1 "_law_taken" ["_law_row", "_law_many"] (spTaken K sc ns) := fun sc ns => cl_of F14 m14 (ok_taken (k := 0) F14.fun y11 y0) (fun _ _ _ _ _ _ us hl => match us, hl with | [_, _], _ => rfl)
    have Cpick : ∀ sc ns, Cl l.prog w K mg base 2 "_law_pick" ["_law_row", "_law_things"] (spPick K sc ns) := fun sc ns => cl_of F15 m15 (ok_pick (k := 0) F15.fun y0 (Ctaken sc ns)) (fun _ _ _ _ _ _ us hl => match us, hl with | [_, _], _ => rfl)
    have Cflow : ∀ sc ns, Cl l.prog w K mg base 3 "_law_flow" ["_law_row"] (spFlow K sc ns) := fun sc ns => cl_of F19 m19 (ok_flow (k := 0) F19.fun (Ctaken sc ns) (Cpick sc ns)) (fun _ _ _ _ _ _ us hl => match us, hl with | [_], _ => rfl)
    have Cldam : ∀ sc ns, Cl l.prog w K mg base 4 "_law_dam" ["_law_row", "_law_most"] (spLDam K sc ns) := fun sc ns => cl_of F20 m20 (ok_ldam (k := 0) F20.fun y7 y1 (Ctaken sc ns) (Cpick sc ns) (Cflow sc ns)) (fun _ _ _ _ _ _ us hl => match us, hl with | [_, _], _ => rfl)
    have Cldem : ∀ sc ns, Cl l.prog w K mg base 4 "_law_demands" ["_law_row", "_law_many"] (spLDem K sc ns) := fun sc ns => cl_of F21 m21 (ok_ldem (k := 0) F21.fun y7 y1 (Cflow sc ns)) (fun _ _ _ _ _ _ us hl => match us, hl with | [_, _], _ => rfl)
    have Clratio : Cl l.prog w K mg base 1 "_law_ratio" ["_law_top", "_law_bottom"] spLRatio := cl_of F16 m16 (ok_lratio (k := 0) F16.fun y13 y11) (fun _ _ _ _ _ _ us hl => match us, hl with | [_, _], _ => rfl)
    have Clby : Cl l.prog w K mg base 2 "_law_by" ["_law_one", "_law_other"] spLBy := cl_of F17 m17 (ok_lby (k := 0) F17.fun Clratio) (fun _ _ _ _ _ _ us hl => match us, hl with | [_, _], _ => rfl)
    have Clless : Cl l.prog w K mg base 1 "_law_less" ["_law_one", "_law_other"] spLess := cl_of F18 m18 (ok_lless (k := 0) F18.fun) (fun _ _ _ _ _ _ us hl => match us, hl with | [_, _], _ => rfl)
    exact ok_law (k := 0) (fun_mk (st := sLaw) lL cL kL) ⟨Cldam, Cldem, Ctotal, Cleast, Cfew, Crun, Clless, Clby, y0, y1, y2, y3, y4⟩
end
/-- the tables from the top -/
theorem walk_tabs {l : PySem.W.OpenLaw} {n k : Nat} {q : Program} {loose : List Str} {XP : (Str → Option Value) → Heap → Prop} {YP : World → Heap → Prop} {d : DefRec} {K : Params → PySem.W.Frag} {CX : World → CXT} {x : Str}
    (hn : l.most = some n) (hn2 : n ≤ sizeLine) (hdf : d.params.defaults = []) (hr : Room k callerA) (hY : ∀ (w : World) (h : Heap), YP w h → (K w.params).In h)
    (F : ∀ (w : World) (mg : Str → Option Value) (fa : Addr) (h : Heap), (K w.params).In h → h.Ns mainGlobals mg → mg d.name = some (.ref fa) → (∀ y : Str, ((recsOf q).any fun e => e.name == y) = true → TabIs (K w.params) mg h y) → LamX.LawAtS l w (K w.params) (CX w) k n x mg fa h)
    (hCX : ∀ (w : World) (H : Hp) (s : Shared) (e : Value) (s' : Shared), CX w [] H s (fun _ _ _ => False) e s' → False) :
    PySem.W.WalkO q loose XP YP l.row.toRowW d [] (fun f vs => PySem.call f vs) := by
  refine Att.attach_callB hn hdf fun w s₀ s₁ mg mb fa o pm cd doc a vs ns G Y _ _ _ hmg hobj hints hlen hbits hg => ?_
  have KX := hY w _ Y
  obtain ⟨fd, cs, sp, hT, nT, C, hb, hsp, hF⟩ := F w mg fa _ KX G.T.g hmg fun y hy f1 o1 fd1 c e dd vs1 sl P k1 k2 k3 k4 k5 k6 => by
    obtain ⟨dL, hm, hn1⟩ := List.any_eq_true.mp hy
    have hn2 : dL.name = y := beq_iff_eq.mp hn1
    obtain ⟨a', o', fd', c', P', h1, h2, h3, h4, h5, h6⟩ := G.T.tab dL hm
    rw [hn2, k1] at h1
    cases h1
    have g1 := KX _ _ k2
    rw [g1] at h2
    cases h2
    rw [k3] at h3
    cases h3
    rw [k4] at h4
    cases h4
    have h6' := h6
    obtain ⟨⟨oc, vc, e1, _, e3, e4⟩, hP⟩ := h6'
    have g2 := KX _ _ k5
    rw [g2] at e1
    cases e1
    cases e3
    rw [k6] at e4
    cases e4
    exact ⟨PySem.W.CodeHd.of h5 h6, hP⟩
  exact LamX.law_callTs KX G.T.g G.T.b G.T.builtins G.T.nolimit hg hT nT C G.T.bmain hobj hints (Nat.le_trans hlen hn2) hr hF hb (fun H hH hS => hsp H a ns hlen hbits hH hS) fun H e s' => hCX w H s₁ e s'
end Dw

set_option Elab.async false
set_option maxRecDepth 100000
open PySem PySem.W PyProof.Rows in
set_option maxRecDepth 100000 in
set_option maxHeartbeats 0 in
theorem PySem.Challenge.cw_damworks_k50_across_lacks_holds : PySem.Challenge.rw_damworks_k50_across_lacks.Holds := by
  w_on; o_law; k_head; (case hw => w_witness2)
  k_fill
  refine Dw.walk_tabs (l := PySem.Challenge.rw_damworks_k50_across_lacks) (n := 63) (k := 6) (x := "_law_script") (CX := fun _ => L2.CX0) rfl (by decide) rfl ⟨rfl, by decide, by decide⟩ (fun w h Y => PySem.W.kIn_of Y) ?F (fun _ _ _ _ _ z => z)
  case F =>
    intro w mg fa h KX G hmg T
    refine' Dw.all_mk KX G hmg ?T0 ?T1 ?T2 ?T3 ?a0 ?a1 ?a2 ?a3 ?a4 ?a5 ?a6 ?a7 ?a8 ?a9 ?a10 ?a11 ?a12 ?a13 ?a14 ?a15 ?a16 ?a17 ?a18 ?a19 ?a20 ?a21 ?a22 ?t0 ?t1 ?t2 ?t3 ?z0 ?z1 ?z2 ?z3 ?z4 ?z5 ?z6 ?z7 ?z8 ?z9 ?z10 ?z11 ?z12 ?z13 ?zg ?zc ?zm ?zf
    (case T0 => exact T _ (by kernel_rfl))
    (case T1 => exact T _ (by kernel_rfl))
    (case T2 => exact T _ (by kernel_rfl))
    (case T3 => exact T _ (by kernel_rfl))
    (case a0 => (refine' Dw.At.mk ?n ?l ?c ?k; (case n => k_is); (case l => k_is); (case c => k_is); (case k => k_is)))
    (case a1 => (refine' Dw.At.mk ?n ?l ?c ?k; (case n => k_is); (case l => k_is); (case c => k_is); (case k => k_is)))
    (case a2 => (refine' Dw.At.mk ?n ?l ?c ?k; (case n => k_is); (case l => k_is); (case c => k_is); (case k => k_is)))
    (case a3 => (refine' Dw.At.mk ?n ?l ?c ?k; (case n => k_is); (case l => k_is); (case c => k_is); (case k => k_is)))
    (case a4 => (refine' Dw.At.mk ?n ?l ?c ?k; (case n => k_is); (case l => k_is); (case c => k_is); (case k => k_is)))
    (case a5 => (refine' Dw.At.mk ?n ?l ?c ?k; (case n => k_is); (case l => k_is); (case c => k_is); (case k => k_is)))
    (case a6 => (refine' Dw.At.mk ?n ?l ?c ?k; (case n => k_is); (case l => k_is); (case c => k_is); (case k => k_is)))
    (case a7 => (refine' Dw.At.mk ?n ?l ?c ?k; (case n => k_is); (case l => k_is); (case c => k_is); (case k => k_is)))
    (case a8 => (refine' Dw.At.mk ?n ?l ?c ?k; (case n => k_is); (case l => k_is); (case c => k_is); (case k => k_is)))
    (case a9 => (refine' Dw.At.mk ?n ?l ?c ?k; (case n => k_is); (case l => k_is); (case c => k_is); (case k => k_is)))
    (case a10 => (refine' Dw.At.mk ?n ?l ?c ?k; (case n => k_is); (case l => k_is); (case c => k_is); (case k => k_is)))
    (case a11 => (refine' Dw.At.mk ?n ?l ?c ?k; (case n => k_is); (case l => k_is); (case c => k_is); (case k => k_is)))
    (case a12 => (refine' Dw.At.mk ?n ?l ?c ?k; (case n => k_is); (case l => k_is); (case c => k_is); (case k => k_is)))
    (case a13 => (refine' Dw.At.mk ?n ?l ?c ?k; (case n => k_is); (case l => k_is); (case c => k_is); (case k => k_is)))
    (case a14 => (refine' Dw.At.mk ?n ?l ?c ?k; (case n => k_is); (case l => k_is); (case c => k_is); (case k => k_is)))
    (case a15 => (refine' Dw.At.mk ?n ?l ?c ?k; (case n => k_is); (case l => k_is); (case c => k_is); (case k => k_is)))
    (case a16 => (refine' Dw.At.mk ?n ?l ?c ?k; (case n => k_is); (case l => k_is); (case c => k_is); (case k => k_is)))
    (case a17 => (refine' Dw.At.mk ?n ?l ?c ?k; (case n => k_is); (case l => k_is); (case c => k_is); (case k => k_is)))
    (case a18 => (refine' Dw.At.mk ?n ?l ?c ?k; (case n => k_is); (case l => k_is); (case c => k_is); (case k => k_is)))
    (case a19 => (refine' Dw.At.mk ?n ?l ?c ?k; (case n => k_is); (case l => k_is); (case c => k_is); (case k => k_is)))
    (case a20 => (refine' Dw.At.mk ?n ?l ?c ?k; (case n => k_is); (case l => k_is); (case c => k_is); (case k => k_is)))
    (case a21 => (refine' Dw.At.mk ?n ?l ?c ?k; (case n => k_is); (case l => k_is); (case c => k_is); (case k => k_is)))
    (case a22 => (refine' Dw.At.mk ?n ?l ?c ?k; (case n => k_is); (case l => k_is); (case c => k_is); (case k => k_is)))
    (case t0 => (refine' Dw.AtT.mk ?n ?l ?c ?k ?lc ?hv ?hP; (case n => k_is); (case l => k_is); (case c => k_is); (case k => k_is); (case lc => k_is); (case hv => rfl); (case hP => kernel_rfl)))
    (case t1 => (refine' Dw.AtT.mk ?n ?l ?c ?k ?lc ?hv ?hP; (case n => k_is); (case l => k_is); (case c => k_is); (case k => k_is); (case lc => k_is); (case hv => rfl); (case hP => kernel_rfl)))
    (case t2 => (refine' Dw.AtT.mk ?n ?l ?c ?k ?lc ?hv ?hP; (case n => k_is); (case l => k_is); (case c => k_is); (case k => k_is); (case lc => k_is); (case hv => rfl); (case hP => kernel_rfl)))
    (case t3 => (refine' Dw.AtT.mk ?n ?l ?c ?k ?lc ?hv ?hP; (case n => k_is); (case l => k_is); (case c => k_is); (case k => k_is); (case lc => k_is); (case hv => rfl); (case hP => kernel_rfl)))
    (case z0 => k_is)
    (case z1 => k_is)
    (case z2 => k_is)
    (case z3 => k_is)
    (case z4 => k_is)
    (case z5 => k_is)
    (case z6 => k_is)
    (case z7 => k_is)
    (case z8 => k_is)
    (case z9 => k_is)
    (case z10 => k_is)
    (case z11 => k_is)
    (case z12 => k_is)
    (case z13 => k_is)
    (case zg => k_is)
    (case zc => k_is)
    (case zm => k_is)
    (case zf => k_is)
