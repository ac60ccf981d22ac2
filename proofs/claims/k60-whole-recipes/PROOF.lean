import PyProof.Rows.All
import Wide.All
import OpenK.AllK
import Wide.FinOn
import KE.KStateDown
import KE.GoesMore
import PySem.Challenge.RW_mixlabels_k60_whole_cheapest_recipes_of
import HandS.ForMost
import HandS.Wide
import HandS.Style
import HandS.IsInst
import HandS.Conv
import HandS.Walk
import HandS.Deep
import HandS.TupAny
import HandS.Exc
import HandS.WordsExc
import HandS.TryMany
import HandS.ExcInit
import HandS.ExcField
import HandS.Defaults
import HandS.Head0
import HandS.Head1
import HandS.Head2
import HandS.HeadEnd
import HandS.HeadHook1
import HandS.HeadHook2
import KE.KExcSuper
import HandS.Sort
import KE.SortData
import KE.DataMinMax
set_option Elab.async false
set_option linter.all false
set_option maxRecDepth 100000
set_option maxHeartbeats 4000000
/-! The law by hand over the layer HandS: what each def of the text is, and how its promise is handed on. -/
namespace Mix
open PySem PySem.Spec PyProof.Rows L2
/-! ### the text by places -/
def topS (i : Nat) : Stmt := PySem.Challenge.pw_mixlabels_k60_whole_cheapest_recipes_of.main.body.getD i (.Pass ⟨0, 0, 0, 0⟩)
abbrev s_Refused_init : Stmt := inClass (topS 6) 0
abbrev s_pivoted : Stmt := topS 8
abbrev s_solved : Stmt := topS 9
abbrev s_is_integer : Stmt := topS 11
abbrev s_is_bowl : Stmt := topS 13
abbrev s_checked_bowl : Stmt := topS 14
abbrev s_is_index : Stmt := topS 18
abbrev s_is_row : Stmt := topS 19
abbrev s_power : Stmt := topS 20
abbrev s_fits : Stmt := topS 21
abbrev s_Table_init : Stmt := inClass (topS 22) 0
abbrev s_Table_blend : Stmt := inClass (topS 22) 2
abbrev s_tuples_of : Stmt := topS 23
abbrev s_checked_prices : Stmt := topS 25
abbrev s_divisor : Stmt := topS 27
abbrev s_made : Stmt := topS 28
abbrev s_added : Stmt := topS 29
abbrev s_times : Stmt := topS 30
abbrev s_compared : Stmt := topS 31
abbrev s_total : Stmt := topS 33
abbrev s_against : Stmt := topS 34
abbrev s_all_cups : Stmt := topS 35
abbrev s_followed : Stmt := topS 36
abbrev s_costs : Stmt := topS 37
abbrev s_cheapest_recipe : Stmt := topS 38
abbrev s_law_draw : Stmt := topS 40
abbrev s_law_any : Stmt := topS 41
abbrev s_law_of : Stmt := topS 42
abbrev s_law_mixed : Stmt := topS 43
abbrev s_law_power : Stmt := topS 44
abbrev s_law_divisor : Stmt := topS 45
abbrev s_law_inverse : Stmt := topS 46
abbrev s_law_tuples : Stmt := topS 47
abbrev s_law_form : Stmt := topS 48
abbrev s_law_joint : Stmt := topS 49
abbrev s_law_risen : Stmt := topS 50
abbrev s_law_results : Stmt := topS 51
abbrev s_law_standard : Stmt := topS 52
abbrev s_law_table : Stmt := topS 53
abbrev s_law_spoilt : Stmt := topS 54
abbrev s_law_random : Stmt := topS 55
abbrev s_law_blend : Stmt := topS 56
abbrev s_law_world : Stmt := topS 57
abbrev s_law_shown : Stmt := topS 58
abbrev s_law_prices : Stmt := topS 59
abbrev s_law_made : Stmt := topS 60
abbrev s_law_plus : Stmt := topS 61
abbrev s_law_is_fraction : Stmt := topS 62
abbrev s_law_weighed : Stmt := topS 63
abbrev s_law_is_way : Stmt := topS 64
abbrev s_law_is_costs : Stmt := topS 65
abbrev s_law_label : Stmt := topS 66
abbrev s_law_bill : Stmt := topS 67
abbrev s_law_is_recipe : Stmt := topS 68
abbrev s_law_exact : Stmt := topS 69
abbrev s_law_told : Stmt := topS 70
abbrev s_law_all_right : Stmt := topS 71
abbrev s_law : Stmt := topS 72
end Mix
namespace Mix
open PySem PySem.Spec PyProof.Rows L2
/-- a def of the module as it stands behind the top -/
abbrev FnP (K : PySem.W.Frag) (x : Str) (st : Stmt) (f : Addr) (fd : FuncData) : Prop := FunD K x x (defArgs st) (defBody st) (defScope st) [] [] f fd
structure DefAt (K : PySem.W.Frag) (mg : Str → Option Value) (x : Str) (st : Stmt) : Prop where
  ex : ∃ (f : Addr) (fd : FuncData), FnP K x st f fd ∧ mg x = some (.ref f)
/-- a def that may be called by its name, at this level, with this promise -/
structure Cal (P : Program) (w : World) (K : PySem.W.Frag) (mg : Str → Option Value) (base : Heap) (k : Nat) (x : Str) (sp : Sp) : Prop where
  ex : ∃ (f : Addr) (fd : FuncData) (ps : List Str), FnOk P w K mg base CX0 k f fd ps sp ∧ mg x = some (.ref f) ∧ PySem.W.keepIn K (.ref f) = true ∧ Binds K fd ps []
/-- the address of Table -/
abbrev tabC (K : PySem.W.Frag) : Addr := He.ga K "Table"
/-- what the top has written -/
structure Txt (K : PySem.W.Frag) (mg : Str → Option Value) : Prop where
  bint : mg "int" = none
  bbool : mg "bool" = none
  bisinstance : mg "isinstance" = none
  blist : mg "list" = none
  btuple : mg "tuple" = none
  brange : mg "range" = none
  blen : mg "len" = none
  benumerate : mg "enumerate" = none
  bzip : mg "zip" = none
  babs : mg "abs" = none
  ball : mg "all" = none
  bany : mg "any" = none
  bsum : mg "sum" = none
  bsorted : mg "sorted" = none
  bmin : mg "min" = none
  bmax : mg "max" = none
  mlabels : ∃ t, mg "MOST_LABELS" = some (.int 12 t)
  mtuples : ∃ t, mg "MOST_TUPLES" = some (.int 729 t)
  cl : Cls K (tabC K)
  nk : NoAttr K (tabC K) "k"
  nl : NoAttr K (tabC K) "labels"
  nr : NoAttr K (tabC K) "results"
  mkr : Mk K (tabC K) (He.ma K (tabC K) "__init__")
  bl : Meth K (tabC K) "blend" (He.ma K (tabC K) "blend")
  gT : mg "Table" = some (.ref (tabC K))
section
variable {P : Program} {w : World} {K : PySem.W.Frag} {mg : Str → Option Value} {base : Heap}
/-- the promise of a def, by its body -/
theorem cal_of {x : Str} {st : Stmt} {N ps : List Str} {k : Nat} {sp : Sp} (F : DefAt K mg x st) (S : FnScope N ps (defScope st))
    (hb : ∀ (kV doc pm : Value) (an : Option Addr) (cdv ct : Value) (us : List Value), us.length = ps.length → bindArgs (PySem.W.fnOf x x (defArgs st) (defBody st) (defScope st) .none kV doc pm an cdv ct) ⟨us, []⟩ = pure (ps.zip us))
    (len : ∀ vs H Q E, sp vs H Q E → vs.length = ps.length) (t : TS)
    (hd : ∀ (f : Addr) (cdv : Value) (A : Around) (outer : List Env) (s : Shared) (H : Hp) (E : XK), Room k (A.deeper (envOfC x (defScope st) s.heap.objs.size f cdv)) →
      PSs (cxOf CX0 P w K mg base N x (defScope st) f cdv A outer s H E).nox (defBody st) t)
    (hp : ∀ vs H Q E, sp vs H Q E → t { nx := fun _ H' => Q .non H', rt := Q } (start N vs) H) : Cal P w K mg base (k + 1) x sp := by
  obtain ⟨f, fd, F, hm⟩ := F.ex
  exact ⟨f, fd, ps, F.ok S len fun cdv A outer s H vs Q E hr h => ⟨t, (hd f cdv A outer s H E hr).nox, hp vs H Q E h⟩, hm, F.kp, F.bindsN hb⟩
theorem Cal.mono {j k : Nat} {x : Str} {sp : Sp} (c : Cal P w K mg base j x sp) (h : j ≤ k) : Cal P w K mg base k x sp := by
  obtain ⟨f, fd, ps, F, a, b, d⟩ := c.ex
  exact ⟨f, fd, ps, F.mono h, a, b, d⟩
end
section
variable {X : Cx} {k j : Nat} {x : Str} {sp : Sp} {p pos : Pos} {e : Expr} {es : List Expr} {t : TA}
theorem pe_c (c : Cal X.prog X.w X.K X.mg X.base k x sp) (hr : Room j X.A) (hk : k ≤ j) (hg : Gl X x) (ha : PA X (e :: es) t)
    (hdb : (x == ("__debug__" : Str)) = false := by decide) (he : starEach (e :: es) X.env = (false, eval e X.env) :: starEach es X.env := by rfl) (hpl : (backTo pos (starEach es X.env)).any (·.1) = false := by rfl) :
    PE X (.Call (.Name x p) (e :: es) [] pos) (tCall sp [] E0 t) := by
  obtain ⟨f, fd, ps, F, hm, kp, b⟩ := c.ex
  exact pe_call F (hr.mono hk) hg hm kp b .nil pass0 ha hdb he hpl
end
/-! ### operators in short -/
abbrev rAddI : R2 := rI0 fun i j => .int (i + j)
abbrev rSubI : R2 := rI0 fun i j => .int (i - j)
abbrev rMulI : R2 := rI CMulW fun i j => .int (i * j)
abbrev rDivI : R2 := rI CDivW fun i j => .int (i / j)
abbrev rModI : R2 := rI (fun _ j => 0 < j) fun i j => .int (i % j)
abbrev rPowI : R2 := rI CPow fun i j => .int (i ^ j.toNat)
abbrev rLtI : R2 := rI0 fun i j => .bl (decide (i < j))
abbrev rLeI : R2 := rI0 fun i j => .bl (decide (i ≤ j))
abbrev rGtI : R2 := rI0 fun i j => .bl (decide (j < i))
abbrev rGeI : R2 := rI0 fun i j => .bl (decide (j ≤ i))
abbrev rIsNo : R2 := fun x y H Q => y = .non ∧ Q (.bl (decide (x = .non))) H
abbrev rNotNo : R2 := fun x y H Q => y = .non ∧ Q (.bl (!decide (x = .non))) H
abbrev rNegI : V → Hp → VK → Prop := rU fun i => .int (-i)
abbrev rLen (K : PySem.W.Frag) : List V → Hp → VK → Prop := fun xs H Q => ∃ p ys, xs = [.ref p] ∧ (SqL K H p ys ∨ SqT K H p ys) ∧ Q (.int ys.length) H
abbrev rLenD : List V → Hp → VK → Prop := fun xs H Q => ∃ a kvs, xs = [V.ref a] ∧ H a = some (.dK kvs) ∧ Q (.int kvs.length) H
abbrev rAbs : List V → Hp → VK → Prop := fun xs H Q => ∃ i, xs = [.int i] ∧ Q (.int (if i < 0 then -i else i)) H
abbrev rInt1 : List V → Hp → VK → Prop := fun xs H Q => (∃ i, xs = [.int i] ∧ Q (.int i) H) ∨ ∃ k, xs = [.bl k] ∧ Q (.int (if k then 1 else 0)) H
abbrev rListOf (K : PySem.W.Frag) : List V → Hp → VK → Prop := fun xs H Q => ∃ p ys, xs = [.ref p] ∧ (SqL K H p ys ∨ SqT K H p ys) ∧ ∀ l, H l = none → Q (.ref l) (upd H l (.lst ys))
abbrev rTupOf (K : PySem.W.Frag) : List V → Hp → VK → Prop := fun xs H Q => ∃ p ys, xs = [.ref p] ∧ ((SqL K H p ys ∧ ∀ l, H l = none → Q (.ref l) (upd H l (.tup ys))) ∨ (SqT K H p ys ∧ Q (.ref p) H))
end Mix
/-! Refused: an own exception over an own exception over ValueError, whose __init__ says super().__init__('refused'). -/
namespace PySem
namespace RefX
open PySem.W PySem.Calls PyProof.Rows PySem.HandSPX
open Mix (s_Refused_init)
open L2 (defArgs defBody defScope)
/-- what the written part says of Refused, at C, of its __init__, at fI, of the cell cc that it closes over and of its code, at cda -/
structure RefTxt (P : Program) (K : Frag) (mg : Str → Option Value) (C fI cc cda : Addr) : Prop where
  gC : mg "Refused" = some (.ref C)
  cls : ∃ nm q N bs bm sn sub ab col dd k0 k1 k2 k3 k5, K.lookup C = some (excClassObj nm q C N bs bm true sn sub ab col dd k0 k1 k2 k3 k5 "ValueError.__new__") ∧ refsVE bm = true
  sa : findIn K (.ref C) "__setattr__" = some (some (.builtin "object.__setattr__"))
  ga : findIn K (.ref C) "__getattribute__" = some (some (.builtin "BaseException.__getattribute__"))
  gg : findIn K (.ref C) "__getattr__" = some none
  noN : findIn K (.ref C) "at" = some none
  iC : findIn K (.ref C) "__init__" = some (some (.ref fI))
  tC : typeIn K (.ref fI) = some (.type "function")
  kC : keepIn K (.ref C) = true
  exC : subIn K (.ref C) (.type "BaseException") = some true
  tyC : typeIn K (.ref C) = some (.type "type")
  hdC : hasDictIn K C = true
  te : exmOne K (.ref C) (.ref C) = some true
  fn : ∃ (oc : Value) (od : Option Addr) (kV doc pm : Value) (an : Option Addr) (ct : Value) (osl : Array (Option Value)),
    K.lookup fI = some ⟨oc, od, .func (ksFn "__init__" "Refused.__init__" (defArgs s_Refused_init) (defBody s_Refused_init) (defScope s_Refused_init) .none kV doc pm an (.ref cda) ct cc), osl⟩ ∧ codeIn K (.ref cda) "Refused.__init__" = true
  cell : ∃ (cl : Value) (cld : Option Addr) (csl : Array (Option Value)), K.lookup cc = some ⟨cl, cld, .cell (some (.ref C)), csl⟩
  code : ∃ (ccl : Value) (cdd : Option Addr) (vs : Array Value) (ccs : Array (Option Value)) (file : Str) (tf : Tok), K.lookup cda = some ⟨ccl, cdd, .fields vs, ccs⟩ ∧ vs[2]? = some (.str file tf) ∧ ((P.main.file : Str) == file) = true
  sup : mg "super" = none
  top : (P.main.scope.names.lookup ("super" : Str)).isSome = false
  opq : nsIn K cStatics "thirdparty.any" = some none
  sIn : ks_superIn K C C "__init__" = some (some (.builtin "ValueError.__init__"))
  sVE : subIn K (.ref C) (.type "ValueError") = some true
  mro : mroIn K C (.ref C) = some true
/-- a made Refused -/
structure OwnMade (h h' : Heap) (e C d : Addr) (v : Value) : Prop where
  keep : ∀ b o, h.get? b = some o → h'.get? b = some o
  new : h.objs.size ≤ e
  obj : ∃ oe vs, h'.get? e = some oe ∧ oe.cls = .ref C ∧ oe.dict = some d ∧ oe.data = .fields vs ∧ vs[1]? = some .none
  dbig : h.objs.size ≤ d
  dne : d ≠ e
  ns : h'.Ns1 d (fun y => if y = "at" then some v else none)
theorem ldK {M : Model} {s : Shared} {name : Str} {scope : Scope} {L a : Addr} {cd : Value} {cc : Addr} {m : Str → Option Value} {x : Str} {pos : Pos} {v : Value} {Q : Value → Shared → Prop} {A : Around} {E : Value → Shared → Prop} (hn : s.heap.Ns L m) (hv : m x = some v) (h : Q v s)
    (hk : scope.kind = .function := by rfl) (hl : (ksEnv name scope L a cd cc).kindOf x = some .local := by rfl) (hd : (x == ("__debug__" : Str)) = false := by decide) :
    wpAny M A (eval (.Name x pos) (ksEnv name scope L a cd cc)) Q E s := wpAny_Name (wpAny_loadName_local hk hl hn hv h) hd
section
variable {prog : Program} {w : World} {A : Around} {E : Value → Shared → Prop} {R : Result → Shared → Prop} {s : Shared} {K : Frag} {mg : Str → Option Value} {C fI cc cda : Addr} {base : Heap}
theorem one_size (v : Value) : [v].length ≤ sizeLine := by
  rw [sizeLine_eq]
  exact (by decide : 1 ≤ 16777216)
/-- ValueError.__init__ bound to the exception, called -/
theorem call_mw {u e t0 : Addr} {rest : List Value} {Q : Value → Shared → Prop} {hp : Heap} {g : Array GenState} {d : Drawn} {t : Nat} {os : OsState} {bm : List Value} {nm q : Str} {N : Addr} {bs : List Value} {sn : List Str} {sub : List Value} {ab : Bool} {col : Option Bool} {dd : Option Addr} {k0 k1 k2 k3 k5 : Option Value}
    (hC : hp.get? C = some (excClassObj nm q C N bs bm true sn sub ab col dd k0 k1 k2 k3 k5 "ValueError.__new__")) (he : hp.get? e = some (excO C t0)) (hu : hp.get? u = some (kxs_mw "ValueError.__init__" e)) (hz : rest.length ≤ sizeLine)
    (hq : ∀ h' t1, (∀ b o, b ≠ e → hp.get? b = some o → h'.get? b = some o) → h'.get? e = some (excO C t1) → Q .none ⟨h', g, d, t, os⟩) :
    wpAny (model prog w) A (call (.ref u) rest) Q E ⟨hp, g, d, t, os⟩ := by
  have FB := F.excBase_ValueError
  refine wpAny_call (codeAny_of_tree ?_)
  show wpAny _ A.in1 (callAny (.ref u) ⟨rest, []⟩) _ _ _
  simp only [callAny]
  refine wpAny_bind (wpAny_load hu ?_)
  simp only [kxs_mw, show (Value.type "method-wrapper" == Value.type "method" || Value.type "method-wrapper" == Value.type "builtin_function_or_method" || Value.type "method-wrapper" == Value.type "method-wrapper") = true by decide, if_true]
  refine KFB.if_so (by decide) ?_
  refine wpAny_bind (check_bound_init FB.toExcCallFacts hC he rfl ?_)
  refine wpAny_bind (wpAny_pure (wpAny_pure ?_))
  refine ⟨plainId_quiet FB.init.plain _, codeAny_builtin FB.initEntry ?_⟩
  exact exc_init_tree (cls := .ref C) (t0 := t0) (dv := none) (c2 := .none) (c3 := .none) (b4 := .bool false) he hz fun h' k e' _ => hq h' _ k e'
theorem ref_init (T : RefTxt prog K mg C fI cc cda) {x t0 : Addr} {v : Value} (M : L2.Mod K mg base) (kb : ∀ b o, base.get? b = some o → s.heap.get? b = some o) (hx : s.heap.get? x = some (excO C t0)) (hnx : K.lookup x = none) (hroom : A.depth < recursionLimit)
    (hq : ∀ h' tk dx t1, (∀ b o, b ≠ x → s.heap.get? b = some o → h'.get? b = some o) → h'.get? x = some { cls := .ref C, dict := some dx, data := .fields #[.ref t1, .none, .none, .none, .bool false, .none] } → s.heap.objs.size ≤ dx → dx ≠ x →
      h'.Ns1 dx (fun y => if y = "at" then some v else none) → R (.ok (.ret .none)) { s with heap := h', toks := tk }) :
    codeAny (model prog w) A (.call (.ref fI) ⟨[.ref x, v], []⟩) R s := by
  obtain ⟨oc, od, kV, doc, pm, an, ct, osl, ho, hcd⟩ := T.fn
  obtain ⟨nm, q, N, bs, bm, sn, sub, ab, col, dd, k0, k1, k2, k3, k5, hC, hbm⟩ := T.cls
  obtain ⟨ccl, cdd, vs, ccs, file, tf, hcode, hvs, hfile⟩ := T.code
  obtain ⟨cl, cld, csl, hcell⟩ := T.cell
  have hcl : clsIn K C = some { name := nm, bases := bs, mro := .ref C :: bm, ns := N, qualname := q, hasDict := true, slotNames := sn, subclasses := sub, abstract := ab, collection := col, hasDel := false } := by unfold clsIn; rw [hC] <;> rfl
  have X : K.In s.heap := M.kin.keeps kb
  refine ks_codeAny_call_defAt (binds := [("self", .ref x), ("at", v)]) hroom (X _ _ ho) rfl (M.nolimit.keeps kb) (codeRec_of X hcd) rfl (BindsTo.of_eq (by first | rfl | with_unfolding_all rfl)) (show ∀ x ∈ (defScope s_Refused_init).names, x.2 ≠ .cell from by decide +kernel) (by intro y hy; rcases List.mem_cons.mp hy with rfl | hy <;> first | rfl | (rw [List.mem_singleton.mp hy]; rfl)) (fun h₁ hns hk => ?_) rfl rfl rfl
  obtain ⟨hp, g, d, tk, os⟩ := s
  have X₁ : K.In h₁ := X.keeps hk
  have hx₁ := hk _ _ hx
  obtain ⟨mb, b1, b2⟩ := M.blt
  have hg₁ : h₁.Ns mainGlobals mg := (M.glob.keeps kb).keeps hk
  have hb₁ : h₁.Ns builtinsNs mb := (b1.keeps kb).keeps hk
  refine ks_wpAt_execs_cons (ks_wpAt_Expr_any (ks_wpAt_MethodCall ?_))
  have hD1 := X₁ _ _ hC
  refine ks_wpAt_super_base (by rfl) (by rfl) (by decide) rfl (X₁ _ _ ho) rfl (by rfl) rfl (X₁ _ _ hcode) rfl hvs hfile T.top ?_
  refine ks_loadName_global (by rfl) (by rfl) (loadGlobal_builtin hg₁ T.sup hb₁ ((b2 _ (by decide)).trans (by first | boot_by_name | rfl | kernel_rfl)) ⟨rfl, ?_⟩)
  refine wpAny_loadName_free (by rfl) (by rfl) rfl ⟨_, X₁ _ _ hcell, rfl⟩ ?_
  refine wpAny_loadName_local (by rfl) (by rfl) hns (by rfl) ?_
  refine ks_wpAny_isType_cls hD1 rfl ⟨rfl, ?_⟩
  refine ks_wpAny_call_super hD1 rfl hx₁ rfl (fun c z => by cases z) (looks_mroIn X₁ T.mro) (fun h₂ hso k₂ => ?_)
  have X₂ : K.In h₂ := X₁.keeps k₂
  have hx₂ := k₂ _ _ hx₁
  have I₂ : InstAt h₂ x (excO C t0) C none := ⟨hx₂, rfl, rfl, trivial⟩
  have hm := T.sIn
  unfold ks_superIn at hm
  rw [hcl] at hm
  refine kxs_getMethod kxs_ValueError hso (looks_opaque X₂ T.opq) (l₀ := .ref C :: bm) (fun A Q E s k q => wpAny_bind ((looks_clsIn X₂ hcl) A _ E s k (wpAny_pure q))) rfl X₂ hm (I₂.type.andThen (looks_subIn X₂ T.sVE)) (ks_ne X₂ I₂ hcl) (by decide) ?_
  have hu : (h₂.push (kxs_mw "ValueError.__init__" x)).get? h₂.objs.size = some (kxs_mw "ValueError.__init__" x) := Heap.get?_push_at rfl rfl
  have k₃ : ∀ b o, h₂.get? b = some o → (h₂.push (kxs_mw "ValueError.__init__" x)).get? b = some o := fun b o e => Heap.get?_push_of_some _ e
  refine kxs_callWith (i := "ValueError.__init__") (x := x) (by rfl) (evalArgs_plain (args_cons (wpAny_Constant_str (args_nil ⟨hu, ?_⟩)) (by rfl)))
  refine call_mw (X₂.keeps k₃ _ _ hC) (k₃ _ _ hx₂) hu (one_size _) fun h₄ t1 k₄ hx₄ => ?_
  -- self.at = at
  have X₄ : K.In h₄ := fun b o e => k₄ b o (fun z => by rw [z, hnx] at e; cases e) (X₂.keeps k₃ b o e)
  have hxL : hp.objs.size ≠ x := Nat.ne_of_gt (Heap.lt_size hx)
  have hn₄ : h₄.Ns hp.objs.size (fun y => [(("self" : Str), Value.ref x), (("at" : Str), v)].reverse.lookup y) := by
    obtain ⟨oL, es, ep, hL, r⟩ := hns
    exact ⟨oL, es, ep, k₄ _ _ hxL (k₃ _ _ (k₂ _ _ hL)), r⟩
  show _root_.PySem.wpAt _ _ _ (execs _ _) _ _ _
  refine wpAt_of_wpAny ?_
  refine wpAny_execs_cons (plainObj_wpAny_Assign_Attribute ?_)
  refine ldK (v := v) hn₄ (by first | rfl | with_unfolding_all rfl | kernel_rfl) (ldK (v := .ref x) hn₄ (by first | rfl | with_unfolding_all rfl | kernel_rfl) ?_)
  refine set_plain X₄ (ox := excO C t1) (od := none) ⟨hx₄, rfl, rfl, trivial⟩ T.sa ?_
  refine exc_osa X₄ hx₄ hcl (show refsVE (.ref C :: bm) = true from hbm) rfl T.noN (fun h₅ tk₅ dx k₅ dn dne hx₅ hn₅ => ?_)
  show wpAny _ _ (execs _ _) _ _ _
  have z : hp.objs.size < h₄.objs.size := hn₄.lt
  exact wpAny_execs_nil (hq h₅ tk₅ dx t1 (fun b o hb e => k₅ b o hb (k₄ b o hb (k₃ _ _ (k₂ _ _ (hk b o e))))) hx₅ (Nat.le_of_lt (Nat.lt_of_lt_of_le z dn)) dne hn₅)
theorem ref_made (T : RefTxt prog K mg C fI cc cda) {v : Value} (M : L2.Mod K mg base) (kb : ∀ b o, base.get? b = some o → s.heap.get? b = some o) (hroom : A.depth + 1 < recursionLimit)
    (hq : ∀ h' tk e d, OwnMade s.heap h' e C d v → R (.ok (.ret (.ref e))) { s with heap := h', toks := tk }) :
    codeAny (model prog w) A (.call (.ref C) ⟨[v], []⟩) R s := by
  obtain ⟨nm, q, N, bs, bm, sn, sub, ab, col, dd, k0, k1, k2, k3, k5, hC, hbm⟩ := T.cls
  obtain ⟨hp, g, dr, tk, os⟩ := s
  have X : K.In hp := M.kin.keeps kb
  have k : ∀ b o, hp.get? b = some o → ((hp.push (kdv_tup [v])).push (excO C hp.objs.size)).get? b = some o := fun b o e => Heap.get?_push_of_some _ (Heap.get?_push_of_some _ e)
  have hget : ((hp.push (kdv_tup [v])).push (excO C hp.objs.size)).get? (hp.objs.size + 1) = some (excO C hp.objs.size) := by heap_get
  have hnx : K.lookup (hp.objs.size + 1) = none := by
    cases e : K.lookup (hp.objs.size + 1) with
    | none => rfl
    | some o =>
      have z : hp.get? (hp.objs.size + 1) = some o := X _ _ e
      exact absurd (Nat.lt_of_succ_lt (Heap.lt_size z)) (Nat.lt_irrefl _)
  refine call_own F.excBase_ValueError (fun X => refsVE_contains X bm hbm) (X _ _ hC) (looks_findIn X T.iC) (fun self => bind_fn X self T.tC) (one_size v) ?_
  refine ref_init (s := ⟨(hp.push (kdv_tup [v])).push (excO C hp.objs.size), g, dr, tk, os⟩) T M (fun b o e => k b o (kb b o e)) hget hnx ?_ fun h' tk' dx t1 k' hx dn dne hns => ?_
  · show A.depth + 1 < recursionLimit
    exact hroom
  · have old : ∀ b o, hp.get? b = some o → h'.get? b = some o := fun b o e => k' b o (Nat.ne_of_lt (Nat.lt_succ_of_lt (Heap.lt_size e))) (k b o e)
    have z : hp.objs.size + 1 + 1 ≤ dx := by
      first
        | (simpa only [Heap.size_push] using dn)
        | exact dn
        | (have q := dn; rw [Heap.size_push, Heap.size_push] at q; exact q)
    exact ⟨rfl, hq h' tk' (hp.objs.size + 1) dx ⟨old, Nat.le_succ _, ⟨_, _, hx, rfl, rfl, rfl, rfl⟩, Nat.le_trans (Nat.le_trans (Nat.le_succ _) (Nat.le_succ _)) z, dne, hns⟩⟩
end
end RefX
end PySem
namespace L2
open PySem PySem.Spec PyProof.Rows
theorem relO_at {v : V} {v' : Value} (r : RelV v v') (f : Str) : RelO (List.lookup f [(("at" : Str), v)]) (if f = "at" then some v' else none) := by
  by_cases hw : f = "at"
  · subst hw
    rw [if_pos rfl]
    have q : List.lookup ("at" : Str) [(("at" : Str), v)] = some v := by simp [List.lookup]
    rw [q]
    exact r
  · rw [if_neg hw]
    have qw : (f == ("at" : Str)) = false := by simpa using hw
    have q2 : List.lookup f [(("at" : Str), v)] = none := by simp [List.lookup, qw]
    rw [q2]
    trivial
section
variable {X : Cx} {C fI cc cda : Addr}
/-- Refused(e) -/
def tMkRef (C : Addr) (ta : TA) : St → Hp → XK → Prop := fun σ H Q => ta σ H fun vs H1 => ∃ v, vs = [v] ∧ ∀ d, H1 d = none → Q (.ref C) (some d) (upd H1 d (.xd [(("at" : Str), v)]))
theorem pmk_ref {a : Expr} {ta : TA} {p pos : Pos} {k : Nat} (T : PySem.RefX.RefTxt X.prog X.K X.mg C fI cc cda) (hr : Room k X.A) (ha : PA X [a] ta) (hg : Gl X "Refused" := by rfl)
    (he : starEach (a :: []) X.env = (false, eval a X.env) :: starEach [] X.env := by rfl) (hpl : (backTo pos (starEach [] X.env)).any (·.1) = false := by rfl) :
    PMk X (.Call (.Name "Refused" p) [a] [] pos) (tMkRef C ta) := by
  intro pins s σ H Q I h
  refine wpAny_Call_Name_kw (ld_glob I hg T.gC ?_)
  refine PySem.W.callWith_K (h₀ := X.base) I.ok.mod.kin T.kC (thn (ha.run pos pins s σ H _ I h) fun us s1 hh => ?_) he hpl
  obtain ⟨vs, H1, I1, r1, v, ev, q1⟩ := hh
  subst ev
  refine ⟨I1.kIn, ?_⟩
  cases r1 with
  | cons rv rn =>
    rename_i v' us'
    cases rn
    show wpAny _ _ (call (.ref C) [v']) _ _ _
    obtain ⟨hp, g, dr, tk, os⟩ := s1
    refine wpAny_call (PySem.RefX.ref_made T I1.mod (fun b o e => I1.bk b o e) (by have := hr.dp; omega) fun h' tk' e d M => ?_)
    show MkP X pins σ Q (.ref e) ⟨h', g, dr, tk', os⟩
    obtain ⟨oe, fv, hoe, hc, hd, hdat, h1⟩ := M.obj
    have hns := M.ns
    obtain ⟨G', g1, g2⟩ := restrict h' fun b => decide (b ≠ e)
    have gk : ∀ b, b ≠ e → G'.get? b = h'.get? b := fun b hb => g1 b (decide_eq_true hb)
    have ge : G'.get? e = none := g2 e (by simp)
    have old : ∀ b o, hp.get? b = some o → G'.get? b = some o := fun b o q => (gk b (Nat.ne_of_lt (Nat.lt_of_lt_of_le (Heap.lt_size q) M.new))).trans (M.keep b o q)
    have ob : ObjOk X.prog X.w (upd H1 d (.xd [(("at" : Str), v)])) G' d (.xd [(("at" : Str), v)]) :=
      ⟨_, hns.at (fun o q => (gk d M.dne).trans q), fun f => relO_at rv f⟩
    have J : Inv X pins σ (upd H1 d (.xd [(("at" : Str), v)])) ⟨G', g, dr, tk', os⟩ := I1.laid (t' := tk') old M.dbig ob
    refine ⟨e, oe, fv, ⟨G', g, dr, tk', os⟩, _, .ref C, some d, rfl, J, fun b o q => ?_, ge, hoe, ⟨hc, hd⟩, hdat, h1, ?_, rfl, I1.bare, raises_own T.exC T.tyC, q1 d (I1.hok.fresh M.dbig)⟩
    · by_cases hb : b = e
      · have q' : G'.get? b = some o := q
        rw [hb, ge] at q'; cases q'
      · exact (gk b hb).symm.trans q
    · rw [upd_ne (Ne.symm M.dne)]
      exact I1.hok.fresh M.new
/-- raise Refused(e) -/
def tRaiseRef (C : Addr) (W : WX) (ta : TA) : TS := fun _ σ H => tMkRef C ta σ H fun cls d H' => W cls d σ H'
theorem ps_raiseRef {a : Expr} {ta : TA} {W : WX} {p pos pos2 : Pos} {k : Nat} (hc : X.calm = true) (T : PySem.RefX.RefTxt X.prog X.K X.mg C fI cc cda) (hr : Room k X.A) (tk : Takes X W) (ha : PA X [a] ta) (hg : Gl X "Refused" := by rfl)
    (he : starEach (a :: []) X.env = (false, eval a X.env) :: starEach [] X.env := by rfl) (hpl : (backTo pos (starEach [] X.env)).any (·.1) = false := by rfl) :
    PS X (.Raise (some (.Call (.Name "Refused" p) [a] [] pos)) none pos2) (tRaiseRef C W ta) := ps_raise hc tk (pmk_ref T hr ha hg he hpl)
end
end L2
namespace Mix
open PySem PySem.Spec PyProof.Rows L2
/-! ### rules of one's own -/
theorem hu65 {A : Around} {k : Nat} (hr : Room k A) : A.units + 65 < cLine := by have := hr.un; omega
section
variable {X : Cx} {k j : Nat} {p pos apos : Pos} {e o : Expr} {es : List Expr} {t : TA} {ta : TE}
structure MetB (P : Program) (w : World) (K : PySem.W.Frag) (mg : Str → Option Value) (base : Heap) (k : Nat) (sp : Sp) : Prop where
  ex : ∃ (fd : FuncData) (ps : List Str), FnOk P w K mg base CX0 k (He.ma K (tabC K) "blend") fd ps sp ∧ Binds K fd ps []
theorem pe_blend {sp : Sp} {pl : Sem Bool} (T : Txt X.K X.mg) (c : MetB X.prog X.w X.K X.mg X.base k sp) (hr : Room j X.A) (hk : k ≤ j) (he : PE X o ta) (ha : PA X (e :: es) t)
    (hst : starEach (e :: es) X.env = (false, eval e X.env) :: starEach es X.env := by rfl) (hpl : (backTo pos (starEach es X.env)).any (·.1) = false := by rfl)
    (ht : eval (.Call (.Attribute o "blend" apos) (e :: es) [] pos) X.env = (do
      let ov ← eval o X.env
      standAt apos.atName
      let (f, first) ← holding [ov] (getMethod ov "blend" pl)
      callWith pos f first (backTo pos (starEach (e :: es) X.env)) (backToKw pos (keywordEach [] X.env))) := by rfl) :
    PE X (.Call (.Attribute o "blend" apos) (e :: es) [] pos) (tMeth (tabC X.K) "blend" sp [] E0 ta t) := by
  obtain ⟨fd, ps, F, b⟩ := c.ex
  exact pe_meth (pl := pl) he T.cl T.bl F (hr.mono hk) b .nil pass0 ha hst hpl ht
end
/-! ### enumerate of a tuple -/
section
open PySem.W
theorem meets_enumT (l : Addr) (items : Array Value) (n : Nat) (dct : Option Addr) (sl : Array (Option Value)) :
    Meets (Builtin.«enumerate.__new__» ⟨[.type "enumerate", .ref l], []⟩) (fun _ R s => s.heap.get? l = some { cls := .type "tuple", dict := dct, data := .seq items n, slots := sl } ∧
      R (.ok (.ret (.ref (s.heap.push { cls := .type "tuple_iterator", data := .fields #[.ref l, .int 0 0] }).objs.size)))
        { s with heap := (s.heap.push { cls := .type "tuple_iterator", data := .fields #[.ref l, .int 0 0] }).push { cls := .type "enumerate", data := .fields #[.none, .bool false, .ref s.heap.objs.size, rawInt 0, .none, .none] } }) :=
  .of_wp fun prog w A R s h => by
    obtain ⟨hp, g, d, tk, os⟩ := s; obtain ⟨hl, h⟩ := h
    have hsub := sub_enumerate
    have hL : Heap.IsTuple (Shared.heap ⟨hp, g, d, tk, os⟩) l items := ⟨_, hl, rfl, n, rfl⟩
    wp_walk using AutoSeq1.wpAny_loadPart' hl
    refine wpAny_stack_any fun st => wpAny_pure ?_
    split
    · rename_i c _ _ _ _ _
      cases (c == Value.type "enumerate")
      · wp_walk using AutoSeq1.wpAny_loadPart' hl, wpAny_pyIter_tuple hL
        exact ⟨_, rfl, h⟩
      · wp_walk using AutoSeq1.wpAny_loadPart' hl, wpAny_pyIter_tuple hL
        exact ⟨_, rfl, h⟩
    · wp_walk using AutoSeq1.wpAny_loadPart' hl, wpAny_pyIter_tuple hL
      exact ⟨_, rfl, h⟩
theorem call_enumT {prog : Program} {w : World} {A : Around} {E : Value → Shared → Prop} {s : Shared} {l : Addr} {items : Array Value} {Q : Value → Shared → Prop} (hL : s.heap.IsTuple l items)
    (h : ∀ h', IsEnum h' (s.heap.objs.size + 1) s.heap.objs.size 0 .none → h'.IsTupleIter s.heap.objs.size l 0 → h'.objs.size = s.heap.objs.size + 2 →
      (∀ b o, s.heap.get? b = some o → h'.get? b = some o) → Q (.ref (s.heap.objs.size + 1)) { s with heap := h' }) :
    wpAny (model prog w) A (call (.type "enumerate") [.ref l]) Q E s := by
  obtain ⟨⟨c, dct, dt, sl⟩, hl, hc, n, hd⟩ := hL
  replace hc : c = .type "tuple" := hc
  replace hd : dt = .seq items n := hd
  subst hc hd
  refine callType_new F.called_enumerate (by decide) (F.typeCall_enumerate_1 _) (F.newCall_enumerate_1 _) (fun obj => F.args_object_init_2 obj _) F.entry_enumerate_new
    (meets_enumT l items n dct sl) ⟨hl, ?_⟩
  have hz : (s.heap.push { cls := .type "tuple_iterator", data := .fields #[.ref l, .int 0 0] }).objs.size = s.heap.objs.size + 1 := Heap.size_push ..
  show _ ∧ _
  rw [hz]
  have he : IsEnum ((s.heap.push { cls := .type "tuple_iterator", data := .fields #[.ref l, .int 0 0] }).push
      { cls := .type "enumerate", data := .fields #[.none, .bool false, .ref s.heap.objs.size, rawInt 0, .none, .none] }) (s.heap.objs.size + 1) s.heap.objs.size 0 .none := by
    have := Heap.get?_push_size (s.heap.push { cls := .type "tuple_iterator", data := .fields #[.ref l, .int 0 0] })
      (o := { cls := .type "enumerate", data := .fields #[.none, .bool false, .ref s.heap.objs.size, rawInt 0, .none, .none] }) rfl
    rw [hz] at this; exact this
  refine ⟨⟨_, he, rfl⟩, h _ he ⟨_, Heap.get?_push_of_some _ (Heap.get?_push_size _ rfl), rfl, rfl⟩ (by rw [Heap.size_push, hz]) fun b o x => Heap.get?_push_of_some _ (Heap.get?_push_of_some _ x)⟩
end
/-- the tuple at a, each item in a new pair -/
def IteT (K : PySem.W.Frag) (a : Addr) : It :=
  ⟨fun i H => ∃ (xs : List V) (x : V), SqT K H a xs ∧ xs[i]? = some x, fun i H v H' => ∃ T x, v = .ref T ∧ H T = none ∧ H' = upd H T (.tup [.int (i : Nat), x]) ∧ ∀ xs, SqT K H a xs → xs[i]? = some x, fun i H => ∃ xs : List V, SqT K H a xs ∧ xs.length ≤ i⟩
theorem turn_enumT {P : Program} {w : World} {K : PySem.W.Frag} {elts : List Expr} {kk : Nat} {tpos : Pos} (a e it : Addr) (hai : a ≠ it) (hae : e ≠ a) :
    Turn P w K (.Tuple elts kk tpos) (IteT K a) [e, it] e (fun i h => (∃ old, IsEnum h e it ((i : Nat) : Int) old) ∧ h.IsTupleIter it a i ∧ e ≠ it) where
  mem := by simp
  obj := fun i h st b hb => by
    obtain ⟨⟨old, he⟩, ⟨o, ho, hc, hd⟩, _⟩ := st
    have e' : b = e ∨ b = it := by simpa using hb
    rcases e' with z | z
    · rw [z]; exact ⟨_, he, fun v q => nomatch q⟩
    · rw [z]; exact ⟨o, ho, fun v q => by rw [hd] at q; cases q⟩
  keep := fun i h h' st k => let ⟨⟨old, he⟩, hi, hne⟩ := st; ⟨⟨old, k e (by simp) _ he⟩, hi.at fun o q => k it (by simp) o q, hne⟩
  item := by
    intro X hP hw hK hc i pins s σ H E I hf st hg
    subst hP hw hK
    obtain ⟨⟨old, he⟩, hit, hne⟩ := st
    obtain ⟨xs, x, hq, hx⟩ := hg
    obtain ⟨its, rv, p, hz⟩ := I.tuple hq
    obtain ⟨u, hu, ru⟩ := rv.get hx
    have hel : e < s.heap.objs.size := Heap.lt_size he
    have hil : it < s.heap.objs.size := by obtain ⟨_, q, _⟩ := hit; exact Heap.lt_size q
    have hil2 : i < its.toArray.size := by
      have := (List.getElem?_eq_some_iff.mp hu).1
      simpa using this
    have D := PySem.Draws.tuple (prog := X.prog) (w := X.w) (A := X.A.in1) (I.ok.hd hc) it a hai its.toArray
    refine wpAny_pyNext_enum_itemD D he ⟨hit, p⟩ hil2 hne (by simp [hne, hae]) fun y h' tk hy ho hit' hT hsz hk => ?_
    have ey : y = u := by
      have h1 : its.toArray[i]? = some u := by simpa using hu
      exact Option.some.inj (hy.symm.trans h1)
    subst ey
    refine ⟨_, rfl, wpAny_letOwnedTupleGo_enum (s := { s with heap := h', toks := tk + 1 }) ho fun h'' he' sb => ?_⟩
    have hT2 : h''.get? s.heap.objs.size = some { cls := .type "tuple", data := .seq #[.int i tk, y] } := (sb.2 _ (Nat.ne_of_gt hel)).trans hT
    have new : ObjOk X.prog X.w (upd H s.heap.objs.size (.tup [.int (i : Nat), x])) h'' s.heap.objs.size (.tup [.int (i : Nat), x]) :=
      ⟨by show 2 ≤ sizeLine; decide, [.int i tk, y], .cons ⟨_, rfl⟩ (.cons ru .nil), ⟨_, hT2, rfl, _, rfl⟩⟩
    have I1 : Inv X pins σ (upd H s.heap.objs.size (.tup [.int (i : Nat), x])) { s with heap := h'', toks := tk + 1 } :=
      I.turnedNew (ch := [e, it]) (fun b ob hb q => (sb.2 b (fun z => hb (by simp [z]))).trans (hk b ob (fun z => hb (by simp [z])) (fun z => hb (by simp [z])) q)) hf (Nat.le_refl _) new
    refine ⟨.ref s.heap.objs.size, _, I1, rfl, ⟨_, x, rfl, I.hok.fresh (Nat.le_refl _), rfl, fun ys hy => by rw [I.tuple_inj hy hq]; exact hx⟩, ⟨⟨y, ?_⟩, hit'.1.at fun o q => (sb.2 it (Ne.symm hne)).trans q, hne⟩, fun b hb => ?_⟩
    · have e1 : ((i + 1 : Nat) : Int) = (i : Int) + 1 := by omega
      rw [e1]; exact he'
    · have hb' : b < s.heap.objs.size := by
        have e' : b = e ∨ b = it := by simpa using hb
        rcases e' with z | z
        · rw [z]; exact hel
        · rw [z]; exact hil
      rw [upd_ne (Nat.ne_of_lt hb')]
      exact (hf b hb).1
  done := by
    intro X hP hw hK hc i pins s σ H E I hf st hg
    subst hP hw hK
    obtain ⟨⟨old, he⟩, hit, hne⟩ := st
    obtain ⟨xs, hq, hx⟩ := hg
    obtain ⟨its, rv, p, hz⟩ := I.tuple hq
    obtain ⟨f0, f1, f2, f3, f4, f5⟩ := hf it (by simp)
    have hl := rv.length
    have hT : s.TypeIs (.ref e) "enumerate" := ⟨_, he, rfl⟩
    unfold pyNext
    refine wpAny_bind (wpAny_attempt (wpAny_callSpecial?_slot (name := Str.ofString "__next__") hT F.slot_enumerate_next
      (wpAny_call_entry F.slot_enumerate_next hT F.entry_enumerate_next ?_ (F.args_enumerate_next_1 _))))
    show wpAny _ _ (field (.ref e) 2 >>= _) _ _ _
    refine wpAny_bind (wpAny_field he rfl (x := .ref it) rfl ?_)
    refine wpAny_bind (wpAny_nextOf_tuple_end (I.ok.hd hc) hit p (by simp; omega) fun h' x he' hx' => ?_)
    obtain ⟨o, ho, hc'⟩ := hx'
    refine wpAny_bind (wpAny_isInstance (T := "StopIteration") (b := true) ⟨o, ho, hc'⟩ isSubtype_stop ?_)
    exact wpAny_pure ⟨rfl, I.turned (t' := s.toks) (fun b o hb q => he' b o hb q) f0 f1 f3 f4 f5⟩
  self := fun A i s Q E st h => let ⟨⟨_, he⟩, _⟩ := st; wpAny_pyIter_enum he h
theorem same_seq {K : PySem.W.Frag} {H H' : Hp} {a : Addr} {xs : List V} (e : L2.Same H H') (h : SqT K H a xs) : SqT K H' a xs := by
  rcases h with (h | ⟨o, h⟩) | h
  · exact .inl (.inl (e _ _ h))
  · exact .inl (.inr ⟨o, e _ _ h⟩)
  · exact .inr h
theorem walk_enumT {K : PySem.W.Frag} {a : Addr} {xs : List V} : L2.Walk (IteT K a) xs.length (fun H => SqT K H a xs) (YPair (fun i => some (.int (i : Nat))) (fun i => xs[i]?)) := by
  refine ⟨fun i _ hi q => ⟨xs, xs[i], q, by simp [hi]⟩, fun _ q => ⟨xs, q, Nat.le_refl _⟩, fun i H v H' _ q y => ?_⟩
  obtain ⟨T, x, h1, h2, h3, h4⟩ := y
  exact ⟨T, .int (i : Nat), x, h1, h2, h3, rfl, h4 xs q⟩
/-- enumerate of a list or of a tuple: whatever walks it -/
def iEnumA (K : PySem.W.Frag) (ta : TA) : TI := fun σ H R => ta σ H fun vs H1 => ∃ a xs, vs = [.ref a] ∧ (SqL K H1 a xs ∨ SqT K H1 a xs) ∧
  ∀ J, L2.Walk J xs.length (fun H' => L2.Same H1 H') (YPair (fun i => some (.int (i : Nat))) (fun i => xs[i]?)) → R J H1
theorem pi_enumA {X : Cx} {e : Expr} {ta : TA} {p pos tpos : Pos} {elts : List Expr} {kk : Nat} (hg : Gl X "enumerate") (hm : X.mg "enumerate" = none) (ha : PA X [e] ta) (hs : starEach [e] X.env = [(false, eval e X.env)] := by rfl) :
    PI X (.Tuple elts kk tpos) (.Call (.Name "enumerate" p) [e] [] pos) (iEnumA X.K ta) := by
  refine ⟨fun pins s σ H R I h => ?_⟩
  refine Call_ (ld_blt I hg hm boot_enumerate (PyProof.Rows.callWith_type1 (thn (ha.run pos pins s σ H _ I h) fun us s1 ⟨vs, H1, I1, r1, q1⟩ => ?_) hs rfl))
  obtain ⟨a, xs, ex, q⟩ := q1
  subst ex
  cases r1 with
  | cons r rr =>
    cases rr
    cases r
    have low : ∀ b, b ∈ [s1.heap.objs.size + 1, s1.heap.objs.size] → s1.heap.objs.size ≤ b := fun b hb => by
      have e' : b = s1.heap.objs.size + 1 ∨ b = s1.heap.objs.size := by simpa using hb
      rcases e' with z | z
      · rw [z]; exact Nat.le_add_right _ _
      · rw [z]; exact Nat.le_refl _
    obtain ⟨hq, q⟩ := q
    rcases hq with hq | hq
    · replace q := q (Ite X.K a) (walk_enum.mono (fun _ e => e.seq hq) fun _ _ _ _ _ _ y => y)
      obtain ⟨its, rv, p', hz⟩ := I1.list hq
      refine call_enumerate_list p'.isList fun h' he hit hsz hk => wpAny_pyIter_enum he ?_
      have I2 : Inv X pins σ H1 { s1 with heap := h' } := I1.kept (t' := s1.toks) hk
      refine ⟨s1.heap.objs.size + 1, [s1.heap.objs.size + 1, s1.heap.objs.size], _, _, H1, rfl, I2, turn_enum a (s1.heap.objs.size + 1) s1.heap.objs.size, ⟨⟨.none, he⟩, hit, Nat.succ_ne_self _⟩, fun b hb => ?_, q⟩
      exact I1.fpOk (low b hb) (I1.hok.fresh (low b hb))
    · replace q := q (IteT X.K a) (walk_enumT.mono (fun _ e => same_seq e hq) fun _ _ _ _ _ _ y => y)
      obtain ⟨its, rv, p', hz⟩ := I1.tuple hq
      have hal : a < s1.heap.objs.size := by obtain ⟨_, e1, _⟩ := p'; exact Heap.lt_size e1
      refine call_enumT p' fun h' he hit hsz hk => wpAny_pyIter_enum he ?_
      have I2 : Inv X pins σ H1 { s1 with heap := h' } := I1.kept (t' := s1.toks) hk
      refine ⟨s1.heap.objs.size + 1, [s1.heap.objs.size + 1, s1.heap.objs.size], _, _, H1, rfl, I2, turn_enumT a (s1.heap.objs.size + 1) s1.heap.objs.size (Nat.ne_of_lt hal) (Nat.ne_of_gt (Nat.lt_succ_of_lt hal)), ⟨⟨.none, he⟩, hit, Nat.succ_ne_self _⟩, fun b hb => ?_, q⟩
      exact I1.fpOk (low b hb) (I1.hok.fresh (low b hb))
section
variable {X : Cx}
/-! ### a list or a tuple walked -/
def iSeq (K : PySem.W.Frag) (tl : TE) : TI := fun σ H R => tl σ H fun x H1 => ∃ a xs, x = .ref a ∧ (SqL K H1 a xs ∨ SqT K H1 a xs) ∧ ∀ J, L2.Walk J xs.length (fun H' => L2.Same H1 H') (YAt xs) → R J H1
theorem pi_seq {tg l : Expr} {tl : TE} (hl : PE X l tl) : PI X tg l (iSeq X.K tl) := by
  refine ⟨fun pins s σ H R I h => ?_⟩
  refine thn (hl.run pins s σ H _ I h) fun v s1 ⟨x, H1, I1, r1, q1⟩ => ?_
  obtain ⟨a, xs, ex, q⟩ := q1
  subst ex
  cases r1
  obtain ⟨hq, q⟩ := q
  rcases hq with hq | hq
  · replace q := q (Itl X.K a) (walk_list.mono (fun _ e => e.seq hq) fun _ _ _ _ _ _ y => y)
    obtain ⟨its, rv, p, hz⟩ := I1.list hq
    refine wpAny_pyIter_list p.isList ?_
    refine ⟨s1.heap.objs.size, [s1.heap.objs.size], _, _, H1, rfl, I1.kept (t' := s1.toks) fun b o e => Heap.get?_push_of_some _ e, turn_list a _, ⟨_, Heap.get?_push_size _ rfl, rfl, rfl⟩, fun b hb => ?_, q⟩
    have e : b = s1.heap.objs.size := by simpa using hb
    subst e
    exact I1.fpOk (Nat.le_refl _) (I1.hok.fresh (Nat.le_refl _))
  · replace q := q (Itt X.K a) (walk_tup.mono (fun _ e => same_seq e hq) fun _ _ _ _ _ _ y => y)
    obtain ⟨its, rv, p, hz⟩ := I1.tuple hq
    refine wpAny_pyIter_tuple (show s1.heap.IsTuple a its.toArray from p) ?_
    refine ⟨s1.heap.objs.size, [s1.heap.objs.size], _, _, H1, rfl, I1.kept (t' := s1.toks) fun b o e => Heap.get?_push_of_some _ e, turn_tuple a _, ⟨_, Heap.get?_push_size _ rfl, rfl, rfl⟩, fun b hb => ?_, q⟩
    have e : b = s1.heap.objs.size := by simpa using hb
    subst e
    exact I1.fpOk (Nat.le_refl _) (I1.hok.fresh (Nat.le_refl _))
/-! ### small operators -/
/-- o[j], j from 0 up -/
def rGetN (K : PySem.W.Frag) : V → V → Hp → VK → Prop := fun x y H Q => ∃ (p : Addr) (xs : List V) (j : Nat) (v : V), x = .ref p ∧ y = .int (j : Int) ∧ SqL K H p xs ∧ xs[j]? = some v ∧ Q v H
theorem pget_list : PGet X (rGetN X.K) := by
  intro pins s σ H o i ov iv Q I ro ri h
  obtain ⟨p, xs, j, v, rfl, rfl, hq, he, q⟩ := h
  cases ro
  obtain ⟨t, rfl⟩ := ri
  obtain ⟨its, r, pl, hz⟩ := I.list hq
  obtain ⟨w, ew, rw'⟩ := r.get he
  have hj := (List.getElem?_eq_some_iff.mp he).1
  have hn := line63
  exact wpAny_getItem_list pl.isList (by omega) (by omega) (by simpa using ew) ⟨v, H, I, rw', q⟩
def ipMulI : TIp := rI CMul fun i j => .int (i * j)
theorem ip_mulI : PIp X .Mult ipMulI := fun pins s σ H x y v u Q I rx ry h => iop_mul pins s σ H x y v u Q I rx ry h
/-! ### ranges as values -/
def rRange1 : List V → Hp → VK → Prop := fun vs H Q => ∃ j, vs = [V.int j] ∧ ∀ p, H p = none → Q (.ref p) (upd H p (.rng 0 j))
theorem cr_range1 : CallR X (.type "range") rRange1 := by
  intro pins s σ H vs us Q I r h
  obtain ⟨j, rfl, q⟩ := h
  cases r with
  | cons rj rr =>
    cases rr
    obtain ⟨t, rfl⟩ := rj
    refine call_range_1 ⟨.ref s.heap.objs.size, upd H s.heap.objs.size (.rng 0 j), I.laid (t' := s.toks + 1 + 1) (fun b o e => Heap.get?_push_of_some _ e) (Nat.le_refl _) ?_, rfl, q _ (I.hok.fresh (Nat.le_refl _))⟩
    exact ⟨_, _, _, Heap.get?_push_size _ rfl⟩
def rInRng (neg : Bool) : R2 := fun x y H Q => ∃ i a lo hi, x = V.int i ∧ y = V.ref a ∧ H a = some (.rng lo hi) ∧ Q (.bl (if neg then !decide (lo ≤ i ∧ i < hi) else decide (lo ≤ i ∧ i < hi))) H
theorem op_inRng : OpR X (compareOp .In) (rInRng false) := op_in_rng
theorem op_notInRng : OpR X (compareOp .NotIn) (rInRng true) := by
  intro pins s σ H x y v u Q I rx ry h
  obtain ⟨i, a, lo, hi, rfl, rfl, ha, q⟩ := h
  obtain ⟨k, rfl⟩ := rx
  obtain rfl : u = Value.ref a := ry
  obtain ⟨t1, t2, t3, ho⟩ := I.hok a _ ha
  show wpAny _ _ (do return Value.bool (!(← contains (Value.ref a) (Value.int i k)))) _ _ s
  refine wpAny_bind (wpAny_contains_slot (T := "range") ⟨_, ho, rfl⟩ F.slot_range_contains (call_meets F.slot_range_contains ⟨_, ho, rfl⟩ F.entry_range_contains (F.args_range_contains_2 _ _) (q_contains a lo hi i t1 t2 t3 k)
    ⟨ho, wpAny_truthy_bool (wpAny_pure ⟨.bl _, H, I, rfl, ?_⟩)⟩))
  rw [place1]
  exact q
/-! ### sum, min, max of a tuple -/
def rSumT (K : PySem.W.Frag) : List V → Hp → VK → Prop := fun vs H Q => ∃ (a : Addr) (ns : List Int), vs = [V.ref a] ∧ SqT K H a (ns.map V.int) ∧ Q (.int ns.sum) H
def rMinT (K : PySem.W.Frag) : List V → Hp → VK → Prop := fun vs H Q => ∃ (a : Addr) (ns : List Int), vs = [V.ref a] ∧ SqT K H a (ns.map V.int) ∧ 0 < ns.length ∧ ∀ m : Int, Q (.int m) H
theorem cr_sumT (hc : X.calm = true) : CallR X (.builtin "sum") (rSumT X.K) := by
  intro pins s σ H vs us Q I r h
  obtain ⟨a, ns, rfl, hs, q⟩ := h
  obtain ⟨its, rv, hl, _⟩ := I.tuple hs
  rw [Vals.ref1 r]
  have hi := rv.ints
  obtain ⟨xs, e⟩ := hi.allInts.items
  have hn : numsOf (intItems xs).toList = ns := by rw [← e]; exact hi.numsOf
  rw [nums_intItems] at hn
  have hl' : s.heap.IsTuple a (intItems xs) := by rw [← e]; exact hl
  have hh := I.ok.hd hc
  refine call_sum_walkG (PySem.W.iter_tupleW (A := X.A.in1) hh hl' fun s₂ e2 W st hfp hw hk => ?_)
  subst e2
  have hlt : a < s.heap.objs.size := by obtain ⟨_, e, _⟩ := hl'; exact Heap.lt_size e
  refine ⟨_, _, _, _, _, _, numAt xs, rfl, Walks.tuple (A := X.A.in1) hh _ a (Nat.ne_of_lt hlt) (intItems xs), st, hfp, (fun _ _ => intItems_at), fun h' tk t' hk' => ?_⟩
  have e3 : preSum (numAt xs) (intItems xs).size = ns.sum := by
    rw [show (intItems xs).size = xs.size by simp [intItems], preSum_eq, List.take_of_length_le (by simp), hn]
  rw [e3]
  exact ⟨.int ns.sum, H, I.kept (t' := tk) (fun b o z => hk' b o (hw b o z) (hk b o z)), ⟨_, rfl⟩, q⟩
theorem ints_alike (ns : List Int) : PySem.W.AlikeAll (ns.map PyData.int) := by
  refine ⟨fun x hx y hy => ?_, fun x hx => ?_⟩
  · obtain ⟨i, _, rfl⟩ := List.mem_map.mp hx
    obtain ⟨j, _, rfl⟩ := List.mem_map.mp hy
    simp [PySem.W.alike]
  · obtain ⟨i, _, rfl⟩ := List.mem_map.mp hx
    intro z
    cases z
theorem dp_ints {K : PySem.W.Frag} {H : Hp} : ∀ ns : List Int, DpAll K H (ns.map V.int) (ns.map PyData.int)
  | [] => .nil
  | n :: r => .cons (.int n) (dp_ints r)
theorem cr_minT {k : Nat} (hc : X.calm = true) (hr : Room k X.A) : CallR X (.builtin "min") (rMinT X.K) := by
  intro pins s σ H vs us Q I r h
  obtain ⟨a, ns, rfl, hs, hne, q⟩ := h
  obtain ⟨its, rv, hl, _⟩ := I.tuple hs
  rw [Vals.ref1 r]
  obtain ⟨as, hra⟩ := Dp.readsAll I _ _ _ (dp_ints ns) rv
  cases ns with
  | nil => exact absurd hne (by decide)
  | cons n ns =>
    refine PySem.W.min_tuple_data (I.ok.hd hc) hl (x := PyData.int n) (xs := ns.map PyData.int) (as := as) (by simpa using hra) (ints_alike (n :: ns)) ?_ fun i v h' tk bs hv _ hk => ?_
    · rw [show PyData.int n :: ns.map PyData.int = (n :: ns).map PyData.int from rfl, PySem.W.depth_ints]
      have := hr.un
      omega
    · have hv' : its[i]? = some v := by simpa using hv
      obtain ⟨x, hx, rx⟩ : ∃ x, ((n :: ns).map V.int)[i]? = some x ∧ L2.RelV x v := by
        cases e : ((n :: ns).map V.int)[i]? with
        | none => rw [rv.none_of e] at hv'; cases hv'
        | some x =>
          obtain ⟨u, hu, ru⟩ := rv.get e
          rw [hv'] at hu
          cases hu
          exact ⟨x, rfl, ru⟩
      obtain ⟨m, _, rfl⟩ := List.mem_map.mp (List.mem_of_getElem? hx)
      exact ⟨.int m, H, I.kept (t' := tk) hk, rx, q m⟩
theorem cr_maxT {k : Nat} (hc : X.calm = true) (hr : Room k X.A) : CallR X (.builtin "max") (rMinT X.K) := by
  intro pins s σ H vs us Q I r h
  obtain ⟨a, ns, rfl, hs, hne, q⟩ := h
  obtain ⟨its, rv, hl, _⟩ := I.tuple hs
  rw [Vals.ref1 r]
  obtain ⟨as, hra⟩ := Dp.readsAll I _ _ _ (dp_ints ns) rv
  cases ns with
  | nil => exact absurd hne (by decide)
  | cons n ns =>
    refine PySem.W.max_tuple_data (I.ok.hd hc) hl (x := PyData.int n) (xs := ns.map PyData.int) (as := as) (by simpa using hra) (ints_alike (n :: ns)) ?_ fun i v h' tk bs hv _ hk => ?_
    · rw [show PyData.int n :: ns.map PyData.int = (n :: ns).map PyData.int from rfl, PySem.W.depth_ints]
      have := hr.un
      omega
    · have hv' : its[i]? = some v := by simpa using hv
      obtain ⟨x, hx, rx⟩ : ∃ x, ((n :: ns).map V.int)[i]? = some x ∧ L2.RelV x v := by
        cases e : ((n :: ns).map V.int)[i]? with
        | none => rw [rv.none_of e] at hv'; cases hv'
        | some x =>
          obtain ⟨u, hu, ru⟩ := rv.get e
          rw [hv'] at hu
          cases hu
          exact ⟨x, rfl, ru⟩
      obtain ⟨m, _, rfl⟩ := List.mem_map.mp (List.mem_of_getElem? hx)
      exact ⟨.int m, H, I.kept (t' := tk) hk, rx, q m⟩
/-! ### sorted of a list that reads as data of any depth -/
def rSortedC (K : PySem.W.Frag) : List V → Hp → VK → Prop := fun vs H Q => ∃ (a : Addr) (ps : List (V × PyData)), vs = [V.ref a] ∧ SqL K H a (ps.map (·.1)) ∧ (∀ p ∈ ps, Dp K H p.1 p.2) ∧ PySem.W.AllAlike (ps.map (·.2)) ∧ PySem.W.Sortable (ps.map (·.2)) ∧
  ps.length ≤ 1000 ∧ (∀ p ∈ ps, p.2.depth ≤ 5) ∧ ∀ p, H p = none → Q (.ref p) (upd H p (.lst ((ps.mergeSort (PySem.W.dataLe false (·.2))).map (·.1))))
theorem each_pair {X : Cx} {pins : List (Addr × Obj)} {σ : L2.St} {H : Hp} {s : Shared} (I : Inv X pins σ H s) : ∀ {ps : List (V × PyData)} {us : List Value}, Vals (ps.map (·.1)) us → (∀ p ∈ ps, Dp X.K H p.1 p.2) →
    PySem.W.EachIs (fun v (b : V × PyData) => L2.RelV b.1 v) us ps ∧ PySem.W.EachIs (fun v (b : V × PyData) => ∃ as, Reads s.heap v b.2 as) us ps
  | [], _, .nil, _ => ⟨.nil, .nil⟩
  | p :: ps, _, .cons r rs, h => by
    obtain ⟨h1, h2⟩ := each_pair I rs fun q hq => h q (by simp [hq])
    exact ⟨.cons r h1, .cons (Dp.reads I _ _ _ (h p (by simp)) r) h2⟩
theorem vals_each : ∀ {ps : List (V × PyData)} {us : List Value}, PySem.W.EachIs (fun v (b : V × PyData) => L2.RelV b.1 v) us ps → Vals (ps.map (·.1)) us
  | _, _, .nil => .nil
  | _, _, .cons r rs => .cons r (vals_each rs)
theorem cr_sortedC {k : Nat} (hr : Room k X.A) : CallR X (.builtin "sorted") (rSortedC X.K) := by
  intro pins s σ H vs us Q I r h
  obtain ⟨a, ps, rfl, hs, hd, hal, hk, hl, hdp, q⟩ := h
  obtain ⟨its, rv, pl, hz⟩ := I.list hs
  rw [Vals.ref1 r]
  obtain ⟨e1, e2⟩ := each_pair I rv hd
  have hL : ps.length ≤ sizeLine := by rw [sizeLine_eq]; omega
  refine PySem.W.sorted_data (R := fun v (b : V × PyData) => L2.RelV b.1 v) (enc := fun b => b.2) (bs := ps) pl.isList e1 e2 hal hk hL (fun b hb => by have := hdp b hb; have := hr.un; omega) fun out ho he => ?_
  obtain ⟨ep, he'⟩ := PyProof.Rows.sortedAll_at s.heap its out.toArray
  have hlen : ((ps.mergeSort (PySem.W.dataLe false (·.2))).map (·.1)).length ≤ sizeLine := by rw [List.length_map, List.length_mergeSort]; exact hL
  exact ⟨.ref _, upd H (s.heap.objs.size + 1) (.lst ((ps.mergeSort (PySem.W.dataLe false (·.2))).map (·.1))), I.laid (t' := s.toks) (fun _ _ => PyProof.Rows.sortedAll_old) (Nat.le_succ _) ⟨hlen, out, ep, vals_each he, he'⟩, rfl, q _ (I.hok.fresh (Nat.le_succ _))⟩
end
end Mix
/-! Plain Lean, no program in sight: worlds, ways, least costs. -/
namespace Mix
/-- a table: the size of the bowl, the number of labels, the results -/
structure Wd where
  k : Nat
  L : Nat
  res : List Nat
structure Wd.Ok (W : Wd) : Prop where
  pos : 1 ≤ W.L
  small : (W.k = 2 ∧ W.L ≤ 4) ∨ (W.k = 3 ∧ W.L ≤ 3)
  len : W.res.length = W.L ^ W.k
  lt : ∀ r ∈ W.res, r < W.L
def spot (L : Nat) (cs : List Nat) : Nat := cs.foldl (fun s c => s * L + c) 0
def Wd.bl (W : Wd) (cs : List Nat) : Nat := W.res.getD (spot W.L cs) 0
structure Wd.Cup (W : Wd) (cs : List Nat) : Prop where
  len : cs.length = W.k
  lt : ∀ c ∈ cs, c < W.L
theorem spot_step (L : Nat) : ∀ (cs : List Nat) (s B : Nat), s < B → (∀ c ∈ cs, c < L) → cs.foldl (fun s c => s * L + c) s < B * L ^ cs.length
  | [], s, B, h, _ => by simpa using h
  | c :: r, s, B, h, hc => by
    have h1 : c < L := hc c (by simp)
    have h2 : s * L + c < B * L := by
      have : (s + 1) * L ≤ B * L := Nat.mul_le_mul_right _ h
      rw [Nat.add_mul] at this
      omega
    have h3 := spot_step L r (s * L + c) (B * L) h2 fun d hd => hc d (by simp [hd])
    show r.foldl _ (s * L + c) < _
    have e : B * L ^ (c :: r).length = B * L * L ^ r.length := by
      simp only [List.length_cons, Nat.pow_succ]
      rw [Nat.mul_comm (L ^ r.length) L, Nat.mul_assoc]
    rw [e]
    exact h3
theorem spot_lt {L : Nat} {cs : List Nat} (h : ∀ c ∈ cs, c < L) : spot L cs < L ^ cs.length := by
  have := spot_step L cs 0 1 (by decide) h
  simpa [spot] using this
theorem Wd.bl_lt {W : Wd} (ok : W.Ok) {cs : List Nat} (h : W.Cup cs) : W.bl cs < W.L := by
  have h1 : spot W.L cs < W.res.length := by
    rw [ok.len, ← h.len]
    exact spot_lt h.lt
  unfold Wd.bl
  rw [List.getD_eq_getElem?_getD, List.getElem?_eq_getElem h1]
  exact ok.lt _ (List.getElem_mem h1)
/-- all rows of so many numbers below n, ascending -/
def tuplesN (n : Nat) : Nat → List (List Nat)
  | 0 => [[]]
  | m + 1 => (tuplesN n m).flatMap fun row => (List.range n).map fun c => row ++ [c]
theorem mem_tuplesN {n : Nat} : ∀ {m : Nat} {cs : List Nat}, cs ∈ tuplesN n m ↔ cs.length = m ∧ ∀ c ∈ cs, c < n
  | 0, cs => by
    simp only [tuplesN, List.mem_singleton]
    constructor
    · rintro rfl
      simp
    · rintro ⟨h, _⟩
      exact List.length_eq_zero_iff.mp h
  | m + 1, cs => by
    simp only [tuplesN, List.mem_flatMap, List.mem_map, List.mem_range]
    constructor
    · rintro ⟨row, hr, c, hc, rfl⟩
      obtain ⟨h1, h2⟩ := mem_tuplesN.mp hr
      refine ⟨by simp [h1], fun d hd => ?_⟩
      rcases List.mem_append.mp hd with hd | hd
      · exact h2 d hd
      · rw [List.mem_singleton.mp hd]
        exact hc
    · rintro ⟨h1, h2⟩
      have hne : cs ≠ [] := by
        intro e
        rw [e] at h1
        cases h1
      refine ⟨cs.dropLast, mem_tuplesN.mpr ⟨by simp [h1], fun d hd => h2 d (List.dropLast_subset _ hd)⟩, cs.getLast hne, h2 _ (List.getLast_mem hne), List.dropLast_concat_getLast hne⟩
theorem len_flatMap {α β : Type} {n : Nat} (f : α → List β) (h : ∀ a, (f a).length = n) : ∀ l : List α, (l.flatMap f).length = l.length * n
  | [] => by simp
  | a :: l => by
    rw [List.flatMap_cons, List.length_append, h a, len_flatMap f h l, List.length_cons, Nat.add_mul]
    omega
theorem tuplesN_len (n : Nat) : ∀ m : Nat, (tuplesN n m).length = n ^ m
  | 0 => rfl
  | m + 1 => by
    show ((tuplesN n m).flatMap _).length = _
    rw [len_flatMap (n := n) _ (fun row => by simp), tuplesN_len n m, Nat.pow_succ]
theorem Wd.cup_mem {W : Wd} {cs : List Nat} : cs ∈ tuplesN W.L W.k ↔ W.Cup cs := by
  rw [mem_tuplesN]
  exact ⟨fun h => ⟨h.1, h.2⟩, fun h => ⟨h.len, h.lt⟩⟩
/-! ### ways and least costs -/
abbrev Way := Option (List Nat)
def sumL : List Rat → Rat
  | [] => 0
  | a :: r => a + sumL r
def sumQ (x : Nat → Rat) (cs : List Nat) : Rat := sumL (cs.map x)
structure WaysOk (W : Wd) (ws : Nat → Way) : Prop where
  cup : ∀ l c, l < W.L → ws l = some c → W.Cup c
  bl : ∀ l c, l < W.L → ws l = some c → W.bl c = l
def Proper (W : Wd) (ws : Nat → Way) : Prop := ∀ S : Nat → Prop, (∀ l, l < W.L → ws l = none → S l) → (∀ l c, l < W.L → ws l = some c → (∃ d ∈ c, S d) → S l) → ∀ l, l < W.L → S l
structure Solves (W : Wd) (p : Nat → Rat) (ws : Nat → Way) (x : Nat → Rat) : Prop where
  none : ∀ l, l < W.L → ws l = none → x l = p l
  some : ∀ l c, l < W.L → ws l = some c → (W.k : Rat) * x l = sumQ x c
structure IsCosts (W : Wd) (p : Nat → Rat) (x : Nat → Rat) (ws : Nat → Way) : Prop where
  ways : WaysOk W ws
  proper : Proper W ws
  sol : Solves W p ws x
  le : ∀ l, l < W.L → x l ≤ p l
  cups : ∀ cs, W.Cup cs → (W.k : Rat) * x (W.bl cs) ≤ sumQ x cs
/-- a greatest one -/
theorem argmax (f : Nat → Rat) : ∀ n, 0 < n → ∃ m, m < n ∧ ∀ l, l < n → f l ≤ f m
  | 0, h => absurd h (by decide)
  | 1, _ => ⟨0, by decide, fun l hl => by rw [show l = 0 by omega]; exact Rat.le_refl⟩
  | n + 2, _ => by
    obtain ⟨m, hm, h⟩ := argmax f (n + 1) (by omega)
    by_cases c : f m ≤ f (n + 1)
    · refine ⟨n + 1, by omega, fun l hl => ?_⟩
      by_cases e : l = n + 1
      · rw [e]
        exact Rat.le_refl
      · exact Rat.le_trans (h l (by omega)) c
    · refine ⟨m, by omega, fun l hl => ?_⟩
      by_cases e : l = n + 1
      · rw [e]
        grind
      · exact h l (by omega)
theorem sumL_le {M : Rat} : ∀ {l : List Rat}, (∀ q ∈ l, q ≤ M) → sumL l ≤ (l.length : Rat) * M
  | [], _ => by simp [sumL]
  | a :: r, h => by
    have h1 := h a (by simp)
    have h2 := sumL_le (M := M) (l := r) fun q hq => h q (by simp [hq])
    have e : (((a :: r).length : Nat) : Rat) = (r.length : Rat) + 1 := by
      rw [List.length_cons]
      exact Rat.natCast_add _ _
    rw [e]
    show a + sumL r ≤ _
    grind
/-- if the sum is as great as it can be each is -/
theorem sumL_eq {M : Rat} : ∀ {l : List Rat}, (∀ q ∈ l, q ≤ M) → (l.length : Rat) * M ≤ sumL l → ∀ q ∈ l, q = M
  | [], _, _, q, hq => by cases hq
  | a :: r, h, hs, q, hq => by
    have h1 := h a (by simp)
    have hr : ∀ q ∈ r, q ≤ M := fun q hq => h q (by simp [hq])
    have h2 := sumL_le (M := M) (l := r) hr
    have e : (((a :: r).length : Nat) : Rat) = (r.length : Rat) + 1 := by
      rw [List.length_cons]
      exact Rat.natCast_add _ _
    rw [e] at hs
    have hs' : ((r.length : Rat) + 1) * M ≤ a + sumL r := hs
    rcases List.mem_cons.mp hq with rfl | hq
    · grind
    · exact sumL_eq hr (by grind) q hq
theorem Wd.Ok.kpos {W : Wd} (ok : W.Ok) : (0 : Rat) < (W.k : Rat) := by
  have : 0 < W.k := by rcases ok.small with h | h <;> omega
  exact Rat.natCast_pos.mpr this
/-- the greatest principle: what is at most 0 where a label is bought, and at most the mean of its cups elsewhere, is at most 0 -/
theorem max_le {W : Wd} (ok : W.Ok) {ws : Nat → Way} (wo : ∀ l c, l < W.L → ws l = some c → W.Cup c) (pr : Proper W ws) {y : Nat → Rat} (h0 : ∀ l, l < W.L → ws l = none → y l ≤ 0)
    (h1 : ∀ l c, l < W.L → ws l = some c → (W.k : Rat) * y l ≤ sumQ y c) : ∀ l, l < W.L → y l ≤ 0 := by
  intro l0 hl0
  obtain ⟨m, hm, hmax⟩ := argmax y W.L (by omega)
  have kp := ok.kpos
  by_cases c : y m ≤ 0
  · exact Rat.le_trans (hmax l0 hl0) c
  · exfalso
    have key := pr (fun l => y l ≠ y m) (fun l hl e z => by have := h0 l hl e; grind) (fun l cs hl e ⟨d, hd, hs⟩ z => by
      have hc := wo l cs hl e
      have h2 := h1 l cs hl e
      have hle : ∀ q ∈ cs.map y, q ≤ y m := fun q hq => by
        obtain ⟨e, he, rfl⟩ := List.mem_map.mp hq
        exact hmax e (hc.lt e he)
      have h3 := sumL_eq hle (by rw [List.length_map, hc.len, ← z]; exact h2) (y d) (List.mem_map.mpr ⟨d, hd, rfl⟩)
      exact hs h3)
    exact key m hm rfl
theorem sumL_sub (f g : Nat → Rat) : ∀ cs : List Nat, sumL (cs.map fun l => f l - g l) = sumL (cs.map f) - sumL (cs.map g)
  | [] => by simp [sumL]; grind
  | a :: r => by
    simp only [List.map_cons, sumL]
    rw [sumL_sub f g r]
    grind
theorem sumL_mono {f g : Nat → Rat} : ∀ {cs : List Nat}, (∀ c ∈ cs, f c ≤ g c) → sumL (cs.map f) ≤ sumL (cs.map g)
  | [], _ => Rat.le_refl
  | a :: r, h => by
    have h1 := h a (by simp)
    have h2 := sumL_mono (f := f) (g := g) (cs := r) fun c hc => h c (by simp [hc])
    simp only [List.map_cons, sumL]
    grind
/-- least costs are one row -/
theorem IsCosts.le_of {W : Wd} (ok : W.Ok) {p x x' : Nat → Rat} {ws ws' : Nat → Way} (a : IsCosts W p x ws) (b : IsCosts W p x' ws') : ∀ l, l < W.L → x l ≤ x' l := by
  have key := max_le ok (y := fun l => x l - x' l) b.ways.cup b.proper (fun l hl e => by have := a.le l hl; have := b.sol.none l hl e; grind) (fun l c hl e => by
    have h1 := b.sol.some l c hl e
    have h2 := a.cups c (b.ways.cup l c hl e)
    rw [b.ways.bl l c hl e] at h2
    show (W.k : Rat) * (x l - x' l) ≤ sumL (c.map fun l => x l - x' l)
    rw [sumL_sub]
    unfold sumQ at h1 h2
    grind)
  intro l hl
  have := key l hl
  grind
theorem IsCosts.uniq {W : Wd} (ok : W.Ok) {p x x' : Nat → Rat} {ws ws' : Nat → Way} (a : IsCosts W p x ws) (b : IsCosts W p x' ws') : ∀ l, l < W.L → x l = x' l := fun l hl => by
  have h1 := a.le_of ok b l hl
  have h2 := b.le_of ok a l hl
  grind
/-! ### one step of the search: better ways -/
structure Step (W : Wd) (x : Nat → Rat) (ws ws' : Nat → Way) : Prop where
  ways : WaysOk W ws'
  same : ∀ l, l < W.L → ws' l = ws l ∨ ∃ c, ws' l = some c ∧ sumQ x c < (W.k : Rat) * x l
/-- better ways lead to a bought label still -/
theorem Step.proper {W : Wd} (ok : W.Ok) {p x : Nat → Rat} {ws ws' : Nat → Way} (wo : WaysOk W ws) (pr : Proper W ws) (so : Solves W p ws x) (st : Step W x ws ws') : Proper W ws' := by
  intro S h0 h1 l0 hl0
  apply Classical.byContradiction
  intro hn
  -- the least number outside S
  have kp := ok.kpos
  have hx : ∃ m, m < W.L ∧ ¬ S m ∧ ∀ l, l < W.L → ¬ S l → x m ≤ x l := by
    have go : ∀ n, n ≤ W.L → (∃ l, l < n ∧ ¬ S l) → ∃ m, m < n ∧ ¬ S m ∧ ∀ l, l < n → ¬ S l → x m ≤ x l := by
      intro n
      induction n with
      | zero => rintro _ ⟨l, hl, _⟩; omega
      | succ n ih =>
        rintro hn ⟨l, hl, hs⟩
        by_cases c : ∃ l, l < n ∧ ¬ S l
        · obtain ⟨m, hm, hms, hmin⟩ := ih (by omega) c
          by_cases d : S n
          · refine ⟨m, by omega, hms, fun j hj hjs => hmin j ?_ hjs⟩
            by_cases e : j = n
            · rw [e] at hjs; exact absurd d hjs
            · omega
          · by_cases e : x m ≤ x n
            · refine ⟨m, by omega, hms, fun j hj hjs => ?_⟩
              by_cases f : j = n
              · rw [f]; exact e
              · exact hmin j (by omega) hjs
            · refine ⟨n, by omega, d, fun j hj hjs => ?_⟩
              by_cases f : j = n
              · rw [f]; exact Rat.le_refl
              · have := hmin j (by omega) hjs
                grind
        · have e : l = n := by
            apply Classical.byContradiction
            intro q
            exact c ⟨l, by omega, hs⟩
          subst e
          refine ⟨l, by omega, hs, fun j hj hjs => ?_⟩
          by_cases f : j = l
          · rw [f]; exact Rat.le_refl
          · exact absurd ⟨j, by omega, hjs⟩ c
    exact go W.L (Nat.le_refl _) ⟨l0, hl0, hn⟩
  obtain ⟨m, hm, hms, hmin⟩ := hx
  -- outside S, at the least number, the ways are the old ones and stay there
  have stay : ∀ l, l < W.L → ¬ S l → x l = x m → ∃ c, ws l = some c ∧ ∀ d ∈ c, ¬ S d ∧ x d = x m := by
    intro l hl hs e
    have hne : ws' l ≠ none := fun z => hs (h0 l hl z)
    obtain ⟨c, hc⟩ := Option.ne_none_iff_exists'.mp hne
    have hcup := st.ways.cup l c hl hc
    have hout : ∀ d ∈ c, ¬ S d := fun d hd z => hs (h1 l c hl hc ⟨d, hd, z⟩)
    have hge : ∀ q ∈ c.map (fun d => - x d), q ≤ - x m := fun q hq => by
      obtain ⟨d, hd, rfl⟩ := List.mem_map.mp hq
      have := hmin d (hcup.lt d hd) (hout d hd)
      grind
    have hneg : ∀ cs : List Nat, sumL (cs.map fun d => - x d) = - sumL (cs.map x) := by
      intro cs
      induction cs with
      | nil => simp [sumL]
      | cons a r ih => simp only [List.map_cons, sumL]; rw [ih]; grind
    have h3 := sumL_le hge
    rw [List.length_map, hcup.len, hneg] at h3
    rcases st.same l hl with z | ⟨c', hc', hlt⟩
    · rw [z] at hc
      have h4 := so.some l c hl hc
      refine ⟨c, hc, fun d hd => ⟨hout d hd, ?_⟩⟩
      have h5 := sumL_eq hge (by rw [List.length_map, hcup.len, hneg]; unfold sumQ at h4; grind) (- x d) (List.mem_map.mpr ⟨d, hd, rfl⟩)
      grind
    · rw [hc] at hc'
      have ec := Option.some.inj hc'
      subst ec
      unfold sumQ at hlt
      exfalso
      grind
  have key := pr (fun l => ¬ (¬ S l ∧ x l = x m)) (fun l hl e => fun ⟨a, b⟩ => by
      obtain ⟨c, hc, _⟩ := stay l hl a b
      rw [e] at hc
      cases hc)
    (fun l c hl e ⟨d, hd, hs⟩ => fun ⟨a, b⟩ => by
      obtain ⟨c', hc', hin⟩ := stay l hl a b
      rw [e] at hc'
      have ec := Option.some.inj hc'
      subst ec
      exact hs (hin d hd)) m hm
  exact key ⟨hms, rfl⟩
/-- the numbers fall -/
theorem Step.falls {W : Wd} (ok : W.Ok) {p x x' : Nat → Rat} {ws ws' : Nat → Way} (so : Solves W p ws x) (st : Step W x ws ws') (pr' : Proper W ws') (so' : Solves W p ws' x') : ∀ l, l < W.L → x' l ≤ x l := by
  have key := max_le ok (y := fun l => x' l - x l) st.ways.cup pr' (fun l hl e => by
      have h1 := so'.none l hl e
      rcases st.same l hl with z | ⟨c, hc, _⟩
      · rw [z] at e
        have := so.none l hl e
        grind
      · rw [e] at hc
        cases hc) (fun l c hl e => by
      have h1 := so'.some l c hl e
      show (W.k : Rat) * (x' l - x l) ≤ sumL (c.map fun l => x' l - x l)
      rw [sumL_sub]
      unfold sumQ at h1
      rcases st.same l hl with z | ⟨c', hc', hlt⟩
      · rw [z] at e
        have h2 := so.some l c hl e
        unfold sumQ at h2
        grind
      · rw [e] at hc'
        have ec := Option.some.inj hc'
        subst ec
        unfold sumQ at hlt
        grind)
  intro l hl
  have := key l hl
  grind
theorem Step.strict {W : Wd} (ok : W.Ok) {p x x' : Nat → Rat} {ws ws' : Nat → Way} (so : Solves W p ws x) (st : Step W x ws ws') (pr' : Proper W ws') (so' : Solves W p ws' x') {l : Nat} {c : List Nat} (hl : l < W.L) (e : ws' l = some c) (hlt : sumQ x c < (W.k : Rat) * x l) : x' l < x l := by
  have h := st.falls ok so pr' so'
  have h1 := so'.some l c hl e
  have h2 : sumL (c.map x') ≤ sumL (c.map x) := sumL_mono fun d hd => h d ((st.ways.cup l c hl e).lt d hd)
  unfold sumQ at h1 hlt
  have kp := ok.kpos
  have h3 : (W.k : Rat) * x' l < (W.k : Rat) * x l := by grind
  exact (Rat.mul_lt_mul_left kp).mp h3
end Mix
/-! Plain Lean: the fraction-free elimination is exact for at most four rows; its pivots are above 0. -/
namespace Mix
/-- one pivot at (t, t), divided by s -/
def pivF (B : Nat → Nat → Int) (t : Nat) (s : Int) (i j : Nat) : Int := if i = t then B t j else (B i j * B t t - B i t * B t j) / s
/-- t pivots: the rows, the scale -/
def ele (A : Nat → Nat → Int) : Nat → (Nat → Nat → Int) × Int
  | 0 => (A, 1)
  | t + 1 => (pivF (ele A t).1 t (ele A t).2, (ele A t).1 t t)
section
variable (A : Nat → Nat → Int)
def w1 (i j : Nat) : Int := if i = 0 then A 0 j else A i j * A 0 0 - A i 0 * A 0 j
def d2 (a b : Nat) (i j : Nat) : Int := A a i * A b j - A a j * A b i
def d3 (a b c : Nat) (i j l : Nat) : Int := A a i * d2 A b c j l - A a j * d2 A b c i l + A a l * d2 A b c i j
def d4 (a b c d : Nat) (i j l m : Nat) : Int := A a i * d3 A b c d j l m - A a j * d3 A b c d i l m + A a l * d3 A b c d i j m - A a m * d3 A b c d i j l
def w2 (i j : Nat) : Int := if i = 0 then d2 A 0 1 j 1 else if i = 1 then d2 A 0 1 0 j else d3 A 0 1 i 0 1 j
def w3 (i j : Nat) : Int := if i = 0 then d3 A 0 1 2 j 1 2 else if i = 1 then d3 A 0 1 2 0 j 2 else if i = 2 then d3 A 0 1 2 0 1 j else d4 A 0 1 2 i 0 1 2 j
def w4 (i j : Nat) : Int := if i = 0 then d4 A 0 1 2 3 j 1 2 3 else if i = 1 then d4 A 0 1 2 3 0 j 2 3 else if i = 2 then d4 A 0 1 2 3 0 1 j 3 else d4 A 0 1 2 3 0 1 2 j
theorem id1 (i j : Nat) (h : i ≠ 0) : A i j * A 0 0 - A i 0 * A 0 j = 1 * w1 A i j := by
  simp only [w1, if_neg h]; omega
theorem id2 (i j : Nat) (h : i ≠ 1) : w1 A i j * w1 A 1 1 - w1 A i 1 * w1 A 1 j = A 0 0 * w2 A i j := by
  by_cases h0 : i = 0
  · subst h0
    simp only [w1, w2, d2, if_pos, if_neg (show ¬ (1 : Nat) = 0 by decide)]
    grind
  · simp only [w1, w2, d2, d3, if_neg h0, if_neg h, if_neg (show ¬ (1 : Nat) = 0 by decide)]
    grind
theorem id3 (i j : Nat) (h : i ≠ 2) : w2 A i j * w2 A 2 2 - w2 A i 2 * w2 A 2 j = w1 A 1 1 * w3 A i j := by
  by_cases h0 : i = 0
  · subst h0
    simp only [w1, w2, w3, d2, d3, if_pos, if_neg (show ¬ (1 : Nat) = 0 by decide), if_neg (show ¬ (2 : Nat) = 0 by decide), if_neg (show ¬ (2 : Nat) = 1 by decide)]
    grind
  · by_cases h1 : i = 1
    · subst h1
      simp only [w1, w2, w3, d2, d3, if_pos, if_neg (show ¬ (1 : Nat) = 0 by decide), if_neg (show ¬ (2 : Nat) = 0 by decide), if_neg (show ¬ (2 : Nat) = 1 by decide)]
      grind
    · simp only [w1, w2, w3, d2, d3, d4, if_neg h0, if_neg h1, if_neg h, if_neg (show ¬ (1 : Nat) = 0 by decide), if_neg (show ¬ (2 : Nat) = 0 by decide), if_neg (show ¬ (2 : Nat) = 1 by decide)]
      grind
theorem id4 (i j : Nat) (h : i < 3) : w3 A i j * w3 A 3 3 - w3 A i 3 * w3 A 3 j = w2 A 2 2 * w4 A i j := by
  have n30 : ¬ (3 : Nat) = 0 := by decide
  have n31 : ¬ (3 : Nat) = 1 := by decide
  have n32 : ¬ (3 : Nat) = 2 := by decide
  have n20 : ¬ (2 : Nat) = 0 := by decide
  have n21 : ¬ (2 : Nat) = 1 := by decide
  have n10 : ¬ (1 : Nat) = 0 := by decide
  have c : i = 0 ∨ i = 1 ∨ i = 2 := by omega
  rcases c with rfl | rfl | rfl <;> (simp only [w2, w3, w4, d2, d3, d4, if_pos, if_neg n30, if_neg n31, if_neg n32, if_neg n20, if_neg n21, if_neg n10]; grind)
theorem cram1 : A 0 0 * A 0 1 = A 0 0 * A 0 1 := rfl
theorem cram2 (i : Nat) (h : i < 2) : A i 0 * w2 A 0 2 + A i 1 * w2 A 1 2 = w1 A 1 1 * A i 2 := by
  have n10 : ¬ (1 : Nat) = 0 := by decide
  have c : i = 0 ∨ i = 1 := by omega
  rcases c with rfl | rfl <;> (simp only [w1, w2, d2, if_pos, if_neg n10]; grind)
theorem cram3 (i : Nat) (h : i < 3) : A i 0 * w3 A 0 3 + A i 1 * w3 A 1 3 + A i 2 * w3 A 2 3 = w2 A 2 2 * A i 3 := by
  have n20 : ¬ (2 : Nat) = 0 := by decide
  have n21 : ¬ (2 : Nat) = 1 := by decide
  have n10 : ¬ (1 : Nat) = 0 := by decide
  have c : i = 0 ∨ i = 1 ∨ i = 2 := by omega
  rcases c with rfl | rfl | rfl <;> (simp only [w2, w3, d2, d3, if_pos, if_neg n10, if_neg n20, if_neg n21]; grind)
theorem cram4 (i : Nat) (h : i < 4) : A i 0 * w4 A 0 4 + A i 1 * w4 A 1 4 + A i 2 * w4 A 2 4 + A i 3 * w4 A 3 4 = w3 A 3 3 * A i 4 := by
  have n30 : ¬ (3 : Nat) = 0 := by decide
  have n31 : ¬ (3 : Nat) = 1 := by decide
  have n32 : ¬ (3 : Nat) = 2 := by decide
  have n20 : ¬ (2 : Nat) = 0 := by decide
  have n21 : ¬ (2 : Nat) = 1 := by decide
  have n10 : ¬ (1 : Nat) = 0 := by decide
  have c : i = 0 ∨ i = 1 ∨ i = 2 ∨ i = 3 := by omega
  rcases c with rfl | rfl | rfl | rfl <;> (simp only [w3, w4, d2, d3, d4, if_pos, if_neg n10, if_neg n20, if_neg n21, if_neg n30, if_neg n31, if_neg n32]; grind)
end
end Mix
namespace Mix
/-- the sum of f from t to n - 1 -/
def Sg (f : Nat → Int) (t : Nat) : Nat → Int
  | 0 => 0
  | n + 1 => if t ≤ n then Sg f t n + f n else 0
theorem Sg_self (f : Nat → Int) (t : Nat) : ∀ n, n ≤ t → Sg f t n = 0
  | 0, _ => rfl
  | n + 1, h => if_neg (by omega)
theorem Sg_head (f : Nat → Int) (t : Nat) : ∀ n, t < n → Sg f t n = f t + Sg f (t + 1) n
  | 0, h => absurd h (by omega)
  | n + 1, h => by
    by_cases c : t < n
    · have ih := Sg_head f t n c
      simp only [Sg, if_pos (show t ≤ n by omega), if_pos (show t + 1 ≤ n by omega)]
      rw [ih]
      omega
    · have e : t = n := by omega
      subst e
      simp only [Sg, if_pos (Nat.le_refl t), if_neg (show ¬ t + 1 ≤ t by omega)]
      rw [Sg_self f t t (Nat.le_refl t)]
      omega
theorem Sg_congr {f g : Nat → Int} {t : Nat} : ∀ n, (∀ j, t ≤ j → j < n → f j = g j) → Sg f t n = Sg g t n
  | 0, _ => rfl
  | n + 1, h => by
    by_cases c : t ≤ n
    · simp only [Sg, if_pos c]
      rw [Sg_congr n fun j a b => h j a (by omega), h n c (by omega)]
    · simp only [Sg, if_neg c]
theorem Sg_lin (f g : Nat → Int) (a b : Int) (t : Nat) : ∀ n, Sg (fun j => a * f j - b * g j) t n = a * Sg f t n - b * Sg g t n
  | 0 => by simp [Sg]
  | n + 1 => by
    by_cases c : t ≤ n
    · simp only [Sg, if_pos c]
      rw [Sg_lin f g a b t n]
      grind
    · simp only [Sg, if_neg c]
      simp
theorem Sg_mul (f : Nat → Int) (a : Int) (t : Nat) : ∀ n, Sg (fun j => a * f j) t n = a * Sg f t n
  | 0 => by simp [Sg]
  | n + 1 => by
    by_cases c : t ≤ n
    · simp only [Sg, if_pos c]
      rw [Sg_mul f a t n]
      grind
    · simp only [Sg, if_neg c]
      simp
theorem Sg_np {f : Nat → Int} {t : Nat} : ∀ n, (∀ j, t ≤ j → j < n → f j ≤ 0) → Sg f t n ≤ 0
  | 0, _ => Int.le_refl 0
  | n + 1, h => by
    by_cases c : t ≤ n
    · simp only [Sg, if_pos c]
      have := Sg_np n fun j a b => h j a (by omega)
      have := h n c (by omega)
      omega
    · simp only [Sg, if_neg c]
      exact Int.le_refl 0
/-- beside the diagonal nothing above 0; with the weights u each row from t on is above 0 -/
structure Good (B : Nat → Nat → Int) (t n : Nat) (u : Nat → Int) : Prop where
  off : ∀ i j, t ≤ i → i < n → t ≤ j → j < n → j ≠ i → B i j ≤ 0
  row : ∀ i, t ≤ i → i < n → 0 < Sg (fun j => B i j * u j) t n
theorem Good.pivot {B : Nat → Nat → Int} {t n : Nat} {u : Nat → Int} (hu : ∀ j, 0 < u j) (g : Good B t n u) (h : t < n) : 0 < B t t := by
  have h1 := g.row t (Nat.le_refl t) h
  rw [Sg_head _ _ _ h] at h1
  have h2 : Sg (fun j => B t j * u j) (t + 1) n ≤ 0 := Sg_np n fun j a b => by
    have h3 := g.off t j (Nat.le_refl t) h (by omega) b (by omega)
    have := hu j
    exact Int.mul_nonpos_of_nonpos_of_nonneg h3 (by omega)
  have h4 : 0 < B t t * u t := by omega
  exact Int.pos_of_mul_pos_left h4 (by have := hu t; omega)
theorem Good.next {B B' : Nat → Nat → Int} {t n : Nat} {u : Nat → Int} {s : Int} (hu : ∀ j, 0 < u j) (g : Good B t n u) (h : t < n) (hs : 0 < s)
    (e : ∀ i j, t < i → i < n → t < j → j < n → B i j * B t t - B i t * B t j = s * B' i j) : Good B' (t + 1) n u := by
  have hp := g.pivot hu h
  have cancel : ∀ x : Int, s * x ≤ 0 → x ≤ 0 := fun x hx => by
    apply Int.not_lt.mp
    intro c
    have := Int.mul_pos hs c
    omega
  constructor
  · intro i j hi hin hj hjn hne
    apply cancel
    rw [← e i j (by omega) hin (by omega) hjn]
    have h1 := g.off i j (by omega) hin (by omega) hjn hne
    have h2 := g.off i t (by omega) hin (Nat.le_refl t) h (by omega)
    have h3 := g.off t j (Nat.le_refl t) h (by omega) hjn (by omega)
    have h4 : B i j * B t t ≤ 0 := Int.mul_nonpos_of_nonpos_of_nonneg h1 (by omega)
    have h5 : 0 ≤ B i t * B t j := Int.mul_nonneg_of_nonpos_of_nonpos h2 h3
    omega
  · intro i hi hin
    have r1 := g.row i (by omega) hin
    have r2 := g.row t (Nat.le_refl t) h
    have h2 := g.off i t (by omega) hin (Nat.le_refl t) h (by omega)
    rw [Sg_head _ _ _ h] at r1 r2
    have key : s * Sg (fun j => B' i j * u j) (t + 1) n = B t t * Sg (fun j => B i j * u j) (t + 1) n - B i t * Sg (fun j => B t j * u j) (t + 1) n := by
      rw [← Sg_mul, ← Sg_lin]
      apply Sg_congr
      intro j a b
      have := e i j (by omega) hin (by omega) b
      grind
    have h6 : 0 < s * Sg (fun j => B' i j * u j) (t + 1) n := by
      rw [key]
      have p1 : 0 < B t t * (B i t * u t + Sg (fun j => B i j * u j) (t + 1) n) := Int.mul_pos hp r1
      have p2 : 0 ≤ (- B i t) * (B t t * u t + Sg (fun j => B t j * u j) (t + 1) n) := Int.mul_nonneg (by omega) (by omega)
      grind
    exact Int.pos_of_mul_pos_right h6 (by omega)
section
variable (A : Nat → Nat → Int)
theorem div_of {a s b : Int} (hs : 0 < s) (e : a = s * b) : a / s = b := by
  rw [e, Int.mul_comm]
  exact Int.mul_ediv_cancel b (by omega)
theorem ele1 : (ele A 1).1 = w1 A ∧ (ele A 1).2 = A 0 0 := by
  refine ⟨?_, rfl⟩
  funext i j
  show pivF A 0 1 i j = _
  unfold pivF
  by_cases h : i = 0
  · rw [if_pos h]; simp only [w1, if_pos h]
  · rw [if_neg h]
    exact div_of (by decide) (id1 A i j h)
theorem ele2 (h1 : 0 < A 0 0) : (ele A 2).1 = w2 A ∧ (ele A 2).2 = w1 A 1 1 := by
  obtain ⟨e1, e2⟩ := ele1 A
  refine ⟨?_, by show (ele A 1).1 1 1 = _; rw [e1]⟩
  funext i j
  show pivF (ele A 1).1 1 (ele A 1).2 i j = _
  rw [e1, e2]
  unfold pivF
  by_cases h : i = 1
  · rw [if_pos h]
    subst h
    simp only [w1, w2, d2, if_neg (show ¬ (1 : Nat) = 0 by decide), if_pos]
    grind
  · rw [if_neg h]
    exact div_of h1 (id2 A i j h)
theorem ele3 (h1 : 0 < A 0 0) (h2 : 0 < w1 A 1 1) : (ele A 3).1 = w3 A ∧ (ele A 3).2 = w2 A 2 2 := by
  obtain ⟨e1, e2⟩ := ele2 A h1
  refine ⟨?_, by show (ele A 2).1 2 2 = _; rw [e1]⟩
  funext i j
  show pivF (ele A 2).1 2 (ele A 2).2 i j = _
  rw [e1, e2]
  unfold pivF
  by_cases h : i = 2
  · rw [if_pos h]
    subst h
    simp only [w2, w3, if_neg (show ¬ (2 : Nat) = 0 by decide), if_neg (show ¬ (2 : Nat) = 1 by decide), if_pos]
  · rw [if_neg h]
    exact div_of h2 (id3 A i j h)
theorem ele4 (h1 : 0 < A 0 0) (h2 : 0 < w1 A 1 1) (h3 : 0 < w2 A 2 2) : (∀ i j, i < 4 → (ele A 4).1 i j = w4 A i j) ∧ (ele A 4).2 = w3 A 3 3 := by
  obtain ⟨e1, e2⟩ := ele3 A h1 h2
  refine ⟨?_, by show (ele A 3).1 3 3 = _; rw [e1]⟩
  intro i j hi
  show pivF (ele A 3).1 3 (ele A 3).2 i j = _
  rw [e1, e2]
  unfold pivF
  by_cases h : i = 3
  · rw [if_pos h]
    subst h
    simp only [w3, w4, if_neg (show ¬ (3 : Nat) = 0 by decide), if_neg (show ¬ (3 : Nat) = 1 by decide), if_neg (show ¬ (3 : Nat) = 2 by decide)]
  · rw [if_neg h]
    exact div_of h3 (id4 A i j (by omega))
/-- all pivots are above 0, and what stands in the last column solves the equations, times the scale -/
theorem elim_all {n : Nat} (hn : 1 ≤ n ∧ n ≤ 4) {u : Nat → Int} (hu : ∀ j, 0 < u j) (g : Good A 0 n u) :
    (∀ t, t ≤ n → 0 < (ele A t).2) ∧ (∀ t, t < n → (ele A t).1 t t = (ele A (t + 1)).2) ∧ ∀ i, i < n → Sg (fun j => A i j * (ele A n).1 j n) 0 n = (ele A n).2 * A i n := by
  have p0 := g.pivot hu (by omega)
  have q1 : 1 < n → Good (w1 A) 1 n u := fun h => g.next hu (by omega) (by decide) fun i j hi _ _ _ => id1 A i j (by omega)
  have p1 : 1 < n → 0 < w1 A 1 1 := fun h => (q1 h).pivot hu h
  have q2 : 2 < n → Good (w2 A) 2 n u := fun h => (q1 (by omega)).next hu (by omega) p0 fun i j hi _ _ _ => id2 A i j (by omega)
  have p2 : 2 < n → 0 < w2 A 2 2 := fun h => (q2 h).pivot hu h
  have q3 : 3 < n → Good (w3 A) 3 n u := fun h => (q2 (by omega)).next hu (by omega) (p1 (by omega)) fun i j hi _ _ _ => id3 A i j (by omega)
  have p3 : 3 < n → 0 < w3 A 3 3 := fun h => (q3 h).pivot hu h
  refine ⟨fun t ht => ?_, fun t ht => rfl, ?_⟩
  · have c : t = 0 ∨ t = 1 ∨ t = 2 ∨ t = 3 ∨ t = 4 := by omega
    rcases c with rfl | rfl | rfl | rfl | rfl
    · show (0 : Int) < 1; decide
    · rw [(ele1 A).2]; exact p0
    · rw [(ele2 A p0).2]; exact p1 (by omega)
    · rw [(ele3 A p0 (p1 (by omega))).2]; exact p2 (by omega)
    · rw [(ele4 A p0 (p1 (by omega)) (p2 (by omega))).2]; exact p3 (by omega)
  · intro i hi
    have c : n = 1 ∨ n = 2 ∨ n = 3 ∨ n = 4 := by omega
    rcases c with rfl | rfl | rfl | rfl
    · obtain ⟨e1, e2⟩ := ele1 A
      rw [e1, e2]
      have : i = 0 := by omega
      subst this
      simp only [Sg, if_pos, Nat.zero_le]
      simp only [w1, if_pos]
      grind
    · obtain ⟨e1, e2⟩ := ele2 A p0
      rw [e1, e2]
      have := cram2 A i hi
      simp only [Sg, if_pos, Nat.zero_le]
      omega
    · obtain ⟨e1, e2⟩ := ele3 A p0 (p1 (by omega))
      rw [e1, e2]
      have := cram3 A i hi
      simp only [Sg, if_pos, Nat.zero_le]
      omega
    · obtain ⟨e1, e2⟩ := ele4 A p0 (p1 (by omega)) (p2 (by omega))
      have := cram4 A i hi
      simp only [Sg, if_pos, Nat.zero_le, e1 0 4 (by decide), e1 1 4 (by decide), e1 2 4 (by decide), e1 3 4 (by decide), e2]
      omega
end
end Mix
namespace Mix
/-! ### how great the numbers grow -/
def Bd (n : Nat) (i : Int) : Prop := i.natAbs < 2 ^ n
theorem Bd.mono {n m : Nat} {i : Int} (h : Bd n i) (l : n ≤ m) : Bd m i := Nat.lt_of_lt_of_le h (Nat.pow_le_pow_right (by decide) l)
theorem Bd.le {n : Nat} {i j : Int} (h : Bd n j) (l : i.natAbs ≤ j.natAbs) : Bd n i := Nat.lt_of_le_of_lt l h
theorem Bd.mul {n m : Nat} {i j : Int} (h : Bd n i) (g : Bd m j) : Bd (n + m) (i * j) := by
  unfold Bd at *
  rw [Int.natAbs_mul, Nat.pow_add]
  by_cases c : j.natAbs = 0
  · rw [c, Nat.mul_zero]
    exact Nat.mul_pos (Nat.two_pow_pos n) (Nat.two_pow_pos m)
  · exact Nat.lt_of_lt_of_le (Nat.mul_lt_mul_of_pos_right h (by omega)) (Nat.mul_le_mul_left _ (Nat.le_of_lt g))
theorem Bd.sub {n : Nat} {i j : Int} (h : Bd n i) (g : Bd n j) : Bd (n + 1) (i - j) := by
  unfold Bd at *
  rw [Nat.pow_succ]
  omega
theorem Bd.add {n : Nat} {i j : Int} (h : Bd n i) (g : Bd n j) : Bd (n + 1) (i + j) := by
  unfold Bd at *
  rw [Nat.pow_succ]
  omega
theorem Bd.div {n : Nat} {i s : Int} (h : Bd n i) (hs : 0 < s) : Bd n (i / s) := by
  unfold Bd at *
  exact Nat.lt_of_le_of_lt (Int.natAbs_ediv_le_natAbs i s) h
theorem pivF_bd {B : Nat → Nat → Int} {t n b : Nat} {s : Int} (ht : t < n) (hs : 0 < s) (h : ∀ i j, i < n → j ≤ n → Bd b (B i j)) (i j : Nat) (hi : i < n) (hj : j ≤ n) : Bd (2 * b + 1) (pivF B t s i j) := by
  unfold pivF
  by_cases c : i = t
  · rw [if_pos c]
    exact (h t j ht hj).mono (by omega)
  · rw [if_neg c]
    have a := (h i j hi hj).mul (h t t ht (by omega))
    have d := (h i t hi (by omega)).mul (h t j ht hj)
    exact ((a.sub d).div hs).mono (by omega)
def bt : Nat → Nat
  | 0 => 10
  | t + 1 => 2 * bt t + 1
theorem bt_le {t : Nat} (h : t ≤ 4) : bt t ≤ 175 := by
  have c : t = 0 ∨ t = 1 ∨ t = 2 ∨ t = 3 ∨ t = 4 := by omega
  rcases c with rfl | rfl | rfl | rfl | rfl <;> decide
theorem ele_bd {A : Nat → Nat → Int} {n : Nat} (hp : ∀ t, t ≤ n → 0 < (ele A t).2) (h : ∀ i j, i < n → j ≤ n → Bd 10 (A i j)) : ∀ t, t ≤ n → ∀ i j, i < n → j ≤ n → Bd (bt t) ((ele A t).1 i j)
  | 0, _, i, j, hi, hj => h i j hi hj
  | t + 1, ht, i, j, hi, hj => pivF_bd (by omega) (hp t (by omega)) (ele_bd hp h t (by omega)) i j hi hj
/-! ### the rows of some ways -/
def matW (W : Wd) (p : Nat → Int) (ws : Nat → Way) (i j : Nat) : Int :=
  if j < W.L then (match ws i with
    | none => if j = i then 1 else 0
    | some c => (if j = i then (W.k : Int) else 0) - (c.count j : Int))
  else (match ws i with
    | none => p i
    | some _ => 0)
theorem matW_bd {W : Wd} (ok : W.Ok) {p : Nat → Int} {ws : Nat → Way} (hp : ∀ l, l < W.L → (p l).natAbs ≤ 1000) (hw : ∀ l c, l < W.L → ws l = some c → W.Cup c) (i j : Nat) (hi : i < W.L) : Bd 10 (matW W p ws i j) := by
  have e10 : (2 : Nat) ^ 10 = 1024 := by decide
  unfold Bd matW
  rw [e10]
  have hk : W.k ≤ 3 := by rcases ok.small with h | h <;> omega
  by_cases c : j < W.L
  · rw [if_pos c]
    cases e : ws i with
    | none => by_cases d : j = i <;> simp [d]
    | some cs =>
      have h1 := (hw i cs hi e).len
      have h2 : cs.count j ≤ cs.length := List.count_le_length
      by_cases d : j = i
      · simp only [if_pos d]
        omega
      · simp only [if_neg d]
        omega
  · rw [if_neg c]
    cases e : ws i with
    | none =>
      have := hp i hi
      simp only
      omega
    | some cs => simp
/-- counting, weighed -/
theorem Sg_one (f : Nat → Int) (c : Nat) : ∀ n, c < n → Sg (fun j => (if j = c then 1 else 0) * f j) 0 n = f c
  | 0, h => absurd h (by omega)
  | n + 1, h => by
    simp only [Sg, Nat.zero_le, if_pos]
    by_cases e : c = n
    · subst e
      have z : Sg (fun j => (if j = c then 1 else 0) * f j) 0 c = Sg (fun _ => 0) 0 c := Sg_congr c fun j _ hj => by
        rw [if_neg (by omega)]
        simp
      have z2 : ∀ m, Sg (fun _ => 0) 0 m = 0 := by
        intro m
        induction m with
        | zero => rfl
        | succ m ih => simp [Sg, ih]
      rw [z, z2, if_pos rfl]
      simp
    · rw [Sg_one f c n (by omega), if_neg (by omega)]
      simp
def sumI (f : Nat → Int) : List Nat → Int
  | [] => 0
  | a :: r => f a + sumI f r
theorem Sg_add (f g : Nat → Int) (t : Nat) : ∀ n, Sg (fun j => f j + g j) t n = Sg f t n + Sg g t n
  | 0 => rfl
  | n + 1 => by
    by_cases c : t ≤ n
    · simp only [Sg, if_pos c]
      rw [Sg_add f g t n]
      omega
    · simp only [Sg, if_neg c]
      rfl
theorem Sg_zero (t : Nat) : ∀ n, Sg (fun _ => 0) t n = 0
  | 0 => rfl
  | n + 1 => by
    by_cases c : t ≤ n
    · simp only [Sg, if_pos c, Sg_zero t n]
      rfl
    · simp only [Sg, if_neg c]
theorem Sg_count (f : Nat → Int) (n : Nat) : ∀ cs : List Nat, (∀ c ∈ cs, c < n) → Sg (fun j => (cs.count j : Int) * f j) 0 n = sumI f cs
  | [], _ => by
    have : (fun j => (([] : List Nat).count j : Int) * f j) = fun _ => 0 := by funext j; simp
    rw [this, Sg_zero]
    rfl
  | a :: r, h => by
    have ih := Sg_count f n r fun c hc => h c (by simp [hc])
    have e : Sg (fun j => ((a :: r).count j : Int) * f j) 0 n = Sg (fun j => (r.count j : Int) * f j + (if j = a then 1 else 0) * f j) 0 n := Sg_congr n fun j _ _ => by
      rw [List.count_cons]
      by_cases q : j = a
      · subst q
        simp
        grind
      · have : (a == j) = false := by simp; omega
        rw [this, if_neg q]
        simp
    rw [e, Sg_add, ih, Sg_one f a n (h a (by simp))]
    show _ = f a + sumI f r
    omega
theorem matW_row {W : Wd} {p : Nat → Int} {ws : Nat → Way} (f : Nat → Int) (i : Nat) (hi : i < W.L) (hc : ∀ c, ws i = some c → W.Cup c) :
    Sg (fun j => matW W p ws i j * f j) 0 W.L = (match ws i with
      | none => f i
      | some c => (W.k : Int) * f i - sumI f c) := by
  cases e : ws i with
  | none =>
    have q : Sg (fun j => matW W p ws i j * f j) 0 W.L = Sg (fun j => (if j = i then 1 else 0) * f j) 0 W.L := Sg_congr _ fun j _ hj => by
      simp only [matW, if_pos hj, e]
    rw [q, Sg_one f i _ hi]
  | some c =>
    have q : Sg (fun j => matW W p ws i j * f j) 0 W.L = Sg (fun j => (W.k : Int) * ((if j = i then 1 else 0) * f j) - 1 * ((c.count j : Int) * f j)) 0 W.L := Sg_congr _ fun j _ hj => by
      simp only [matW, if_pos hj, e]
      by_cases d : j = i
      · simp only [if_pos d]; grind
      · simp only [if_neg d]; grind
    rw [q, Sg_lin, Sg_one f i _ hi, Sg_count f _ c (hc c e).lt]
    simp
/-! ### weights -/
def Rch (ws : Nat → Way) : Nat → Nat → Prop
  | 0, l => ws l = none
  | t + 1, l => Rch ws t l ∨ ∃ c, ws l = some c ∧ ∃ d ∈ c, Rch ws t d
theorem Rch.mono {ws : Nat → Way} {l : Nat} : ∀ {t u : Nat}, t ≤ u → Rch ws t l → Rch ws u l
  | t, 0, h, r => by rw [show t = 0 by omega] at r; exact r
  | t, u + 1, h, r => by
    by_cases e : t = u + 1
    · rw [e] at r; exact r
    · exact .inl (Rch.mono (by omega) r)
theorem rch_all {W : Wd} {ws : Nat → Way} (pr : Proper W ws) : ∃ t, ∀ l, l < W.L → Rch ws t l := by
  have each := pr (fun l => ∃ t, Rch ws t l) (fun l _ e => ⟨0, e⟩) (fun l c _ e ⟨d, hd, t, ht⟩ => ⟨t + 1, .inr ⟨c, e, d, hd, ht⟩⟩)
  have go : ∀ n, n ≤ W.L → ∃ t, ∀ l, l < n → Rch ws t l := by
    intro n
    induction n with
    | zero => exact fun _ => ⟨0, fun l hl => absurd hl (by omega)⟩
    | succ n ih =>
      intro hn
      obtain ⟨t, ht⟩ := ih (by omega)
      obtain ⟨u, hu⟩ := each n (by omega)
      refine ⟨max t u, fun l hl => ?_⟩
      by_cases e : l = n
      · rw [e]; exact hu.mono (by omega)
      · exact (ht l (by omega)).mono (by omega)
  exact go W.L (Nat.le_refl _)
theorem sumI_le {f g : Nat → Int} : ∀ {cs : List Nat}, (∀ c ∈ cs, f c ≤ g c) → sumI f cs ≤ sumI g cs
  | [], _ => Int.le_refl 0
  | a :: r, h => by
    have h1 := h a (by simp)
    have h2 := sumI_le (f := f) (g := g) (cs := r) fun c hc => h c (by simp [hc])
    show f a + sumI f r ≤ g a + sumI g r
    omega
theorem sumI_four (f : Nat → Int) : ∀ cs : List Nat, sumI (fun l => 4 * f l) cs = 4 * sumI f cs
  | [] => rfl
  | a :: r => by
    show 4 * f a + sumI (fun l => 4 * f l) r = 4 * (f a + sumI f r)
    rw [sumI_four f r]
    omega
theorem sumI_dip {f : Nat → Int} {M : Int} : ∀ {cs : List Nat}, (∀ c ∈ cs, f c ≤ M) → (∃ d ∈ cs, f d ≤ M - 4) → sumI f cs ≤ (cs.length : Int) * M - 4
  | [], _, ⟨d, hd, _⟩ => by cases hd
  | a :: r, h, ⟨d, hd, hm⟩ => by
    have hr : ∀ c ∈ r, f c ≤ M := fun c hc => h c (by simp [hc])
    have ha := h a (by simp)
    have all : ∀ cs : List Nat, (∀ c ∈ cs, f c ≤ M) → sumI f cs ≤ (cs.length : Int) * M := by
      intro cs
      induction cs with
      | nil => intro _; simp [sumI]
      | cons b s ih =>
        intro hb
        have h1 := hb b (by simp)
        have h2 := ih fun c hc => hb c (by simp [hc])
        show f b + sumI f s ≤ ((s.length + 1 : Nat) : Int) * M
        rw [show ((s.length + 1 : Nat) : Int) = (s.length : Int) + 1 by omega, Int.add_mul]
        omega
    show f a + sumI f r ≤ ((r.length + 1 : Nat) : Int) * M - 4
    rw [show ((r.length + 1 : Nat) : Int) = (r.length : Int) + 1 by omega, Int.add_mul]
    rcases List.mem_cons.mp hd with rfl | hd
    · have := all r hr
      omega
    · have := sumI_dip hr ⟨d, hd, hm⟩
      omega
theorem weights {W : Wd} (ok : W.Ok) {ws : Nat → Way} (hw : ∀ l c, l < W.L → ws l = some c → W.Cup c) : ∀ t, ∃ (u : Nat → Int) (M : Int), (∀ l, 0 < u l ∧ u l ≤ M) ∧ (∀ l, Rch ws t l → u l < M) ∧ (∀ l, ¬ Rch ws t l → u l = M) ∧
    ∀ l c, l < W.L → Rch ws t l → ws l = some c → sumI u c < (W.k : Int) * u l
  | 0 => by
    classical
    refine ⟨fun l => if ws l = none then 1 else 2, 2, fun l => by by_cases c : ws l = none <;> simp [c], fun l h => ?_, fun l h => ?_, fun l c _ h e => ?_⟩
    · have h' : ws l = none := h
      simp [h']
    · have h' : ¬ ws l = none := h
      simp [h']
    · have h' : ws l = none := h
      rw [h'] at e
      cases e
  | t + 1 => by
    classical
    obtain ⟨u, M, h1, h2, h3, h4⟩ := weights ok hw t
    have hk : W.k ≤ 3 := by rcases ok.small with h | h <;> omega
    have e1 : ∀ l, Rch ws t l → (if Rch ws t l then 4 * u l else if Rch ws (t + 1) l then 4 * M - 1 else 4 * M) = 4 * u l := fun l h => if_pos h
    have e2 : ∀ l, ¬ Rch ws t l → Rch ws (t + 1) l → (if Rch ws t l then 4 * u l else if Rch ws (t + 1) l then 4 * M - 1 else 4 * M) = 4 * M - 1 := fun l h g => by rw [if_neg h, if_pos g]
    have e3 : ∀ l, ¬ Rch ws t l → ¬ Rch ws (t + 1) l → (if Rch ws t l then 4 * u l else if Rch ws (t + 1) l then 4 * M - 1 else 4 * M) = 4 * M := fun l h g => by rw [if_neg h, if_neg g]
    generalize hv : (fun l => if Rch ws t l then 4 * u l else if Rch ws (t + 1) l then 4 * M - 1 else 4 * M) = v
    have f1 : ∀ l, Rch ws t l → v l = 4 * u l := fun l h => by rw [← hv]; exact e1 l h
    have f2 : ∀ l, ¬ Rch ws t l → Rch ws (t + 1) l → v l = 4 * M - 1 := fun l h g => by rw [← hv]; exact e2 l h g
    have f3 : ∀ l, ¬ Rch ws t l → ¬ Rch ws (t + 1) l → v l = 4 * M := fun l h g => by rw [← hv]; exact e3 l h g
    have le4 : ∀ l, v l ≤ 4 * u l := fun l => by
      by_cases a : Rch ws t l
      · rw [f1 l a]; exact Int.le_refl _
      · have := h3 l a
        by_cases b : Rch ws (t + 1) l
        · rw [f2 l a b]; omega
        · rw [f3 l a b]; omega
    refine ⟨v, 4 * M, fun l => ?_, fun l h => ?_, fun l h => ?_, fun l c hl h e => ?_⟩
    · have q := h1 l
      have := le4 l
      by_cases a : Rch ws t l
      · rw [f1 l a]; omega
      · by_cases b : Rch ws (t + 1) l
        · rw [f2 l a b]; omega
        · rw [f3 l a b]; omega
    · have q := h1 l
      by_cases a : Rch ws t l
      · have := h2 l a
        rw [f1 l a]; omega
      · rw [f2 l a h]; omega
    · exact f3 l (fun z => h (.inl z)) h
    · by_cases a : Rch ws t l
      · have q := h4 l c hl a e
        have s1 : sumI v c ≤ sumI (fun l => 4 * u l) c := sumI_le fun d _ => le4 d
        rw [sumI_four] at s1
        rw [f1 l a]
        have : (W.k : Int) * (4 * u l) = 4 * ((W.k : Int) * u l) := by grind
        omega
      · have hd : ∃ d ∈ c, Rch ws t d := by
          rcases h with h | ⟨c', e', h⟩
          · exact absurd h a
          · rw [e] at e'
            cases e'
            exact h
        obtain ⟨d, hd, hr⟩ := hd
        have s1 : sumI v c ≤ (c.length : Int) * (4 * M) - 4 := sumI_dip (fun b _ => by have := le4 b; have := (h1 b).2; omega) ⟨d, hd, by rw [f1 d hr]; have := h2 d hr; omega⟩
        rw [(hw l c hl e).len] at s1
        rw [f2 l a h]
        have : (W.k : Int) * (4 * M - 1) = (W.k : Int) * (4 * M) - (W.k : Int) := by grind
        omega
theorem matW_good {W : Wd} (ok : W.Ok) {p : Nat → Int} {ws : Nat → Way} (hw : ∀ l c, l < W.L → ws l = some c → W.Cup c) (pr : Proper W ws) : ∃ u : Nat → Int, (∀ j, 0 < u j) ∧ Good (matW W p ws) 0 W.L u := by
  obtain ⟨t, ht⟩ := rch_all pr
  obtain ⟨u, M, h1, h2, h3, h4⟩ := weights ok hw t
  refine ⟨u, fun j => (h1 j).1, fun i j _ hi _ hj hne => ?_, fun i _ hi => ?_⟩
  · simp only [matW, if_pos hj]
    cases e : ws i with
    | none => simp [hne]
    | some c => simp only [if_neg hne]; omega
  · rw [matW_row u i hi (fun c e => hw i c hi e)]
    cases e : ws i with
    | none => exact (h1 i).1
    | some c =>
      have := h4 i c hi (ht i hi) e
      show 0 < (W.k : Int) * u i - sumI u c
      omega
/-! ### the solution -/
def solX (W : Wd) (p : Nat → Int) (ws : Nat → Way) (j : Nat) : Int := (ele (matW W p ws) W.L).1 j W.L
def solS (W : Wd) (p : Nat → Int) (ws : Nat → Way) : Int := (ele (matW W p ws) W.L).2
def solQ (W : Wd) (p : Nat → Int) (ws : Nat → Way) (j : Nat) : Rat := (solX W p ws j : Rat) / (solS W p ws : Rat)
theorem sumI_rat (f : Nat → Int) (s : Rat) : ∀ cs : List Nat, ((sumI f cs : Int) : Rat) / s = sumL (cs.map fun c => (f c : Rat) / s)
  | [] => by simp [sumI, sumL]; grind
  | a :: r => by
    have ih := sumI_rat f s r
    show ((f a + sumI f r : Int) : Rat) / s = (f a : Rat) / s + sumL _
    rw [← ih, Rat.intCast_add]
    grind
theorem wOk {W : Wd} (ok : W.Ok) : 1 ≤ W.L ∧ W.L ≤ 4 := ⟨ok.pos, by rcases ok.small with h | h <;> omega⟩
theorem sol_ok {W : Wd} (ok : W.Ok) {p : Nat → Int} {ws : Nat → Way} (wo : WaysOk W ws) (pr : Proper W ws) : Solves W (fun l => (p l : Rat)) ws (solQ W p ws) := by
  obtain ⟨u, hu, g⟩ := matW_good (p := p) ok wo.cup pr
  obtain ⟨h1, h2, h3⟩ := elim_all (matW W p ws) (wOk ok) hu g
  have hs : 0 < solS W p ws := h1 W.L (Nat.le_refl _)
  have hs' : (solS W p ws : Rat) ≠ 0 := by
    intro z
    have := Rat.intCast_eq_zero_iff.mp z
    omega
  constructor
  · intro l hl e
    have q := h3 l hl
    rw [matW_row _ l hl (fun c e => wo.cup l c hl e), e] at q
    have q' : solX W p ws l = solS W p ws * matW W p ws l W.L := q
    have m : matW W p ws l W.L = p l := by simp [matW, e]
    rw [m] at q'
    show (solX W p ws l : Rat) / _ = _
    rw [q', Rat.intCast_mul]
    grind
  · intro l c hl e
    have q := h3 l hl
    rw [matW_row _ l hl (fun c e => wo.cup l c hl e), e] at q
    have q' : (W.k : Int) * solX W p ws l - sumI (solX W p ws) c = solS W p ws * matW W p ws l W.L := q
    have m : matW W p ws l W.L = 0 := by simp [matW, e]
    rw [m] at q'
    have q2 : (W.k : Int) * solX W p ws l = sumI (solX W p ws) c := by omega
    unfold sumQ solQ
    rw [← sumI_rat, ← q2, Rat.intCast_mul]
    have : ((W.k : Int) : Rat) = (W.k : Rat) := Rat.intCast_natCast W.k
    rw [this]
    grind
end Mix
namespace Mix
/-! ### fractions in lowest terms -/
theorem gcd_pos_of {t b : Int} (hb : 0 < b) : 0 < Nat.gcd t.natAbs b.natAbs := Nat.gcd_pos_of_pos_right _ (by omega)
theorem divInt_num {t b : Int} (hb : 0 < b) : (Rat.divInt t b).num = t / (Nat.gcd t.natAbs b.natAbs : Int) := by
  rw [Rat.num_divInt, Int.sign_eq_one_of_pos hb, Int.one_mul]
  show t / ((Int.gcd b t : Nat) : Int) = _
  rw [show Int.gcd b t = Nat.gcd t.natAbs b.natAbs from Nat.gcd_comm _ _]
theorem divInt_den {t b : Int} (hb : 0 < b) : (((Rat.divInt t b).den : Nat) : Int) = b / (Nat.gcd t.natAbs b.natAbs : Int) := by
  rw [Rat.den_divInt, if_neg (by omega)]
  show (((b.natAbs / Int.gcd b t : Nat)) : Int) = _
  rw [show Int.gcd b t = Nat.gcd t.natAbs b.natAbs from Nat.gcd_comm _ _]
  have e : b = (b.natAbs : Int) := by omega
  conv => rhs; rw [e]
  exact Int.natCast_ediv _ _
theorem den_posI (q : Rat) : 0 < (q.den : Int) := by
  have := q.den_pos
  omega
theorem den_neI (q : Rat) : ((q.den : Int) : Rat) ≠ 0 := fun z => by
  have := Rat.intCast_eq_zero_iff.mp z
  have := den_posI q
  omega
theorem divInt_self (q : Rat) : Rat.divInt q.num (q.den : Int) = q := Rat.num_divInt_den q
theorem q_eq (q : Rat) : q = (q.num : Rat) / ((q.den : Int) : Rat) := by
  rw [← Rat.divInt_eq_div, divInt_self]
theorem q_add (a b : Rat) : Rat.divInt (a.num * (b.den : Int) + b.num * (a.den : Int)) ((a.den : Int) * (b.den : Int)) = a + b := by
  rw [Rat.divInt_eq_div, Rat.intCast_add, Rat.intCast_mul, Rat.intCast_mul, Rat.intCast_mul]
  have ha := q_eq a
  have hb := q_eq b
  have na := den_neI a
  have nb := den_neI b
  generalize ((a.den : Int) : Rat) = da at *
  generalize ((b.den : Int) : Rat) = db at *
  generalize (a.num : Rat) = x at *
  generalize (b.num : Rat) = y at *
  rw [ha, hb]
  grind
theorem q_mul (a b : Rat) : Rat.divInt (a.num * b.num) ((a.den : Int) * (b.den : Int)) = a * b := by
  rw [Rat.divInt_eq_div, Rat.intCast_mul, Rat.intCast_mul]
  have ha := q_eq a
  have hb := q_eq b
  have na := den_neI a
  have nb := den_neI b
  generalize ((a.den : Int) : Rat) = da at *
  generalize ((b.den : Int) : Rat) = db at *
  generalize (a.num : Rat) = x at *
  generalize (b.num : Rat) = y at *
  rw [ha, hb]
  grind
/-- numerator and denominator are below 2 ^ n -/
structure QB (n : Nat) (q : Rat) : Prop where
  num : Bd n q.num
  den : Bd n (q.den : Int)
theorem QB.mono {n m : Nat} {q : Rat} (h : QB n q) (l : n ≤ m) : QB m q := ⟨h.num.mono l, h.den.mono l⟩
theorem QB.divInt {n : Nat} {t b : Int} (ht : Bd n t) (hb : Bd n b) (pb : 0 < b) : QB n (Rat.divInt t b) := by
  constructor
  · rw [divInt_num pb]
    exact ht.div (by have := gcd_pos_of (t := t) pb; omega)
  · rw [divInt_den pb]
    exact hb.div (by have := gcd_pos_of (t := t) pb; omega)
theorem QB.add {n m : Nat} {a b : Rat} (ha : QB n a) (hb : QB m b) : QB (n + m + 1) (a + b) := by
  rw [← q_add]
  refine QB.divInt ?_ ?_ (Int.mul_pos (den_posI a) (den_posI b))
  · have h1 := ha.num.mul hb.den
    have h2 := hb.num.mul ha.den
    rw [Nat.add_comm m n] at h2
    exact h1.add h2
  · exact (ha.den.mul hb.den).mono (by omega)
theorem QB.mul {n m : Nat} {a b : Rat} (ha : QB n a) (hb : QB m b) : QB (n + m) (a * b) := by
  rw [← q_mul]
  exact QB.divInt (ha.num.mul hb.num) (ha.den.mul hb.den) (Int.mul_pos (den_posI a) (den_posI b))
theorem QB.int {n : Nat} {i : Int} (h : Bd n i) (hn : 1 ≤ n) : QB n (i : Rat) := by
  constructor
  · rw [Rat.num_intCast]; exact h
  · rw [Rat.den_intCast]
    exact (show Bd 1 1 by unfold Bd; decide).mono hn
/-- what the program's comparison of two fractions gives -/
def cmpQ (a b : Rat) : Int := if a < b then -1 else if a = b then 0 else 1
theorem gap_lt (a b : Rat) : a.num * (b.den : Int) - b.num * (a.den : Int) < 0 ↔ a < b := by
  rw [Rat.lt_iff]; omega
theorem gap_eq (a b : Rat) : a.num * (b.den : Int) - b.num * (a.den : Int) = 0 ↔ a = b := by
  rw [Rat.eq_iff_mul_eq_mul]; omega
theorem cmpQ_pos {a b : Rat} : 0 < cmpQ a b ↔ b < a := by
  unfold cmpQ
  by_cases h : a < b
  · rw [if_pos h]
    constructor
    · intro z; omega
    · intro z; exfalso; grind
  · rw [if_neg h]
    by_cases e : a = b
    · rw [if_pos e]
      constructor
      · intro z; omega
      · intro z; exfalso; grind
    · rw [if_neg e]
      constructor
      · intro _; grind
      · intro _; omega
theorem cmpQ_neg {a b : Rat} : cmpQ a b < 0 ↔ a < b := by
  unfold cmpQ
  by_cases h : a < b
  · rw [if_pos h]
    exact ⟨fun _ => h, fun _ => by omega⟩
  · rw [if_neg h]
    by_cases e : a = b
    · rw [if_pos e]
      exact ⟨fun z => by omega, fun z => absurd z h⟩
    · rw [if_neg e]
      exact ⟨fun z => by omega, fun z => absurd z h⟩
theorem cmpQ_zero {a b : Rat} : cmpQ a b = 0 ↔ a = b := by
  unfold cmpQ
  by_cases h : a < b
  · rw [if_pos h]
    constructor
    · intro z; omega
    · intro z; exfalso; grind
  · rw [if_neg h]
    by_cases e : a = b
    · rw [if_pos e]
      exact ⟨fun _ => e, fun _ => rfl⟩
    · rw [if_neg e]
      exact ⟨fun z => by omega, fun z => absurd z e⟩
/-- equal fractions, equal parts -/
theorem q_parts {a b : Rat} (h1 : a.num = b.num) (h2 : (a.den : Int) = (b.den : Int)) : a = b := by
  rw [← divInt_self a, ← divInt_self b, h1, h2]
theorem sol_bd {W : Wd} (ok : W.Ok) {p : Nat → Int} {ws : Nat → Way} (hp : ∀ l, l < W.L → (p l).natAbs ≤ 1000) (wo : WaysOk W ws) (pr : Proper W ws) :
    (∀ t, t ≤ W.L → 0 < (ele (matW W p ws) t).2) ∧ ∀ t, t ≤ W.L → ∀ i j, i < W.L → j ≤ W.L → Bd (bt t) ((ele (matW W p ws) t).1 i j) := by
  obtain ⟨u, hu, g⟩ := matW_good (p := p) ok wo.cup pr
  obtain ⟨h1, h2, h3⟩ := elim_all (matW W p ws) (wOk ok) hu g
  exact ⟨h1, ele_bd h1 fun i j hi _ => matW_bd ok hp wo.cup i j hi⟩
theorem solS_bd {W : Wd} (ok : W.Ok) {p : Nat → Int} {ws : Nat → Way} (hp : ∀ l, l < W.L → (p l).natAbs ≤ 1000) (wo : WaysOk W ws) (pr : Proper W ws) : ∀ t, t ≤ W.L → Bd 200 (ele (matW W p ws) t).2 := by
  obtain ⟨h1, h2⟩ := sol_bd ok hp wo pr
  intro t ht
  cases t with
  | zero => exact (show Bd 1 1 by unfold Bd; decide).mono (by decide)
  | succ t =>
    have h4 := (wOk ok).2
    exact (h2 t (by omega) t t (by omega) (by omega)).mono (Nat.le_trans (bt_le (by omega)) (by decide))
theorem solQ_div {W : Wd} (p : Nat → Int) (ws : Nat → Way) (j : Nat) : solQ W p ws j = Rat.divInt (solX W p ws j) (solS W p ws) := (Rat.divInt_eq_div _ _).symm
theorem solQ_bd {W : Wd} (ok : W.Ok) {p : Nat → Int} {ws : Nat → Way} (hp : ∀ l, l < W.L → (p l).natAbs ≤ 1000) (wo : WaysOk W ws) (pr : Proper W ws) (j : Nat) (hj : j < W.L) : QB 200 (solQ W p ws j) := by
  obtain ⟨h1, h2⟩ := sol_bd ok hp wo pr
  have h4 := (wOk ok).2
  rw [solQ_div]
  exact QB.divInt ((h2 W.L (Nat.le_refl _) j W.L hj (Nat.le_refl _)).mono (Nat.le_trans (bt_le h4) (by decide))) (solS_bd ok hp wo pr W.L (Nat.le_refl _)) (h1 W.L (Nat.le_refl _))
theorem sumL_QB {n : Nat} : ∀ {l : List Rat}, (∀ q ∈ l, QB n q) → QB (l.length * (n + 1) + 1) (sumL l)
  | [], _ => by
    refine QB.mono (n := 1) ⟨?_, ?_⟩ (by simp)
    · show (0 : Int).natAbs < 2 ^ 1; decide
    · show (1 : Int).natAbs < 2 ^ 1; decide
  | a :: r, h => by
    have h1 := h a (by simp)
    have h2 := sumL_QB (n := n) (l := r) fun q hq => h q (by simp [hq])
    have h3 := h1.add h2
    refine h3.mono ?_
    rw [List.length_cons, Nat.add_mul]
    omega
/-! ### the search ends -/
def waysN (opts : List Way) : Nat → List (List Way)
  | 0 => [[]]
  | n + 1 => (waysN opts n).flatMap fun r => opts.map fun o => r ++ [o]
theorem mem_waysN {opts : List Way} : ∀ {n : Nat} {ws : List Way}, ws.length = n → (∀ w ∈ ws, w ∈ opts) → ws ∈ waysN opts n
  | 0, ws, h, _ => by
    rw [List.length_eq_zero_iff.mp h]
    simp [waysN]
  | n + 1, ws, h, ho => by
    have hne : ws ≠ [] := by
      intro e
      rw [e] at h
      cases h
    simp only [waysN, List.mem_flatMap, List.mem_map]
    exact ⟨ws.dropLast, mem_waysN (by simp [h]) fun w hw => ho w (List.dropLast_subset _ hw), ws.getLast hne, ho _ (List.getLast_mem hne), List.dropLast_concat_getLast hne⟩
def optsW (W : Wd) : List Way := none :: (tuplesN W.L W.k).map some
def allW (W : Wd) : List (List Way) := waysN (optsW W) W.L
theorem mem_allW {W : Wd} {ws : List Way} (h : ws.length = W.L) (hw : ∀ (l : Nat) (c : List Nat), ws[l]? = some (some c) → W.Cup c) : ws ∈ allW W := by
  refine mem_waysN h fun w hm => ?_
  obtain ⟨l, hl, e⟩ := List.mem_iff_getElem.mp hm
  cases w with
  | none => simp [optsW]
  | some c =>
    have := hw l c (by rw [List.getElem?_eq_getElem hl, e])
    simp only [optsW, List.mem_cons, List.mem_map]
    exact .inr ⟨c, Wd.cup_mem.mpr this, rfl⟩
theorem filter_lt {α : Type} {p q : α → Bool} : ∀ {l : List α}, (∀ a ∈ l, p a = true → q a = true) → (∃ a ∈ l, q a = true ∧ p a = false) → (l.filter p).length < (l.filter q).length
  | [], _, ⟨a, ha, _⟩ => by cases ha
  | b :: r, h, ⟨a, ha, hq, hp⟩ => by
    have le : ∀ s : List α, (∀ a ∈ s, p a = true → q a = true) → (s.filter p).length ≤ (s.filter q).length := by
      intro s
      induction s with
      | nil => intro _; simp
      | cons c s ih =>
        intro hs
        have h1 := ih fun a ha => hs a (by simp [ha])
        have h2 := hs c (by simp)
        by_cases pc : p c = true
        · rw [List.filter_cons_of_pos pc, List.filter_cons_of_pos (h2 pc)]
          simp only [List.length_cons]
          omega
        · rw [List.filter_cons_of_neg pc]
          by_cases qc : q c = true
          · rw [List.filter_cons_of_pos qc, List.length_cons]; omega
          · rw [List.filter_cons_of_neg qc]; exact h1
    have hr : ∀ a ∈ r, p a = true → q a = true := fun a ha => h a (by simp [ha])
    rcases List.mem_cons.mp ha with rfl | ha
    · rw [List.filter_cons_of_neg (by rw [hp]; decide), List.filter_cons_of_pos hq, List.length_cons]
      have := le r hr
      omega
    · have ih := filter_lt hr ⟨a, ha, hq, hp⟩
      by_cases pb : p b = true
      · rw [List.filter_cons_of_pos pb, List.filter_cons_of_pos (h b (by simp) pb)]
        simp only [List.length_cons]
        omega
      · rw [List.filter_cons_of_neg pb]
        by_cases qb : q b = true
        · rw [List.filter_cons_of_pos qb, List.length_cons]; omega
        · rw [List.filter_cons_of_neg qb]; exact ih
/-- the way of a label by a list of ways -/
def wAt (ws : List Way) (l : Nat) : Way := (ws[l]?).getD none
def valW (W : Wd) (p : Nat → Int) (ws : List Way) : Rat := sumL ((List.range W.L).map (solQ W p (wAt ws)))
/-- how many rows of ways cost less in all -/
def meas (W : Wd) (p : Nat → Int) (ws : List Way) : Nat := ((allW W).filter fun v => decide (valW W p v < valW W p ws)).length
theorem sumL_lt {f g : Nat → Rat} : ∀ {cs : List Nat}, (∀ c ∈ cs, f c ≤ g c) → (∃ c ∈ cs, f c < g c) → sumL (cs.map f) < sumL (cs.map g)
  | [], _, ⟨c, hc, _⟩ => by cases hc
  | a :: r, h, ⟨c, hc, hlt⟩ => by
    have h1 := h a (by simp)
    have hr : ∀ c ∈ r, f c ≤ g c := fun c hc => h c (by simp [hc])
    simp only [List.map_cons, sumL]
    rcases List.mem_cons.mp hc with rfl | hc
    · have := sumL_mono hr
      grind
    · have := sumL_lt hr ⟨c, hc, hlt⟩
      grind
theorem meas_lt {W : Wd} (ok : W.Ok) {p : Nat → Int} {ws ws' : List Way} (hl : ws'.length = W.L) (wo : WaysOk W (wAt ws)) (pr : Proper W (wAt ws))
    (st : Step W (solQ W p (wAt ws)) (wAt ws) (wAt ws')) (hs : ∃ l c, l < W.L ∧ wAt ws' l = some c ∧ sumQ (solQ W p (wAt ws)) c < (W.k : Rat) * solQ W p (wAt ws) l) : meas W p ws' < meas W p ws := by
  have so := sol_ok (p := p) ok wo pr
  have pr' := st.proper ok wo pr so
  have so' := sol_ok (p := p) ok st.ways pr'
  obtain ⟨l, c, hll, e, hlt⟩ := hs
  have val : valW W p ws' < valW W p ws := sumL_lt (fun j hj => st.falls ok so pr' so' j (List.mem_range.mp hj)) ⟨l, List.mem_range.mpr hll, st.strict ok so pr' so' hll e hlt⟩
  refine filter_lt (fun v _ h => ?_) ⟨ws', mem_allW hl fun j d hd => ?_, decide_eq_true val, decide_eq_false fun z => ?_⟩
  · have h' := of_decide_eq_true h
    exact decide_eq_true (by grind)
  · have hj : j < W.L := by
      have := (List.getElem?_eq_some_iff.mp hd).1
      omega
    exact st.ways.cup j d hj (by unfold wAt; rw [hd]; rfl)
  · grind
end Mix
namespace Mix
open PySem PySem.Spec PyProof.Rows L2
/-! ### how things stand in the heap -/
theorem _root_.L2.Same.tup {K : PySem.W.Frag} {H H' : Hp} {a : Addr} {xs : List V} (e : Same H H') (h : SqT K H a xs) : SqT K H' a xs := same_seq e h
theorem _root_.L2.Same.new {H : Hp} {p : Addr} {o : HO} (h : H p = none) : Same H (upd H p o) := fun a u e => by
  rw [upd_ne (ne_of_none e h)]
  exact e
/-- a list that is new since H may change -/
theorem _root_.L2.Same.mut {H H' : Hp} {p : Addr} {o : HO} (e : Same H H') (h : H p = none) : Same H (upd H' p o) := fun a u ha => by
  rw [upd_ne (ne_of_none ha h)]
  exact e a u ha
def vI (ns : List Int) : List V := ns.map V.int
def vN (cs : List Nat) : List V := cs.map fun (c : Nat) => V.int (c : Int)
def TupV (K : PySem.W.Frag) (H : Hp) (v : V) (xs : List V) : Prop := ∃ p, v = .ref p ∧ SqT K H p xs
theorem TupV.mono {K : PySem.W.Frag} {H H' : Hp} {v : V} {xs : List V} (h : TupV K H v xs) (e : Same H H') : TupV K H' v xs := by
  obtain ⟨p, rfl, hp⟩ := h
  exact ⟨p, rfl, e.tup hp⟩
abbrev frV (q : Rat) : List V := [.int q.num, .int (q.den : Int)]
/-- a fraction -/
abbrev FrAt (K : PySem.W.Frag) (H : Hp) (v : V) (q : Rat) : Prop := TupV K H v (frV q)
/-- a row of labels -/
abbrev CupV (K : PySem.W.Frag) (H : Hp) (v : V) (cs : List Nat) : Prop := TupV K H v (vN cs)
/-- what a def hands back: all that was tracked stands -/
def Ret (H : Hp) (Post : V → Hp → Prop) (Q : VK) : Prop := ∀ v H', Same H H' → Post v H' → Q v H'
/-! ### two rows in step -/
structure All2 {α β : Type} (R : α → β → Prop) (l : List α) (m : List β) : Prop where
  len : l.length = m.length
  at_ : ∀ (i : Nat) (x : α) (y : β), l[i]? = some x → m[i]? = some y → R x y
section
variable {α β : Type} {R R' : α → β → Prop} {l : List α} {m : List β}
theorem All2.nil : All2 R [] [] := ⟨rfl, fun i x y h => by simp at h⟩
theorem All2.get (a : All2 R l m) {i : Nat} {x : α} (h : l[i]? = some x) : ∃ y, m[i]? = some y ∧ R x y := by
  have hi : i < m.length := by
    rw [← a.len]
    exact (List.getElem?_eq_some_iff.mp h).1
  exact ⟨m[i], List.getElem?_eq_getElem hi, a.at_ i x _ h (List.getElem?_eq_getElem hi)⟩
theorem All2.get' (a : All2 R l m) {i : Nat} {y : β} (h : m[i]? = some y) : ∃ x, l[i]? = some x ∧ R x y := by
  have hi : i < l.length := by
    rw [a.len]
    exact (List.getElem?_eq_some_iff.mp h).1
  exact ⟨l[i], List.getElem?_eq_getElem hi, a.at_ i _ y (List.getElem?_eq_getElem hi) h⟩
theorem All2.mono (a : All2 R l m) (h : ∀ x y, R x y → R' x y) : All2 R' l m := ⟨a.len, fun i x y p q => h x y (a.at_ i x y p q)⟩
theorem All2.snoc (a : All2 R l m) {x : α} {y : β} (h : R x y) : All2 R (l ++ [x]) (m ++ [y]) := by
  refine ⟨by simp [a.len], fun i u v p q => ?_⟩
  by_cases c : i < l.length
  · rw [List.getElem?_append_left c] at p
    rw [List.getElem?_append_left (by rw [← a.len]; exact c)] at q
    exact a.at_ i u v p q
  · have e : i = l.length := by
      have := (List.getElem?_eq_some_iff.mp p).1
      simp at this
      omega
    subst e
    have p' : x = u := by simpa using p
    have q' : y = v := by
      rw [a.len] at q
      simpa using q
    rw [← p', ← q']
    exact h
theorem All2.set (a : All2 R l m) (i : Nat) {x : α} {y : β} (h : R x y) : All2 R (l.set i x) (m.set i y) := by
  refine ⟨by simp [a.len], fun j u v p q => ?_⟩
  by_cases c : i = j
  · subst c
    have hi : i < l.length := by
      have := (List.getElem?_eq_some_iff.mp p).1
      simpa using this
    rw [List.getElem?_set_self hi] at p
    rw [List.getElem?_set_self (by rw [← a.len]; exact hi)] at q
    cases p
    cases q
    exact h
  · rw [List.getElem?_set_ne c] at p q
    exact a.at_ j u v p q
end
/-- a row of fractions -/
def RowAt (K : PySem.W.Frag) (H : Hp) (v : V) (x : List Rat) : Prop := ∃ vs, TupV K H v vs ∧ All2 (fun u q => FrAt K H u q) vs x
theorem RowAt.mono {K : PySem.W.Frag} {H H' : Hp} {v : V} {x : List Rat} (h : RowAt K H v x) (e : Same H H') : RowAt K H' v x := by
  obtain ⟨vs, t, a⟩ := h
  exact ⟨vs, t.mono e, a.mono fun _ _ z => z.mono e⟩
theorem ift {c : Bool} {A B : Prop} (hc : c = true) (h : A) : if c = true then A else B := by
  rw [if_pos hc]
  exact h
theorem iff' {c : Bool} {A B : Prop} (hc : c = false) (h : B) : if c = true then A else B := by
  rw [hc, if_neg Bool.false_ne_true]
  exact h
/-! ### numbers and their size -/
theorem bd_log {n : Nat} {i : Int} (h : Bd n i) : i.natAbs.log2 ≤ n := by
  by_cases c : i.natAbs = 0
  · rw [c]
    simp
  · exact Nat.le_of_lt ((Nat.log2_lt c).mpr h)
theorem cmul {n m : Nat} {i j : Int} (h : Bd n i) (g : Bd m j) (l : n + m < 1000000) : CMulW i j := by
  have := bd_log h
  have := bd_log g
  show _ + _ < _
  omega
theorem cdiv {n : Nat} {i j : Int} (hj : 0 < j) (h : Bd n j) (l : n < 9000) : CDivW i j := by
  have := bd_log h
  exact ⟨hj, by omega⟩
theorem ixN_of {n j : Nat} (h : j < n) : ixN n (j : Int) = some j := by
  unfold ixN
  rw [if_pos (Int.natCast_nonneg j), if_pos (by omega)]
  simp
/-! ### tables, worlds, rows -/
def pAt (p : List Int) (l : Nat) : Int := p.getD l 0
def pQ (p : List Int) (l : Nat) : Rat := (pAt p l : Rat)
def xAt (x : List Rat) (l : Nat) : Rat := x.getD l 0
def tabF (W : Wd) (r : Addr) : List (Str × V) := putF "results" (.ref r) (putF "labels" (.int (W.L : Int)) (putF "k" (.int (W.k : Int)) []))
/-- a Table stands at t -/
def TabAt (K : PySem.W.Frag) (H : Hp) (t : Addr) (W : Wd) : Prop := ∃ dx r, H t = some (.ins (tabC K) dx (tabF W r)) ∧ SqT K H r (vN W.res)
theorem TabAt.mono {K : PySem.W.Frag} {H H' : Hp} {t : Addr} {W : Wd} (h : TabAt K H t W) (e : Same H H') : TabAt K H' t W := by
  obtain ⟨dx, r, h1, h2⟩ := h
  exact ⟨dx, r, e _ _ h1, e.tup h2⟩
/-- a list or a tuple -/
def SeqV (K : PySem.W.Frag) (H : Hp) (v : V) (xs : List V) : Prop := ∃ a, v = .ref a ∧ (SqL K H a xs ∨ SqT K H a xs)
theorem SeqV.mono {K : PySem.W.Frag} {H H' : Hp} {v : V} {xs : List V} (h : SeqV K H v xs) (e : Same H H') : SeqV K H' v xs := by
  obtain ⟨a, rfl, h⟩ := h
  exact ⟨a, rfl, h.elim (fun h => .inl (e.seq h)) fun h => .inr (e.tup h)⟩
def LstV (K : PySem.W.Frag) (H : Hp) (v : V) (xs : List V) : Prop := ∃ a, v = .ref a ∧ SqL K H a xs
theorem LstV.mono {K : PySem.W.Frag} {H H' : Hp} {v : V} {xs : List V} (h : LstV K H v xs) (e : Same H H') : LstV K H' v xs := by
  obtain ⟨a, rfl, h⟩ := h
  exact ⟨a, rfl, e.seq h⟩
theorem LstV.seq {K : PySem.W.Frag} {H : Hp} {v : V} {xs : List V} (h : LstV K H v xs) : SeqV K H v xs := by
  obtain ⟨a, rfl, h⟩ := h
  exact ⟨a, rfl, .inl h⟩
theorem TupV.seq {K : PySem.W.Frag} {H : Hp} {v : V} {xs : List V} (h : TupV K H v xs) : SeqV K H v xs := by
  obtain ⟨a, rfl, h⟩ := h
  exact ⟨a, rfl, .inr h⟩
/-- the world of the law -/
def WorldAt (K : PySem.W.Frag) (H : Hp) (v : V) (W : Wd) : Prop := ∃ r b, TupV K H v [.int (W.k : Int), .int (W.L : Int), .ref r, .bl b] ∧ SqL K H r (vN W.res)
theorem WorldAt.mono {K : PySem.W.Frag} {H H' : Hp} {v : V} {W : Wd} (h : WorldAt K H v W) (e : Same H H') : WorldAt K H' v W := by
  obtain ⟨r, b, h1, h2⟩ := h
  exact ⟨r, b, h1.mono e, e.seq h2⟩
def WayV (K : PySem.W.Frag) (H : Hp) (v : V) : Way → Prop
  | none => v = .non
  | some c => CupV K H v c
theorem WayV.mono {K : PySem.W.Frag} {H H' : Hp} {v : V} {w : Way} (h : WayV K H v w) (e : Same H H') : WayV K H' v w := by
  cases w with
  | none => exact h
  | some c => exact TupV.mono h e
/-- a matrix: n rows of n + 1 ints -/
def rowV (n : Nat) (f : Nat → Int) : List V := (List.range (n + 1)).map fun j => V.int (f j)
def LvV (H : Hp) (v : V) (xs : List V) : Prop := ∃ a, v = .ref a ∧ H a = some (.lst xs)
theorem LvV.mono {H H' : Hp} {v : V} {xs : List V} (h : LvV H v xs) (e : Same H H') : LvV H' v xs := by
  obtain ⟨a, rfl, h⟩ := h
  exact ⟨a, rfl, e _ _ h⟩
def MatAt (H : Hp) (v : V) (n : Nat) (B : Nat → Nat → Int) : Prop := ∃ vs, LvV H v vs ∧ vs.length = n ∧ ∀ i u, vs[i]? = some u → LvV H u (rowV n (B i))
theorem MatAt.mono {H H' : Hp} {v : V} {n : Nat} {B : Nat → Nat → Int} (h : MatAt H v n B) (e : Same H H') : MatAt H' v n B := by
  obtain ⟨vs, h1, h2, h3⟩ := h
  exact ⟨vs, h1.mono e, h2, fun i u z => (h3 i u z).mono e⟩
def PricesOk (W : Wd) (p : List Int) : Prop := p.length = W.L ∧ ∀ l, (pAt p l).natAbs ≤ 1000
def RowOk (W : Wd) (x : List Rat) : Prop := x.length = W.L ∧ ∀ q ∈ x, QB 200 q
/-- a recipe of the label l that costs x l, at most so deep -/
def RecAt (K : PySem.W.Frag) (H : Hp) (W : Wd) (p x : Nat → Rat) : Nat → V → Nat → Prop
  | 0, v, l => v = .int (l : Int) ∧ l < W.L ∧ x l = p l
  | d + 1, v, l => (v = .int (l : Int) ∧ l < W.L ∧ x l = p l) ∨ ∃ us cs, TupV K H v us ∧ W.Cup cs ∧ (W.k : Rat) * x (W.bl cs) = sumQ x cs ∧ W.bl cs = l ∧ us.length = cs.length ∧
      ∀ (i : Nat) (u : V) (c : Nat), us[i]? = some u → cs[i]? = some c → RecAt K H W p x d u c
theorem RecAt.mono {K : PySem.W.Frag} {H H' : Hp} {W : Wd} {p x : Nat → Rat} (e : Same H H') : ∀ {d : Nat} {v : V} {l : Nat}, RecAt K H W p x d v l → RecAt K H' W p x d v l
  | 0, _, _, h => h
  | d + 1, _, _, h => by
    rcases h with h | ⟨us, cs, h1, h2, h3, h4, h5, h6⟩
    · exact .inl h
    · exact .inr ⟨us, cs, h1.mono e, h2, h3, h4, h5, fun i u c a b => RecAt.mono e (h6 i u c a b)⟩
theorem RecAt.succ {K : PySem.W.Frag} {H : Hp} {W : Wd} {p x : Nat → Rat} : ∀ {d : Nat} {v : V} {l : Nat}, RecAt K H W p x d v l → RecAt K H W p x (d + 1) v l
  | 0, _, _, h => .inl h
  | d + 1, _, _, h => by
    rcases h with h | ⟨us, cs, h1, h2, h3, h4, h5, h6⟩
    · exact .inl h
    · exact .inr ⟨us, cs, h1, h2, h3, h4, h5, fun i u c a b => (h6 i u c a b).succ⟩
/-- the labels with a recipe that costs just x -/
inductive Exa (W : Wd) (p x : Nat → Rat) : Nat → Prop where
  | base {l : Nat} : l < W.L → x l = p l → Exa W p x l
  | step {cs : List Nat} : W.Cup cs → (W.k : Rat) * x (W.bl cs) = sumQ x cs → (∀ c ∈ cs, Exa W p x c) → Exa W p x (W.bl cs)
/-! ### promises of the numbers -/
def sp_divisor (K : PySem.W.Frag) : Sp := fun vs H Q _ => ∃ a b : Int, vs = [.int a, .int b] ∧ 0 ≤ a ∧ 0 ≤ b ∧ Q (.int (Nat.gcd a.natAbs b.natAbs : Int)) H
def sp_made (K : PySem.W.Frag) : Sp := fun vs H Q _ => ∃ t b : Int, vs = [.int t, .int b] ∧ 0 < b ∧ Bd 8000 b ∧ Ret H (fun v H' => FrAt K H' v (Rat.divInt t b)) Q
def sp_added (K : PySem.W.Frag) : Sp := fun vs H Q _ => ∃ (u v : V) (a b : Rat), vs = [u, v] ∧ FrAt K H u a ∧ FrAt K H v b ∧ QB 4000 a ∧ QB 4000 b ∧ Ret H (fun v H' => FrAt K H' v (a + b)) Q
def sp_times (K : PySem.W.Frag) : Sp := fun vs H Q _ => ∃ (u v : V) (a b : Rat), vs = [u, v] ∧ FrAt K H u a ∧ FrAt K H v b ∧ QB 4000 a ∧ QB 4000 b ∧ Ret H (fun v H' => FrAt K H' v (a * b)) Q
def sp_compared (K : PySem.W.Frag) : Sp := fun vs H Q _ => ∃ (u v : V) (a b : Rat), vs = [u, v] ∧ FrAt K H u a ∧ FrAt K H v b ∧ QB 4000 a ∧ QB 4000 b ∧ Q (.int (cmpQ a b)) H
def sp_total (K : PySem.W.Frag) : Sp := fun vs H Q _ => ∃ (p : Addr) (us : List V) (qs : List Rat), vs = [.ref p] ∧ SqL K H p us ∧ All2 (fun u q => FrAt K H u q) us qs ∧ (∀ q ∈ qs, QB 200 q) ∧ qs.length ≤ 4 ∧ Ret H (fun v H' => FrAt K H' v (sumL qs)) Q
/-! ### promises of the program -/
def sp_is_integer (K : PySem.W.Frag) : Sp := fun vs H Q _ => ∃ i : Int, vs = [.int i] ∧ Ret H (fun v _ => v = .bl true) Q
def sp_is_bowl (K : PySem.W.Frag) : Sp := fun vs H Q _ => ∃ i : Int, vs = [.int i] ∧ 2 ≤ i ∧ i ≤ 5 ∧ Ret H (fun v _ => v = .bl true) Q
def sp_checked_bowl (K : PySem.W.Frag) : Sp := fun vs H Q _ => ∃ i : Int, vs = [.int i] ∧ 2 ≤ i ∧ i ≤ 5 ∧ Ret H (fun v _ => v = .int i) Q
def sp_is_index (K : PySem.W.Frag) : Sp := fun vs H Q _ => ∃ i n : Int, vs = [.int i, .int n] ∧ 0 ≤ i ∧ i < n ∧ Ret H (fun v _ => v = .bl true) Q
def sp_is_row (K : PySem.W.Frag) : Sp := fun vs H Q _ => ∃ (v : V) (xs : List V), vs = [v] ∧ SeqV K H v xs ∧ Ret H (fun v _ => v = .bl true) Q
def sp_power (K : PySem.W.Frag) : Sp := fun vs H Q _ => ∃ b m : Nat, vs = [.int (b : Int), .int (m : Int)] ∧ b ≤ 12 ∧ m ≤ 5 ∧ Ret H (fun v _ => v = .int ((b ^ m : Nat) : Int)) Q
def sp_fits (K : PySem.W.Frag) : Sp := fun vs H Q _ => ∃ k l : Nat, vs = [.int (k : Int), .int (l : Int)] ∧ 1 ≤ l ∧ l ≤ 4 ∧ k ≤ 3 ∧ Ret H (fun v _ => v = .bl true) Q
def sp_Table_init (K : PySem.W.Frag) : Sp := fun vs H Q _ => ∃ (t dx : Addr) (W : Wd) (rv : V), vs = [.ref t, .int (W.k : Int), .int (W.L : Int), rv] ∧ H t = some (.ins (tabC K) dx []) ∧ W.Ok ∧ SeqV K H rv (vN W.res) ∧
  ∀ H', (∀ a o, a ≠ t → H a = some o → H' a = some o) → TabAt K H' t W → Q .non H'
def sp_Table_blend (K : PySem.W.Frag) : Sp := fun vs H Q _ => ∃ (t : Addr) (W : Wd) (cv : V) (cs : List Nat), vs = [.ref t, cv] ∧ TabAt K H t W ∧ W.Ok ∧ CupV K H cv cs ∧ W.Cup cs ∧ Ret H (fun v _ => v = .int (W.bl cs : Int)) Q
def sp_tuples_of (K : PySem.W.Frag) : Sp := fun vs H Q _ => ∃ (a : Addr) (n m : Nat), vs = [.ref a, .int (m : Int)] ∧ SqL K H a (vN (List.range n)) ∧ n ≤ 4 ∧ m ≤ 3 ∧
  Ret H (fun v H' => ∃ us, LstV K H' v us ∧ All2 (CupV K H') us (tuplesN n m)) Q
def sp_checked_prices (K : PySem.W.Frag) : Sp := fun vs H Q _ => ∃ (t : Addr) (W : Wd) (pv : V) (p : List Int), vs = [.ref t, pv] ∧ TabAt K H t W ∧ SeqV K H pv (vI p) ∧ p.length = W.L ∧ Ret H (fun v H' => TupV K H' v (vI p)) Q
def sp_pivoted (K : PySem.W.Frag) : Sp := fun vs H Q _ => ∃ (rv : V) (n t b : Nat) (s : Int) (B : Nat → Nat → Int), vs = [rv, .int (t : Int), .int (t : Int), .int s] ∧ MatAt H rv n B ∧ n ≤ 4 ∧ t < n ∧ 0 < s ∧ Bd 1000 s ∧
  b ≤ 1000 ∧ (∀ i j, i < n → j ≤ n → Bd b (B i j)) ∧ Ret H (fun v H' => MatAt H' v n (pivF B t s)) Q
def sp_solved (K : PySem.W.Frag) : Sp := fun vs H Q _ => ∃ (rv : V) (n : Nat) (A : Nat → Nat → Int), vs = [rv] ∧ MatAt H rv n A ∧ n ≤ 4 ∧ (∀ t, t ≤ n → 0 < (ele A t).2 ∧ Bd 300 (ele A t).2) ∧ (∀ t, t ≤ n → ∀ i j, i < n → j ≤ n → Bd 300 ((ele A t).1 i j)) ∧
  Ret H (fun v H' => ∃ q, TupV K H' v [.int (ele A n).2, q] ∧ LstV K H' q ((List.range n).map fun i => V.int ((ele A n).1 i n))) Q
def sp_against (K : PySem.W.Frag) : Sp := fun vs H Q _ => ∃ (t : Addr) (W : Wd) (rv cv : V) (x : List Rat) (cs : List Nat), vs = [.ref t, rv, cv] ∧ TabAt K H t W ∧ W.Ok ∧ RowAt K H rv x ∧ RowOk W x ∧ CupV K H cv cs ∧ W.Cup cs ∧
  Ret H (fun v _ => v = .int (cmpQ ((W.k : Rat) * xAt x (W.bl cs)) (sumQ (xAt x) cs))) Q
def sp_all_cups (K : PySem.W.Frag) : Sp := fun vs H Q _ => ∃ (t : Addr) (W : Wd), vs = [.ref t] ∧ TabAt K H t W ∧ W.Ok ∧ Ret H (fun v H' => ∃ us, LstV K H' v us ∧ All2 (CupV K H') us (tuplesN W.L W.k)) Q
def rowQ (W : Wd) (p : List Int) (ws : List Way) : List Rat := (List.range W.L).map (solQ W (pAt p) (wAt ws))
def sp_followed (K : PySem.W.Frag) : Sp := fun vs H Q _ => ∃ (t : Addr) (W : Wd) (pv wv : V) (p : List Int) (us : List V) (ws : List Way), vs = [.ref t, pv, wv] ∧ TabAt K H t W ∧ W.Ok ∧ TupV K H pv (vI p) ∧ PricesOk W p ∧
  LstV K H wv us ∧ All2 (WayV K H) us ws ∧ ws.length = W.L ∧ WaysOk W (wAt ws) ∧ Proper W (wAt ws) ∧ Ret H (fun v H' => RowAt K H' v (rowQ W p ws)) Q
def CostsAt (K : PySem.W.Frag) (H : Hp) (W : Wd) (p : List Int) (v : V) (x : List Rat) (ws : List Way) : Prop := ∃ rv wv us, TupV K H v [rv, wv] ∧ RowAt K H rv x ∧ RowOk W x ∧ TupV K H wv us ∧ All2 (WayV K H) us ws ∧ ws.length = W.L ∧ IsCosts W (pQ p) (xAt x) (wAt ws)
def sp_costs (K : PySem.W.Frag) : Sp := fun vs H Q _ => ∃ (t : Addr) (W : Wd) (pv : V) (p : List Int), vs = [.ref t, pv] ∧ TabAt K H t W ∧ W.Ok ∧ SeqV K H pv (vI p) ∧ PricesOk W p ∧ Ret H (fun v H' => ∃ x ws, CostsAt K H' W p v x ws) Q
/-- the refusal -/
abbrev refC (K : PySem.W.Frag) : Addr := He.ga K "Refused"
def sp_cheapest_recipe (K : PySem.W.Frag) : Sp := fun vs H Q E => ∃ (t : Addr) (W : Wd) (pv : V) (p : List Int) (l : Nat) (x : Nat → Rat) (ws : Nat → Way), vs = [.ref t, pv, .int (l : Int)] ∧ TabAt K H t W ∧ W.Ok ∧ SeqV K H pv (vI p) ∧ PricesOk W p ∧ l < W.L ∧ IsCosts W (pQ p) x ws ∧
  (Exa W (pQ p) x l → Ret H (fun v H' => RecAt K H' W (pQ p) x 4 v l) Q) ∧ (¬ Exa W (pQ p) x l → ∀ d H', Same H H' → H d = none → H' d = some (.xd [("at", .int 0)]) → E (.ref (refC K)) (some d) H')
/-! ### promises of the law -/
/-- the source of draws: the list at d holds the list at c and an int -/
def DealAt (H : Hp) (d c : Addr) : Prop := ∃ (ns : List Int) (b : Int), H d = some (.lst [.ref c, .int b]) ∧ H c = some (.lst (vI ns)) ∧ ns.length ≤ 100 ∧ 0 ≤ b ∧ b < 2147483647
/-- all that was tracked but the source of draws stands -/
def SameX (d c : Addr) (H H' : Hp) : Prop := ∀ a o, a ≠ d → a ≠ c → H a = some o → H' a = some o
def RetD (d c : Addr) (H : Hp) (Post : V → Hp → Prop) (Q : VK) : Prop := ∀ v H', SameX d c H H' → DealAt H' d c → Post v H' → Q v H'
def sp_law_draw (K : PySem.W.Frag) : Sp := fun vs H Q _ => ∃ (a : Addr) (ns : List Int) (z : Int), vs = [.ref a, .int z] ∧ SqL K H a (vI ns) ∧ ns.length ≤ 63 ∧ 0 ≤ z ∧ z ≤ 1000 ∧ Ret H (fun v H' => ∃ d c, v = .ref d ∧ H d = none ∧ H c = none ∧ DealAt H' d c) Q
def sp_law_any (K : PySem.W.Frag) : Sp := fun vs H Q _ => ∃ (d c : Addr) (b : Nat), vs = [.ref d, .int (b : Int)] ∧ DealAt H d c ∧ 0 < b ∧ b ≤ 5000 ∧ RetD d c H (fun v _ => ∃ r : Nat, v = .int (r : Int) ∧ r < b) Q
def sp_law_of (K : PySem.W.Frag) : Sp := fun vs H Q _ => ∃ (d c a : Addr) (xs : List V), vs = [.ref d, .ref a] ∧ DealAt H d c ∧ H a = some (.lst xs) ∧ a ≠ d ∧ a ≠ c ∧ xs ≠ [] ∧ xs.length ≤ 100 ∧ RetD d c H (fun v _ => v ∈ xs) Q
/-- a list of the law's own, not of the source of draws -/
def LsX (d c : Addr) (H : Hp) (v : V) (xs : List V) : Prop := ∃ a, v = .ref a ∧ H a = some (.lst xs) ∧ a ≠ d ∧ a ≠ c
theorem LsX.lst {K : PySem.W.Frag} {d c : Addr} {H : Hp} {v : V} {xs : List V} (h : LsX d c H v xs) : LstV K H v xs := by
  obtain ⟨a, rfl, h, _⟩ := h
  exact ⟨a, rfl, SqL.of h⟩
def PairV (K : PySem.W.Frag) (H : Hp) (v : V) (q : Nat × Nat) : Prop := TupV K H v [.int (q.1 : Int), .int (q.2 : Int)]
def sp_law_mixed (K : PySem.W.Frag) : Sp := fun vs H Q _ => ∃ (d c : Addr) (lv : V) (xs : List V) (nm : List (Nat × Nat)), vs = [.ref d, lv] ∧ DealAt H d c ∧ LsX d c H lv xs ∧ All2 (PairV K H) xs nm ∧ nm.length ≤ 4 ∧
  RetD d c H (fun v H' => ∃ ys, LsX d c H' v ys ∧ ys.Perm xs) Q
def sp_law_power (K : PySem.W.Frag) : Sp := fun vs H Q _ => ∃ b m : Nat, vs = [.int (b : Int), .int (m : Int)] ∧ b ≤ 10 ∧ m ≤ 3 ∧ Ret H (fun v _ => v = .int ((b ^ m : Nat) : Int)) Q
def sp_law_divisor (K : PySem.W.Frag) : Sp := fun vs H Q _ => ∃ a b : Int, vs = [.int a, .int b] ∧ 0 ≤ a ∧ 0 ≤ b ∧ Q (.int (Nat.gcd a.natAbs b.natAbs : Int)) H
/-- the remainder of 1 / k -/
def invN (k m : Nat) : Nat := ((List.range m).filter fun (r : Nat) => decide (((r : Int) * (k : Int) - 1) % (m : Int) = 0)).headD 0
def sp_law_inverse (K : PySem.W.Frag) : Sp := fun vs H Q _ => ∃ k m : Nat, vs = [.int (k : Int), .int (m : Int)] ∧ (k = 2 ∨ k = 3) ∧ 1 ≤ m ∧ m ≤ 7 ∧ Nat.gcd m k = 1 ∧ Ret H (fun v _ => v = .int (invN k m : Int)) Q
def sp_law_tuples (K : PySem.W.Frag) : Sp := fun vs H Q _ => ∃ k n : Nat, vs = [.int (k : Int), .int (n : Int)] ∧ k ≤ 3 ∧ n ≤ 8 ∧ n ^ k ≤ 64 ∧ Ret H (fun v H' => ∃ us a0, v = .ref a0 ∧ H a0 = none ∧ H' a0 = some (.lst us) ∧ All2 (fun u cs => ∃ a, u = .ref a ∧ H a = none ∧ H' a = some (.lst (vN cs))) us (tuplesN n k)) Q
structure Frm where
  sz : List Nat
  up : List Nat
  mp : List (Nat × Nat)
  nm : List (Nat × Nat)
structure Frm.Ok (k most : Nat) (F : Frm) : Prop where
  pos : 0 < F.sz.length
  lu : F.up.length = F.sz.length
  lm : F.mp.length = F.sz.length
  lsz : F.sz.length ≤ 5
  many : F.nm.length ≤ most
  szok : ∀ s ∈ F.sz, 0 < s ∧ s ≤ 4 ∧ Nat.gcd s k = 1
  upok : ∀ (i u : Nat), F.up[i]? = some u → u ≤ i - 1
  mpok : ∀ q ∈ F.mp, q.1 ≤ 10 ∧ q.2 ≤ 10
  nmok : ∀ w i, (w, i) ∈ F.nm ↔ ∃ s, F.sz[w]? = some s ∧ i < s
def FormAt (K : PySem.W.Frag) (H : Hp) (v : V) (F : Frm) : Prop := ∃ a b m n ms ns, TupV K H v [.ref a, .ref b, .ref m, .ref n] ∧ SqL K H a (vN F.sz) ∧ SqL K H b (vN F.up) ∧ SqL K H m ms ∧ All2 (PairV K H) ms F.mp ∧ SqL K H n ns ∧ All2 (PairV K H) ns F.nm
def sp_law_form (K : PySem.W.Frag) : Sp := fun vs H Q _ => ∃ (d c : Addr) (k most : Nat), vs = [.ref d, .int (k : Int), .int (most : Int)] ∧ DealAt H d c ∧ ((k = 2 ∧ most = 4) ∨ (k = 3 ∧ most = 3)) ∧ RetD d c H (fun v H' => ∃ F : Frm, FormAt K H' v F ∧ F.Ok k most) Q
/-- up from a wheel -/
inductive Anc (up : List Nat) : Nat → Nat → Prop where
  | refl (a : Nat) : Anc up a a
  | step {a b u : Nat} : up[a]? = some u → Anc up u b → Anc up a b
def sp_law_joint (K : PySem.W.Frag) : Sp := fun vs H Q _ => ∃ (a b : Addr) (up ws : List Nat), vs = [.ref a, .ref b] ∧ SqL K H a (vN up) ∧ SqL K H b (vN ws) ∧ (∀ (i u : Nat), up[i]? = some u → u ≤ i - 1) ∧ ws ≠ [] ∧ (∀ w ∈ ws, w < up.length) ∧
  Ret H (fun v _ => ∃ g : Nat, v = .int (g : Int) ∧ g < up.length ∧ ∀ w ∈ ws, Anc up w g) Q
def sp_law_risen (K : PySem.W.Frag) : Sp := fun vs H Q _ => ∃ (fv nv : V) (F : Frm) (k most w i g s : Nat), vs = [fv, nv, .int (g : Int)] ∧ FormAt K H fv F ∧ F.Ok k most ∧ PairV K H nv (w, i) ∧ F.sz[w]? = some s ∧ i < s ∧ Anc F.up w g ∧
  Ret H (fun v _ => ∃ j : Nat, v = .int (j : Int) ∧ j ≤ 4) Q
def KM (k most : Nat) : Prop := (k = 2 ∧ most = 4) ∨ (k = 3 ∧ most = 3)
def sp_law_results (K : PySem.W.Frag) : Sp := fun vs H Q _ => ∃ (fv : V) (F : Frm) (k most : Nat), vs = [.int (k : Int), fv] ∧ KM k most ∧ FormAt K H fv F ∧ F.Ok k most ∧
  Ret H (fun v H' => ∃ r res, v = .ref r ∧ H r = none ∧ H' r = some (.lst (vN res)) ∧ Wd.Ok ⟨k, F.nm.length, res⟩) Q
def stdOk : List (Nat × Nat × Nat) := [(2, 1, 1), (2, 2, 1), (2, 1, 3), (2, 1, 5), (2, 1, 7), (3, 1, 1), (3, 2, 1), (3, 1, 5), (3, 1, 7), (3, 1, 2), (3, 1, 4)]
def sp_law_standard (K : PySem.W.Frag) : Sp := fun vs H Q _ => ∃ k m d : Nat, vs = [.int (k : Int), .int (m : Int), .int (d : Int)] ∧ (k, m, d) ∈ stdOk ∧
  Ret H (fun v H' => ∃ r nv L res, TupV K H' v [.int ((L : Nat) : Int), .ref r, nv] ∧ H r = none ∧ H' r = some (.lst (vN res)) ∧ Wd.Ok ⟨k, L, res⟩) Q
/-- the labels and results of a table -/
def TblX (K : PySem.W.Frag) (d c : Addr) (k : Nat) (v : V) (H : Hp) : Prop := ∃ r L res, TupV K H v [.int ((L : Nat) : Int), .ref r] ∧ H r = some (.lst (vN res)) ∧ r ≠ d ∧ r ≠ c ∧ Wd.Ok ⟨k, L, res⟩
def sp_law_table (K : PySem.W.Frag) : Sp := fun vs H Q _ => ∃ (d c : Addr) (k most : Nat), vs = [.ref d, .int (k : Int), .int (most : Int)] ∧ DealAt H d c ∧ KM k most ∧ RetD d c H (TblX K d c k) Q
def sp_law_spoilt (K : PySem.W.Frag) : Sp := fun vs H Q _ => ∃ (d c r : Addr) (W : Wd), vs = [.ref d, .int (W.L : Int), .ref r] ∧ DealAt H d c ∧ H r = some (.lst (vN W.res)) ∧ r ≠ d ∧ r ≠ c ∧ W.Ok ∧ 2 ≤ W.L ∧
  RetD d c H (fun v H' => ∃ r res, v = .ref r ∧ H' r = some (.lst (vN res)) ∧ r ≠ d ∧ r ≠ c ∧ Wd.Ok ⟨W.k, W.L, res⟩) Q
def sp_law_random (K : PySem.W.Frag) : Sp := fun vs H Q _ => ∃ (d c : Addr) (k most L : Nat), vs = [.ref d, .int (k : Int), .int (L : Int)] ∧ DealAt H d c ∧ KM k most ∧ 1 ≤ L ∧ L ≤ most ∧
  RetD d c H (fun v H' => ∃ r res, v = .ref r ∧ H' r = some (.lst (vN res)) ∧ r ≠ d ∧ r ≠ c ∧ Wd.Ok ⟨k, L, res⟩) Q
def sp_law_blend (K : PySem.W.Frag) : Sp := fun vs H Q _ => ∃ (r : Addr) (cv : V) (W : Wd) (cs : List Nat), vs = [.int (W.L : Int), .ref r, cv] ∧ SqL K H r (vN W.res) ∧ SeqV K H cv (vN cs) ∧ W.Ok ∧ W.Cup cs ∧ Ret H (fun v _ => v = .int (W.bl cs : Int)) Q
/-- the world, its results not the source of draws -/
def WorldX (K : PySem.W.Frag) (d c : Addr) (W : Wd) (v : V) (H : Hp) : Prop := ∃ r b, TupV K H v [.int (W.k : Int), .int (W.L : Int), .ref r, .bl b] ∧ H r = some (.lst (vN W.res)) ∧ r ≠ d ∧ r ≠ c
theorem WorldX.at_ {K : PySem.W.Frag} {d c : Addr} {W : Wd} {v : V} {H : Hp} (h : WorldX K d c W v H) : WorldAt K H v W := by
  obtain ⟨r, b, h1, h2, _⟩ := h
  exact ⟨r, b, h1, SqL.of h2⟩
def sp_law_world (K : PySem.W.Frag) : Sp := fun vs H Q _ => ∃ (d c : Addr), vs = [.ref d, .int 4] ∧ DealAt H d c ∧ RetD d c H (fun v H' => ∃ W : Wd, W.Ok ∧ WorldX K d c W v H') Q
def sp_law_shown (K : PySem.W.Frag) : Sp := fun vs H Q _ => ∃ (d c : Addr) (lv : V) (xs : List V), vs = [.ref d, lv] ∧ DealAt H d c ∧ LsX d c H lv xs ∧ RetD d c H (fun v H' => SeqV K H' v xs) Q
def sp_law_prices (K : PySem.W.Frag) : Sp := fun vs H Q _ => ∃ (d c : Addr) (L : Nat), vs = [.ref d, .int (L : Int)] ∧ DealAt H d c ∧ 1 ≤ L ∧ L ≤ 4 ∧
  RetD d c H (fun v H' => ∃ p : List Int, LsX d c H' v (vI p) ∧ p.length = L ∧ ∀ i ∈ p, i.natAbs ≤ 1000) Q
def sp_law_made (K : PySem.W.Frag) : Sp := sp_made K
def sp_law_plus (K : PySem.W.Frag) : Sp := fun vs H Q _ => ∃ (u v : V) (a b : Rat) (n : Int), vs = [u, v, .int n] ∧ FrAt K H u a ∧ FrAt K H v b ∧ QB 3000 a ∧ QB 3000 b ∧ (n = 1 ∨ n = -1) ∧ Ret H (fun v H' => FrAt K H' v (a + (n : Rat) * b)) Q
def sp_law_is_fraction (K : PySem.W.Frag) : Sp := fun vs H Q _ => ∃ (v : V) (q : Rat), vs = [v] ∧ FrAt K H v q ∧ Ret H (fun v _ => v = .bl true) Q
def wgh (W : Wd) (x : List Rat) (cs : List Nat) : Rat := (W.k : Rat) * xAt x (W.bl cs) - sumQ (xAt x) cs
def sp_law_weighed (K : PySem.W.Frag) : Sp := fun vs H Q _ => ∃ (wv rv cv : V) (W : Wd) (x : List Rat) (cs : List Nat), vs = [wv, rv, cv] ∧ WorldAt K H wv W ∧ W.Ok ∧ RowAt K H rv x ∧ RowOk W x ∧ SeqV K H cv (vN cs) ∧ W.Cup cs ∧
  Ret H (fun v _ => v = .int (wgh W x cs).num) Q
def sp_law_is_way (K : PySem.W.Frag) : Sp := fun vs H Q _ => ∃ (wv yv : V) (W : Wd) (l : Nat) (y : Way), vs = [wv, .int (l : Int), yv] ∧ WorldAt K H wv W ∧ W.Ok ∧ WayV K H yv y ∧ (∀ cs, y = some cs → W.Cup cs ∧ W.bl cs = l) ∧ Ret H (fun v _ => v = .bl true) Q
def sp_law_is_costs (K : PySem.W.Frag) : Sp := fun vs H Q _ => ∃ (wv pv cv : V) (W : Wd) (p : List Int) (x : List Rat) (ws : List Way), vs = [wv, pv, cv] ∧ WorldAt K H wv W ∧ W.Ok ∧ LstV K H pv (vI p) ∧ PricesOk W p ∧ CostsAt K H W p cv x ws ∧ Ret H (fun v _ => v = .bl true) Q
def sp_law_label (K : PySem.W.Frag) (dp : Nat) : Sp := fun vs H Q _ => ∃ (r n : Addr) (W : Wd) (p x : Nat → Rat) (v : V) (l : Nat), vs = [.int (W.L : Int), .ref r, .ref n, v] ∧ SqL K H r (vN W.res) ∧ SqL K H n (vN (List.range W.L)) ∧ W.Ok ∧ RecAt K H W p x dp v l ∧ Ret H (fun v _ => v = .int (l : Int)) Q
def sp_law_bill (K : PySem.W.Frag) (dp : Nat) : Sp := fun vs H Q _ => ∃ (pv : V) (W : Wd) (p : List Int) (x : Nat → Rat) (v : V) (l : Nat), vs = [.int (W.k : Int), pv, v] ∧ W.Ok ∧ LstV K H pv (vI p) ∧ PricesOk W p ∧ (∀ l, l < W.L → QB 200 (x l)) ∧ RecAt K H W (pQ p) x dp v l ∧ Ret H (fun v H' => FrAt K H' v (x l)) Q
def sp_law_is_recipe (K : PySem.W.Frag) (dp : Nat) : Sp := fun vs H Q _ => ∃ (wv : V) (W : Wd) (p x : Nat → Rat) (v : V) (l : Nat) (n : Int), vs = [wv, v, .int n] ∧ WorldAt K H wv W ∧ W.Ok ∧ RecAt K H W p x dp v l ∧ (dp : Int) ≤ n ∧ n ≤ 12 ∧ Ret H (fun v _ => v = .bl true) Q
def sp_law_exact (K : PySem.W.Frag) : Sp := fun vs H Q _ => ∃ (wv pv rv : V) (W : Wd) (p : List Int) (x : List Rat), vs = [wv, pv, rv] ∧ WorldAt K H wv W ∧ W.Ok ∧ LstV K H pv (vI p) ∧ PricesOk W p ∧ RowAt K H rv x ∧ RowOk W x ∧
  Ret H (fun v H' => ∃ (S : List Nat) (a : Addr), v = .ref a ∧ H a = none ∧ H' a = some (.lst (vN S)) ∧ ∀ l, l ∈ S ↔ Exa W (pQ p) (xAt x) l) Q
def sp_law_told (K : PySem.W.Frag) : Sp := fun vs H Q _ => ∃ (t : Addr) (W : Wd) (pv : V) (p : List Int) (l : Nat) (x : Nat → Rat) (ws : Nat → Way), vs = [.ref t, pv, .int (l : Int)] ∧ TabAt K H t W ∧ W.Ok ∧ SeqV K H pv (vI p) ∧ PricesOk W p ∧ l < W.L ∧ IsCosts W (pQ p) x ws ∧
  Ret H (fun v H' => (Exa W (pQ p) x l ∧ RecAt K H' W (pQ p) x 4 v l) ∨ (¬ Exa W (pQ p) x l ∧ LstV K H' v [.int 0])) Q
def sp_law_all_right (K : PySem.W.Frag) : Sp := fun vs H Q _ => ∃ (d c t : Addr) (wv pv : V) (W : Wd) (p : List Int), vs = [.ref d, wv, .ref t, pv] ∧ DealAt H d c ∧ WorldX K d c W wv H ∧ W.Ok ∧ TabAt K H t W ∧ LsX d c H pv (vI p) ∧ PricesOk W p ∧ RetD d c H (fun v _ => v = .bl true) Q
def sp_law (K : PySem.W.Frag) : Sp := fun vs H Q _ => ∃ (a : Addr) (ns : List Int), vs = [.ref a] ∧ SqL K H a (vI ns) ∧ ns.length ≤ 63 ∧ Ret H (fun v _ => v = .bl true) Q
end Mix
set_option maxHeartbeats 0
namespace MixHead
open PySem PySem.Spec PyProof.Rows L2 Mix
def d_pivoted : He.DefD := ⟨("pivoted", none), "pivoted", "pivoted", defArgs s_pivoted, defBody s_pivoted, defScope s_pivoted, [], []⟩
def d_solved : He.DefD := ⟨("solved", none), "solved", "solved", defArgs s_solved, defBody s_solved, defScope s_solved, [], []⟩
def d_is_integer : He.DefD := ⟨("is_integer", none), "is_integer", "is_integer", defArgs s_is_integer, defBody s_is_integer, defScope s_is_integer, [], []⟩
def d_is_bowl : He.DefD := ⟨("is_bowl", none), "is_bowl", "is_bowl", defArgs s_is_bowl, defBody s_is_bowl, defScope s_is_bowl, [], []⟩
def d_checked_bowl : He.DefD := ⟨("checked_bowl", none), "checked_bowl", "checked_bowl", defArgs s_checked_bowl, defBody s_checked_bowl, defScope s_checked_bowl, [], []⟩
def d_is_index : He.DefD := ⟨("is_index", none), "is_index", "is_index", defArgs s_is_index, defBody s_is_index, defScope s_is_index, [], []⟩
def d_is_row : He.DefD := ⟨("is_row", none), "is_row", "is_row", defArgs s_is_row, defBody s_is_row, defScope s_is_row, [], []⟩
def d_power : He.DefD := ⟨("power", none), "power", "power", defArgs s_power, defBody s_power, defScope s_power, [], []⟩
def d_fits : He.DefD := ⟨("fits", none), "fits", "fits", defArgs s_fits, defBody s_fits, defScope s_fits, [], []⟩
def d_Table_init : He.DefD := ⟨("Table", some "__init__"), "__init__", "Table.__init__", defArgs s_Table_init, defBody s_Table_init, defScope s_Table_init, [], []⟩
def d_Table_blend : He.DefD := ⟨("Table", some "blend"), "blend", "Table.blend", defArgs s_Table_blend, defBody s_Table_blend, defScope s_Table_blend, [], []⟩
def d_tuples_of : He.DefD := ⟨("tuples_of", none), "tuples_of", "tuples_of", defArgs s_tuples_of, defBody s_tuples_of, defScope s_tuples_of, [], []⟩
def d_checked_prices : He.DefD := ⟨("checked_prices", none), "checked_prices", "checked_prices", defArgs s_checked_prices, defBody s_checked_prices, defScope s_checked_prices, [], []⟩
def d_divisor : He.DefD := ⟨("divisor", none), "divisor", "divisor", defArgs s_divisor, defBody s_divisor, defScope s_divisor, [], []⟩
def d_made : He.DefD := ⟨("made", none), "made", "made", defArgs s_made, defBody s_made, defScope s_made, [], []⟩
def d_added : He.DefD := ⟨("added", none), "added", "added", defArgs s_added, defBody s_added, defScope s_added, [], []⟩
def d_times : He.DefD := ⟨("times", none), "times", "times", defArgs s_times, defBody s_times, defScope s_times, [], []⟩
def d_compared : He.DefD := ⟨("compared", none), "compared", "compared", defArgs s_compared, defBody s_compared, defScope s_compared, [], []⟩
def d_total : He.DefD := ⟨("total", none), "total", "total", defArgs s_total, defBody s_total, defScope s_total, [], []⟩
def d_against : He.DefD := ⟨("against", none), "against", "against", defArgs s_against, defBody s_against, defScope s_against, [], []⟩
def d_all_cups : He.DefD := ⟨("all_cups", none), "all_cups", "all_cups", defArgs s_all_cups, defBody s_all_cups, defScope s_all_cups, [], []⟩
def d_followed : He.DefD := ⟨("followed", none), "followed", "followed", defArgs s_followed, defBody s_followed, defScope s_followed, [], []⟩
def d_costs : He.DefD := ⟨("costs", none), "costs", "costs", defArgs s_costs, defBody s_costs, defScope s_costs, [], []⟩
def d_cheapest_recipe : He.DefD := ⟨("cheapest_recipe", none), "cheapest_recipe", "cheapest_recipe", defArgs s_cheapest_recipe, defBody s_cheapest_recipe, defScope s_cheapest_recipe, [], []⟩
def d_law_draw : He.DefD := ⟨("_law_draw", none), "_law_draw", "_law_draw", defArgs s_law_draw, defBody s_law_draw, defScope s_law_draw, [], []⟩
def d_law_any : He.DefD := ⟨("_law_any", none), "_law_any", "_law_any", defArgs s_law_any, defBody s_law_any, defScope s_law_any, [], []⟩
def d_law_of : He.DefD := ⟨("_law_of", none), "_law_of", "_law_of", defArgs s_law_of, defBody s_law_of, defScope s_law_of, [], []⟩
def d_law_mixed : He.DefD := ⟨("_law_mixed", none), "_law_mixed", "_law_mixed", defArgs s_law_mixed, defBody s_law_mixed, defScope s_law_mixed, [], []⟩
def d_law_power : He.DefD := ⟨("_law_power", none), "_law_power", "_law_power", defArgs s_law_power, defBody s_law_power, defScope s_law_power, [], []⟩
def d_law_divisor : He.DefD := ⟨("_law_divisor", none), "_law_divisor", "_law_divisor", defArgs s_law_divisor, defBody s_law_divisor, defScope s_law_divisor, [], []⟩
def d_law_inverse : He.DefD := ⟨("_law_inverse", none), "_law_inverse", "_law_inverse", defArgs s_law_inverse, defBody s_law_inverse, defScope s_law_inverse, [], []⟩
def d_law_tuples : He.DefD := ⟨("_law_tuples", none), "_law_tuples", "_law_tuples", defArgs s_law_tuples, defBody s_law_tuples, defScope s_law_tuples, [], []⟩
def d_law_form : He.DefD := ⟨("_law_form", none), "_law_form", "_law_form", defArgs s_law_form, defBody s_law_form, defScope s_law_form, [], []⟩
def d_law_joint : He.DefD := ⟨("_law_joint", none), "_law_joint", "_law_joint", defArgs s_law_joint, defBody s_law_joint, defScope s_law_joint, [], []⟩
def d_law_risen : He.DefD := ⟨("_law_risen", none), "_law_risen", "_law_risen", defArgs s_law_risen, defBody s_law_risen, defScope s_law_risen, [], []⟩
def d_law_results : He.DefD := ⟨("_law_results", none), "_law_results", "_law_results", defArgs s_law_results, defBody s_law_results, defScope s_law_results, [], []⟩
def d_law_standard : He.DefD := ⟨("_law_standard", none), "_law_standard", "_law_standard", defArgs s_law_standard, defBody s_law_standard, defScope s_law_standard, [], []⟩
def d_law_table : He.DefD := ⟨("_law_table", none), "_law_table", "_law_table", defArgs s_law_table, defBody s_law_table, defScope s_law_table, [], []⟩
def d_law_spoilt : He.DefD := ⟨("_law_spoilt", none), "_law_spoilt", "_law_spoilt", defArgs s_law_spoilt, defBody s_law_spoilt, defScope s_law_spoilt, [], []⟩
def d_law_random : He.DefD := ⟨("_law_random", none), "_law_random", "_law_random", defArgs s_law_random, defBody s_law_random, defScope s_law_random, [], []⟩
def d_law_blend : He.DefD := ⟨("_law_blend", none), "_law_blend", "_law_blend", defArgs s_law_blend, defBody s_law_blend, defScope s_law_blend, [], []⟩
def d_law_world : He.DefD := ⟨("_law_world", none), "_law_world", "_law_world", defArgs s_law_world, defBody s_law_world, defScope s_law_world, [], []⟩
def d_law_shown : He.DefD := ⟨("_law_shown", none), "_law_shown", "_law_shown", defArgs s_law_shown, defBody s_law_shown, defScope s_law_shown, [], []⟩
def d_law_prices : He.DefD := ⟨("_law_prices", none), "_law_prices", "_law_prices", defArgs s_law_prices, defBody s_law_prices, defScope s_law_prices, [], []⟩
def d_law_made : He.DefD := ⟨("_law_made", none), "_law_made", "_law_made", defArgs s_law_made, defBody s_law_made, defScope s_law_made, [], []⟩
def d_law_plus : He.DefD := ⟨("_law_plus", none), "_law_plus", "_law_plus", defArgs s_law_plus, defBody s_law_plus, defScope s_law_plus, [], []⟩
def d_law_is_fraction : He.DefD := ⟨("_law_is_fraction", none), "_law_is_fraction", "_law_is_fraction", defArgs s_law_is_fraction, defBody s_law_is_fraction, defScope s_law_is_fraction, [], []⟩
def d_law_weighed : He.DefD := ⟨("_law_weighed", none), "_law_weighed", "_law_weighed", defArgs s_law_weighed, defBody s_law_weighed, defScope s_law_weighed, [], []⟩
def d_law_is_way : He.DefD := ⟨("_law_is_way", none), "_law_is_way", "_law_is_way", defArgs s_law_is_way, defBody s_law_is_way, defScope s_law_is_way, [], []⟩
def d_law_is_costs : He.DefD := ⟨("_law_is_costs", none), "_law_is_costs", "_law_is_costs", defArgs s_law_is_costs, defBody s_law_is_costs, defScope s_law_is_costs, [], []⟩
def d_law_label : He.DefD := ⟨("_law_label", none), "_law_label", "_law_label", defArgs s_law_label, defBody s_law_label, defScope s_law_label, [], []⟩
def d_law_bill : He.DefD := ⟨("_law_bill", none), "_law_bill", "_law_bill", defArgs s_law_bill, defBody s_law_bill, defScope s_law_bill, [], []⟩
def d_law_is_recipe : He.DefD := ⟨("_law_is_recipe", none), "_law_is_recipe", "_law_is_recipe", defArgs s_law_is_recipe, defBody s_law_is_recipe, defScope s_law_is_recipe, [], []⟩
def d_law_exact : He.DefD := ⟨("_law_exact", none), "_law_exact", "_law_exact", defArgs s_law_exact, defBody s_law_exact, defScope s_law_exact, [], []⟩
def d_law_told : He.DefD := ⟨("_law_told", none), "_law_told", "_law_told", defArgs s_law_told, defBody s_law_told, defScope s_law_told, [], []⟩
def d_law_all_right : He.DefD := ⟨("_law_all_right", none), "_law_all_right", "_law_all_right", defArgs s_law_all_right, defBody s_law_all_right, defScope s_law_all_right, [], []⟩
def d_law : He.DefD := ⟨("law", none), "law", "law", defArgs s_law, defBody s_law, defScope s_law, [], []⟩
def fn0 : List He.DefD := [d_pivoted, d_solved, d_is_integer, d_is_bowl, d_checked_bowl, d_is_index, d_is_row, d_power, d_fits, d_Table_init, d_Table_blend, d_tuples_of, d_checked_prices, d_divisor, d_made, d_added, d_times, d_compared, d_total, d_against, d_all_cups, d_followed, d_costs, d_cheapest_recipe, d_law_draw, d_law_any, d_law_of, d_law_mixed, d_law_power, d_law_divisor]
def fn1 : List He.DefD := [d_law_inverse, d_law_tuples, d_law_form, d_law_joint, d_law_risen, d_law_results, d_law_standard, d_law_table, d_law_spoilt, d_law_random, d_law_blend, d_law_world, d_law_shown, d_law_prices, d_law_made, d_law_plus, d_law_is_fraction, d_law_weighed, d_law_is_way, d_law_is_costs, d_law_label, d_law_bill, d_law_is_recipe, d_law_exact, d_law_told, d_law_all_right, d_law]
def fn : List He.DefD := fn0 ++ fn1
def fa0 : List He.Fa := [.glo "MixError", .glo "Refused", .glo "pivoted", .glo "solved", .glo "is_integer", .glo "is_bowl", .glo "checked_bowl", .glo "is_index", .glo "is_row", .glo "power", .glo "fits", .glo "Table", .glo "tuples_of", .glo "checked_prices", .glo "divisor", .glo "made", .glo "added", .glo "times", .glo "compared", .glo "total", .glo "against", .glo "all_cups", .glo "followed", .glo "costs", .glo "cheapest_recipe", .glo "_law_draw", .glo "_law_any", .glo "_law_of", .glo "_law_mixed", .glo "_law_power"]
def fa1 : List He.Fa := [.glo "_law_divisor", .glo "_law_inverse", .glo "_law_tuples", .glo "_law_form", .glo "_law_joint", .glo "_law_risen", .glo "_law_results", .glo "_law_standard", .glo "_law_table", .glo "_law_spoilt", .glo "_law_random", .glo "_law_blend", .glo "_law_world", .glo "_law_shown", .glo "_law_prices", .glo "_law_made", .glo "_law_plus", .glo "_law_is_fraction", .glo "_law_weighed", .glo "_law_is_way", .glo "_law_is_costs", .glo "_law_label", .glo "_law_bill", .glo "_law_is_recipe", .glo "_law_exact", .glo "_law_told", .glo "_law_all_right", .glo "law", .free "int", .free "bool"]
def fa2 : List He.Fa := [.free "isinstance", .free "list", .free "tuple", .free "range", .free "len", .free "enumerate", .free "zip", .free "abs", .free "all", .free "any", .free "sum", .free "sorted", .free "min", .free "max", .free "super", .int "MOST_LABELS" 12, .int "MOST_TUPLES" 729, .cls "Table", .noat "Table" "k", .noat "Table" "labels", .noat "Table" "results", .meth "Table" "blend", .mkr "Table", .exm "Refused" "Refused" true]
def fa : List He.Fa := fa0 ++ fa1 ++ fa2
def loose0 : List PySem.Str := ["MixError", "InvalidBowl", "InvalidTable", "InvalidQuestion", "InvalidPrices", "Refused", "pivoted", "solved", "is_integer", "is_bowl", "checked_bowl", "is_index", "is_row", "power", "fits", "Table", "tuples_of", "checked_prices", "divisor", "made", "added", "times", "compared", "total", "against", "all_cups", "followed", "costs", "cheapest_recipe", "_law_draw"]
def loose1 : List PySem.Str := ["_law_any", "_law_of", "_law_mixed", "_law_power", "_law_divisor", "_law_inverse", "_law_tuples", "_law_form", "_law_joint", "_law_risen", "_law_results", "_law_standard", "_law_table", "_law_spoilt", "_law_random", "_law_blend", "_law_world", "_law_shown", "_law_prices", "_law_made", "_law_plus", "_law_is_fraction", "_law_weighed", "_law_is_way", "_law_is_costs", "_law_label", "_law_bill", "_law_is_recipe", "_law_exact", "_law_told"]
def loose2 : List PySem.Str := ["_law_all_right", "MOST_LABELS", "MOST_TUPLES"]
def loose : List PySem.Str := loose0 ++ loose1 ++ loose2
abbrev atR : Str × Option Str := ("Refused", some "__init__")
/-- the cell that __init__ of Refused closes over, and its code -/
def rCell (K : PySem.W.Frag) : Addr := match K.lookup (He.fAd K atR) with
  | some ⟨_, _, .func fd, _⟩ => (match fd.closure with
    | [(_, c)] => c
    | _ => 0)
  | _ => 0
def rCode (K : PySem.W.Frag) : Addr := match K.lookup (He.fAd K atR) with
  | some ⟨_, _, .func fd, _⟩ => (match fd.code with
    | .ref c => c
    | _ => 0)
  | _ => 0
abbrev FnR : Type := Option (Str × Str × Arguments × FuncBody × Scope × Addr × List Str × Addr)
def fnR (K : PySem.W.Frag) : FnR := match K.lookup (He.fAd K atR) with
  | some ⟨_, _, .func fd, _⟩ => some (fd.name, fd.qualname, fd.params, fd.body, fd.scope, fd.globals, fd.closure.map (·.1), fd.builtins)
  | _ => none
def valR : FnR := some ("__init__", "Refused.__init__", defArgs s_Refused_init, .stmts (defBody s_Refused_init), defScope s_Refused_init, mainGlobals, ["__class__"], builtinsNs)
def rFun (K : PySem.W.Frag) : Bool := match K.lookup (He.fAd K atR) with
  | some ⟨_, _, .func fd, _⟩ => (match fd.closure with
    | [_] => true
    | _ => false) && ((match fd.code with
    | .ref _ => true
    | _ => false) && ((match fd.defaults with
    | .none => true
    | _ => false) && PySem.W.codeIn K fd.code "Refused.__init__"))
  | _ => false
def rCls (K : PySem.W.Frag) (C : Addr) : Bool := match K.lookup C with
  | some ⟨.type t, _, .cls cd, sl⟩ => t == "type" && (match cd.mro, sl.toList with
    | .ref C' :: bm, [_, _, _, _, some (.builtin n), _] => C' == C && (n == "ValueError.__new__" && (!cd.hasDel && (cd.hasDict && PySem.HandSPX.refsVE bm)))
    | _, _ => false)
  | _ => false
def rCellB (K : PySem.W.Frag) (C : Addr) : Bool := match K.lookup (rCell K) with
  | some ⟨_, _, .cell (some (.ref c)), _⟩ => c == C
  | _ => false
abbrev theFile : Str := PySem.Challenge.pw_mixlabels_k60_whole_cheapest_recipes_of.main.file
def rCodeB (K : PySem.W.Frag) : Bool := match K.lookup (rCode K) with
  | some ⟨_, _, .fields vs, _⟩ => (match (vs[2]? : Option Value) with
    | some (Value.str f _) => theFile == f
    | _ => false)
  | _ => false
def refB (K : PySem.W.Frag) : Bool := rFun K && (rCls K (refC K) && (rCellB K (refC K) && (rCodeB K &&
  (He.eqO (PySem.W.findIn K (.ref (refC K)) "__setattr__") (some (some (.builtin "object.__setattr__"))) && (He.eqO (PySem.W.findIn K (.ref (refC K)) "__getattribute__") (some (some (.builtin "BaseException.__getattribute__"))) &&
  (He.eqO (PySem.W.findIn K (.ref (refC K)) "__getattr__") (some none) && (He.eqO (PySem.W.findIn K (.ref (refC K)) "at") (some none) &&
  (He.eqO (PySem.W.findIn K (.ref (refC K)) "__init__") (some (some (.ref (He.fAd K atR)))) && (decide (PySem.W.typeIn K (.ref (He.fAd K atR)) = some (.type "function")) &&
  (PySem.W.keepIn K (.ref (refC K)) && (decide (PySem.W.subIn K (.ref (refC K)) (.type "BaseException") = some true) && (decide (PySem.W.typeIn K (.ref (refC K)) = some (.type "type")) &&
  (PySem.W.hasDictIn K (refC K) && (decide (PySem.W.exmOne K (.ref (refC K)) (.ref (refC K)) = some true) && (He.eqO (PySem.W.nsIn K cStatics "thirdparty.any") (some none) &&
  (He.eqO (PySem.W.ks_superIn K (refC K) (refC K) "__init__") (some (some (.builtin "ValueError.__init__"))) && (decide (PySem.W.subIn K (.ref (refC K)) (.type "ValueError") = some true) &&
  decide (PySem.W.mroIn K (refC K) (.ref (refC K)) = some true))))))))))))))))))
abbrev AlR : Type := He.AlD × (Bool × FnR)
def frR (g : Addr → Option Obj) : PySem.W.Frag := He.frG g (cStatics :: He.asD g 5)
def obsK (K : PySem.W.Frag) : AlR := (He.obsD fa fn K, (refB K, fnR K))
def obsR (g : Addr → Option Obj) : AlR := obsK (frR g)
def valRR : AlR := (He.valD fn, (true, valR))
structure SaysR (K : PySem.W.Frag) : Prop where
  d : He.SaysD fa fn K
  r : refB K = true
  f : fnR K = valR
theorem says_of {K : PySem.W.Frag} (e : obsK K = valRR) : SaysR K := ⟨congrArg (fun z : AlR => z.1) e, congrArg (fun z : AlR => z.2.1) e, congrArg (fun z : AlR => z.2.2) e⟩
def hk : PySem.W.Hook where
  α := AlR
  obs := fun s => obsR s.heap.get?
  val := fun _ => valRR
  says := fun _ h => ∃ K : PySem.W.Frag, K.In h ∧ SaysR K
  of := fun _ _ e => ⟨_, He.frG_in, says_of e⟩
  keeps := fun _ _ _ ⟨K, hK, c⟩ k => ⟨K, PySem.W.Frag.In.keeps hK k, c⟩
theorem obsR_eq {g : Addr → Option Obj} {s : Shared} (h : ∀ a, g a = s.heap.get? a) : obsR g = hk.obs s := by
  have e : g = s.heap.get? := funext h
  rw [e] <;> rfl
abbrev R : PySem.W.OpenRow := PySem.W.OpenLaw.row PySem.Challenge.rw_mixlabels_k60_whole_cheapest_recipes_of
def ob (s : PySem.W.SharedT) : AlR := obsR (HandSHeadRun.getT s)
theorem ob_eq (s : PySem.W.SharedT) : ob s = hk.obs s.abs := obsR_eq (HandSHeadRun.getT_eq s)
theorem run (w : World) : HandSHeadRun.RunEq R (PySem.W.view R.prog [72]) hk ob 6000 loose w := by
  intro os
  kernel_rfl
end MixHead
set_option maxHeartbeats 2000000
namespace Mix
open PySem PySem.Spec PyProof.Rows L2
theorem take_more {α : Type} {l : List α} {i : Nat} {x : α} (h : l[i]? = some x) : l.take (i + 1) = l.take i ++ [x] := by
  rw [List.take_add_one, h]
  rfl
/-! ### comprehensions -/
theorem filterMap_more {f : Nat → Option V} (i : Nat) : (List.range (i + 1)).filterMap f = (List.range i).filterMap f ++ (match f i with
    | some y => [y]
    | none => []) := by
  rw [List.range_succ, List.filterMap_append]
  cases h : f i with
  | some y => simp [List.filterMap_cons, h]
  | none => simp [List.filterMap_cons, h]
theorem filterMap_le (f : Nat → Option V) (n : Nat) : ((List.range n).filterMap f).length ≤ n := Nat.le_trans (List.length_filterMap_le _ _) (by simp)
section
variable {J : It} {n : Nat} {G : Hp → Prop} {Y : Nat → Hp → V → Hp → Prop} {g : TG} {tt : TT} {te : TE} {vs : List Nat} {σ : L2.St} {H : Hp}
/-- the items are values that the heap does not matter for -/
theorem lc_flat (w : L2.Walk J n G Y) (f : Nat → Option V) (hn : n ≤ 10000) (hG : ∀ H', Same H H' → G H')
    (hs : ∀ (i : Nat) (x : V) (H1 H2 : Hp) (Kp : V → Hp → Prop) (Ks : Hp → Prop), i < n → Same H H1 → Y i H1 x H2 → (∀ y H', Same H1 H' → f i = some y → Kp y H') → (∀ H', Same H1 H' → f i = none → Ks H') →
      g x (wipe σ vs) H2 fun σ2 H3 => wipe σ2 vs = wipe σ vs ∧ tt σ2 H3 fun b H4 => if b = true then te σ2 H4 Kp else Ks H4)
    {Qd : Addr → Hp → Prop} (hQ : ∀ (D : Addr) H', H D = none → Same H H' → H' D = some (.lst ((List.range n).filterMap f)) → Qd D H') :
    ∀ D, H D = none → ∃ W : Nat → Nat → Hp → Prop, (∃ m, W 0 m (upd H D (.lst []))) ∧ ∀ i m H, W i m H →
      (J.stop i H ∧ Qd D H) ∨ (J.go i H ∧ ∃ Nx : Hp → Prop, (∀ H', Nx H' → ∃ m', m' < m ∧ W (i + 1) m' H') ∧ ∀ x H', J.yld i H x H' → g x (wipe σ vs) H' fun σ2 H2 => wipe σ2 vs = wipe σ vs ∧ tt σ2 H2 fun b H3 =>
        if b = true then te σ2 H3 fun y H4 => ∃ acc, H4 D = some (.lst acc) ∧ acc.length < sizeLine ∧ Nx (upd H4 D (.lst (acc ++ [y]))) else Nx H3) := by
  intro D hD
  refine lc_it w (fun i H' => Same H H' ∧ H' D = some (.lst ((List.range i).filterMap f))) ⟨Same.new hD, upd_same⟩ (fun i H' _ p => hG H' p.1) (fun i x H1 H2 hi p y => ?_) (fun H' p => hQ D H' hD p.1 p.2)
  refine hs i x H1 H2 _ _ hi p.1 y (fun v H' s e => ?_) (fun H' s e => ?_)
  · refine ⟨_, s _ _ p.2, Nat.lt_of_le_of_lt (Nat.le_trans (filterMap_le f i) (by omega : i ≤ 10000)) (by decide), (p.1.trans s).mut hD, ?_⟩
    rw [upd_same, filterMap_more, e]
  · refine ⟨p.1.trans s, ?_⟩
    rw [s _ _ p.2, filterMap_more, e]
    simp
/-- the items are told by a word about the heap that the new list does not touch -/
theorem lc_all (w : L2.Walk J n G Y) (R : Addr → Nat → V → Hp → Prop) (hn : n ≤ 10000) (hG : ∀ H', Same H H' → G H')
    (hR : ∀ D i y H1 H2 l l', H D = none → H1 D = some (.lst l) → H2 = upd H1 D (.lst l') → R D i y H1 → R D i y H2) (hR2 : ∀ D i y H1 H2, Same H1 H2 → R D i y H1 → R D i y H2)
    (hs : ∀ (D : Addr) (i : Nat) (x : V) (H1 H2 : Hp) (l : List V) (Kp : V → Hp → Prop), i < n → H D = none → Same H H1 → H1 D = some (.lst l) → Y i H1 x H2 → (∀ y H', Same H1 H' → R D i y H' → Kp y H') →
      g x (wipe σ vs) H2 fun σ2 H3 => wipe σ2 vs = wipe σ vs ∧ tt σ2 H3 fun b H4 => b = true ∧ te σ2 H4 Kp)
    {Qd : Addr → Hp → Prop} (mono : ∀ (x : V) (H2 : Hp) (P P' : L2.St → Hp → Prop), (∀ σ2 H3, P σ2 H3 → P' σ2 H3) → g x (wipe σ vs) H2 P → g x (wipe σ vs) H2 P')
    (monot : ∀ (σ2 : L2.St) (H3 : Hp) (P P' : Bool → Hp → Prop), (∀ b H4, P b H4 → P' b H4) → tt σ2 H3 P → tt σ2 H3 P')
    (hQ : ∀ (D : Addr) H' (ys : List V), H D = none → Same H H' → H' D = some (.lst ys) → ys.length = n → (∀ (i : Nat) (y : V), ys[i]? = some y → R D i y H') → Qd D H') :
    ∀ D, H D = none → ∃ W : Nat → Nat → Hp → Prop, (∃ m, W 0 m (upd H D (.lst []))) ∧ ∀ i m H, W i m H →
      (J.stop i H ∧ Qd D H) ∨ (J.go i H ∧ ∃ Nx : Hp → Prop, (∀ H', Nx H' → ∃ m', m' < m ∧ W (i + 1) m' H') ∧ ∀ x H', J.yld i H x H' → g x (wipe σ vs) H' fun σ2 H2 => wipe σ2 vs = wipe σ vs ∧ tt σ2 H2 fun b H3 =>
        if b = true then te σ2 H3 fun y H4 => ∃ acc, H4 D = some (.lst acc) ∧ acc.length < sizeLine ∧ Nx (upd H4 D (.lst (acc ++ [y]))) else Nx H3) := by
  intro D hD
  refine lc_it w (fun i H' => Same H H' ∧ ∃ ys : List V, H' D = some (.lst ys) ∧ ys.length = i ∧ ∀ (j : Nat) (y : V), ys[j]? = some y → R D j y H') ⟨Same.new hD, [], upd_same, rfl, fun j y h => by simp at h⟩ (fun i H' _ p => hG H' p.1) (fun i x H1 H2 hi p y => ?_)
    (fun H' p => by obtain ⟨s, ys, a, b, c⟩ := p; exact hQ D H' ys hD s a b c)
  obtain ⟨s1, ys, e1, e2, e3⟩ := p
  refine mono _ _ _ _ (fun σ2 H3 q => ⟨q.1, monot _ _ _ _ (fun b H4 q => ?_) q.2⟩) (hs D i x H1 H2 ys (fun y H' => ∃ acc, H' D = some (.lst acc) ∧ acc.length < sizeLine ∧ Same H (upd H' D (.lst (acc ++ [y]))) ∧ ∃ zs : List V, (upd H' D (.lst (acc ++ [y]))) D = some (.lst zs) ∧ zs.length = i + 1 ∧
      ∀ (j : Nat) (z : V), zs[j]? = some z → R D j z (upd H' D (.lst (acc ++ [y])))) hi hD s1 e1 y fun v H' s r => ?_)
  · obtain ⟨rfl, q⟩ := q
    exact iteT q
  · have e4 : H' D = some (.lst ys) := s _ _ e1
    refine ⟨ys, e4, by rw [e2]; exact Nat.lt_of_lt_of_le (by omega : i < 10000) (by decide), (s1.trans s).mut hD, ys ++ [v], upd_same, by simp [e2], fun j z hz => ?_⟩
    by_cases c : j < ys.length
    · rw [List.getElem?_append_left c] at hz
      exact hR D j z H' _ ys _ hD e4 rfl (hR2 D j z H1 H' s (e3 j z hz))
    · have ej : j = ys.length := by
        have := (List.getElem?_eq_some_iff.mp hz).1
        simp at this
        omega
      subst ej
      have ez : v = z := by simpa using hz
      subst ez
      rw [e2]
      exact hR D i v H' _ ys _ hD e4 rfl r
end
/-! ### what a change of one list leaves -/
theorem tupV_off {K : PySem.W.Frag} {H : Hp} {D : Addr} {l l' : List V} {v : V} {xs : List V} (e : H D = some (.lst l)) (h : TupV K H v xs) : TupV K (upd H D (.lst l')) v xs := by
  obtain ⟨p, rfl, hp⟩ := h
  refine ⟨p, rfl, ?_⟩
  rcases hp with (hp | ⟨o, hp⟩) | hp
  · exact .inl (.inl (by rw [upd_ne (ne_of hp e (by intro z; cases z))]; exact hp))
  · exact .inl (.inr ⟨o, by rw [upd_ne (ne_of hp e (by intro z; cases z))]; exact hp⟩)
  · exact .inr hp
theorem range_filterMap_some {f : Nat → V} (n : Nat) : (List.range n).filterMap (fun i => some (f i)) = (List.range n).map f := by
  exact congrFun (List.filterMap_eq_map (f := f)) _
/-! ### items -/
theorem vN_get {cs : List Nat} {i c : Nat} (h : cs[i]? = some c) : (vN cs)[i]? = some (.int (c : Int)) := by
  unfold vN
  rw [List.getElem?_map, h]
  rfl
theorem vN_get' {cs : List Nat} {i : Nat} {v : V} (h : (vN cs)[i]? = some v) : ∃ c, cs[i]? = some c ∧ v = .int (c : Int) := by
  unfold vN at h
  rw [List.getElem?_map] at h
  cases e : cs[i]? with
  | none => rw [e] at h; cases h
  | some c => rw [e] at h; exact ⟨c, rfl, (Option.some.inj h).symm⟩
theorem vI_get' {cs : List Int} {i : Nat} {v : V} (h : (vI cs)[i]? = some v) : ∃ c, cs[i]? = some c ∧ v = .int c := by
  unfold vI at h
  rw [List.getElem?_map] at h
  cases e : cs[i]? with
  | none => rw [e] at h; cases h
  | some c => rw [e] at h; exact ⟨c, rfl, (Option.some.inj h).symm⟩
theorem vN_len (cs : List Nat) : (vN cs).length = cs.length := by simp [vN]
theorem vI_len (cs : List Int) : (vI cs).length = cs.length := by simp [vI]
/-- a row read at a place -/
theorem RowAt.at_ {K : PySem.W.Frag} {H : Hp} {us : List V} {x : List Rat} (a : All2 (fun u q => FrAt K H u q) us x) {l : Nat} (hl : l < x.length) : ∃ u, atI us (l : Int) = some u ∧ FrAt K H u (xAt x l) := by
  have h : x[l]? = some (xAt x l) := by
    unfold xAt
    rw [List.getD_eq_getElem?_getD, List.getElem?_eq_getElem hl]
    rfl
  obtain ⟨u, hu, r⟩ := a.get' h
  exact ⟨u, atI_nat hu, r⟩
/-- enumerate of a tuple -/
def iEnumT (K : PySem.W.Frag) (ta : TA) : TI := fun σ H R => ta σ H fun vs H1 => ∃ a xs, vs = [.ref a] ∧ SqT K H1 a xs ∧ R (IteT K a) H1
theorem pi_enumT {X : Cx} {e : Expr} {ta : TA} {p pos tpos : Pos} {elts : List Expr} {kk : Nat} (hg : Gl X "enumerate") (hm : X.mg "enumerate" = none) (ha : PA X [e] ta) (hs : starEach [e] X.env = [(false, eval e X.env)] := by rfl) :
    PI X (.Tuple elts kk tpos) (.Call (.Name "enumerate" p) [e] [] pos) (iEnumT X.K ta) := by
  refine ⟨fun pins s σ H R I h => ?_⟩
  refine Call_ (ld_blt I hg hm boot_enumerate (PyProof.Rows.callWith_type1 (thn (ha.run pos pins s σ H _ I h) fun us s1 ⟨vs, H1, I1, r1, q1⟩ => ?_) hs rfl))
  obtain ⟨a, xs, ex, q⟩ := q1
  subst ex
  cases r1 with
  | cons r rr =>
    cases rr
    cases r
    have low : ∀ b, b ∈ [s1.heap.objs.size + 1, s1.heap.objs.size] → s1.heap.objs.size ≤ b := fun b hb => by
      have e' : b = s1.heap.objs.size + 1 ∨ b = s1.heap.objs.size := by simpa using hb
      rcases e' with z | z
      · rw [z]; exact Nat.le_add_right _ _
      · rw [z]; exact Nat.le_refl _
    obtain ⟨hq, q⟩ := q
    obtain ⟨its, rv, p', hz⟩ := I1.tuple hq
    have hal : a < s1.heap.objs.size := by obtain ⟨_, e1, _⟩ := p'; exact Heap.lt_size e1
    refine call_enumT p' fun h' he hit hsz hk => wpAny_pyIter_enum he ?_
    have I2 : Inv X pins σ H1 { s1 with heap := h' } := I1.kept (t' := s1.toks) hk
    refine ⟨s1.heap.objs.size + 1, [s1.heap.objs.size + 1, s1.heap.objs.size], _, _, H1, rfl, I2, turn_enumT a (s1.heap.objs.size + 1) s1.heap.objs.size (Nat.ne_of_lt hal) (Nat.ne_of_gt (Nat.lt_succ_of_lt hal)), ⟨⟨.none, he⟩, hit, Nat.succ_ne_self _⟩, fun b hb => ?_, q⟩
    exact I1.fpOk (low b hb) (I1.hok.fresh (low b hb))
end Mix
namespace Mix
open PySem PySem.Spec PyProof.Rows L2
/-! ### the source of draws and what stands beside it -/
section
variable {K : PySem.W.Frag} {d c p : Addr} {H H' H'' : Hp} {v : V} {xs : List V}
theorem SameX.refl : SameX d c H H := fun _ _ _ _ h => h
theorem SameX.trans (a : SameX d c H H') (b : SameX d c H' H'') : SameX d c H H'' := fun e o h1 h2 h => b e o h1 h2 (a e o h1 h2 h)
theorem _root_.L2.Same.x (e : Same H H') : SameX d c H H' := fun a o _ _ h => e a o h
theorem DealAt.same (h : DealAt H d c) (e : Same H H') : DealAt H' d c := by
  obtain ⟨ns, b, h1, h2, h3⟩ := h
  exact ⟨ns, b, e _ _ h1, e _ _ h2, h3⟩
theorem DealAt.fresh (h : DealAt H d c) (n : H p = none) : p ≠ d ∧ p ≠ c := by
  obtain ⟨ns, b, h1, h2, _⟩ := h
  exact ⟨fun e => (by rw [e, h1] at n; cases n), fun e => (by rw [e, h2] at n; cases n)⟩
theorem DealAt.ne (h : DealAt H d c) : d ≠ c := by
  obtain ⟨ns, b, h1, h2, _⟩ := h
  intro e
  rw [← e, h1] at h2
  cases ns with
  | nil => cases h2
  | cons i r => cases h2
theorem SameX.tup (e : SameX d c H H') (h : DealAt H d c) (t : SqT K H p xs) : SqT K H' p xs := by
  obtain ⟨ns, b, h1, h2, _⟩ := h
  rcases t with (t | ⟨o, t⟩) | t
  · exact .inl (.inl (e _ _ (ne_of t h1 (by intro z; cases z)) (ne_of t h2 (by intro z; cases z)) t))
  · exact .inl (.inr ⟨o, e _ _ (ne_of t h1 (by intro z; cases z)) (ne_of t h2 (by intro z; cases z)) t⟩)
  · exact .inr t
theorem SameX.tupV (e : SameX d c H H') (h : DealAt H d c) (t : TupV K H v xs) : TupV K H' v xs := by
  obtain ⟨p, rfl, t⟩ := t
  exact ⟨p, rfl, e.tup h t⟩
theorem SameX.ins {t : Addr} {C dx : Addr} {fs : List (Str × V)} (e : SameX d c H H') (h : DealAt H d c) (q : H t = some (.ins C dx fs)) : H' t = some (.ins C dx fs) := by
  obtain ⟨ns, b, h1, h2, _⟩ := h
  exact e _ _ (ne_of q h1 (by intro z; cases z)) (ne_of q h2 (by intro z; cases z)) q
theorem SameX.tab {t : Addr} {W : Wd} (e : SameX d c H H') (h : DealAt H d c) (q : TabAt K H t W) : TabAt K H' t W := by
  obtain ⟨dx, r, h1, h2⟩ := q
  exact ⟨dx, r, e.ins h h1, e.tup h h2⟩
theorem SameX.mut {o : HO} (e : SameX d c H H') (h : H p = none) : SameX d c H (upd H' p o) := fun a u a1 a2 ha => by
  rw [upd_ne (ne_of_none ha h)]
  exact e a u a1 a2 ha
theorem SameX.new {o : HO} (h : H p = none) : SameX d c H (upd H p o) := SameX.refl.mut h
theorem LsX.same (h : LsX d c H v xs) (e : Same H H') : LsX d c H' v xs := by
  obtain ⟨a, rfl, h1, h2⟩ := h
  exact ⟨a, rfl, e _ _ h1, h2⟩
theorem LsX.x (h : LsX d c H v xs) (e : SameX d c H H') : LsX d c H' v xs := by
  obtain ⟨a, rfl, h1, h2, h3⟩ := h
  exact ⟨a, rfl, e _ _ h2 h3 h1, h2, h3⟩
theorem LsX.new (h : DealAt H d c) (n : H p = none) (e : H' p = some (.lst xs)) : LsX d c H' (.ref p) xs := ⟨p, rfl, e, h.fresh n⟩
theorem PairV.same {q : Nat × Nat} (h : PairV K H v q) (e : Same H H') : PairV K H' v q := TupV.mono h e
theorem PairV.x {q : Nat × Nat} (h : PairV K H v q) (dl : DealAt H d c) (e : SameX d c H H') : PairV K H' v q := e.tupV dl h
theorem DealAt.new {o : HO} (h : DealAt H d c) (n : H p = none) : DealAt (upd H p o) d c := h.same (Same.new n)
theorem WorldX.x {W : Wd} (h : WorldX K d c W v H) (dl : DealAt H d c) (e : SameX d c H H') : WorldX K d c W v H' := by
  obtain ⟨r, b, h1, h2, h3, h4⟩ := h
  exact ⟨r, b, e.tupV dl h1, e _ _ h3 h4 h2, h3, h4⟩
theorem RetD.call {Post : V → Hp → Prop} {Q : VK} (h : RetD d c H Post Q) : RetD d c H Post Q := h
/-- a list that is new since H and not of the source of draws stands beside all that is tracked -/
theorem SameX.same_of (e : SameX d c H H') (h1 : H d = none) (h2 : H c = none) : Same H H' := fun a o h => e a o (fun z => by rw [z, h1] at h; cases h) (fun z => by rw [z, h2] at h; cases h) h
end
/-! ### values as data -/
section
variable {K : PySem.W.Frag} {H : Hp}
theorem dp_vI (ns : List Int) : DpAll K H (vI ns) (ns.map PyData.int) := by
  induction ns with
  | nil => exact .nil
  | cons i r ih => exact .cons (.int i) ih
theorem vN_vI (cs : List Nat) : vN cs = vI (cs.map fun (c : Nat) => (c : Int)) := by
  simp [vN, vI, List.map_map]
theorem eqvAll_ints : ∀ ns ms : List Int, PyData.eqvAll (ns.map PyData.int) (ms.map PyData.int) = decide (ns = ms)
  | [], [] => by simp [PyData.eqvAll]
  | [], _ :: _ => by simp [PyData.eqvAll]
  | _ :: _, [] => by simp [PyData.eqvAll]
  | a :: r, b :: t => by
    simp only [List.map_cons, PyData.eqvAll, PyData.eqv, eqvAll_ints r t]
    by_cases h : a = b <;> by_cases h' : r = t <;> simp [h, h']
theorem eqv_list (xs ys : List PyData) : PyData.eqv (.list xs) (.list ys) = PyData.eqvAll xs ys := by simp only [PyData.eqv]
theorem eqv_tup (xs ys : List PyData) : PyData.eqv (.tuple xs) (.tuple ys) = PyData.eqvAll xs ys := by simp only [PyData.eqv]
theorem shaped_l (ns : List Int) : SeqAt.shaped (.list (ns.map PyData.int)) = true := PySem.W.ke_shaped_ints ns
theorem shaped_t (ns : List Int) : SeqAt.shaped (.tuple (ns.map PyData.int)) = true := by
  simp [SeqAt.shaped, PyData.canLay0, PyData.depth, PySem.W.ke_canLayAll0, PySem.W.ke_depthAll]
theorem shaped_nil : SeqAt.shaped (.list []) = true := shaped_l []
theorem eqv_l (ns ms : List Int) : PyData.eqv (.list (ns.map PyData.int)) (.list (ms.map PyData.int)) = decide (ns = ms) := by rw [eqv_list, eqvAll_ints]
theorem eqv_t (ns ms : List Int) : PyData.eqv (.tuple (ns.map PyData.int)) (.tuple (ms.map PyData.int)) = decide (ns = ms) := by rw [eqv_tup, eqvAll_ints]
theorem eqvAll_nil : ∀ xs : List PyData, PyData.eqvAll xs [] = decide (xs = [])
  | [] => by simp [PyData.eqvAll]
  | _ :: _ => by simp [PyData.eqvAll]
/-- pairs of ints -/
def pD (q : Nat × Nat) : PyData := .tuple ([(q.1 : Int), (q.2 : Int)].map PyData.int)
theorem dp_pair {v : V} {q : Nat × Nat} (h : PairV K H v q) : Dp K H v (pD q) := by
  obtain ⟨p, rfl, hp⟩ := h
  exact .tup hp (dp_vI [_, _])
theorem dp_pairs : ∀ {vs : List V} {qs : List (Nat × Nat)}, All2 (PairV K H) vs qs → DpAll K H vs (qs.map pD)
  | [], [], _ => .nil
  | [], q :: qs, h => by cases h.len
  | v :: vs, [], h => by cases h.len
  | v :: vs, q :: qs, h => .cons (dp_pair (h.at_ 0 v q rfl rfl)) (dp_pairs ⟨by simpa using h.len, fun i x y a b => h.at_ (i + 1) x y (by simpa using a) (by simpa using b)⟩)
theorem pD_lay (q : Nat × Nat) : (pD q).canLay0 = true := by simp [pD, PyData.canLay0, PyData.canLayAll0]
theorem pD_depth (q : Nat × Nat) : (pD q).depth = 1 := by simp [pD, PyData.depth, PyData.depthAll]
theorem pDs_lay : ∀ qs : List (Nat × Nat), PyData.canLayAll0 (qs.map pD) = true
  | [] => rfl
  | q :: qs => by simp [PyData.canLayAll0, pD_lay q, pDs_lay qs]
theorem pDs_depth : ∀ qs : List (Nat × Nat), PyData.depthAll (qs.map pD) ≤ 1
  | [] => by simp [PyData.depthAll]
  | q :: qs => by
    have h1 := pDs_depth qs
    have h2 := pD_depth q
    simp only [List.map_cons, PyData.depthAll]
    omega
theorem pD_shaped (q : Nat × Nat) : SeqAt.shaped (pD q) = true := shaped_t _
theorem pDs_shaped (qs : List (Nat × Nat)) : SeqAt.shaped (.list (qs.map pD)) = true := by
  have h1 := pDs_depth qs
  have h2 : PyData.depth (.list (qs.map pD)) ≤ 64 := by
    simp only [PyData.depth]
    omega
  show (PyData.canLay0 (.list (qs.map pD)) && decide (PyData.depth (.list (qs.map pD)) ≤ 64)) = true
  rw [Bool.and_eq_true]
  exact ⟨by simp only [PyData.canLay0]; exact pDs_lay qs, decide_eq_true h2⟩
theorem pD_eqv (a b : Nat × Nat) : PyData.eqv (pD a) (pD b) = decide (a = b) := by
  unfold pD
  rw [eqv_t]
  obtain ⟨a1, a2⟩ := a
  obtain ⟨b1, b2⟩ := b
  by_cases h1 : a1 = b1
  · by_cases h2 : a2 = b2
    · simp [h1, h2]
    · simp [h2]; omega
  · simp [h1]; omega
end
end Mix
namespace Mix
open PySem PySem.Spec PyProof.Rows L2
section
variable {K : PySem.W.Frag} {d c p : Addr} {H H' : Hp}
theorem SameX.setd {o : HO} (e : SameX d c H H') : SameX d c H (upd H' d o) := fun a u a1 a2 ha => by
  rw [upd_ne a1]
  exact e a u a1 a2 ha
theorem SameX.setc {o : HO} (e : SameX d c H H') : SameX d c H (upd H' c o) := fun a u a1 a2 ha => by
  rw [upd_ne a2]
  exact e a u a1 a2 ha
theorem modN (i : Int) {b : Nat} (h : 0 < b) : ∃ r : Nat, i % (b : Int) = (r : Int) ∧ r < b := by
  have h1 := Int.emod_nonneg i (show (b : Int) ≠ 0 by omega)
  have h2 := Int.emod_lt_of_pos i (show 0 < (b : Int) by omega)
  exact ⟨(i % (b : Int)).toNat, by omega, by omega⟩
theorem vI_snoc (ns : List Int) (i : Int) : vI (ns ++ [i]) = vI ns ++ [.int i] := by
  unfold vI
  rw [List.map_append]
  rfl
theorem snoc_cases {α : Type} (l : List α) : l = [] ∨ ∃ m x, l = m ++ [x] := by
  rcases List.eq_nil_or_concat l with h | ⟨m, x, h⟩
  · exact .inl h
  · exact .inr ⟨m, x, by rw [h, List.concat_eq_append]⟩
theorem tyL {xs : List V} (h : SqL K H p xs) : tyV K "list" (.ref p) H := .inl ⟨rfl, xs, h⟩
theorem bd_of {n : Nat} {i : Int} (h : decide (i.natAbs < 2 ^ n) = true) : Bd n i := show i.natAbs < 2 ^ n from of_decide_eq_true h
theorem none_of (e : Same H H') (h : H' p = none) : H p = none := by
  cases hh : H p with
  | none => rfl
  | some u => rw [e _ _ hh] at h; cases h
theorem sz0 {n : Nat} (h : n ≤ 10000) : n ≤ sizeLine := Nat.le_trans h (by decide)
theorem sz1 {n : Nat} (h : n ≤ 9999) : n < sizeLine := Nat.lt_of_lt_of_le (by omega : n < 10000) (by decide)
end
end Mix
namespace Mix
open PySem PySem.Spec PyProof.Rows L2
/-! ### cheapest_recipe -/
abbrev n_cheapest_recipe : List Str := ["table", "prices", "label", "row", "found", "other", "tight", "turn", "more", "cups", "blend", "cup"]
abbrev p_cheapest_recipe : List Str := ["table", "prices", "label"]
theorem sc_cheapest_recipe : FnScope n_cheapest_recipe p_cheapest_recipe (defScope s_cheapest_recipe) := ⟨rfl, rfl, rfl, by decide +kernel, rfl, by decide +kernel, by decide +kernel⟩
def t_cheapest_recipe (K : PySem.W.Frag) (E : XK) : TS := (tSeq (tAsg (tCall (sp_checked_prices K) [] E0 (tCons (tVar 0) (tCons (tVar 1) tNil))) (gName 1))
  (tSeq (tAsg (tOp (rIxT K) (tCall (sp_costs K) [] E0 (tCons (tVar 0) (tCons (tVar 1) tNil))) (tC (.int 0))) (gName 3))
  (tSeq (tAsg tDNewK (gName 4))
  (tSeq (tFor (iRng1 (tCons (tFld K (tVar 0) "labels") tNil)) (gName 5)
    (tIfS (tTest (tOp (rEqD K) (tOp (rIxT K) (tVar 3) (tVar 5)) (tTup (tCons (tOp (rIxT K) (tVar 1) (tVar 5)) (tCons (tC (.int 1)) tNil))))) (sDPut (tVar 4) (tVar 5) (tVar 5)) tNext))
  (tSeq (tAsg (tLc (iList K (tCall (sp_all_cups K) [] E0 (tCons (tVar 0) tNil))) (gName 9) (tTest (tOp rEq (tCall (sp_against K) [] E0 (tCons (tVar 0) (tCons (tVar 3) (tCons (tVar 9) tNil)))) (tC (.int 0)))) (tVar 9) [9]) (gName 6))
  (tSeq (tFor (iRng1 (tCons (tFld K (tVar 0) "labels") tNil)) (gName 7)
    (tSeq (tAsg tDNewK (gName 8))
  (tSeq (tFor (iList K (tVar 6)) (gName 9)
    (tSeq (tAsg (tMeth (tabC K) "blend" (sp_Table_blend K) [] E0 (tVar 0) (tCons (tVar 9) tNil)) (gName 10))
  (tIfS (tAnd (tB (tDNotIn (tVar 10) (tVar 4))) (tAnd (tB (tDNotIn (tVar 10) (tVar 8))) (tB (tCB (rAll K) (tCons (tLc (iTup K (tVar 9)) (gName 11) tYes (tDIn (tVar 11) (tVar 4)) [11]) tNil))))) (sDPut (tVar 8) (tVar 10) (tCB (rTupOf K) (tCons (tLc (iTup K (tVar 9)) (gName 11) tYes (tDGet (tVar 4) (tVar 11)) [11]) tNil))) tNext)))
  (tLock (tFor (iKeys (tVar 8)) (gName 10)
    (sDPut (tVar 4) (tVar 10) (tDGet (tVar 8) (tVar 10))))))))
  (tSeq (tIfS (tB (tDNotIn (tVar 2) (tVar 4))) (tRaiseRef (refC K) (fun cls d _ H => E cls d H) (tCons (tC (.int 0)) tNil)) tNext)
  (tRet (tDGet (tVar 4) (tVar 2))))))))))
theorem dv_cheapest_recipe {P : Program} {w : World} {K : PySem.W.Frag} {mg : Str → Option Value} {base : Heap} (T : Txt K mg) {fI cc cda : Addr} (R : PySem.RefX.RefTxt P K mg (refC K) fI cc cda) (cchecked_prices : Cal P w K mg base 2 "checked_prices" (sp_checked_prices K)) (ccosts : Cal P w K mg base 6 "costs" (sp_costs K)) (call_cups : Cal P w K mg base 2 "all_cups" (sp_all_cups K)) (cagainst : Cal P w K mg base 5 "against" (sp_against K)) (cTable_blend : MetB P w K mg base 2 (sp_Table_blend K)) (f : Addr) (cdv : Value) (A : Around) (outer : List Env) (s : Shared) (H : Hp) (E : XK) (hr : Room 6 (A.deeper (envOfC "cheapest_recipe" (defScope s_cheapest_recipe) s.heap.objs.size f cdv))) :
    PSs (cxOf (L2.CX P w) P w K mg base n_cheapest_recipe "cheapest_recipe" (defScope s_cheapest_recipe) f cdv A outer s H E) (defBody s_cheapest_recipe) (t_cheapest_recipe K E) := by
  unfold t_cheapest_recipe
  exact (pss_cons (ps_set (i := 1) sc_cheapest_recipe.nd rfl (Or.inl rfl) (pe_c cchecked_prices hr (by decide) rfl (pa_cons (pv 0) (pa_cons (pv 1) pa_nil))))
  (pss_cons (ps_set (i := 3) sc_cheapest_recipe.nd rfl (Or.inr rfl) (pe_ix ix_tup (pe_c ccosts hr (by decide) rfl (pa_cons (pv 0) (pa_cons (pv 1) pa_nil))) pe_int (fun _ _ => rfl)))
  (pss_cons (ps_set (i := 4) sc_cheapest_recipe.nd rfl (Or.inr rfl) pe_dnewK)
  (pss_cons (ps_for (passes_of rfl) rfl (pi_range1 rfl T.brange (pa_cons (pe_fld (pv 0) rfl) pa_nil)) (pg_name (i := 5) sc_cheapest_recipe.nd rfl (Or.inl rfl))
    (pss_one (ps_if (pt_cmpR (op_eqD hr.units) (pe_ix ix_tup (pv 3) (pv 5) (fun _ _ => rfl)) (pe_tup (pa_cons (pe_ix ix_tup (pv 1) (pv 5) (fun _ _ => rfl)) (pa_cons pe_int pa_nil))) (nomark _)) (pss_one (ps_dput (hu_of hr) (pv 4) (pv 5) (pv 5) rfl)) pss_nil)))
  (pss_cons (ps_setLc (i := 6) (own := [("cups", 9)]) (g := (gName 9)) (tt := (tTest (tOp rEq (tCall (sp_against K) [] E0 (tCons (tVar 0) (tCons (tVar 3) (tCons (tVar 9) tNil)))) (tC (.int 0))))) (te := (tVar 9)) rfl sc_cheapest_recipe.nd rfl rfl (sw_true rfl rfl rfl (by decide +kernel)) (pi_list (pe_c call_cups hr (by decide) rfl (pa_cons (pv 0) pa_nil))) (blkOk_by (by kernel_rfl)) (fun _ _ _ _ _ => (pg_name (i := 9) sc_cheapest_recipe.nd rfl (Or.inl rfl))) (fun _ _ _ _ _ => (pts_one (pt_cmpR op_eq (pe_c cagainst hr (by decide) rfl (pa_cons (pv 0) (pa_cons (pv 3) (pa_cons (pv 9) pa_nil)))) pe_int (nomark _)))) (fun _ _ _ _ _ => (pv 9)))
  (pss_cons (ps_for (passes_of rfl) rfl (pi_range1 rfl T.brange (pa_cons (pe_fld (pv 0) rfl) pa_nil)) (pg_name (i := 7) sc_cheapest_recipe.nd rfl (Or.inl rfl))
    (pss_cons (ps_set (i := 8) sc_cheapest_recipe.nd rfl (Or.inl rfl) pe_dnewK)
  (pss_cons (ps_for (passes_of rfl) rfl (pi_list (pv 6)) (pg_name (i := 9) sc_cheapest_recipe.nd rfl (Or.inl rfl))
    (pss_cons (ps_set (i := 10) sc_cheapest_recipe.nd rfl (Or.inl rfl) (pe_blend T cTable_blend hr (by decide) (pv 0) (pa_cons (pv 9) pa_nil)))
  (pss_one (ps_if (PW.pt (pw_and (pt_cmp (pc_dnotin (hu_of hr) (pv 10) (pv 4))) (pw_and (pt_cmp (pc_dnotin (hu_of hr) (pv 10) (pv 8))) (pw_and1 (pt_val (pe_callB (cr_all rfl) rfl T.ball boot_all (pa_cons (pe_lc (own := [("cup", 11)]) (g := (gName 11)) (tt := tYes) (te := (tDIn (tVar 11) (tVar 4))) rfl sc_cheapest_recipe.nd (pi_tup (pv 9)) (blkOk_by (by kernel_rfl)) (fun _ _ _ _ _ => (pg_name (i := 11) sc_cheapest_recipe.nd rfl (Or.inl rfl))) (fun _ _ _ _ _ => pts_nil) (fun _ _ _ _ _ => (pe_cmp (pc_din (hu_of hr) (pv 11) (pv 4)) rfl))) pa_nil))))))) (pss_one (ps_dput (hu_of hr) (pv 8) (pv 10) (pe_callTy call_tuple_of rfl T.btuple boot_tuple (pa_cons (pe_lc (own := [("cup", 11)]) (g := (gName 11)) (tt := tYes) (te := (tDGet (tVar 4) (tVar 11))) rfl sc_cheapest_recipe.nd (pi_tup (pv 9)) (blkOk_by (by kernel_rfl)) (fun _ _ _ _ _ => (pg_name (i := 11) sc_cheapest_recipe.nd rfl (Or.inl rfl))) (fun _ _ _ _ _ => pts_nil) (fun _ _ _ _ _ => (pe_dget (hu_of hr) (pv 4) (pv 11) (fun _ _ => rfl)))) pa_nil)) rfl)) pss_nil))))
  (pss_one (ps_lock (ps_for (passes_of rfl) rfl (pi_keys (pv 8)) (pg_name (i := 10) sc_cheapest_recipe.nd rfl (Or.inl rfl))
    (pss_one (ps_dput (hu_of hr) (pv 4) (pv 10) (pe_dget (hu_of hr) (pv 8) (pv 10) (fun _ _ => rfl)) rfl))))))))
  (pss_cons (ps_if (pt_cmp (pc_dnotin (hu_of hr) (pv 2) (pv 4))) (pss_one (ps_raiseRef rfl R hr (takes_of rfl rfl rfl rfl) (by exact (pa_cons pe_int pa_nil)))) pss_nil)
  (pss_one (ps_ret (pe_dget (hu_of hr) (pv 4) (pv 2) (fun _ _ => rfl)))))))))))

end Mix
namespace Mix
open PySem PySem.Spec PyProof.Rows L2
/-! ### isinstance -/
section
variable {K : PySem.W.Frag} {H : Hp} {Q : VK}
theorem tyx_tup {a : Addr} {xs : List V} (h : SqT K H a xs) : TyX K H (.ref a) (.type "tuple") := by
  rcases h with (h | ⟨o, h⟩) | ⟨o, its, n, hk, hc, _⟩
  · exact .base (.tup h)
  · exact .fTuple h
  · exact .kTuple hk hc
theorem tyx_lst {a : Addr} {xs : List V} (h : SqL K H a xs) : TyX K H (.ref a) (.type "list") := by
  rcases h with (h | ⟨o, h⟩) | ⟨o, its, n, hk, hc, _⟩
  · exact .base (.lst h)
  · exact .base (.frz h)
  · exact .kList hk hc
theorem k_ii : PySem.W.kitOne K (.type "int") (.type "int") = some true := kit_ty (by decide +kernel)
theorem k_ib : PySem.W.kitOne K (.type "int") (.type "bool") = some false := kit_ty (by decide +kernel)
theorem k_it : PySem.W.kitOne K (.type "int") (.type "tuple") = some false := kit_ty (by decide +kernel)
theorem k_tt : PySem.W.kitOne K (.type "tuple") (.type "tuple") = some true := kit_ty (by decide +kernel)
theorem k_lt : PySem.W.kitOne K (.type "list") (.type "tuple") = some false := kit_ty (by decide +kernel)
theorem isi_row {v : V} {xs : List V} {tp : Addr} (s : SeqV K H v xs) (e : H tp = some (.tup [.ty "list", .ty "tuple"])) (h : Q (.bl true) H) : rIsiT K [v, .ref tp] H Q := by
  obtain ⟨a, rfl, s⟩ := s
  rcases s with s | s
  · exact ⟨_, tp, _, _, _, true, rfl, e, .cons (.ty _) (.cons (.ty _) .nil), tyx_lst s, kitAny_cons (b := true) (kit_ty (by decide +kernel)) (fun z => by cases z) (fun _ => rfl), h⟩
  · exact ⟨_, tp, _, _, _, true, rfl, e, .cons (.ty _) (.cons (.ty _) .nil), tyx_tup s, kitAny_cons (b := false) (kit_ty (by decide +kernel)) (fun _ => kitAny_cons (b := true) (kit_ty (by decide +kernel)) (fun z => by cases z) (fun _ => rfl)) (fun z => by cases z), h⟩
end
/-! ### is_integer -/
abbrev n_is_integer : List Str := ["value"]
abbrev p_is_integer : List Str := ["value"]
theorem sc_is_integer : FnScope n_is_integer p_is_integer (defScope s_is_integer) := ⟨rfl, rfl, rfl, by decide +kernel, rfl, by decide +kernel, by decide +kernel⟩
def t_is_integer (K : PySem.W.Frag) : TS := (tRet (tAndV (tCB (rIsi K) (tCons (tVar 0) (tCons (tC (.ty "int")) tNil))) (tNotV (tCB (rIsi K) (tCons (tVar 0) (tCons (tC (.ty "bool")) tNil))))))
theorem dv_is_integer {P : Program} {w : World} {K : PySem.W.Frag} {mg : Str → Option Value} {base : Heap} (T : Txt K mg)  (f : Addr) (cdv : Value) (A : Around) (outer : List Env) (s : Shared) (H : Hp) (E : XK) (hr : Room 0 (A.deeper (envOfC "is_integer" (defScope s_is_integer) s.heap.objs.size f cdv))) :
    PSs (cxOf CX0 P w K mg base n_is_integer "is_integer" (defScope s_is_integer) f cdv A outer s H E).nox (defBody s_is_integer) (t_is_integer K) := by
  unfold t_is_integer
  exact (pss_one (ps_ret (pe_and (pe_callB call_isi rfl T.bisinstance boot_isinstance (pa_cons (pv 0) (pa_cons (pe_bltn (v := .ty "int") rfl T.bint boot_int rfl) pa_nil))) (pe_one (pe_not (pe_callB call_isi rfl T.bisinstance boot_isinstance (pa_cons (pv 0) (pa_cons (pe_bltn (v := .ty "bool") rfl T.bbool boot_bool rfl) pa_nil))))))))
/-! ### is_bowl -/
abbrev n_is_bowl : List Str := ["value"]
abbrev p_is_bowl : List Str := ["value"]
theorem sc_is_bowl : FnScope n_is_bowl p_is_bowl (defScope s_is_bowl) := ⟨rfl, rfl, rfl, by decide +kernel, rfl, by decide +kernel, by decide +kernel⟩
def t_is_bowl (K : PySem.W.Frag) : TS := (tRet (tAndV (tCall (sp_is_integer K) [] E0 (tCons (tVar 0) tNil)) (tChain rLeI rLeI (tC (.int 2)) (tVar 0) (tC (.int 5)))))
theorem dv_is_bowl {P : Program} {w : World} {K : PySem.W.Frag} {mg : Str → Option Value} {base : Heap} (T : Txt K mg) (cis_integer : Cal P w K mg base 1 "is_integer" (sp_is_integer K)) (f : Addr) (cdv : Value) (A : Around) (outer : List Env) (s : Shared) (H : Hp) (E : XK) (hr : Room 1 (A.deeper (envOfC "is_bowl" (defScope s_is_bowl) s.heap.objs.size f cdv))) :
    PSs (cxOf CX0 P w K mg base n_is_bowl "is_bowl" (defScope s_is_bowl) f cdv A outer s H E).nox (defBody s_is_bowl) (t_is_bowl K) := by
  unfold t_is_bowl
  exact (pss_one (ps_ret (pe_and (pe_c cis_integer hr (by decide) rfl (pa_cons (pv 0) pa_nil)) (pe_one (pe_chain op_le op_le pe_int (pv 0) pe_int)))))
/-! ### checked_bowl -/
abbrev n_checked_bowl : List Str := ["value"]
abbrev p_checked_bowl : List Str := ["value"]
theorem sc_checked_bowl : FnScope n_checked_bowl p_checked_bowl (defScope s_checked_bowl) := ⟨rfl, rfl, rfl, by decide +kernel, rfl, by decide +kernel, by decide +kernel⟩
def t_checked_bowl (K : PySem.W.Frag) : TS := (tSeq (tIfS (tNot (tB (tCall (sp_is_bowl K) [] E0 (tCons (tVar 0) tNil)))) tNever tNext)
  (tRet (tVar 0)))
theorem dv_checked_bowl {P : Program} {w : World} {K : PySem.W.Frag} {mg : Str → Option Value} {base : Heap} (T : Txt K mg) (cis_bowl : Cal P w K mg base 2 "is_bowl" (sp_is_bowl K)) (f : Addr) (cdv : Value) (A : Around) (outer : List Env) (s : Shared) (H : Hp) (E : XK) (hr : Room 2 (A.deeper (envOfC "checked_bowl" (defScope s_checked_bowl) s.heap.objs.size f cdv))) :
    PSs (cxOf CX0 P w K mg base n_checked_bowl "checked_bowl" (defScope s_checked_bowl) f cdv A outer s H E).nox (defBody s_checked_bowl) (t_checked_bowl K) := by
  unfold t_checked_bowl
  exact (pss_cons (ps_if (pt_not (pt_val (pe_c cis_bowl hr (by decide) rfl (pa_cons (pv 0) pa_nil)))) (pss_one ps_never) pss_nil)
  (pss_one (ps_ret (pv 0))))
/-! ### is_index -/
abbrev n_is_index : List Str := ["value", "many"]
abbrev p_is_index : List Str := ["value", "many"]
theorem sc_is_index : FnScope n_is_index p_is_index (defScope s_is_index) := ⟨rfl, rfl, rfl, by decide +kernel, rfl, by decide +kernel, by decide +kernel⟩
def t_is_index (K : PySem.W.Frag) : TS := (tRet (tAndV (tCB (rIsi K) (tCons (tVar 0) (tCons (tC (.ty "int")) tNil))) (tAndV (tNotV (tCB (rIsi K) (tCons (tVar 0) (tCons (tC (.ty "bool")) tNil)))) (tChain rLeI rLtI (tC (.int 0)) (tVar 0) (tVar 1)))))
theorem dv_is_index {P : Program} {w : World} {K : PySem.W.Frag} {mg : Str → Option Value} {base : Heap} (T : Txt K mg)  (f : Addr) (cdv : Value) (A : Around) (outer : List Env) (s : Shared) (H : Hp) (E : XK) (hr : Room 0 (A.deeper (envOfC "is_index" (defScope s_is_index) s.heap.objs.size f cdv))) :
    PSs (cxOf CX0 P w K mg base n_is_index "is_index" (defScope s_is_index) f cdv A outer s H E).nox (defBody s_is_index) (t_is_index K) := by
  unfold t_is_index
  exact (pss_one (ps_ret (pe_and (pe_callB call_isi rfl T.bisinstance boot_isinstance (pa_cons (pv 0) (pa_cons (pe_bltn (v := .ty "int") rfl T.bint boot_int rfl) pa_nil))) (pe_and (pe_not (pe_callB call_isi rfl T.bisinstance boot_isinstance (pa_cons (pv 0) (pa_cons (pe_bltn (v := .ty "bool") rfl T.bbool boot_bool rfl) pa_nil)))) (pe_one (pe_chain op_le op_lt pe_int (pv 0) (pv 1)))))))
/-! ### is_row -/
abbrev n_is_row : List Str := ["value"]
abbrev p_is_row : List Str := ["value"]
theorem sc_is_row : FnScope n_is_row p_is_row (defScope s_is_row) := ⟨rfl, rfl, rfl, by decide +kernel, rfl, by decide +kernel, by decide +kernel⟩
def t_is_row (K : PySem.W.Frag) : TS := (tRet (tCB (rIsiT K) (tCons (tVar 0) (tCons (tTup (tCons (tC (.ty "list")) (tCons (tC (.ty "tuple")) tNil))) tNil))))
theorem dv_is_row {P : Program} {w : World} {K : PySem.W.Frag} {mg : Str → Option Value} {base : Heap} (T : Txt K mg)  (f : Addr) (cdv : Value) (A : Around) (outer : List Env) (s : Shared) (H : Hp) (E : XK) (hr : Room 0 (A.deeper (envOfC "is_row" (defScope s_is_row) s.heap.objs.size f cdv))) :
    PSs (cxOf CX0 P w K mg base n_is_row "is_row" (defScope s_is_row) f cdv A outer s H E).nox (defBody s_is_row) (t_is_row K) := by
  unfold t_is_row
  exact (pss_one (ps_ret (pe_callB call_isiT rfl T.bisinstance boot_isinstance (pa_cons (pv 0) (pa_cons (pe_tup (pa_cons (pe_bltn (v := .ty "list") rfl T.blist boot_list rfl) (pa_cons (pe_bltn (v := .ty "tuple") rfl T.btuple boot_tuple rfl) pa_nil))) pa_nil)))))
/-! ### power -/
abbrev n_power : List Str := ["base", "many", "found", "turn"]
abbrev p_power : List Str := ["base", "many"]
theorem sc_power : FnScope n_power p_power (defScope s_power) := ⟨rfl, rfl, rfl, by decide +kernel, rfl, by decide +kernel, by decide +kernel⟩
def t_power (K : PySem.W.Frag) : TS := (tSeq (tAsg (tC (.int 1)) (gName 2))
  (tSeq (tFor (iRng1 (tCons (tVar 1) tNil)) (gName 3)
    (tAug 2 (tVar 0) ipMulI))
  (tRet (tVar 2))))
theorem dv_power {P : Program} {w : World} {K : PySem.W.Frag} {mg : Str → Option Value} {base : Heap} (T : Txt K mg)  (f : Addr) (cdv : Value) (A : Around) (outer : List Env) (s : Shared) (H : Hp) (E : XK) (hr : Room 0 (A.deeper (envOfC "power" (defScope s_power) s.heap.objs.size f cdv))) :
    PSs (cxOf CX0 P w K mg base n_power "power" (defScope s_power) f cdv A outer s H E).nox (defBody s_power) (t_power K) := by
  unfold t_power
  exact (pss_cons (ps_set (i := 2) sc_power.nd rfl (Or.inl rfl) pe_int)
  (pss_cons (ps_for PassesOwn.never rfl (pi_range1 rfl T.brange (pa_cons (pv 1) pa_nil)) (pg_name (i := 3) sc_power.nd rfl (Or.inl rfl))
    (pss_one (ps_aug (i := 2) sc_power.nd rfl (Or.inl rfl) (pv 0) ip_mulI)))
  (pss_one (ps_ret (pv 2)))))
/-! ### fits -/
abbrev n_fits : List Str := ["k", "labels"]
abbrev p_fits : List Str := ["k", "labels"]
theorem sc_fits : FnScope n_fits p_fits (defScope s_fits) := ⟨rfl, rfl, rfl, by decide +kernel, rfl, by decide +kernel, by decide +kernel⟩
def t_fits (K : PySem.W.Frag) : TS := (tRet (tAndV (tChain rLeI rLeI (tC (.int 1)) (tVar 1) (tC (.int 12))) (tOp rLeI (tCall (sp_power K) [] E0 (tCons (tVar 1) (tCons (tVar 0) tNil))) (tC (.int 729)))))
theorem dv_fits {P : Program} {w : World} {K : PySem.W.Frag} {mg : Str → Option Value} {base : Heap} (T : Txt K mg) (cpower : Cal P w K mg base 1 "power" (sp_power K)) (f : Addr) (cdv : Value) (A : Around) (outer : List Env) (s : Shared) (H : Hp) (E : XK) (hr : Room 1 (A.deeper (envOfC "fits" (defScope s_fits) s.heap.objs.size f cdv))) :
    PSs (cxOf CX0 P w K mg base n_fits "fits" (defScope s_fits) f cdv A outer s H E).nox (defBody s_fits) (t_fits K) := by
  unfold t_fits
  exact (pss_one (ps_ret (pe_and (pe_chain op_le op_le pe_int (pv 1) (by obtain ⟨_, h⟩ := T.mlabels; exact pe_glob rfl h ⟨_, rfl⟩)) (pe_one (pe_cmpR op_le (pe_c cpower hr (by decide) rfl (pa_cons (pv 1) (pa_cons (pv 0) pa_nil))) (by obtain ⟨_, h⟩ := T.mtuples; exact pe_glob rfl h ⟨_, rfl⟩) (nomark _))))))
/-! readings -/
theorem pure_is_integer {K : PySem.W.Frag} (vs : List V) (H : Hp) (Q : VK) (E : XK) (h : sp_is_integer K vs H Q E) : t_is_integer K { nx := fun _ H' => Q .non H', rt := Q } (start n_is_integer vs) H := by
  obtain ⟨i, rfl, k⟩ := h
  refine ⟨_, rfl, _, _, _, _, true, rfl, .ty _, .base (.int i), k_ii, _, rfl, iteT ⟨_, rfl, _, _, _, _, false, rfl, .ty _, .base (.int i), k_ib, _, rfl, k _ _ (Same.refl H) rfl⟩⟩
theorem pure_is_bowl {K : PySem.W.Frag} (vs : List V) (H : Hp) (Q : VK) (E : XK) (h : sp_is_bowl K vs H Q E) : t_is_bowl K { nx := fun _ H' => Q .non H', rt := Q } (start n_is_bowl vs) H := by
  obtain ⟨i, rfl, h2, h5, k⟩ := h
  refine ⟨_, rfl, i, rfl, ?_⟩
  rintro v H' s rfl
  refine ⟨_, rfl, iteT ⟨_, rfl, _, _, rfl, rfl, _, rfl, ift (by simp [h2]) ⟨_, _, rfl, rfl, k _ _ s ?_⟩⟩⟩
  simp [h5]
theorem pure_checked_bowl {K : PySem.W.Frag} (vs : List V) (H : Hp) (Q : VK) (E : XK) (h : sp_checked_bowl K vs H Q E) : t_checked_bowl K { nx := fun _ H' => Q .non H', rt := Q } (start n_checked_bowl vs) H := by
  obtain ⟨i, rfl, h2, h5, k⟩ := h
  refine ⟨_, rfl, i, rfl, h2, h5, ?_⟩
  rintro v H' s rfl
  exact ⟨_, rfl, iff' rfl ⟨_, rfl, k _ _ s rfl⟩⟩
theorem pure_is_index {K : PySem.W.Frag} (vs : List V) (H : Hp) (Q : VK) (E : XK) (h : sp_is_index K vs H Q E) : t_is_index K { nx := fun _ H' => Q .non H', rt := Q } (start n_is_index vs) H := by
  obtain ⟨i, n, rfl, h0, hn, k⟩ := h
  refine ⟨_, rfl, _, _, _, _, true, rfl, .ty _, .base (.int i), k_ii, _, rfl, iteT ⟨_, rfl, _, _, _, _, false, rfl, .ty _, .base (.int i), k_ib, _, rfl, _, rfl, iteT ⟨_, rfl, _, _, rfl, rfl, _, rfl, ift (by simp [h0]) ⟨_, rfl, _, _, rfl, rfl, k _ _ (Same.refl H) ?_⟩⟩⟩⟩
  simp [hn]
theorem pure_is_row {K : PySem.W.Frag} (vs : List V) (H : Hp) (Q : VK) (E : XK) (h : sp_is_row K vs H Q E) : t_is_row K { nx := fun _ H' => Q .non H', rt := Q } (start n_is_row vs) H := by
  obtain ⟨v, xs, rfl, hs, k⟩ := h
  refine ⟨_, rfl, by show 2 ≤ sizeLine; decide, fun p hp => isi_row (hs.mono (Same.new hp)) upd_same (k _ _ (Same.new hp) rfl)⟩
theorem pure_power {K : PySem.W.Frag} (vs : List V) (H : Hp) (Q : VK) (E : XK) (h : sp_power K vs H Q E) : t_power K { nx := fun _ H' => Q .non H', rt := Q } (start n_power vs) H := by
  obtain ⟨b, m, rfl, hb, hm, k⟩ := h
  refine ⟨_, rfl, _, rfl, by omega, by omega, for_range (lo := 0) (n := m) (fun i σ H' => H' = H ∧ ∃ o, σ = [some (.int (b : Int)), some (.int (m : Int)), some (.int ((b ^ i : Nat) : Int)), o]) ⟨rfl, _, rfl⟩ ?_ ?_⟩
  · rintro i σ H' hi ⟨rfl, o, rfl⟩
    refine ⟨_, rfl, _, rfl, _, _, rfl, rfl, .inr ?_, rfl, some (.int (0 + (i : Int))), ?_⟩
    · omega
    · rw [Nat.pow_succ]
      simp
  · rintro σ H' ⟨rfl, o, rfl⟩
    exact ⟨_, rfl, k _ _ (Same.refl _) rfl⟩
theorem pow_small {l k : Nat} (hl : l ≤ 4) (hk : k ≤ 3) : l ^ k ≤ 64 := Nat.le_trans (Nat.pow_le_pow_left hl k) (Nat.le_trans (Nat.pow_le_pow_right (by decide) hk) (by decide))
theorem pure_fits {K : PySem.W.Frag} (vs : List V) (H : Hp) (Q : VK) (E : XK) (h : sp_fits K vs H Q E) : t_fits K { nx := fun _ H' => Q .non H', rt := Q } (start n_fits vs) H := by
  obtain ⟨k, l, rfl, h1, h4, hk, q⟩ := h
  refine ⟨_, rfl, _, _, rfl, rfl, _, rfl, ift (by simp; omega) ⟨_, _, rfl, rfl, _, rfl, ift (by simp; omega) ⟨_, rfl, _, rfl, l, k, rfl, by omega, by omega, ?_⟩⟩⟩
  rintro v H' s rfl
  refine ⟨_, _, rfl, rfl, q _ _ s ?_⟩
  have := pow_small h4 hk
  have e : decide (((l ^ k : Nat) : Int) ≤ 729) = true := decide_eq_true (by omega)
  exact congrArg V.bl e
end Mix
namespace Mix
open PySem PySem.Spec PyProof.Rows L2
/-! ### Table_init -/
abbrev n_Table_init : List Str := ["self", "k", "labels", "results", "many", "at", "label"]
abbrev p_Table_init : List Str := ["self", "k", "labels", "results"]
theorem sc_Table_init : FnScope n_Table_init p_Table_init (defScope s_Table_init) := ⟨rfl, rfl, rfl, by decide +kernel, rfl, by decide +kernel, by decide +kernel⟩
def t_Table_init (K : PySem.W.Frag) : TS := (tSeq (sFld K (tVar 0) (tCall (sp_checked_bowl K) [] E0 (tCons (tVar 1) tNil)) "k")
  (tSeq (tIfS (tOr (tNot (tB (tCall (sp_is_index K) [] E0 (tCons (tVar 2) (tCons (tOp rAddI (tC (.int 12)) (tC (.int 1))) tNil))))) (tNot (tB (tCall (sp_fits K) [] E0 (tCons (tVar 1) (tCons (tVar 2) tNil)))))) tNever tNext)
  (tSeq (tAsg (tCall (sp_power K) [] E0 (tCons (tVar 2) (tCons (tVar 1) tNil))) (gName 4))
  (tSeq (tIfS (tNot (tB (tCall (sp_is_row K) [] E0 (tCons (tVar 3) tNil)))) tNever tNext)
  (tSeq (tFor (iEnumA K (tCons (tVar 3) tNil)) (gTup K 2 (gCons (gName 5) (gCons (gName 6) gNil)))
    (tIfS (tNot (tB (tCall (sp_is_index K) [] E0 (tCons (tVar 6) (tCons (tVar 2) tNil))))) tNever tNext))
  (tSeq (tIfS (tTest (tOp rNe (tCB (rLen K) (tCons (tVar 3) tNil)) (tVar 4))) tNever tNext)
  (tSeq (sFld K (tVar 0) (tVar 2) "labels")
  (sFld K (tVar 0) (tCB (rTupOf K) (tCons (tVar 3) tNil)) "results"))))))))
theorem dv_Table_init {P : Program} {w : World} {K : PySem.W.Frag} {mg : Str → Option Value} {base : Heap} (T : Txt K mg) (cchecked_bowl : Cal P w K mg base 3 "checked_bowl" (sp_checked_bowl K)) (cis_index : Cal P w K mg base 1 "is_index" (sp_is_index K)) (cfits : Cal P w K mg base 2 "fits" (sp_fits K)) (cpower : Cal P w K mg base 1 "power" (sp_power K)) (cis_row : Cal P w K mg base 1 "is_row" (sp_is_row K)) (f : Addr) (cdv : Value) (A : Around) (outer : List Env) (s : Shared) (H : Hp) (E : XK) (hr : Room 3 (A.deeper (envOfC "Table.__init__" (defScope s_Table_init) s.heap.objs.size f cdv))) :
    PSs (cxOf CX0 P w K mg base n_Table_init "Table.__init__" (defScope s_Table_init) f cdv A outer s H E).nox (defBody s_Table_init) (t_Table_init K) := by
  unfold t_Table_init
  exact (pss_cons (ps_fld (pv 0) (pe_c cchecked_bowl hr (by decide) rfl (pa_cons (pv 1) pa_nil)) rfl)
  (pss_cons (ps_if (PW.pt (pw_or (pt_not (pt_val (pe_c cis_index hr (by decide) rfl (pa_cons (pv 2) (pa_cons (pe_op op_add (by obtain ⟨_, h⟩ := T.mlabels; exact pe_glob rfl h ⟨_, rfl⟩) pe_int) pa_nil))))) (pw_or1 (pt_not (pt_val (pe_c cfits hr (by decide) rfl (pa_cons (pv 1) (pa_cons (pv 2) pa_nil)))))))) (pss_one ps_never) pss_nil)
  (pss_cons (ps_set (i := 4) sc_Table_init.nd rfl (Or.inl rfl) (pe_c cpower hr (by decide) rfl (pa_cons (pv 2) (pa_cons (pv 1) pa_nil))))
  (pss_cons (ps_if (pt_not (pt_val (pe_c cis_row hr (by decide) rfl (pa_cons (pv 3) pa_nil)))) (pss_one ps_never) pss_nil)
  (pss_cons (ps_for PassesOwn.never rfl (pi_enumA rfl T.benumerate (pa_cons (pv 3) pa_nil)) (pg_tup rfl (pgs_cons (pg_name (i := 5) sc_Table_init.nd rfl (Or.inl rfl)) (pgs_cons (pg_name (i := 6) sc_Table_init.nd rfl (Or.inl rfl)) pgs_nil)))
    (pss_one (ps_if (pt_not (pt_val (pe_c cis_index hr (by decide) rfl (pa_cons (pv 6) (pa_cons (pv 2) pa_nil))))) (pss_one ps_never) pss_nil)))
  (pss_cons (ps_if (pt_cmpR op_ne (pe_callB call_len_seq rfl T.blen boot_len (pa_cons (pv 3) pa_nil)) (pv 4) (nomark _)) (pss_one ps_never) pss_nil)
  (pss_cons (ps_fld (pv 0) (pv 2) rfl)
  (pss_one (ps_fld (pv 0) (pe_callTy call_tuple_of rfl T.btuple boot_tuple (pa_cons (pv 3) pa_nil)) rfl)))))))))
/-! ### Table_blend -/
abbrev n_Table_blend : List Str := ["self", "cups", "spot", "at", "label"]
abbrev p_Table_blend : List Str := ["self", "cups"]
theorem sc_Table_blend : FnScope n_Table_blend p_Table_blend (defScope s_Table_blend) := ⟨rfl, rfl, rfl, by decide +kernel, rfl, by decide +kernel, by decide +kernel⟩
def t_Table_blend (K : PySem.W.Frag) : TS := (tSeq (tIfS (tNot (tB (tCall (sp_is_row K) [] E0 (tCons (tVar 1) tNil)))) tNever tNext)
  (tSeq (tAsg (tC (.int 0)) (gName 2))
  (tSeq (tFor (iEnumA K (tCons (tVar 1) tNil)) (gTup K 2 (gCons (gName 3) (gCons (gName 4) gNil)))
    (tSeq (tIfS (tNot (tB (tCall (sp_is_index K) [] E0 (tCons (tVar 4) (tCons (tFld K (tVar 0) "labels") tNil))))) tNever tNext)
  (tAsg (tOp rAddI (tOp rMulI (tVar 2) (tFld K (tVar 0) "labels")) (tVar 4)) (gName 2))))
  (tSeq (tIfS (tTest (tOp rNe (tCB (rLen K) (tCons (tVar 1) tNil)) (tFld K (tVar 0) "k"))) tNever tNext)
  (tRet (tOp (rIxT K) (tFld K (tVar 0) "results") (tVar 2)))))))
theorem dv_Table_blend {P : Program} {w : World} {K : PySem.W.Frag} {mg : Str → Option Value} {base : Heap} (T : Txt K mg) (cis_row : Cal P w K mg base 1 "is_row" (sp_is_row K)) (cis_index : Cal P w K mg base 1 "is_index" (sp_is_index K)) (f : Addr) (cdv : Value) (A : Around) (outer : List Env) (s : Shared) (H : Hp) (E : XK) (hr : Room 1 (A.deeper (envOfC "Table.blend" (defScope s_Table_blend) s.heap.objs.size f cdv))) :
    PSs (cxOf CX0 P w K mg base n_Table_blend "Table.blend" (defScope s_Table_blend) f cdv A outer s H E).nox (defBody s_Table_blend) (t_Table_blend K) := by
  unfold t_Table_blend
  exact (pss_cons (ps_if (pt_not (pt_val (pe_c cis_row hr (by decide) rfl (pa_cons (pv 1) pa_nil)))) (pss_one ps_never) pss_nil)
  (pss_cons (ps_set (i := 2) sc_Table_blend.nd rfl (Or.inl rfl) pe_int)
  (pss_cons (ps_for PassesOwn.never rfl (pi_enumA rfl T.benumerate (pa_cons (pv 1) pa_nil)) (pg_tup rfl (pgs_cons (pg_name (i := 3) sc_Table_blend.nd rfl (Or.inl rfl)) (pgs_cons (pg_name (i := 4) sc_Table_blend.nd rfl (Or.inl rfl)) pgs_nil)))
    (pss_cons (ps_if (pt_not (pt_val (pe_c cis_index hr (by decide) rfl (pa_cons (pv 4) (pa_cons (pe_fld (pv 0) rfl) pa_nil))))) (pss_one ps_never) pss_nil)
  (pss_one (ps_set (i := 2) sc_Table_blend.nd rfl (Or.inl rfl) (pe_op op_add (pe_op op_mulW (pv 2) (pe_fld (pv 0) rfl)) (pv 4))))))
  (pss_cons (ps_if (pt_cmpR op_ne (pe_callB call_len_seq rfl T.blen boot_len (pa_cons (pv 1) pa_nil)) (pe_fld (pv 0) rfl) (nomark _)) (pss_one ps_never) pss_nil)
  (pss_one (ps_ret (pe_ix ix_tup (pe_fld (pv 0) rfl) (pv 2) (fun _ _ => rfl))))))))
/-! ### tuples_of -/
abbrev n_tuples_of : List Str := ["some", "many", "found", "turn", "row", "one"]
abbrev p_tuples_of : List Str := ["some", "many"]
theorem sc_tuples_of : FnScope n_tuples_of p_tuples_of (defScope s_tuples_of) := ⟨rfl, rfl, rfl, by decide +kernel, rfl, by decide +kernel, by decide +kernel⟩
def t_tuples_of (K : PySem.W.Frag) : TS := (tSeq (tAsg (tLst (tCons (tTup tNil) tNil)) (gName 2))
  (tSeq (tFor (iRng1 (tCons (tVar 1) tNil)) (gName 3)
    (tAsg (tLc2 (iList K (tVar 2)) (gName 4) tYes (iList K (tVar 0)) (gName 5) tYes (tOp (rCatA K) (tVar 4) (tTup (tCons (tVar 5) tNil))) [4, 5] [5]) (gName 2)))
  (tRet (tVar 2))))
theorem dv_tuples_of {P : Program} {w : World} {K : PySem.W.Frag} {mg : Str → Option Value} {base : Heap} (T : Txt K mg)  (f : Addr) (cdv : Value) (A : Around) (outer : List Env) (s : Shared) (H : Hp) (E : XK) (hr : Room 0 (A.deeper (envOfC "tuples_of" (defScope s_tuples_of) s.heap.objs.size f cdv))) :
    PSs (cxOf CX0 P w K mg base n_tuples_of "tuples_of" (defScope s_tuples_of) f cdv A outer s H E).nox (defBody s_tuples_of) (t_tuples_of K) := by
  unfold t_tuples_of
  exact (pss_cons (ps_set (i := 2) sc_tuples_of.nd rfl (Or.inl rfl) (pe_lst (pa_cons (pe_tup pa_nil) pa_nil)))
  (pss_cons (ps_for PassesOwn.never rfl (pi_range1 rfl T.brange (pa_cons (pv 1) pa_nil)) (pg_name (i := 3) sc_tuples_of.nd rfl (Or.inl rfl))
    (pss_one (ps_setLc2 (i := 2) (own := [("row", 4), ("one", 5)]) (vs1 := [5]) (g := (gName 4)) (tt := tYes) (g1 := (gName 5)) (tt1 := tYes) (te := (tOp (rCatA K) (tVar 4) (tTup (tCons (tVar 5) tNil)))) rfl sc_tuples_of.nd rfl rfl (sw_true rfl rfl rfl (by decide +kernel)) (pi_list (pv 2)) (blkOk_by (by kernel_rfl)) (by decide) (fun _ _ _ _ _ => (pg_name (i := 4) sc_tuples_of.nd rfl (Or.inl rfl))) (fun _ _ _ _ _ => pts_nil) (fun _ _ _ _ _ => (pi_list (pv 0))) (fun _ _ _ _ _ => (pg_name (i := 5) sc_tuples_of.nd rfl (Or.inl rfl))) (fun _ _ _ _ _ => pts_nil) (fun _ _ _ _ _ => (pe_op op_catA (pv 4) (pe_tup (pa_cons (pv 5) pa_nil)))))))
  (pss_one (ps_ret (pv 2)))))
/-! ### checked_prices -/
abbrev n_checked_prices : List Str := ["table", "prices", "at", "price"]
abbrev p_checked_prices : List Str := ["table", "prices"]
theorem sc_checked_prices : FnScope n_checked_prices p_checked_prices (defScope s_checked_prices) := ⟨rfl, rfl, rfl, by decide +kernel, rfl, by decide +kernel, by decide +kernel⟩
def t_checked_prices (K : PySem.W.Frag) : TS := (tSeq (tIfS (tNot (tB (tCall (sp_is_row K) [] E0 (tCons (tVar 1) tNil)))) tNever tNext)
  (tSeq (tFor (iEnumA K (tCons (tVar 1) tNil)) (gTup K 2 (gCons (gName 2) (gCons (gName 3) gNil)))
    (tIfS (tNot (tB (tCall (sp_is_integer K) [] E0 (tCons (tVar 3) tNil)))) tNever tNext))
  (tSeq (tIfS (tTest (tOp rNe (tCB (rLen K) (tCons (tVar 1) tNil)) (tFld K (tVar 0) "labels"))) tNever tNext)
  (tRet (tCB (rTupOf K) (tCons (tVar 1) tNil))))))
theorem dv_checked_prices {P : Program} {w : World} {K : PySem.W.Frag} {mg : Str → Option Value} {base : Heap} (T : Txt K mg) (cis_row : Cal P w K mg base 1 "is_row" (sp_is_row K)) (cis_integer : Cal P w K mg base 1 "is_integer" (sp_is_integer K)) (f : Addr) (cdv : Value) (A : Around) (outer : List Env) (s : Shared) (H : Hp) (E : XK) (hr : Room 1 (A.deeper (envOfC "checked_prices" (defScope s_checked_prices) s.heap.objs.size f cdv))) :
    PSs (cxOf CX0 P w K mg base n_checked_prices "checked_prices" (defScope s_checked_prices) f cdv A outer s H E).nox (defBody s_checked_prices) (t_checked_prices K) := by
  unfold t_checked_prices
  exact (pss_cons (ps_if (pt_not (pt_val (pe_c cis_row hr (by decide) rfl (pa_cons (pv 1) pa_nil)))) (pss_one ps_never) pss_nil)
  (pss_cons (ps_for PassesOwn.never rfl (pi_enumA rfl T.benumerate (pa_cons (pv 1) pa_nil)) (pg_tup rfl (pgs_cons (pg_name (i := 2) sc_checked_prices.nd rfl (Or.inl rfl)) (pgs_cons (pg_name (i := 3) sc_checked_prices.nd rfl (Or.inl rfl)) pgs_nil)))
    (pss_one (ps_if (pt_not (pt_val (pe_c cis_integer hr (by decide) rfl (pa_cons (pv 3) pa_nil)))) (pss_one ps_never) pss_nil)))
  (pss_cons (ps_if (pt_cmpR op_ne (pe_callB call_len_seq rfl T.blen boot_len (pa_cons (pv 1) pa_nil)) (pe_fld (pv 0) rfl) (nomark _)) (pss_one ps_never) pss_nil)
  (pss_one (ps_ret (pe_callTy call_tuple_of rfl T.btuple boot_tuple (pa_cons (pv 1) pa_nil)))))))
/-! ### all_cups -/
abbrev n_all_cups : List Str := ["table"]
abbrev p_all_cups : List Str := ["table"]
theorem sc_all_cups : FnScope n_all_cups p_all_cups (defScope s_all_cups) := ⟨rfl, rfl, rfl, by decide +kernel, rfl, by decide +kernel, by decide +kernel⟩
def t_all_cups (K : PySem.W.Frag) : TS := (tRet (tCall (sp_tuples_of K) [] E0 (tCons (tLstRg (tRg1 (tFld K (tVar 0) "labels"))) (tCons (tFld K (tVar 0) "k") tNil))))
theorem dv_all_cups {P : Program} {w : World} {K : PySem.W.Frag} {mg : Str → Option Value} {base : Heap} (T : Txt K mg) (ctuples_of : Cal P w K mg base 1 "tuples_of" (sp_tuples_of K)) (f : Addr) (cdv : Value) (A : Around) (outer : List Env) (s : Shared) (H : Hp) (E : XK) (hr : Room 1 (A.deeper (envOfC "all_cups" (defScope s_all_cups) s.heap.objs.size f cdv))) :
    PSs (cxOf CX0 P w K mg base n_all_cups "all_cups" (defScope s_all_cups) f cdv A outer s H E).nox (defBody s_all_cups) (t_all_cups K) := by
  unfold t_all_cups
  exact (pss_one (ps_ret (pe_c ctuples_of hr (by decide) rfl (pa_cons (pe_listRg rfl rfl T.blist (prg_1 rfl T.brange (pe_fld (pv 0) rfl))) (pa_cons (pe_fld (pv 0) rfl) pa_nil)))))
/-! ### against -/
abbrev n_against : List Str := ["table", "row", "cups", "label"]
abbrev p_against : List Str := ["table", "row", "cups"]
theorem sc_against : FnScope n_against p_against (defScope s_against) := ⟨rfl, rfl, rfl, by decide +kernel, rfl, by decide +kernel, by decide +kernel⟩
def t_against (K : PySem.W.Frag) : TS := (tRet (tCall (sp_compared K) [] E0 (tCons (tCall (sp_times K) [] E0 (tCons (tTup (tCons (tFld K (tVar 0) "k") (tCons (tC (.int 1)) tNil))) (tCons (tOp (rIxT K) (tVar 1) (tMeth (tabC K) "blend" (sp_Table_blend K) [] E0 (tVar 0) (tCons (tVar 2) tNil))) tNil))) (tCons (tCall (sp_total K) [] E0 (tCons (tLc (iTup K (tVar 2)) (gName 3) tYes (tOp (rIxT K) (tVar 1) (tVar 3)) [3]) tNil)) tNil))))
theorem dv_against {P : Program} {w : World} {K : PySem.W.Frag} {mg : Str → Option Value} {base : Heap} (T : Txt K mg) (ccompared : Cal P w K mg base 1 "compared" (sp_compared K)) (ctimes : Cal P w K mg base 3 "times" (sp_times K)) (cTable_blend : MetB P w K mg base 2 (sp_Table_blend K)) (ctotal : Cal P w K mg base 4 "total" (sp_total K)) (f : Addr) (cdv : Value) (A : Around) (outer : List Env) (s : Shared) (H : Hp) (E : XK) (hr : Room 4 (A.deeper (envOfC "against" (defScope s_against) s.heap.objs.size f cdv))) :
    PSs (cxOf CX0 P w K mg base n_against "against" (defScope s_against) f cdv A outer s H E).nox (defBody s_against) (t_against K) := by
  unfold t_against
  exact (pss_one (ps_ret (pe_c ccompared hr (by decide) rfl (pa_cons (pe_c ctimes hr (by decide) rfl (pa_cons (pe_tup (pa_cons (pe_fld (pv 0) rfl) (pa_cons pe_int pa_nil))) (pa_cons (pe_ix ix_tup (pv 1) (pe_blend T cTable_blend hr (by decide) (pv 0) (pa_cons (pv 2) pa_nil)) (fun _ _ => rfl)) pa_nil))) (pa_cons (pe_c ctotal hr (by decide) rfl (pa_cons (pe_lc (own := [("label", 3)]) (g := (gName 3)) (tt := tYes) (te := (tOp (rIxT K) (tVar 1) (tVar 3))) rfl sc_against.nd (pi_tup (pv 2)) (blkOk_by (by kernel_rfl)) (fun _ _ _ _ _ => (pg_name (i := 3) sc_against.nd rfl (Or.inl rfl))) (fun _ _ _ _ _ => pts_nil) (fun _ _ _ _ _ => (pe_ix ix_tup (pv 1) (pv 3) (fun _ _ => rfl)))) pa_nil)) pa_nil)))))
end Mix
namespace Mix
open PySem PySem.Spec PyProof.Rows L2
theorem tabF_k {W : Wd} {r : Addr} : (tabF W r).lookup ("k" : Str) = some (.int (W.k : Int)) := by
  unfold tabF
  rw [lookup_putF, if_neg (by decide +kernel), lookup_putF, if_neg (by decide +kernel), lookup_putF, if_pos rfl]
theorem tabF_l {W : Wd} {r : Addr} : (tabF W r).lookup ("labels" : Str) = some (.int (W.L : Int)) := by
  unfold tabF
  rw [lookup_putF, if_neg (by decide +kernel), lookup_putF, if_pos rfl]
theorem tabF_r {W : Wd} {r : Addr} : (tabF W r).lookup ("results" : Str) = some (.ref r) := by
  unfold tabF
  rw [lookup_putF, if_pos rfl]
theorem tabF_no {W : Wd} {r : Addr} : (tabF W r).lookup ("blend" : Str) = none := by
  unfold tabF
  rw [lookup_putF, if_neg (by decide +kernel), lookup_putF, if_neg (by decide +kernel), lookup_putF, if_neg (by decide +kernel)]
  rfl
theorem Wd.Ok.k3 {W : Wd} (ok : W.Ok) : 2 ≤ W.k ∧ W.k ≤ 3 := by rcases ok.small with h | h <;> omega
theorem Wd.Ok.l4 {W : Wd} (ok : W.Ok) : W.L ≤ 4 := by rcases ok.small with h | h <;> omega
theorem spot_snoc (L : Nat) (cs : List Nat) (c : Nat) : spot L (cs ++ [c]) = spot L cs * L + c := by
  unfold spot
  rw [List.foldl_append]
  rfl
theorem spot_take {L i c : Nat} {cs : List Nat} (h : cs[i]? = some c) : spot L (cs.take (i + 1)) = spot L (cs.take i) * L + c := by
  rw [take_more h, spot_snoc]
theorem pure_Table_blend {K : PySem.W.Frag} {mg : Str → Option Value} (T : Txt K mg) (vs : List V) (H : Hp) (Q : VK) (E : XK) (h : sp_Table_blend K vs H Q E) : t_Table_blend K { nx := fun _ H' => Q .non H', rt := Q } (start n_Table_blend vs) H := by
  obtain ⟨t, W, cv, cs, rfl, ht, ok, ⟨p, rfl, hp⟩, hc, k⟩ := h
  have k3 := ok.k3
  have l4 := ok.l4
  refine ⟨_, rfl, _, vN cs, rfl, ⟨p, rfl, .inr hp⟩, ?_⟩
  rintro v H1 s1 rfl
  refine ⟨_, rfl, iff' rfl ?_⟩
  refine ⟨_, rfl, p, _, rfl, .inr (s1.tup hp), fun J wk => for_it wk (fun i σ H' => Same H1 H' ∧ ∃ o1 o2, σ = [some (.ref t), some (.ref p), some (.int (spot W.L (cs.take i) : Int)), o1, o2]) ⟨Same.refl _, none, none, rfl⟩ (fun i σ H' _ q => q.1) ?_ ?_⟩
  · rintro i y σ H' H'' hi ⟨s, o1, o2, rfl⟩ ⟨T1, x, z, rfl, hT, rfl, ex, ez⟩
    cases ex
    obtain ⟨c, hcs, rfl⟩ := vN_get' ez
    have hcl : c < W.L := hc.lt c (List.mem_of_getElem? hcs)
    have s2 := (s1.trans s).trans (Same.new (o := .tup [V.int (i : Nat), V.int (c : Int)]) hT)
    obtain ⟨dx, r, hr1, hr2⟩ := ht.mono s2
    refine ⟨T1, _, rfl, SqT.of upd_same, rfl, _, _, rfl, _, _, rfl, rfl, ?_⟩
    refine ⟨_, rfl, _, rfl, t, _, dx, _, _, rfl, hr1, T.cl, T.nl, tabF_l, (c : Int), (W.L : Int), rfl, by omega, by omega, ?_⟩
    rintro v H3 s3 rfl
    have s4 := s2.trans s3
    obtain ⟨dx, r, hr1, hr2⟩ := ht.mono s4
    refine ⟨_, rfl, iff' rfl ?_⟩
    have hsp : spot W.L (cs.take i) ≤ 64 := by
      have h1 := spot_lt (L := W.L) (cs := cs.take i) fun d hd => hc.lt d (List.mem_of_mem_take hd)
      have h2 : W.L ^ (cs.take i).length ≤ 64 := pow_small l4 (by rw [List.length_take, hc.len]; omega)
      omega
    refine ⟨_, rfl, _, rfl, t, _, dx, _, _, rfl, hr1, T.cl, T.nl, tabF_l, _, _, rfl, rfl, ?_, _, rfl, _, _, rfl, rfl, (s.trans (Same.new hT)).trans s3, some (.int (i : Nat)), some (.int (c : Int)), ?_⟩
    · exact cmul (n := 10) (m := 10) (by show Int.natAbs _ < 1024; omega) (by show Int.natAbs _ < 1024; omega) (by decide)
    · rw [spot_take hcs]
      push_cast
      rfl
  · rintro σ H' ⟨s, o1, o2, rfl⟩
    have s2 := s1.trans s
    obtain ⟨dx, r, hr1, hr2⟩ := ht.mono s2
    refine ⟨_, rfl, p, _, rfl, .inr (s2.tup hp), _, rfl, t, _, dx, _, _, rfl, hr1, T.cl, T.nk, tabF_k, rfl, _, rfl, iff' ?_ ?_⟩
    · simp [vN_len, hc.len]
    · rw [vN_len, List.take_length]
      have hlt : spot W.L cs < W.res.length := by
        rw [ok.len, ← hc.len]
        exact spot_lt hc.lt
      refine ⟨_, rfl, t, _, dx, _, _, rfl, hr1, T.cl, T.nr, tabF_r, _, rfl, r, _, _, _, rfl, rfl, hr2, atI_nat (vN_get (List.getElem?_eq_getElem hlt)), k _ _ s2 ?_⟩
      unfold Wd.bl
      rw [List.getD_eq_getElem?_getD, List.getElem?_eq_getElem hlt]
      rfl
theorem pure_checked_prices {K : PySem.W.Frag} {mg : Str → Option Value} (T : Txt K mg) (vs : List V) (H : Hp) (Q : VK) (E : XK) (h : sp_checked_prices K vs H Q E) : t_checked_prices K { nx := fun _ H' => Q .non H', rt := Q } (start n_checked_prices vs) H := by
  obtain ⟨t, W, pv, ps, rfl, ht, hs, hl, k⟩ := h
  refine ⟨_, rfl, _, _, rfl, hs, ?_⟩
  rintro v H1 s1 rfl
  refine ⟨_, rfl, iff' rfl ?_⟩
  obtain ⟨a, rfl, ha⟩ := hs.mono s1
  refine ⟨_, rfl, a, _, rfl, ha, fun J wk => for_it wk (fun i σ H' => Same H1 H' ∧ ∃ o1 o2, σ = [some (.ref t), some (.ref a), o1, o2]) ⟨Same.refl _, none, none, rfl⟩ (fun i σ H' _ q => q.1) ?_ ?_⟩
  · rintro i y σ H' H'' hi ⟨s, o1, o2, rfl⟩ ⟨T1, x, z, rfl, hT, rfl, ex, ez⟩
    cases ex
    obtain ⟨c, hcs, rfl⟩ := vI_get' ez
    refine ⟨T1, _, rfl, SqT.of upd_same, rfl, _, _, rfl, _, _, rfl, rfl, ?_⟩
    refine ⟨_, rfl, c, rfl, ?_⟩
    rintro v H3 s3 rfl
    exact ⟨_, rfl, iff' rfl ⟨(s.trans (Same.new hT)).trans s3, _, _, rfl⟩⟩
  · rintro σ H' ⟨s, o1, o2, rfl⟩
    have s2 := s1.trans s
    obtain ⟨dx, r, hr1, hr2⟩ := ht.mono s2
    refine ⟨_, rfl, a, _, rfl, ha.elim (fun h => .inl (s.seq h)) (fun h => .inr (s.tup h)), _, rfl, t, _, dx, _, _, rfl, hr1, T.cl, T.nl, tabF_l, rfl, _, rfl, iff' ?_ ?_⟩
    · simp [vI_len, hl]
    · refine ⟨_, rfl, a, vI ps, rfl, ha.elim (fun h => .inl ⟨s.seq h, fun l hl => k _ _ (s2.trans (Same.new hl)) ⟨l, rfl, SqT.of upd_same⟩⟩) (fun h => .inr ⟨s.tup h, k _ _ s2 ⟨a, rfl, s.tup h⟩⟩)⟩
end Mix
namespace Mix
open PySem PySem.Spec PyProof.Rows L2
theorem vN_snoc (cs : List Nat) (c : Nat) : vN (cs ++ [c]) = vN cs ++ [.int (c : Int)] := by
  unfold vN
  rw [List.map_append]
  rfl
theorem range_map_more {α : Type} (f : Nat → α) (j : Nat) : (List.range (j + 1)).map f = (List.range j).map f ++ [f j] := by
  rw [List.range_succ, List.map_append]
  rfl
theorem flat_more {α β : Type} {f : α → List β} {rs : List α} {i : Nat} {r : α} (h : rs[i]? = some r) : (rs.take (i + 1)).flatMap f = (rs.take i).flatMap f ++ f r := by
  rw [take_more h, List.flatMap_append]
  simp
theorem pure_tuples_of {K : PySem.W.Frag} (vs : List V) (H : Hp) (Q : VK) (E : XK) (h : sp_tuples_of K vs H Q E) : t_tuples_of K { nx := fun _ H' => Q .non H', rt := Q } (start n_tuples_of vs) H := by
  obtain ⟨a, n, m, rfl, ha, hn, hm, k⟩ := h
  refine ⟨by show 0 ≤ sizeLine; decide, fun p0 hp0 => ⟨by show 1 ≤ sizeLine; decide, fun p1 hp1 => ?_⟩⟩
  have s0 : Same H (upd (upd H p0 (.tup [])) p1 (.lst [.ref p0])) := (Same.new hp0).trans (Same.new hp1)
  refine ⟨_, rfl, _, rfl, by omega, by omega, for_range (lo := 0) (n := m) (fun i σ H' => Same H H' ∧ ∃ (q : Addr) (us : List V) (o : Option V), σ = [some (.ref a), some (.int (m : Int)), some (.ref q), o, none, none] ∧ SqL K H' q us ∧ All2 (CupV K H') us (tuplesN n i))
    ⟨s0, p1, [.ref p0], none, rfl, SqL.of upd_same, ?_⟩ ?_ ?_⟩
  · refine All2.snoc All2.nil ⟨p0, rfl, SqT.of ?_⟩
    rw [upd_ne (ne_of_none upd_same hp1), upd_same]
    rfl
  · rintro t σ H1 ht ⟨s1, q, us, o, rfl, hq, hu⟩
    have hlen : us.length ≤ 16 := by
      rw [hu.len, tuplesN_len]
      exact Nat.le_trans (Nat.pow_le_pow_left hn t) (Nat.le_trans (Nat.pow_le_pow_right (by decide) (by omega : t ≤ 2)) (by decide))
    refine ⟨_, rfl, q, rfl, ⟨_, hq⟩, fun D hD => ?_⟩
    refine ⟨fun i mm H' => mm = us.length - i ∧ i ≤ us.length ∧ Same H1 H' ∧ ∃ ys, H' D = some (.lst ys) ∧ All2 (CupV K H') ys (((tuplesN n t).take i).flatMap fun row => (List.range n).map fun c => row ++ [c]), ⟨_, rfl, Nat.zero_le _, Same.new hD, [], upd_same, All2.nil⟩, ?_⟩
    rintro i mm H2 ⟨rfl, hi, s2, ys, hys, hal⟩
    by_cases hlt : i < us.length
    · refine .inr ⟨walk_list.goes i H2 hlt (s2.seq hq), ?_⟩
      refine ⟨_, fun _ z => z, fun u H2' hy => ?_⟩
      obtain ⟨rfl, hui⟩ := walk_list.yields i H2 u H2' hlt (s2.seq hq) hy
      obtain ⟨r, hr, ru⟩ := hu.get hui
      refine ⟨rfl, ?_⟩
      refine ⟨_, rfl, a, rfl, ⟨_, (s1.trans s2).seq ha⟩, ?_⟩
      refine ⟨fun j kk H' => kk = n - j ∧ j ≤ n ∧ Same H1 H' ∧ ∃ zs, H' D = some (.lst zs) ∧ All2 (CupV K H') zs ((((tuplesN n t).take i).flatMap fun row => (List.range n).map fun c => row ++ [c]) ++ (List.range j).map fun c => r ++ [c]),
        ⟨_, rfl, Nat.zero_le _, s2, ys, hys, by simpa using hal⟩, ?_⟩
      rintro j kk H3 ⟨rfl, hj, s3, zs, hzs, haz⟩
      have hn' : (vN (List.range n)).length = n := by simp [vN]
      by_cases hjl : j < n
      · refine .inr ⟨walk_list.goes j H3 (by rw [hn']; exact hjl) ((s1.trans s3).seq ha), ?_⟩
        refine ⟨_, fun _ z => z, fun x H3' hy3 => ?_⟩
        obtain ⟨rfl, hxj⟩ := walk_list.yields j H3 x H3' (by rw [hn']; exact hjl) ((s1.trans s3).seq ha) hy3
        obtain ⟨c, hc, rfl⟩ := vN_get' hxj
        have ec : c = j := by
          rw [List.getElem?_range hjl] at hc
          exact (Option.some.inj hc).symm
        subst ec
        obtain ⟨pr, rfl, hpr⟩ := ru.mono s3
        refine ⟨rfl, ?_⟩
        refine ⟨_, rfl, _, rfl, by show 1 ≤ sizeLine; decide, fun b hb => ?_⟩
        have s4 := Same.new (o := .tup [V.int (c : Int)]) hb
        have hlz : zs.length < sizeLine := by
          rw [haz.len, List.length_append, List.length_map, List.length_range, len_flatMap (n := n) _ (fun _ => by simp), List.length_take, tuplesN_len]
          have h1 : n ^ t ≤ 16 := by rw [← tuplesN_len, ← hu.len]; exact hlen
          have h2 : min i (n ^ t) * n ≤ 16 * 4 := Nat.mul_le_mul (Nat.le_trans (Nat.min_le_right _ _) h1) hn
          exact Nat.lt_of_lt_of_le (by omega : _ < 1000) (by decide)
        have fin : ∀ (v : V) (H5 : Hp), Same (upd H3' b (.tup [V.int (c : Int)])) H5 → CupV K H5 v (r ++ [c]) →
            ∃ acc, H5 D = some (.lst acc) ∧ acc.length < sizeLine ∧ ∃ k', k' < n - c ∧ k' = n - (c + 1) ∧ c + 1 ≤ n ∧ Same H1 (upd H5 D (.lst (acc ++ [v]))) ∧ ∃ zs, (upd H5 D (.lst (acc ++ [v]))) D = some (.lst zs) ∧
              All2 (CupV K (upd H5 D (.lst (acc ++ [v])))) zs ((((tuplesN n t).take i).flatMap fun row => (List.range n).map fun c => row ++ [c]) ++ (List.range (c + 1)).map fun c => r ++ [c]) := by
          intro v H5 s5 hv
          have s6 := s4.trans s5
          have e5 : H5 D = some (.lst zs) := s6 _ _ hzs
          refine ⟨zs, e5, hlz, n - (c + 1), by omega, rfl, hjl, (s3.trans s6).mut hD, _, upd_same, ?_⟩
          rw [range_map_more, ← List.append_assoc]
          exact All2.snoc (haz.mono fun x y z => tupV_off e5 (TupV.mono z s6)) (tupV_off e5 hv)
        refine ⟨pr, b, _, _, rfl, rfl, s4.tup hpr, SqT.of upd_same, ?_, fun e => ?_, fun _ e => absurd e (by simp), fun e _ p hp => ?_⟩
        · have hrl : r.length ≤ 3 := by
            have := (mem_tuplesN.mp (List.mem_of_getElem? hr)).1
            omega
          rw [vN_len]
          exact Nat.le_trans (by simp; omega : _ ≤ 10) (by decide)
        · have er : r = [] := by simpa [vN] using e
          subst er
          exact fin _ _ (Same.refl _) ⟨b, rfl, SqT.of upd_same⟩
        · exact fin _ _ (Same.new hp) ⟨p, rfl, SqT.of (by rw [upd_same, vN_snoc])⟩
      · have ej : j = n := by omega
        subst ej
        refine .inl ⟨by have := (walk_list (K := K)).stops H3 ((s1.trans s3).seq ha); rw [hn'] at this; exact this, us.length - (i + 1), by omega, rfl, hlt, s3, zs, hzs, ?_⟩
        rw [flat_more hr]
        exact haz
    · have ei : i = us.length := by omega
      subst ei
      refine .inl ⟨walk_list.stops H2 (s2.seq hq), s1.trans s2, D, ys, _, rfl, SqL.of hys, ?_⟩
      rw [hu.len, List.take_length] at hal
      exact hal
  · rintro σ H1 ⟨s1, q, us, o, rfl, hq, hu⟩
    exact ⟨_, rfl, k _ _ s1 ⟨us, ⟨q, rfl, hq⟩, hu⟩⟩
theorem pure_all_cups {K : PySem.W.Frag} {mg : Str → Option Value} (T : Txt K mg) (vs : List V) (H : Hp) (Q : VK) (E : XK) (h : sp_all_cups K vs H Q E) : t_all_cups K { nx := fun _ H' => Q .non H', rt := Q } (start n_all_cups vs) H := by
  obtain ⟨t, W, rfl, ht, ok, k⟩ := h
  have k3 := ok.k3
  have l4 := ok.l4
  obtain ⟨dx, r, hr1, hr2⟩ := id ht
  refine ⟨_, rfl, t, _, dx, _, _, rfl, hr1, T.cl, T.nl, tabF_l, _, rfl, RgOk.of_le (by decide) (by omega) (by decide) (by omega), fun q hq => ?_⟩
  obtain ⟨dx, r, hr1, hr2⟩ := ht.mono (Same.new (o := .lst (rgV 0 (W.L : Int))) hq)
  refine ⟨_, rfl, t, _, dx, _, _, rfl, hr1, T.cl, T.nk, tabF_k, q, W.L, W.k, rfl, SqL.of ?_, l4, k3.2, fun v H' s p => k v H' ((Same.new hq).trans s) p⟩
  rw [upd_same]
  unfold rgV vN
  simp
theorem row_pick {K : PySem.W.Frag} {H : Hp} {us : List V} {x : List Rat} (hal : All2 (fun u q => FrAt K H u q) us x) {ds : List Nat} (hds : ∀ c ∈ ds, c < x.length) :
    All2 (fun u q => FrAt K H u q) ((List.range ds.length).filterMap fun i => atI us ((ds.getD i 0 : Nat) : Int)) (ds.map (xAt x)) := by
  have go : ∀ n, n ≤ ds.length → All2 (fun u q => FrAt K H u q) ((List.range n).filterMap fun i => atI us ((ds.getD i 0 : Nat) : Int)) ((ds.take n).map (xAt x)) := by
    intro n
    induction n with
    | zero => intro _; exact All2.nil
    | succ n ih =>
      intro hn
      have e : ds[n]? = some (ds.getD n 0) := by
        rw [List.getD_eq_getElem?_getD, List.getElem?_eq_getElem (by omega)]
        rfl
      obtain ⟨u', hu', fu'⟩ := RowAt.at_ hal (l := ds.getD n 0) (hds _ (List.mem_of_getElem? e))
      rw [filterMap_more, hu', take_more e, List.map_append]
      exact (ih (by omega)).snoc fu'
  have := go ds.length (Nat.le_refl _)
  rw [List.take_length] at this
  exact this
theorem pure_against {K : PySem.W.Frag} {mg : Str → Option Value} (T : Txt K mg) (vs : List V) (H : Hp) (Q : VK) (E : XK) (h : sp_against K vs H Q E) : t_against K { nx := fun _ H' => Q .non H', rt := Q } (start n_against vs) H := by
  obtain ⟨t, W, rv, cv, x, cs, rfl, ht, ok, ⟨us, ⟨pr, rfl, hpr⟩, hal⟩, hx, hcv, hc, k⟩ := h
  have k3 := ok.k3
  have l4 := ok.l4
  obtain ⟨dx, r, hr1, hr2⟩ := id ht
  have xq : ∀ l, l < W.L → QB 200 (xAt x l) := fun l hl => by
    refine hx.2 _ ?_
    unfold xAt
    rw [List.getD_eq_getElem?_getD, List.getElem?_eq_getElem (by rw [hx.1]; exact hl)]
    exact List.getElem_mem _
  refine ⟨_, rfl, t, _, dx, _, _, rfl, hr1, T.cl, T.nk, tabF_k, by show 2 ≤ sizeLine; decide, fun p1 hp1 => ?_⟩
  have s1 := Same.new (o := .tup [V.int (W.k : Int), V.int 1]) hp1
  refine ⟨_, rfl, _, rfl, t, _, _, rfl, s1 _ _ hr1, tabF_no, _, rfl, t, W, cv, cs, rfl, ht.mono s1, ok, TupV.mono hcv s1, hc, ?_⟩
  rintro v H2 s2 rfl
  have s12 := s1.trans s2
  have hb := Wd.bl_lt ok hc
  obtain ⟨u, hu, fu⟩ := RowAt.at_ hal (l := W.bl cs) (by rw [hx.1]; exact hb)
  have kq0 : QB 10 ((W.k : Int) : Rat) := QB.int (n := 10) (show Bd 10 (W.k : Int) from by show Int.natAbs _ < 1024; omega) (by decide)
  have kq : QB 4000 ((W.k : Int) : Rat) := kq0.mono (by decide)
  refine ⟨pr, _, _, _, rfl, rfl, s12.tup hpr, hu, .ref p1, u, ((W.k : Int) : Rat), xAt x (W.bl cs), rfl, ⟨p1, rfl, SqT.of ?_⟩, fu.mono s12, kq, (xq _ hb).mono (by decide), fun v H3 s3 f3 => ?_⟩
  · rw [s2 _ _ upd_same]
    show some (HO.tup [V.int (W.k : Int), V.int 1]) = some (HO.tup [V.int ((W.k : Int) : Rat).num, V.int (((W.k : Int) : Rat).den : Int)])
    rw [Rat.num_intCast, Rat.den_intCast]
    rfl
  have s13 := s12.trans s3
  obtain ⟨pc, rfl, hpc⟩ := TupV.mono hcv s13
  have hvl : (vN cs).length = cs.length := vN_len cs
  refine ⟨_, rfl, pc, rfl, ⟨_, hpc⟩, lc_flat walk_tup (fun i => atI us ((cs.getD i 0 : Nat) : Int)) (by rw [hvl, hc.len]; omega) (fun H' s => s.tup hpc) ?_ ?_⟩
  · rintro i y H4 H5 Kp Ks hi s4 ⟨rfl, hy⟩ kp ks
    obtain ⟨c, hcs, rfl⟩ := vN_get' hy
    have hcl := hc.lt c (List.mem_of_getElem? hcs)
    obtain ⟨u', hu', fu'⟩ := RowAt.at_ hal (l := c) (by rw [hx.1]; exact hcl)
    refine ⟨rfl, ?_⟩
    refine ⟨_, rfl, _, rfl, pr, _, _, _, rfl, rfl, (s13.trans s4).tup hpr, hu', kp _ _ (Same.refl _) ?_⟩
    rw [List.getD_eq_getElem?_getD, hcs]
    exact hu'
  · intro D H4 hD s4 e4
    have s14 := s13.trans s4
    have key := row_pick (hal.mono fun _ _ z => TupV.mono z s14) (ds := cs) (fun c h => by rw [hx.1]; exact hc.lt c h)
    rw [← hvl] at key
    refine ⟨D, _, _, rfl, SqL.of e4, key, fun q hq => ?_, ?_, fun v5 H5 s5 f5 => ?_⟩
    · obtain ⟨c, hcm, rfl⟩ := List.mem_map.mp hq
      exact xq c (hc.lt c hcm)
    · rw [List.length_map, hc.len]; omega
    · refine ⟨v, v5, _, _, rfl, f3.mono (s4.trans s5), f5, ?_, ?_, ?_⟩
      · exact (kq0.mul (xq _ hb)).mono (by decide)
      · refine (sumL_QB (n := 200) fun q hq => ?_).mono ?_
        · obtain ⟨c, hcm, rfl⟩ := List.mem_map.mp hq
          exact xq c (hc.lt c hcm)
        · rw [List.length_map, hc.len]
          omega
      · refine k _ _ (s14.trans s5) ?_
        rfl
end Mix
set_option maxHeartbeats 1000000
namespace Mix
open PySem PySem.Spec PyProof.Rows L2
/-! ### pivoted -/
abbrev n_pivoted : List Str := ["rows", "at", "column", "scale", "pivot", "found", "place", "row", "one", "other"]
abbrev p_pivoted : List Str := ["rows", "at", "column", "scale"]
theorem sc_pivoted : FnScope n_pivoted p_pivoted (defScope s_pivoted) := ⟨rfl, rfl, rfl, by decide +kernel, rfl, by decide +kernel, by decide +kernel⟩
def t_pivoted (K : PySem.W.Frag) : TS := (tSeq (tAsg (tTup (tCons (tOp (rIxL K) (tOp (rIxL K) (tVar 0) (tVar 1)) (tVar 2)) (tCons (tLst tNil) tNil))) (gTup K 2 (gCons (gName 4) (gCons (gName 5) gNil))))
  (tSeq (tFor (iEnum K (tCons (tVar 0) tNil)) (gTup K 2 (gCons (gName 6) (gCons (gName 7) gNil)))
    (tSeq (tIfS (tAnd (tTest (tOp rNe (tVar 6) (tVar 1))) (tOr (tTest (tOp rNe (tOp (rIxL K) (tVar 7) (tVar 2)) (tC (.int 0)))) (tTest (tOp rNe (tVar 4) (tVar 3))))) (tAsg (tLc (iZip K (tCons (tVar 7) (tCons (tOp (rIxL K) (tVar 0) (tVar 1)) tNil))) (gTup K 2 (gCons (gName 8) (gCons (gName 9) gNil))) tYes (tOp rDivI (tOp rSubI (tOp rMulI (tVar 8) (tVar 4)) (tOp rMulI (tOp (rIxL K) (tVar 7) (tVar 2)) (tVar 9))) (tVar 3)) [8, 9]) (gName 7)) tNext)
  (tDrop (tBM K "list" rAppend (tVar 5) (tCons (tVar 7) tNil)))))
  (tRet (tVar 5))))
theorem dv_pivoted {P : Program} {w : World} {K : PySem.W.Frag} {mg : Str → Option Value} {base : Heap} (T : Txt K mg)  (f : Addr) (cdv : Value) (A : Around) (outer : List Env) (s : Shared) (H : Hp) (E : XK) (hr : Room 0 (A.deeper (envOfC "pivoted" (defScope s_pivoted) s.heap.objs.size f cdv))) :
    PSs (cxOf CX0 P w K mg base n_pivoted "pivoted" (defScope s_pivoted) f cdv A outer s H E).nox (defBody s_pivoted) (t_pivoted K) := by
  unfold t_pivoted
  exact (pss_cons (ps_asg (pe_tup (pa_cons (pe_ix ix_list (pe_ix ix_list (pv 0) (pv 1) (fun _ _ => rfl)) (pv 2) (fun _ _ => rfl)) (pa_cons (pe_lst pa_nil) pa_nil))) (pg_tup rfl (pgs_cons (pg_name (i := 4) sc_pivoted.nd rfl (Or.inr rfl)) (pgs_cons (pg_name (i := 5) sc_pivoted.nd rfl (Or.inl rfl)) pgs_nil))))
  (pss_cons (ps_for PassesOwn.never rfl (pi_enum rfl T.benumerate (pa_cons (pv 0) pa_nil)) (pg_tup rfl (pgs_cons (pg_name (i := 6) sc_pivoted.nd rfl (Or.inl rfl)) (pgs_cons (pg_name (i := 7) sc_pivoted.nd rfl (Or.inr rfl)) pgs_nil)))
    (pss_cons (ps_if (PW.pt (pw_and (pt_cmpR op_ne (pv 6) (pv 1) (nomark _)) (pw_and1 (PW.pt (pw_or (pt_cmpR op_ne (pe_ix ix_list (pv 7) (pv 2) (fun _ _ => rfl)) pe_int (nomark _)) (pw_or1 (pt_cmpR op_ne (pv 4) (pv 3) (nomark _)))))))) (pss_one (ps_set (i := 7) sc_pivoted.nd rfl (Or.inr rfl) (pe_lc (own := [("one", 8), ("other", 9)]) (g := (gTup K 2 (gCons (gName 8) (gCons (gName 9) gNil)))) (tt := tYes) (te := (tOp rDivI (tOp rSubI (tOp rMulI (tVar 8) (tVar 4)) (tOp rMulI (tOp (rIxL K) (tVar 7) (tVar 2)) (tVar 9))) (tVar 3))) rfl sc_pivoted.nd (pi_zip rfl T.bzip (pa_cons (pv 7) (pa_cons (pe_ix ix_list (pv 0) (pv 1) (fun _ _ => rfl)) pa_nil))) (blkOk_by (by kernel_rfl)) (fun _ _ _ _ _ => (pg_tup rfl (pgs_cons (pg_name (i := 8) sc_pivoted.nd rfl (Or.inl rfl)) (pgs_cons (pg_name (i := 9) sc_pivoted.nd rfl (Or.inl rfl)) pgs_nil)))) (fun _ _ _ _ _ => pts_nil) (fun _ _ _ _ _ => (pe_op op_fdivW (pe_op op_sub (pe_op op_mulW (pv 8) (pv 4)) (pe_op op_mulW (pe_ix ix_list (pv 7) (pv 2) (fun _ _ => rfl)) (pv 9))) (pv 3)))))) pss_nil)
  (pss_one (ps_expr (pe_bm PySem.F.plainAttrs_list PySem.F.slot_list_append PySem.F.type_list_append mt_append (pv 5) (pa_cons (pv 7) pa_nil))))))
  (pss_one (ps_ret (pv 5)))))

/-! ### solved -/
abbrev n_solved : List Str := ["rows", "work", "scale", "at", "pivot", "row"]
abbrev p_solved : List Str := ["rows"]
theorem sc_solved : FnScope n_solved p_solved (defScope s_solved) := ⟨rfl, rfl, rfl, by decide +kernel, rfl, by decide +kernel, by decide +kernel⟩
def t_solved (K : PySem.W.Frag) : TS := (tSeq (tPar 1 2 (tCons (tVar 0) (tCons (tC (.int 1)) tNil)))
  (tSeq (tFor (iRng1 (tCons (tCB (rLen K) (tCons (tVar 0) tNil)) tNil)) (gName 3)
    (tSeq (tAsg (tOp (rIxL K) (tOp (rIxL K) (tVar 1) (tVar 3)) (tVar 3)) (gName 4))
  (tSeq (tAsg (tCall (sp_pivoted K) [] E0 (tCons (tVar 1) (tCons (tVar 3) (tCons (tVar 3) (tCons (tVar 2) tNil))))) (gName 1))
  (tAsg (tVar 4) (gName 2)))))
  (tRet (tTup (tCons (tVar 2) (tCons (tLc (iList K (tVar 1)) (gName 5) tYes (tOp (rIxL K) (tVar 5) (tUn rNegI (tC (.int 1)))) [5]) tNil))))))
theorem dv_solved {P : Program} {w : World} {K : PySem.W.Frag} {mg : Str → Option Value} {base : Heap} (T : Txt K mg) (cpivoted : Cal P w K mg base 1 "pivoted" (sp_pivoted K)) (f : Addr) (cdv : Value) (A : Around) (outer : List Env) (s : Shared) (H : Hp) (E : XK) (hr : Room 1 (A.deeper (envOfC "solved" (defScope s_solved) s.heap.objs.size f cdv))) :
    PSs (cxOf CX0 P w K mg base n_solved "solved" (defScope s_solved) f cdv A outer s H E).nox (defBody s_solved) (t_solved K) := by
  unfold t_solved
  exact (pss_cons (ps_par (i := 1) (j := 2) rfl sc_solved.nd rfl rfl (by decide) rfl rfl (pa_cons (pv 0) (pa_cons pe_int pa_nil)) (by rfl))
  (pss_cons (ps_for PassesOwn.never rfl (pi_range1 rfl T.brange (pa_cons (pe_callB call_len_seq rfl T.blen boot_len (pa_cons (pv 0) pa_nil)) pa_nil)) (pg_name (i := 3) sc_solved.nd rfl (Or.inl rfl))
    (pss_cons (ps_set (i := 4) sc_solved.nd rfl (Or.inl rfl) (pe_ix ix_list (pe_ix ix_list (pv 1) (pv 3) (fun _ _ => rfl)) (pv 3) (fun _ _ => rfl)))
  (pss_cons (ps_set (i := 1) sc_solved.nd rfl (Or.inl rfl) (pe_c cpivoted hr (by decide) rfl (pa_cons (pv 1) (pa_cons (pv 3) (pa_cons (pv 3) (pa_cons (pv 2) pa_nil))))))
  (pss_one (ps_set (i := 2) sc_solved.nd rfl (Or.inl rfl) (pv 4))))))
  (pss_one (ps_ret (pe_tup (pa_cons (pv 2) (pa_cons (pe_lc (own := [("row", 5)]) (g := (gName 5)) (tt := tYes) (te := (tOp (rIxL K) (tVar 5) (tUn rNegI (tC (.int 1))))) rfl sc_solved.nd (pi_list (pv 1)) (blkOk_by (by kernel_rfl)) (fun _ _ _ _ _ => (pg_name (i := 5) sc_solved.nd rfl (Or.inl rfl))) (fun _ _ _ _ _ => pts_nil) (fun _ _ _ _ _ => (pe_ix ix_list (pv 5) (pe_un un_neg pe_int) (fun _ _ => rfl)))) pa_nil)))))))

/-! ### followed -/
abbrev n_followed : List Str := ["table", "prices", "ways", "rows", "label", "way", "row", "cup", "scale", "numbers", "number"]
abbrev p_followed : List Str := ["table", "prices", "ways"]
theorem sc_followed : FnScope n_followed p_followed (defScope s_followed) := ⟨rfl, rfl, rfl, by decide +kernel, rfl, by decide +kernel, by decide +kernel⟩
def t_followed (K : PySem.W.Frag) : TS := (tSeq (tAsg (tLst tNil) (gName 3))
  (tSeq (tFor (iEnum K (tCons (tVar 2) tNil)) (gTup K 2 (gCons (gName 4) (gCons (gName 5) gNil)))
    (tSeq (tAsg (tOp rRep (tLst (tCons (tC (.int 0)) tNil)) (tOp rAddI (tFld K (tVar 0) "labels") (tC (.int 1)))) (gName 6))
  (tSeq (tAsg (tIf (tTest (tOp rIsNo (tVar 5) (tC .non))) (tC (.int 1)) (tFld K (tVar 0) "k")) (gSub (tVar 6) (tVar 4) rSetL))
  (tSeq (tIfS (tTest (tOp rIsNo (tVar 5) (tC .non))) (tAsg (tOp (rIxT K) (tVar 1) (tVar 4)) (gSub (tVar 6) (tUn rNegI (tC (.int 1))) rSetL)) (tFor (iTup K (tVar 5)) (gName 7)
    (tAugS (tVar 6) (tVar 7) (tC (.int 1)) (rGetN K) (ipI fun i j => i - j) rSetL)))
  (tDrop (tBM K "list" rAppend (tVar 3) (tCons (tVar 6) tNil)))))))
  (tSeq (tAsg (tCall (sp_solved K) [] E0 (tCons (tVar 3) tNil)) (gTup K 2 (gCons (gName 8) (gCons (gName 9) gNil))))
  (tRet (tCB (rTupOf K) (tCons (tLc (iList K (tVar 9)) (gName 10) tYes (tCall (sp_made K) [] E0 (tCons (tVar 10) (tCons (tVar 8) tNil))) [10]) tNil))))))
theorem dv_followed {P : Program} {w : World} {K : PySem.W.Frag} {mg : Str → Option Value} {base : Heap} (T : Txt K mg) (csolved : Cal P w K mg base 2 "solved" (sp_solved K)) (cmade : Cal P w K mg base 2 "made" (sp_made K)) (f : Addr) (cdv : Value) (A : Around) (outer : List Env) (s : Shared) (H : Hp) (E : XK) (hr : Room 2 (A.deeper (envOfC "followed" (defScope s_followed) s.heap.objs.size f cdv))) :
    PSs (cxOf CX0 P w K mg base n_followed "followed" (defScope s_followed) f cdv A outer s H E).nox (defBody s_followed) (t_followed K) := by
  unfold t_followed
  exact (pss_cons (ps_set (i := 3) sc_followed.nd rfl (Or.inl rfl) (pe_lst pa_nil))
  (pss_cons (ps_for PassesOwn.never rfl (pi_enum rfl T.benumerate (pa_cons (pv 2) pa_nil)) (pg_tup rfl (pgs_cons (pg_name (i := 4) sc_followed.nd rfl (Or.inl rfl)) (pgs_cons (pg_name (i := 5) sc_followed.nd rfl (Or.inl rfl)) pgs_nil)))
    (pss_cons (ps_set (i := 6) sc_followed.nd rfl (Or.inl rfl) (pe_op op_rep (pe_lst (pa_cons pe_int pa_nil)) (pe_op op_add (pe_fld (pv 0) rfl) pe_int)))
  (pss_cons (ps_asg (pe_ifExp (pt_cmpR op_isN (pv 5) pe_non (nomark _)) pe_int (pe_fld (pv 0) rfl)) (pg_sub (pv 6) (pv 4) set_list))
  (pss_cons (ps_if (pt_cmpR op_isN (pv 5) pe_non (nomark _)) (pss_one (ps_asg (pe_ix ix_tup (pv 1) (pv 4) (fun _ _ => rfl)) (pg_sub (pv 6) (pe_un un_neg pe_int) set_list))) (pss_one (ps_for PassesOwn.never rfl (pi_tup (pv 5)) (pg_name (i := 7) sc_followed.nd rfl (Or.inl rfl))
    (pss_one (ps_augS (pv 6) (pv 7) pget_list pe_int ip_sub set_list)))))
  (pss_one (ps_expr (pe_bm PySem.F.plainAttrs_list PySem.F.slot_list_append PySem.F.type_list_append mt_append (pv 3) (pa_cons (pv 6) pa_nil))))))))
  (pss_cons (ps_asg (pe_c csolved hr (by decide) rfl (pa_cons (pv 3) pa_nil)) (pg_tup rfl (pgs_cons (pg_name (i := 8) sc_followed.nd rfl (Or.inr rfl)) (pgs_cons (pg_name (i := 9) sc_followed.nd rfl (Or.inl rfl)) pgs_nil))))
  (pss_one (ps_ret (pe_callTy call_tuple_of rfl T.btuple boot_tuple (pa_cons (pe_lc (own := [("number", 10)]) (g := (gName 10)) (tt := tYes) (te := (tCall (sp_made K) [] E0 (tCons (tVar 10) (tCons (tVar 8) tNil)))) rfl sc_followed.nd (pi_list (pv 9)) (blkOk_by (by kernel_rfl)) (fun _ _ _ _ _ => (pg_name (i := 10) sc_followed.nd rfl (Or.inl rfl))) (fun _ _ _ _ _ => pts_nil) (fun _ _ _ _ _ => (pe_c cmade hr (by decide) rfl (pa_cons (pv 10) (pa_cons (pv 8) pa_nil))))) pa_nil)))))))

/-! ### costs -/
abbrev n_costs : List Str := ["table", "prices", "ways", "row", "best", "cups", "label", "cost", "cup"]
abbrev p_costs : List Str := ["table", "prices"]
theorem sc_costs : FnScope n_costs p_costs (defScope s_costs) := ⟨rfl, rfl, rfl, by decide +kernel, rfl, by decide +kernel, by decide +kernel⟩
def t_costs (K : PySem.W.Frag) : TS := (tSeq (tAsg (tCall (sp_checked_prices K) [] E0 (tCons (tVar 0) (tCons (tVar 1) tNil))) (gName 1))
  (tSeq (tAsg (tOp rRep (tLst (tCons (tC .non) tNil)) (tFld K (tVar 0) "labels")) (gName 2))
  (tWhile (tB (tC (.bl true))) (tSeq (tAsg (tCall (sp_followed K) [] E0 (tCons (tVar 0) (tCons (tVar 1) (tCons (tVar 2) tNil)))) (gName 3))
  (tSeq (tAsg tDNewK (gName 4))
  (tSeq (tFor (iList K (tCall (sp_all_cups K) [] E0 (tCons (tVar 0) tNil))) (gName 5)
    (tSeq (tAsg (tMeth (tabC K) "blend" (sp_Table_blend K) [] E0 (tVar 0) (tCons (tVar 5) tNil)) (gName 6))
  (tIfS (tTest (tOp rGtI (tCall (sp_against K) [] E0 (tCons (tVar 0) (tCons (tVar 3) (tCons (tVar 5) tNil)))) (tC (.int 0)))) (tSeq (tAsg (tCall (sp_total K) [] E0 (tCons (tLc (iTup K (tVar 5)) (gName 8) tYes (tOp (rIxT K) (tVar 3) (tVar 8)) [8]) tNil)) (gName 7))
  (tIfS (tOr (tB (tDNotIn (tVar 6) (tVar 4))) (tTest (tOp rLtI (tCall (sp_compared K) [] E0 (tCons (tVar 7) (tCons (tOp (rIxT K) (tDGet (tVar 4) (tVar 6)) (tC (.int 0))) tNil))) (tC (.int 0))))) (sDPut (tVar 4) (tVar 6) (tTup (tCons (tVar 7) (tCons (tVar 5) tNil)))) tNext)) tNext)))
  (tSeq (tIfS (tTest (tOp rEq (tCB rLenD (tCons (tVar 4) tNil)) (tC (.int 0)))) (tRet (tTup (tCons (tVar 3) (tCons (tCB (rTupOf K) (tCons (tVar 2) tNil)) tNil)))) tNext)
  (tLock (tFor (iKeys (tVar 4)) (gName 6)
    (tAsg (tOp (rIxT K) (tDGet (tVar 4) (tVar 6)) (tC (.int 1))) (gSub (tVar 2) (tVar 6) rSetL)))))))))))
theorem dv_costs {P : Program} {w : World} {K : PySem.W.Frag} {mg : Str → Option Value} {base : Heap} (T : Txt K mg) (cchecked_prices : Cal P w K mg base 2 "checked_prices" (sp_checked_prices K)) (cfollowed : Cal P w K mg base 3 "followed" (sp_followed K)) (call_cups : Cal P w K mg base 2 "all_cups" (sp_all_cups K)) (cTable_blend : MetB P w K mg base 2 (sp_Table_blend K)) (cagainst : Cal P w K mg base 5 "against" (sp_against K)) (ctotal : Cal P w K mg base 4 "total" (sp_total K)) (ccompared : Cal P w K mg base 1 "compared" (sp_compared K)) (f : Addr) (cdv : Value) (A : Around) (outer : List Env) (s : Shared) (H : Hp) (E : XK) (hr : Room 5 (A.deeper (envOfC "costs" (defScope s_costs) s.heap.objs.size f cdv))) :
    PSs (cxOf CX0 P w K mg base n_costs "costs" (defScope s_costs) f cdv A outer s H E).nox (defBody s_costs) (t_costs K) := by
  unfold t_costs
  exact (pss_cons (ps_set (i := 1) sc_costs.nd rfl (Or.inl rfl) (pe_c cchecked_prices hr (by decide) rfl (pa_cons (pv 0) (pa_cons (pv 1) pa_nil))))
  (pss_cons (ps_set (i := 2) sc_costs.nd rfl (Or.inl rfl) (pe_op op_rep (pe_lst (pa_cons pe_non pa_nil)) (pe_fld (pv 0) rfl)))
  (pss_one (ps_while PassesOwn.never (pt_val pe_bl) (pss_cons (ps_set (i := 3) sc_costs.nd rfl (Or.inr rfl) (pe_c cfollowed hr (by decide) rfl (pa_cons (pv 0) (pa_cons (pv 1) (pa_cons (pv 2) pa_nil)))))
  (pss_cons (ps_set (i := 4) sc_costs.nd rfl (Or.inl rfl) pe_dnewK)
  (pss_cons (ps_for PassesOwn.never rfl (pi_list (pe_c call_cups hr (by decide) rfl (pa_cons (pv 0) pa_nil))) (pg_name (i := 5) sc_costs.nd rfl (Or.inl rfl))
    (pss_cons (ps_set (i := 6) sc_costs.nd rfl (Or.inl rfl) (pe_blend T cTable_blend hr (by decide) (pv 0) (pa_cons (pv 5) pa_nil)))
  (pss_one (ps_if (pt_cmpR op_gt (pe_c cagainst hr (by decide) rfl (pa_cons (pv 0) (pa_cons (pv 3) (pa_cons (pv 5) pa_nil)))) pe_int (nomark _)) (pss_cons (ps_set (i := 7) sc_costs.nd rfl (Or.inl rfl) (pe_c ctotal hr (by decide) rfl (pa_cons (pe_lc (own := [("cup", 8)]) (g := (gName 8)) (tt := tYes) (te := (tOp (rIxT K) (tVar 3) (tVar 8))) rfl sc_costs.nd (pi_tup (pv 5)) (blkOk_by (by kernel_rfl)) (fun _ _ _ _ _ => (pg_name (i := 8) sc_costs.nd rfl (Or.inl rfl))) (fun _ _ _ _ _ => pts_nil) (fun _ _ _ _ _ => (pe_ix ix_tup (pv 3) (pv 8) (fun _ _ => rfl)))) pa_nil)))
  (pss_one (ps_if (PW.pt (pw_or (pt_cmp (pc_dnotin (hu_of hr) (pv 6) (pv 4))) (pw_or1 (pt_cmpR op_lt (pe_c ccompared hr (by decide) rfl (pa_cons (pv 7) (pa_cons (pe_ix ix_tup (pe_dget (hu_of hr) (pv 4) (pv 6) (fun _ _ => rfl)) pe_int (fun _ _ => rfl)) pa_nil))) pe_int (nomark _))))) (pss_one (ps_dput (hu_of hr) (pv 4) (pv 6) (pe_tup (pa_cons (pv 7) (pa_cons (pv 5) pa_nil))) rfl)) pss_nil))) pss_nil))))
  (pss_cons (ps_if (pt_cmpR op_eq (pe_callB call_lenD rfl T.blen boot_len (pa_cons (pv 4) pa_nil)) pe_int (nomark _)) (pss_one (ps_ret (pe_tup (pa_cons (pv 3) (pa_cons (pe_callTy call_tuple_of rfl T.btuple boot_tuple (pa_cons (pv 2) pa_nil)) pa_nil))))) pss_nil)
  (pss_one (ps_lock (ps_for PassesOwn.never rfl (pi_keys (pv 4)) (pg_name (i := 6) sc_costs.nd rfl (Or.inl rfl))
    (pss_one (ps_asg (pe_ix ix_tup (pe_dget (hu_of hr) (pv 4) (pv 6) (fun _ _ => rfl)) pe_int (fun _ _ => rfl)) (pg_sub (pv 2) (pv 6) set_list))))))))))))))

end Mix
set_option maxHeartbeats 2000000
namespace Mix
open PySem PySem.Spec PyProof.Rows L2
theorem rowV_get {n j : Nat} {f : Nat → Int} (h : j ≤ n) : (rowV n f)[j]? = some (.int (f j)) := by
  unfold rowV
  rw [List.getElem?_map, List.getElem?_range (by omega)]
  rfl
theorem rowV_len (n : Nat) (f : Nat → Int) : (rowV n f).length = n + 1 := by simp [rowV]
theorem rowV_last {n : Nat} {f : Nat → Int} : atI (rowV n f) (-1) = some (.int (f n)) := by
  unfold rowV
  rw [range_map_more]
  exact atI_last _ _
theorem rowV_ext {n : Nat} {f g : Nat → Int} (h : ∀ j, j ≤ n → f j = g j) : rowV n f = rowV n g := by
  unfold rowV
  apply List.map_congr_left
  intro j hj
  rw [h j (by have := List.mem_range.mp hj; omega)]
theorem putF_len (f : Str) (v : V) : ∀ fs : List (Str × V), (putF f v fs).length ≤ fs.length + 1
  | [] => by simp [putF]
  | p :: r => by
    have := putF_len f v r
    unfold putF
    split <;> simp <;> omega
theorem putF_all {W : Wd} {r : Addr} : putF "results" (.ref r) (putF "labels" (.int (W.L : Int)) (putF "k" (.int (W.k : Int)) [])) = tabF W r := rfl
theorem pure_Table_init {K : PySem.W.Frag} {mg : Str → Option Value} (T : Txt K mg) (vs : List V) (H : Hp) (Q : VK) (E : XK) (h : sp_Table_init K vs H Q E) : t_Table_init K { nx := fun _ H' => Q .non H', rt := Q } (start n_Table_init vs) H := by
  obtain ⟨t, dx, W, rv, rfl, ht, ok, hs, k⟩ := h
  have k3 := ok.k3
  have l4 := ok.l4
  have pos := ok.pos
  refine ⟨_, rfl, _, rfl, by omega, by omega, ?_⟩
  rintro v H1 s1 rfl
  refine ⟨_, rfl, t, _, dx, [], rfl, s1 _ _ ht, T.cl, T.nk, by decide, ?_⟩
  have e1 : (upd H1 t (.ins (tabC K) dx (putF "k" (.int (W.k : Int)) []))) t = some (.ins (tabC K) dx (putF "k" (.int (W.k : Int)) [])) := upd_same
  -- what stands beside t
  have off : ∀ a o, a ≠ t → H a = some o → (upd H1 t (.ins (tabC K) dx (putF "k" (.int (W.k : Int)) []))) a = some o := fun a o ha h => by
    rw [upd_ne ha]
    exact s1 _ _ h
  have seqOff : ∀ {H0 H' : Hp} {xs : List V}, (∃ o, H0 t = some (.ins (tabC K) dx o)) → (∀ a o, a ≠ t → H0 a = some o → H' a = some o) → SeqV K H0 rv xs → SeqV K H' rv xs := by
    rintro H0 H' xs ⟨o, ht0⟩ off ⟨a, rfl, ha | ha⟩
    · refine ⟨a, rfl, .inl ?_⟩
      rcases ha with (h | ⟨u, h⟩) | h
      · exact .inl (.inl (off _ _ (ne_of h ht0 (by intro z; cases z)) h))
      · exact .inl (.inr ⟨u, off _ _ (ne_of h ht0 (by intro z; cases z)) h⟩)
      · exact .inr h
    · refine ⟨a, rfl, .inr ?_⟩
      rcases ha with (h | ⟨u, h⟩) | h
      · exact .inl (.inl (off _ _ (ne_of h ht0 (by intro z; cases z)) h))
      · exact .inl (.inr ⟨u, off _ _ (ne_of h ht0 (by intro z; cases z)) h⟩)
      · exact .inr h
  have hs1 := seqOff ⟨_, ht⟩ off hs
  refine ⟨_, rfl, _, _, rfl, rfl, (W.L : Int), 13, rfl, by omega, by omega, ?_⟩
  rintro v H2 s2 rfl
  refine ⟨_, rfl, iff' rfl ?_⟩
  refine ⟨_, rfl, _, rfl, W.k, W.L, rfl, pos, l4, k3.2, ?_⟩
  rintro v H3 s3 rfl
  refine ⟨_, rfl, iff' rfl ?_⟩
  refine ⟨_, rfl, _, rfl, W.L, W.k, rfl, by omega, by omega, ?_⟩
  rintro v H4 s4 rfl
  have s24 := (s2.trans s3).trans s4
  refine ⟨_, rfl, rv, _, rfl, hs1.mono s24, ?_⟩
  rintro v H5 s5 rfl
  refine ⟨_, rfl, iff' rfl ?_⟩
  have s25 := s24.trans s5
  obtain ⟨a, rfl, ha⟩ := hs1.mono s25
  refine ⟨_, rfl, a, _, rfl, ha, fun J wk => for_it wk (fun i σ H' => Same H5 H' ∧ ∃ o1 o2, σ = [some (.ref t), some (.int (W.k : Int)), some (.int (W.L : Int)), some (.ref a), some (.int ((W.L ^ W.k : Nat) : Int)), o1, o2]) ⟨Same.refl _, none, none, rfl⟩ (fun i σ H' _ q => q.1) ?_ ?_⟩
  · rintro i y σ H' H'' hi ⟨s, o1, o2, rfl⟩ ⟨T1, x, z, rfl, hT, rfl, ex, ez⟩
    cases ex
    obtain ⟨c, hcs, rfl⟩ := vN_get' ez
    have hcl : c < W.L := ok.lt c (List.mem_of_getElem? hcs)
    refine ⟨T1, _, rfl, SqT.of upd_same, rfl, _, _, rfl, _, _, rfl, rfl, ?_⟩
    refine ⟨_, rfl, _, rfl, (c : Int), (W.L : Int), rfl, by omega, by omega, ?_⟩
    rintro v H6 s6 rfl
    exact ⟨_, rfl, iff' rfl ⟨(s.trans (Same.new hT)).trans s6, _, _, rfl⟩⟩
  · rintro σ H6 ⟨s6, o1, o2, rfl⟩
    have ha6 := (hs1.mono s25).mono s6
    obtain ⟨a', ea, ha6⟩ := ha6
    cases ea
    refine ⟨_, rfl, a, _, rfl, ha6, _, rfl, rfl, _, rfl, iff' ?_ ?_⟩
    · simp [vN_len, ok.len]
    · have e6 := s6 _ _ (s25 _ _ e1)
      refine ⟨_, rfl, _, rfl, t, _, dx, _, rfl, e6, T.cl, T.nl, Nat.lt_of_le_of_lt (putF_len _ _ _) (by decide), ?_⟩
      have ha7 : SeqV K (upd H6 t (.ins (tabC K) dx (putF "labels" (.int (W.L : Int)) (putF "k" (.int (W.k : Int)) [])))) (.ref a) (vN W.res) := seqOff ⟨_, e6⟩ (fun b o hb h => by rw [upd_ne hb]; exact h) ⟨a, rfl, ha6⟩
      obtain ⟨a', ea, ha7⟩ := ha7
      cases ea
      have fin : ∀ (r : Addr) (H8 : Hp), Same (upd H6 t (.ins (tabC K) dx (putF "labels" (.int (W.L : Int)) (putF "k" (.int (W.k : Int)) [])))) H8 → SqT K H8 r (vN W.res) →
          Q .non (upd H8 t (.ins (tabC K) dx (putF "results" (.ref r) (putF "labels" (.int (W.L : Int)) (putF "k" (.int (W.k : Int)) []))))) := by
        intro r H8 s8 hr
        have e8 := s8 _ _ upd_same
        refine k _ (fun b o hb h => ?_) ⟨dx, r, upd_same, ?_⟩
        · rw [upd_ne hb]
          refine s8 _ _ ?_
          rw [upd_ne hb]
          exact s6 _ _ (s25 _ _ (off _ _ hb h))
        · rcases hr with (h | ⟨u, h⟩) | h
          · exact .inl (.inl (by rw [upd_ne (ne_of h e8 (by intro z; cases z))]; exact h))
          · exact .inl (.inr ⟨u, by rw [upd_ne (ne_of h e8 (by intro z; cases z))]; exact h⟩)
          · exact .inr h
      have go : ∀ (r : Addr) (H8 : Hp), Same (upd H6 t (.ins (tabC K) dx (putF "labels" (.int (W.L : Int)) (putF "k" (.int (W.k : Int)) [])))) H8 → SqT K H8 r (vN W.res) →
          ∃ v, some (some (V.ref t)) = some (some v) ∧ ∃ a C dx' fs, v = V.ref a ∧ H8 a = some (.ins C dx' fs) ∧ Cls K C ∧ NoAttr K C "results" ∧ fs.length < 1000 ∧ Q .non (upd H8 a (.ins C dx' (putF "results" (.ref r) fs))) :=
        fun r H8 s8 hr => ⟨_, rfl, t, _, dx, _, rfl, s8 _ _ upd_same, T.cl, T.nr, Nat.lt_of_le_of_lt (putF_len _ _ _) (Nat.lt_of_le_of_lt (Nat.add_le_add_right (putF_len _ _ _) 1) (by decide)), fin r H8 s8 hr⟩
      refine ⟨_, rfl, a, _, rfl, ha7.elim (fun h => .inl ⟨h, fun l hl => go l _ (Same.new hl) (SqT.of upd_same)⟩) (fun h => .inr ⟨h, go a _ (Same.refl _) h⟩)⟩
def PvPiv (K : PySem.W.Frag) (H1 : Hp) (a f : Addr) (n t : Nat) (s : Int) (B : Nat → Nat → Int) (i : Nat) (σ : L2.St) (H' : Hp) : Prop :=
  Same H1 H' ∧ ∃ (o6 o7 : Option V) (ys : List V), σ = [some (.ref a), some (.int (t : Int)), some (.int (t : Int)), some (.int s), some (.int (B t t)), some (.ref f), o6, o7, none, none] ∧ H' f = some (.lst ys) ∧ ys.length = i ∧
    ∀ (j : Nat) (u : V), ys[j]? = some u → LvV H' u (rowV n (pivF B t s j)) ∧ u ≠ .ref f
theorem pure_pivoted {K : PySem.W.Frag} (vs : List V) (H : Hp) (Q : VK) (E : XK) (h : sp_pivoted K vs H Q E) : t_pivoted K { nx := fun _ H' => Q .non H', rt := Q } (start n_pivoted vs) H := by
  obtain ⟨rv, n, t, b, s, B, rfl, ⟨xs, ⟨a, rfl, ha⟩, hxl, hx⟩, hn, ht, hs, hsb, hb, hB, k⟩ := h
  have htx : t < xs.length := by omega
  have hxt : xs[t]? = some xs[t] := List.getElem?_eq_getElem htx
  obtain ⟨pr, epr, hpr⟩ := hx t _ hxt
  rw [epr] at hxt
  refine ⟨_, rfl, _, rfl, a, xs, _, .ref pr, rfl, rfl, SqL.of ha, atI_nat hxt, _, rfl, pr, _, _, .int (B t t), rfl, rfl, SqL.of hpr, atI_nat (rowV_get (by omega)), by show 0 ≤ sizeLine; decide, fun f hf => ⟨by show 2 ≤ sizeLine; decide, fun q hq => ?_⟩⟩
  have sf := Same.new (o := .lst []) hf
  have sq := Same.new (o := .tup [V.int (B t t), .ref f]) hq
  have s1 := sf.trans sq
  refine ⟨q, _, rfl, SqT.of upd_same, rfl, _, _, rfl, _, _, rfl, rfl, ?_⟩
  refine ⟨_, rfl, a, xs, rfl, s1.seq (SqL.of ha), for_it walk_enum (PvPiv K H a f n t s B) ⟨s1, none, none, [], rfl, sq _ _ upd_same, rfl, fun j u h => by simp at h⟩ (fun i σ H' _ p => p.1.seq (SqL.of ha)) ?_ ?_⟩
  · rintro i y σ H2 H2' hi ⟨s2, o6, o7, ys, rfl, hys, hyl, hy⟩ ⟨T1, x, z, rfl, hT, rfl, ex, ez⟩
    cases ex
    obtain ⟨pz, rfl, hpz0⟩ := hx i z ez
    have sT := Same.new (o := .tup [V.int (i : Nat), .ref pz]) hT
    have s3 := s2.trans sT
    have hpz := s3 _ _ hpz0
    have hpr3 := s3 _ _ hpr
    have ha3 := s3 _ _ ha
    have ys3 := sT _ _ hys
    have in_ : i < n := by omega
    have fin : ∀ (v : V) (H5 : Hp), Same (upd H2 T1 (.tup [V.int (i : Nat), V.ref pz])) H5 → LvV H5 v (rowV n (pivF B t s i)) → v ≠ .ref f →
        ∃ l zs y, V.ref f = V.ref l ∧ [v] = [y] ∧ H5 l = some (.lst zs) ∧ zs.length < sizeLine ∧ PvPiv K H a f n t s B (i + 1) [some (.ref a), some (.int (t : Int)), some (.int (t : Int)), some (.int s), some (.int (B t t)), some (.ref f), some (.int (i : Nat)), some v, none, none] (upd H5 l (.lst (zs ++ [y]))) := by
      intro v H5 s5 hv nv
      have y5 := s5 _ _ ys3
      have off : ∀ {u : V} {zs : List V} {o : HO}, LvV H5 u zs → u ≠ .ref f → LvV (upd H5 f o) u zs := by
        rintro u zs o ⟨b, rfl, hb⟩ nu
        have nb : b ≠ f := fun e => nu (by rw [e])
        exact ⟨b, rfl, by rw [upd_ne nb]; exact hb⟩
      refine ⟨f, ys, v, rfl, rfl, y5, sz1 (by omega), (s3.trans s5).mut hf, _, _, ys ++ [v], rfl, upd_same, by simp [hyl], fun j u hu => ?_⟩
      by_cases hj : j < ys.length
      · rw [List.getElem?_append_left hj] at hu
        obtain ⟨h1, h2⟩ := hy j u hu
        exact ⟨off ((h1.mono sT).mono s5) h2, h2⟩
      · have ej : j = ys.length := by
          have := (List.getElem?_eq_some_iff.mp hu).1
          simp at this
          omega
        subst ej
        have eu : v = u := by simpa using hu
        subst eu
        rw [hyl]
        exact ⟨off hv nv, nv⟩
    have npz : V.ref pz ≠ V.ref f := fun e => ne_of_none hpz0 hf (V.ref.inj e)
    have same : (∀ j, j ≤ n → pivF B t s i j = B i j) → ∃ l zs y, V.ref f = V.ref l ∧ [V.ref pz] = [y] ∧ (upd H2 T1 (.tup [V.int (i : Nat), V.ref pz])) l = some (.lst zs) ∧ zs.length < sizeLine ∧ PvPiv K H a f n t s B (i + 1) [some (.ref a), some (.int (t : Int)), some (.int (t : Int)), some (.int s), some (.int (B t t)), some (.ref f), some (.int (i : Nat)), some (.ref pz), none, none] (upd (upd H2 T1 (.tup [V.int (i : Nat), V.ref pz])) l (.lst (zs ++ [y]))) := fun e =>
      fin _ _ (Same.refl _) ⟨pz, rfl, by rw [rowV_ext e]; exact hpz⟩ npz
    have it : atI (rowV n (B i)) (t : Int) = some (.int (B i t)) := atI_nat (rowV_get (by omega))
    refine ⟨T1, _, rfl, SqT.of upd_same, rfl, _, _, rfl, _, _, rfl, rfl, ?_⟩
    refine ⟨_, rfl, _, rfl, rfl, _, rfl, ?_⟩
    have same' : (i = t ∨ (B i t = 0 ∧ B t t = s)) → ∀ j, j ≤ n → pivF B t s i j = B i j := by
      intro h j hj
      unfold pivF
      rcases h with h | ⟨h1, h2⟩
      · rw [if_pos h, h]
      · by_cases c : i = t
        · rw [if_pos c, c]
        · rw [if_neg c, h1, h2]
          simp
          exact Int.mul_ediv_cancel _ (by omega)
    have change : i ≠ t → (tAsg (tLc (iZip K (tCons (tVar 7) (tCons (tOp (rIxL K) (tVar 0) (tVar 1)) tNil))) (gTup K 2 (gCons (gName 8) (gCons (gName 9) gNil))) tYes (tOp rDivI (tOp rSubI (tOp rMulI (tVar 8) (tVar 4)) (tOp rMulI (tOp (rIxL K) (tVar 7) (tVar 2)) (tVar 9))) (tVar 3)) [8, 9]) (gName 7))
        { nx := (tDrop (tBM K "list" rAppend (tVar 5) (tCons (tVar 7) tNil))) { nx := PvPiv K H a f n t s B (i + 1), rt := Q, bk := fun _ _ => True, ct := fun _ _ => True }, rt := Q, bk := fun _ _ => True, ct := fun _ _ => True }
        [some (.ref a), some (.int (t : Int)), some (.int (t : Int)), some (.int s), some (.int (B t t)), some (.ref f), some (.int (i : Nat)), some (.ref pz), none, none] (upd H2 T1 (.tup [V.int (i : Nat), V.ref pz])) := by
      intro hit
      refine ⟨_, rfl, _, rfl, _, rfl, a, xs, _, .ref pr, rfl, rfl, SqL.of ha3, atI_nat hxt, pz, pr, _, _, rfl, SqL.of hpz, SqL.of hpr3, ?_⟩
      refine lc_flat (walk_zip (n := n + 1) (by rw [rowV_len, rowV_len]; simp)) (fun j => some (.int ((B i j * B t t - B i t * B t j) / s))) (by omega) (fun H' s' => ⟨s'.seq (SqL.of hpz), s'.seq (SqL.of hpr3)⟩) ?_ ?_
      · rintro j y H5 H6 Kp Ks hj s5 ⟨T2, x, z, rfl, hT2, rfl, ex, ez2⟩ kp ks
        replace ex : (rowV n (B i))[j]? = some x := ex
        replace ez2 : (rowV n (B t))[j]? = some z := ez2
        rw [rowV_get (by omega)] at ex ez2
        cases ex
        cases ez2
        have s6 := Same.new (o := .tup [V.int (B i j), V.int (B t j)]) hT2
        refine ⟨T2, _, rfl, SqT.of upd_same, rfl, _, _, rfl, _, _, rfl, rfl, rfl, ?_⟩
        have c1 := hB i j in_ (by omega)
        have c2 := hB t t ht (by omega)
        have c3 := hB i t in_ (by omega)
        have c4 := hB t j ht (by omega)
        refine ⟨_, rfl, _, rfl, _, _, rfl, rfl, cmul c1 c2 (by omega), _, rfl, _, rfl, pz, _, _, _, rfl, rfl, SqL.of (s6 _ _ (s5 _ _ hpz)), it, _, rfl, _, _, rfl, rfl, cmul c3 c4 (by omega), _, _, rfl, rfl, _, rfl, _, _, rfl, rfl, cdiv hs hsb (by omega), kp _ _ s6 rfl⟩
      · intro D H5 hD s5 e5
        have s6 := s3.trans s5
        refine ⟨_, rfl, tyL (SqL.of (s5 _ _ ys3)), _, rfl, fin _ _ s5 ⟨D, rfl, ?_⟩ ?_⟩
        · rw [e5, range_filterMap_some]
          congr 2
          unfold rowV
          apply List.map_congr_left
          intro j hj
          show _ = V.int (if i = t then _ else _)
          rw [if_neg hit]
        · intro e
          have e3 : D = f := V.ref.inj e
          rw [e3, ys3] at hD
          cases hD
    by_cases hit : i = t
    · subst hit
      refine iff' (by simp) (iff' rfl ?_)
      exact ⟨_, rfl, tyL (SqL.of ys3), _, rfl, same (same' (.inl rfl))⟩
    · refine ift (by simp; omega) ?_
      refine ⟨_, rfl, _, rfl, pz, _, _, _, rfl, rfl, SqL.of hpz, it, rfl, _, rfl, ?_⟩
      by_cases h0 : B i t = 0
      · refine iff' (by simp [h0]) ?_
        refine ⟨_, rfl, _, rfl, rfl, _, rfl, ?_⟩
        by_cases h1 : B t t = s
        · refine iff' (by simp [h1]) ?_
          exact ⟨_, rfl, tyL (SqL.of ys3), _, rfl, same (same' (.inr ⟨h0, h1⟩))⟩
        · refine ift (by simp [h1]) ?_
          exact change hit
      · refine ift (by simp [h0]) ?_
        refine ift rfl ?_
        exact change hit
  · rintro σ H2 ⟨s2, o6, o7, ys, rfl, hys, hyl, hy⟩
    exact ⟨_, rfl, k _ _ s2 ⟨ys, ⟨f, rfl, hys⟩, by rw [hyl, hxl], fun i u h => (hy i u h).1⟩⟩
theorem pure_solved {K : PySem.W.Frag} (vs : List V) (H : Hp) (Q : VK) (E : XK) (h : sp_solved K vs H Q E) : t_solved K { nx := fun _ H' => Q .non H', rt := Q } (start n_solved vs) H := by
  obtain ⟨rv, n, A, rfl, hm, hn, hp, hB, k⟩ := h
  obtain ⟨xs, ⟨a, rfl, ha⟩, hxl, hx⟩ := id hm
  refine ⟨_, rfl, _, _, rfl, ?_⟩
  refine ⟨_, rfl, a, _, rfl, .inl (SqL.of ha), _, rfl, by omega, by omega, ?_⟩
  rw [show ((xs.length : Nat) : Int).toNat = n by omega]
  refine for_range (lo := 0) (n := n) (fun i σ H' => Same H H' ∧ ∃ (wv : V) (o3 o4 : Option V), σ = [some (.ref a), some wv, some (.int (ele A i).2), o3, o4, none] ∧ MatAt H' wv n (ele A i).1) ⟨Same.refl _, _, none, none, rfl, hm⟩ ?_ ?_
  · rintro t σ H1 ht ⟨s1, wv, o3, o4, rfl, hw⟩
    obtain ⟨ys, ⟨b, rfl, hb⟩, hyl, hy⟩ := id hw
    have hyt : ys[t]? = some ys[t] := List.getElem?_eq_getElem (by omega)
    obtain ⟨pr, epr, hpr⟩ := hy t _ hyt
    rw [epr] at hyt
    have et : (0 : Int) + (t : Int) = (t : Int) := by omega
    refine ⟨_, rfl, _, rfl, b, ys, _, .ref pr, rfl, rfl, SqL.of hb, by rw [et]; exact atI_nat hyt, _, rfl, pr, _, _, .int ((ele A t).1 t t), rfl, rfl, SqL.of hpr, by rw [et]; exact atI_nat (rowV_get (by omega)), ?_⟩
    obtain ⟨p1, p2⟩ := hp t (by omega)
    refine ⟨_, rfl, _, rfl, _, rfl, _, rfl, .ref b, n, t, 300, (ele A t).2, (ele A t).1, by rw [et]; rfl, hw, hn, ht, p1, p2.mono (by decide), by decide, hB t (by omega), fun v H2 s2 m2 => ?_⟩
    exact ⟨_, rfl, s1.trans s2, v, _, _, rfl, m2⟩
  · rintro σ H1 ⟨s1, wv, o3, o4, rfl, hw⟩
    obtain ⟨ys, ⟨b, rfl, hb⟩, hyl, hy⟩ := hw
    refine ⟨_, rfl, _, rfl, b, rfl, ⟨_, SqL.of hb⟩, ?_⟩
    refine lc_flat walk_list (fun i => some (.int ((ele A n).1 i n))) (by omega) (fun H' s => s.seq (SqL.of hb)) ?_ ?_
    · rintro i y H2 H3 Kp Ks hi s2 ⟨rfl, hyi⟩ kp ks
      obtain ⟨pr, rfl, hpr⟩ := hy i _ hyi
      exact ⟨rfl, _, rfl, _, rfl, pr, _, _, _, rfl, rfl, SqL.of (s2 _ _ hpr), rowV_last, kp _ _ (Same.refl _) rfl⟩
    · intro D H2 hD s2 e2
      refine ⟨by show 2 ≤ sizeLine; decide, fun p hp => ?_⟩
      have s3 := Same.new (o := .tup [V.int (ele A n).2, .ref D]) hp
      refine k _ _ ((s1.trans s2).trans s3) ⟨.ref D, ⟨p, rfl, SqT.of upd_same⟩, D, rfl, SqL.of (s3 _ _ ?_)⟩
      rw [e2, range_filterMap_some, hyl]
end Mix
namespace Mix
open PySem PySem.Spec PyProof.Rows L2
theorem rowV_set {n : Nat} {f : Nat → Int} {j : Nat} (hj : j ≤ n) {v : Int} : (rowV n f).set j (.int v) = rowV n (fun x => if x = j then v else f x) := by
  apply List.ext_getElem?
  intro i
  rw [List.getElem?_set]
  by_cases c : i < n + 1
  · by_cases e : j = i
    · subst e
      rw [if_pos rfl, if_pos (by rw [rowV_len]; omega), rowV_get (by omega), if_pos rfl]
    · rw [if_neg e, rowV_get (by omega), rowV_get (by omega), if_neg (Ne.symm e)]
  · have h1 : (rowV n f)[i]? = none := List.getElem?_eq_none (by rw [rowV_len]; omega)
    have h2 : (rowV n (fun x => if x = j then v else f x))[i]? = none := List.getElem?_eq_none (by rw [rowV_len]; omega)
    rw [h1, h2]
    by_cases e : j = i
    · rw [if_pos e, if_neg (by rw [rowV_len]; omega)]
    · rw [if_neg e]
theorem rep_zero (m : Nat) : (List.replicate m [V.int 0]).flatten = List.replicate m (V.int 0) := by
  induction m with
  | zero => rfl
  | succ m ih => rw [List.replicate_succ, List.flatten_cons, ih, List.replicate_succ]; rfl
theorem rowV_zero (n : Nat) : rowV n (fun _ => 0) = List.replicate (n + 1) (V.int 0) := by
  unfold rowV
  rw [List.map_const', List.length_range]
theorem ixN_last {n : Nat} (h : 0 < n) : ixN n (-1) = some (n - 1) := by
  unfold ixN
  rw [if_neg (by decide), if_pos (by omega)]
  congr 1
  omega
theorem wAt_get {ws : List Way} {i : Nat} {w : Way} (h : ws[i]? = some w) : wAt ws i = w := by
  unfold wAt
  rw [h]
  rfl
def PvFol (K : PySem.W.Frag) (H : Hp) (t pa wa f : Addr) (W : Wd) (p : List Int) (ws : List Way) (i : Nat) (σ : L2.St) (H' : Hp) : Prop :=
  Same H H' ∧ ∃ (o4 o5 o6 o7 : Option V) (ys : List V), σ = [some (.ref t), some (.ref pa), some (.ref wa), some (.ref f), o4, o5, o6, o7, none, none, none] ∧ H' f = some (.lst ys) ∧ ys.length = i ∧
    ∀ (j : Nat) (u : V), ys[j]? = some u → LvV H' u (rowV W.L (matW W (pAt p) (wAt ws) j)) ∧ u ≠ .ref f
theorem pAt_get {p : List Int} {i : Nat} (h : i < p.length) : (vI p)[i]? = some (.int (pAt p i)) := by
  unfold vI pAt
  rw [List.getElem?_map, List.getElem?_eq_getElem h, List.getD_eq_getElem?_getD, List.getElem?_eq_getElem h]
  rfl
theorem pure_followed {K : PySem.W.Frag} {mg : Str → Option Value} (T : Txt K mg) (vs : List V) (H : Hp) (Q : VK) (E : XK) (h : sp_followed K vs H Q E) : t_followed K { nx := fun _ H' => Q .non H', rt := Q } (start n_followed vs) H := by
  obtain ⟨t, W, pv, wv, p, us, ws, rfl, ht, ok, ⟨pa, rfl, hpa⟩, hp, ⟨wa, rfl, hwa⟩, hw, hwl, wok, prp, k⟩ := h
  have k3 := ok.k3
  have l4 := ok.l4
  have pos := ok.pos
  refine ⟨by show 0 ≤ sizeLine; decide, fun f hf => ?_⟩
  have sf := Same.new (o := .lst []) hf
  refine ⟨_, rfl, wa, us, rfl, sf.seq hwa, for_it walk_enum (PvFol K H t pa wa f W p ws) ⟨sf, none, none, none, none, [], rfl, upd_same, rfl, fun j u h => by simp at h⟩ (fun i σ H' _ q => q.1.seq hwa) ?_ ?_⟩
  · rintro i y σ H2 H2' hi ⟨s2, o4, o5, o6, o7, ys, rfl, hys, hyl, hy⟩ ⟨T1, x, z, rfl, hT, rfl, ex, ez⟩
    cases ex
    replace ez : us[i]? = some z := ez
    obtain ⟨w, hwi, ww⟩ := hw.get ez
    have iL : i < W.L := by
      have := hw.len
      omega
    have sT := Same.new (o := .tup [V.int (i : Nat), z]) hT
    have s3 := s2.trans sT
    have ys3 := sT _ _ hys
    have wz := WayV.mono ww s3
    refine ⟨T1, _, rfl, SqT.of upd_same, rfl, _, _, rfl, _, _, rfl, rfl, ?_⟩
    refine ⟨by show 1 ≤ sizeLine; decide, fun l0 hl0 => ?_⟩
    have s4 := Same.new (o := .lst [V.int 0]) hl0
    obtain ⟨dx, r, hr1, hr2⟩ := ht.mono (s3.trans s4)
    refine ⟨_, rfl, t, _, dx, _, _, rfl, hr1, T.cl, T.nl, tabF_l, _, _, rfl, rfl, ?_⟩
    refine ⟨l0, (W.L : Int) + 1, _, rfl, rfl, upd_same, by omega, by omega, sz0 (by simp; omega), fun l hl => ?_⟩
    have e0 : (List.replicate ((W.L : Int) + 1).toNat [V.int 0]).flatten = rowV W.L (fun _ => 0) := by
      rw [rep_zero, rowV_zero, show ((W.L : Int) + 1).toNat = W.L + 1 by omega]
    rw [e0]
    have s5 := Same.new (o := .lst (rowV W.L (fun _ => 0))) hl
    have s35 := (s3.trans s4).trans s5
    have s15 := (sT.trans s4).trans s5
    have ys5 := s15 _ _ hys
    have nlf : l ≠ f := Ne.symm (ne_of_none ((sT.trans s4) _ _ hys) hl)
    have hl2 : H2 l = none := none_of (sT.trans s4) hl
    have hlH : H l = none := none_of s2 hl2
    -- the end of a turn
    have fin : ∀ (H5 : Hp) (o4 o5 o7 : Option V), Same H2 H5 → H5 l = some (.lst (rowV W.L (matW W (pAt p) (wAt ws) i))) →
        tDrop (tBM K "list" rAppend (tVar 3) (tCons (tVar 6) tNil)) { nx := PvFol K H t pa wa f W p ws (i + 1), rt := Q, bk := fun _ _ => True, ct := fun _ _ => True } [some (.ref t), some (.ref pa), some (.ref wa), some (.ref f), o4, o5, some (.ref l), o7, none, none, none] H5 := by
      intro H5 o4 o5 o7 s6 e6
      have y5 := s6 _ _ hys
      refine ⟨_, rfl, tyL (SqL.of y5), _, rfl, f, ys, .ref l, rfl, rfl, y5, sz1 (by omega), (s2.trans s6).mut hf, _, _, _, _, ys ++ [.ref l], rfl, upd_same, by simp [hyl], fun j u hu => ?_⟩
      by_cases hj : j < ys.length
      · rw [List.getElem?_append_left hj] at hu
        obtain ⟨⟨b, rfl, hb⟩, h2⟩ := hy j u hu
        exact ⟨⟨b, rfl, by rw [upd_ne (fun e => h2 (by rw [e]))]; exact s6 _ _ hb⟩, h2⟩
      · have ej : j = ys.length := by
          have := (List.getElem?_eq_some_iff.mp hu).1
          simp at this
          omega
        subst ej
        have eu : V.ref l = u := by simpa using hu
        subst eu
        rw [hyl]
        exact ⟨⟨l, rfl, by rw [upd_ne nlf]; exact e6⟩, fun e => nlf (V.ref.inj e)⟩
    -- a write to the row keeps what stood
    have wr : ∀ {H5 : Hp} {o : HO}, Same H2 H5 → Same H2 (upd H5 l o) := fun s => s.mut hl2
    have hix : ixN (rowV W.L (fun _ => 0)).length (i : Int) = some i := ixN_of (by rw [rowV_len]; omega)
    cases w with
    | none =>
      cases ww
      refine ⟨_, rfl, rfl, _, rfl, ift rfl ?_⟩
      refine ⟨_, rfl, _, rfl, l, _, _, i, rfl, rfl, upd_same, hix, ?_⟩
      rw [rowV_set (by omega)]
      refine ⟨_, rfl, rfl, _, rfl, ift rfl ?_⟩
      have s6 := wr (o := .lst (rowV W.L fun x => if x = i then 1 else 0)) s15
      have s26 := s2.trans s6
      refine ⟨_, rfl, _, rfl, pa, _, _, .int (pAt p i), rfl, rfl, s26.tup hpa, atI_nat (pAt_get (by rw [hp.1]; exact iL)), _, rfl, _, rfl, l, _, _, W.L, rfl, rfl, upd_same, ?_, ?_⟩
      · rw [ixN_last (by rw [rowV_len]; omega), rowV_len]
        rfl
      · rw [rowV_set (Nat.le_refl _)]
        refine fin _ _ _ _ (wr s6) ?_
        rw [upd_same]
        congr 2
        refine rowV_ext fun j hj => ?_
        unfold matW
        rw [wAt_get hwi]
        by_cases c : j < W.L
        · rw [if_pos c, if_neg (by omega)]
        · rw [if_neg c, if_pos (by omega)]
    | some c =>
      obtain ⟨pc, rfl, hpc⟩ := ww
      have cup := wok.cup i c iL (wAt_get hwi)
      obtain ⟨dx, r, hr1, hr2⟩ := ht.mono s35
      refine ⟨_, rfl, rfl, _, rfl, iff' rfl ?_⟩
      refine ⟨_, rfl, t, _, dx, _, _, rfl, hr1, T.cl, T.nk, tabF_k, _, rfl, _, rfl, l, _, _, i, rfl, rfl, upd_same, hix, ?_⟩
      rw [rowV_set (by omega)]
      have s6 := wr (o := .lst (rowV W.L fun x => if x = i then (W.k : Int) else 0)) s15
      refine ⟨_, rfl, rfl, _, rfl, iff' rfl ?_⟩
      refine ⟨_, rfl, pc, rfl, ⟨_, (s2.trans s6).tup hpc⟩, ?_⟩
      refine for_it walk_tup (fun m σ H' => Same H2 H' ∧ ∃ (o7 : Option V), σ = [some (.ref t), some (.ref pa), some (.ref wa), some (.ref f), some (.int (i : Nat)), some (.ref pc), some (.ref l), o7, none, none, none] ∧
        H' l = some (.lst (rowV W.L fun j => (if j = i then (W.k : Int) else 0) - ((c.take m).count j : Int)))) ⟨s6, o7, rfl, ?_⟩ (fun m σ H' _ q => (s2.trans q.1).tup hpc) ?_ ?_
      · rw [upd_same]
        congr 2
        refine rowV_ext fun j hj => ?_
        simp
      · rintro m y σ H5 H6 hm ⟨s7, o7, rfl, hrow⟩ ⟨rfl, hyi⟩
        obtain ⟨d, hd, rfl⟩ := vN_get' hyi
        have hdl := cup.lt d (List.mem_of_getElem? hd)
        refine ⟨_, rfl, _, rfl, l, _, d, _, rfl, rfl, SqL.of hrow, rowV_get (by omega), _, _, rfl, rfl, l, _, _, d, rfl, rfl, hrow, ixN_of (by rw [rowV_len]; omega), wr s7, _, rfl, ?_⟩
        rw [upd_same, rowV_set (by omega)]
        congr 2
        refine rowV_ext fun j hj => ?_
        rw [take_more hd, List.count_append, List.count_singleton]
        by_cases c1 : j = d
        · subst c1
          rw [if_pos rfl, if_pos (beq_self_eq_true j)]
          show ((if j = i then (W.k : Int) else 0) - ((c.take m).count j : Int)) - 1 = _
          omega
        · rw [if_neg c1, if_neg (fun h => c1 (eq_of_beq h).symm)]
          rfl
      · rintro σ H5 ⟨s7, o7, rfl, hrow⟩
        refine fin _ _ _ _ s7 ?_
        rw [hrow]
        congr 2
        refine rowV_ext fun j hj => ?_
        unfold matW
        rw [wAt_get hwi, vN_len, List.take_length]
        by_cases c1 : j < W.L
        · rw [if_pos c1]
        · rw [if_neg c1, if_neg (by omega), List.count_eq_zero.mpr (fun hm => c1 (cup.lt _ hm))]
          rfl
  · rintro σ H2 ⟨s2, o4, o5, o6, o7, ys, rfl, hys, hyl, hy⟩
    have hul : us.length = W.L := by rw [hw.len, hwl]
    obtain ⟨b1, b2⟩ := sol_bd ok (p := pAt p) (fun l _ => hp.2 l) wok prp
    refine ⟨_, rfl, .ref f, W.L, matW W (pAt p) (wAt ws), rfl, ⟨ys, ⟨f, rfl, hys⟩, by rw [hyl, hul], fun i u h => (hy i u h).1⟩, l4, fun t ht => ⟨b1 t ht, (solS_bd ok (fun l _ => hp.2 l) wok prp t ht).mono (by decide)⟩, fun t ht i j hi hj => (b2 t ht i j hi hj).mono (Nat.le_trans (bt_le (by omega)) (by decide)), ?_⟩
    rintro v H3 s3 ⟨q, ⟨pt, rfl, hpt⟩, ⟨qa, rfl, hqa⟩⟩
    refine ⟨pt, _, rfl, hpt, rfl, _, _, rfl, _, _, rfl, rfl, ?_⟩
    refine ⟨_, rfl, qa, rfl, ⟨_, hqa⟩, ?_⟩
    refine lc_all walk_list (fun D i y H => FrAt K H y (solQ W (pAt p) (wAt ws) i)) (by simp; omega) (fun H' s => s.seq hqa) ?_ ?_ ?_ (fun x H2 P P' h q => h _ _ q) (fun σ2 H3 P P' h q => h _ _ q) ?_
    · rintro D i y H4 H5 l1 l2 hD hD1 rfl hf
      exact tupV_off hD1 hf
    · rintro D i y H4 H5 s hf
      exact TupV.mono hf s
    · rintro D i y H4 H5 l1 Kp hi hD s4 hD1 ⟨rfl, hyi⟩ kp
      have hi' : i < W.L := by simpa using hi
      rw [List.getElem?_map, List.getElem?_range hi'] at hyi
      have := Option.some.inj hyi
      subst this
      refine ⟨rfl, rfl, _, rfl, _, rfl, _, _, rfl, b1 _ (Nat.le_refl _), (solS_bd ok (fun l _ => hp.2 l) wok prp _ (Nat.le_refl _)).mono (by decide), fun v H6 s6 f6 => kp _ _ s6 ?_⟩
      rw [solQ_div]
      exact f6
    · intro D H4 zs hD s4 eD hz hR
      have hzl : zs.length = W.L := by rw [hz]; simp
      refine ⟨D, zs, rfl, .inl ⟨SqL.of eD, fun l hl => ?_⟩⟩
      have s5 := Same.new (o := .tup zs) hl
      refine k _ _ (((s2.trans s3).trans s4).trans s5) ⟨zs, ⟨l, rfl, SqT.of upd_same⟩, by rw [hzl]; simp [rowQ], fun i u q hu hq => ?_⟩
      have hi : i < W.L := by
        have := (List.getElem?_eq_some_iff.mp hu).1
        omega
      unfold rowQ at hq
      rw [List.getElem?_map, List.getElem?_range hi] at hq
      have := Option.some.inj hq
      subst this
      exact TupV.mono (hR i u hu) s5
end Mix
namespace Mix
open PySem PySem.Spec PyProof.Rows L2
theorem mem_putK {kvs : List (Key × V)} {k : Key} {v : V} {e : Key × V} (h : e ∈ putK kvs k v) : e ∈ kvs ∨ e = (k, v) := by
  unfold putK at h
  split at h
  · obtain ⟨z, hz, rfl⟩ := List.mem_map.mp h
    by_cases c : z.1 = k
    · rw [if_pos c]
      exact .inr (by rw [c])
    · rw [if_neg c]
      exact .inl hz
  · rcases List.mem_append.mp h with h | h
    · exact .inl h
    · exact .inr (List.mem_singleton.mp h)
theorem valV_mem {kvs : List (Key × V)} {k : Key} {v : V} (h : valV kvs k = some v) : (k, v) ∈ kvs := by
  unfold valV at h
  cases e : kvs.find? fun kv => decide (kv.1 = k) with
  | none => rw [e] at h; cases h
  | some z =>
    rw [e] at h
    have h1 := List.find?_some e
    have h2 := List.mem_of_find?_eq_some e
    have h3 : z.1 = k := of_decide_eq_true h1
    have h4 : z.2 = v := Option.some.inj h
    rw [← h3, ← h4]
    exact h2
theorem valV_has {kvs : List (Key × V)} {k : Key} {v : V} (h : (k, v) ∈ kvs) : ∃ u, valV kvs k = some u := by
  unfold valV
  cases e : kvs.find? fun kv => decide (kv.1 = k) with
  | none =>
    have := List.find?_eq_none.mp e (k, v) h
    simp at this
  | some z => exact ⟨z.2, rfl⟩
section
variable {K : PySem.W.Frag} {H H' : Hp} {bd wa a : Addr} {kvs : List (Key × V)} {xs : List V} {v : V}
theorem seqL_but (hb : H bd = some (.dK kvs)) (e : ∀ a o, a ≠ bd → H a = some o → H' a = some o) (h : SqL K H a xs) : SqL K H' a xs := by
  rcases h with (h | ⟨o, h⟩) | h
  · exact .inl (.inl (e _ _ (ne_of h hb (by intro z; cases z)) h))
  · exact .inl (.inr ⟨o, e _ _ (ne_of h hb (by intro z; cases z)) h⟩)
  · exact .inr h
theorem tupV_but (hb : H bd = some (.dK kvs)) (e : ∀ a o, a ≠ bd → H a = some o → H' a = some o) (h : TupV K H v xs) : TupV K H' v xs := by
  obtain ⟨p, rfl, h⟩ := h
  refine ⟨p, rfl, ?_⟩
  rcases h with (h | ⟨o, h⟩) | h
  · exact .inl (.inl (e _ _ (ne_of h hb (by intro z; cases z)) h))
  · exact .inl (.inr ⟨o, e _ _ (ne_of h hb (by intro z; cases z)) h⟩)
  · exact .inr h
theorem tupV_but2 {ls : List V} (hb : H bd = some (.dK kvs)) (hw : H wa = some (.lst ls)) (e : ∀ a o, a ≠ bd → a ≠ wa → H a = some o → H' a = some o) (h : TupV K H v xs) : TupV K H' v xs := by
  obtain ⟨p, rfl, h⟩ := h
  refine ⟨p, rfl, ?_⟩
  rcases h with (h | ⟨o, h⟩) | h
  · exact .inl (.inl (e _ _ (ne_of h hb (by intro z; cases z)) (ne_of h hw (by intro z; cases z)) h))
  · exact .inl (.inr ⟨o, e _ _ (ne_of h hb (by intro z; cases z)) (ne_of h hw (by intro z; cases z)) h⟩)
  · exact .inr h
end
/-- a better way of a label, with what it costs -/
def GdV (K : PySem.W.Frag) (H : Hp) (W : Wd) (x : Nat → Rat) (l : Nat) (v : V) : Prop := ∃ qv cv cs, TupV K H v [qv, cv] ∧ FrAt K H qv (sumQ x cs) ∧ CupV K H cv cs ∧ W.Cup cs ∧ W.bl cs = l ∧ sumQ x cs < (W.k : Rat) * x l
theorem GdV.mono {K : PySem.W.Frag} {H H' : Hp} {W : Wd} {x : Nat → Rat} {l : Nat} {v : V} (h : GdV K H W x l v) (e : ∀ {v : V} {xs : List V}, TupV K H v xs → TupV K H' v xs) : GdV K H' W x l v := by
  obtain ⟨qv, cv, cs, h1, h2, h3, h4⟩ := h
  exact ⟨qv, cv, cs, e h1, e h2, e h3, h4⟩
def GdD (K : PySem.W.Frag) (H : Hp) (W : Wd) (x : Nat → Rat) (kvs : List (Key × V)) : Prop := ∀ k v, (k, v) ∈ kvs → ∃ l : Nat, k = .inl (l : Int) ∧ l < W.L ∧ GdV K H W x l v
theorem GdD.mono {K : PySem.W.Frag} {H H' : Hp} {W : Wd} {x : Nat → Rat} {kvs : List (Key × V)} (h : GdD K H W x kvs) (e : ∀ {v : V} {xs : List V}, TupV K H v xs → TupV K H' v xs) : GdD K H' W x kvs := fun k v m => by
  obtain ⟨l, h1, h2, h3⟩ := h k v m
  exact ⟨l, h1, h2, h3.mono e⟩
theorem xAt_rowQ {W : Wd} {p : List Int} {ws : List Way} {l : Nat} (h : l < W.L) : xAt (rowQ W p ws) l = solQ W (pAt p) (wAt ws) l := by
  unfold xAt rowQ
  rw [List.getD_eq_getElem?_getD, List.getElem?_map, List.getElem?_range h]
  rfl
theorem sumQ_ext {f g : Nat → Rat} {cs : List Nat} (h : ∀ c ∈ cs, f c = g c) : sumQ f cs = sumQ g cs := by
  unfold sumQ
  rw [List.map_congr_left h]
theorem rowQ_ok {W : Wd} (ok : W.Ok) {p : List Int} (hp : PricesOk W p) {ws : List Way} (wo : WaysOk W (wAt ws)) (pr : Proper W (wAt ws)) : RowOk W (rowQ W p ws) := by
  refine ⟨by simp [rowQ], fun q hq => ?_⟩
  unfold rowQ at hq
  obtain ⟨j, hj, rfl⟩ := List.mem_map.mp hq
  exact solQ_bd ok (fun l _ => hp.2 l) wo pr j (List.mem_range.mp hj)
theorem RowOk.at_ {W : Wd} {x : List Rat} (h : RowOk W x) {l : Nat} (hl : l < W.L) : QB 200 (xAt x l) := by
  refine h.2 _ ?_
  unfold xAt
  rw [List.getD_eq_getElem?_getD, List.getElem?_eq_getElem (by rw [h.1]; exact hl)]
  exact List.getElem_mem _
theorem sumQ_QB {W : Wd} (ok : W.Ok) {x : List Rat} (h : RowOk W x) {cs : List Nat} (hc : W.Cup cs) : QB 4000 (sumQ (xAt x) cs) := by
  have := ok.k3
  refine (sumL_QB (n := 200) fun q hq => ?_).mono ?_
  · obtain ⟨c, hcm, rfl⟩ := List.mem_map.mp hq
    exact h.at_ (hc.lt c hcm)
  · rw [List.length_map, hc.len]
    omega
/-- the state within the loop over all cups -/
def PvBest (K : PySem.W.Frag) (H2 : Hp) (t pa wa bd : Addr) (rv : V) (W : Wd) (x : Nat → Rat) (j : Nat) (σ : L2.St) (H' : Hp) : Prop :=
  (∀ a o, a ≠ bd → H2 a = some o → H' a = some o) ∧ ∃ (o5 o6 o7 : Option V) (kvs : List (Key × V)), σ = [some (.ref t), some (.ref pa), some (.ref wa), some rv, some (.ref bd), o5, o6, o7, none] ∧ H' bd = some (.dK kvs) ∧ kvs.length ≤ j ∧ GdD K H' W x kvs ∧
    ∀ cs ∈ (tuplesN W.L W.k).take j, sumQ x cs < (W.k : Rat) * x (W.bl cs) → ∃ v, valV kvs (.inl (W.bl cs : Int)) = some v
theorem stepBest {K : PySem.W.Frag} {mg : Str → Option Value} (T : Txt K mg) {H2 : Hp} {t pa wa bd : Addr} {rv : V} {W : Wd} (ok : W.Ok) {row : List Rat} {us : List V} (ht : TabAt K H2 t W) (hrow : RowAt K H2 rv row) (hrk : RowOk W row)
    (hus : All2 (CupV K H2) us (tuplesN W.L W.k)) (hbd : ∃ kvs, H2 bd = some (.dK kvs)) {Q : VK} (i : Nat) (y : V) (σ : L2.St) (H' : Hp) (hy : us[i]? = some y) (h : PvBest K H2 t pa wa bd rv W (xAt row) i σ H') {B C : L2.St → Hp → Prop} :
    gName 5 y σ H' fun σ2 H3 => (tSeq (tAsg (tMeth (tabC K) "blend" (sp_Table_blend K) [] E0 (tVar 0) (tCons (tVar 5) tNil)) (gName 6))
  (tIfS (tTest (tOp rGtI (tCall (sp_against K) [] E0 (tCons (tVar 0) (tCons (tVar 3) (tCons (tVar 5) tNil)))) (tC (.int 0)))) (tSeq (tAsg (tCall (sp_total K) [] E0 (tCons (tLc (iTup K (tVar 5)) (gName 8) tYes (tOp (rIxT K) (tVar 3) (tVar 8)) [8]) tNil)) (gName 7))
  (tIfS (tOr (tB (tDNotIn (tVar 6) (tVar 4))) (tTest (tOp rLtI (tCall (sp_compared K) [] E0 (tCons (tVar 7) (tCons (tOp (rIxT K) (tDGet (tVar 4) (tVar 6)) (tC (.int 0))) tNil))) (tC (.int 0))))) (sDPut (tVar 4) (tVar 6) (tTup (tCons (tVar 7) (tCons (tVar 5) tNil)))) tNext)) tNext))
      { nx := PvBest K H2 t pa wa bd rv W (xAt row) (i + 1), rt := Q, bk := B, ct := C } σ2 H3 := by
  obtain ⟨e1, o5, o6, o7, kvs, rfl, hkv, hkl, hgd, hall⟩ := h
  obtain ⟨kv0, hb0⟩ := hbd
  obtain ⟨cs, hcs, cv⟩ := hus.get hy
  have cup : W.Cup cs := Wd.cup_mem.mp (List.mem_of_getElem? hcs)
  have hl := Wd.bl_lt ok cup
  have k3 := ok.k3
  have l4 := ok.l4
  have hi : i < (tuplesN W.L W.k).length := (List.getElem?_eq_some_iff.mp hcs).1
  have hi64 : i < 64 := by
    rw [tuplesN_len] at hi
    have := pow_small l4 k3.2
    omega
  have tb : ∀ {v : V} {xs : List V}, TupV K H2 v xs → TupV K H' v xs := fun h => tupV_but hb0 e1 h
  have ht' : TabAt K H' t W := by
    obtain ⟨dx, r, h1, h2⟩ := ht
    obtain ⟨_, er, h3⟩ := tb ⟨r, rfl, h2⟩
    cases er
    exact ⟨dx, r, e1 _ _ (ne_of h1 hb0 (by intro z; cases z)) h1, h3⟩
  have hrow' : RowAt K H' rv row := by
    obtain ⟨vs, h1, h2⟩ := hrow
    exact ⟨vs, tb h1, h2.mono fun _ _ z => tb z⟩
  have cv' : CupV K H' y cs := tb cv
  obtain ⟨dx, r, hr1, hr2⟩ := id ht'
  -- what a turn that puts nothing leaves
  have skip : ∀ (H3 : Hp) (o6 o7 : Option V), Same H' H3 → (sumQ (xAt row) cs < (W.k : Rat) * xAt row (W.bl cs) → ∃ v, valV kvs (.inl (W.bl cs : Int)) = some v) →
      PvBest K H2 t pa wa bd rv W (xAt row) (i + 1) [some (.ref t), some (.ref pa), some (.ref wa), some rv, some (.ref bd), some y, o6, o7, none] H3 := by
    intro H3 o6 o7 s h
    refine ⟨fun a o ha q => s _ _ (e1 a o ha q), _, _, _, kvs, rfl, s _ _ hkv, by omega, hgd.mono fun z => z.mono s, fun ds hd => ?_⟩
    rw [take_more hcs] at hd
    rcases List.mem_append.mp hd with hd | hd
    · exact hall ds hd
    · rw [List.mem_singleton.mp hd]
      exact h
  refine ⟨_, rfl, t, _, _, rfl, hr1, tabF_no, _, rfl, t, W, y, cs, rfl, ht', ok, cv', cup, ?_⟩
  rintro v H3 s3 rfl
  refine ⟨_, rfl, _, rfl, _, rfl, t, W, rv, y, row, cs, rfl, ht'.mono s3, ok, hrow'.mono s3, hrk, TupV.mono cv' s3, cup, ?_⟩
  rintro v H4 s4 rfl
  have s34 := s3.trans s4
  refine ⟨_, _, rfl, rfl, _, rfl, ?_⟩
  by_cases hpos : 0 < cmpQ ((W.k : Rat) * xAt row (W.bl cs)) (sumQ (xAt row) cs)
  · have hlt := cmpQ_pos.mp hpos
    refine ift (decide_eq_true hpos) ?_
    obtain ⟨pc, rfl, hpc⟩ := TupV.mono cv' s34
    obtain ⟨us2, ⟨pr, rfl, hpr⟩, hal⟩ := hrow'.mono s34
    have hvl : (vN cs).length = cs.length := vN_len cs
    refine ⟨_, rfl, pc, rfl, ⟨_, hpc⟩, ?_⟩
    refine lc_flat walk_tup (fun i => atI us2 ((cs.getD i 0 : Nat) : Int)) (by rw [hvl, cup.len]; omega) (fun H' s => s.tup hpc) ?_ ?_
    · rintro m z H5 H6 Kp Ks hm s5 ⟨rfl, hz⟩ kp ks
      obtain ⟨c, hcm, rfl⟩ := vN_get' hz
      have hcl := cup.lt c (List.mem_of_getElem? hcm)
      obtain ⟨u', hu', fu'⟩ := RowAt.at_ hal (l := c) (by rw [hrk.1]; exact hcl)
      refine ⟨rfl, ?_⟩
      refine ⟨_, rfl, _, rfl, pr, _, _, _, rfl, rfl, s5.tup hpr, hu', kp _ _ (Same.refl _) ?_⟩
      rw [List.getD_eq_getElem?_getD, hcm]
      exact hu'
    · intro D H5 hD s5 e5
      have key := row_pick (hal.mono fun _ _ z => TupV.mono z s5) (ds := cs) (fun c h => by rw [hrk.1]; exact cup.lt c h)
      rw [← hvl] at key
      refine ⟨D, _, _, rfl, SqL.of e5, key, fun q hq => ?_, ?_, fun v6 H6 s6 f6 => ?_⟩
      · obtain ⟨c, hcm, rfl⟩ := List.mem_map.mp hq
        exact hrk.at_ (cup.lt c hcm)
      · rw [List.length_map, cup.len]; omega
      have s46 := (s34.trans s5).trans s6
      have hkv6 := s46 _ _ hkv
      have f6' : FrAt K H6 v6 (sumQ (xAt row) cs) := f6
      have put : ∀ (H7 : Hp), Same H6 H7 → (sDPut (tVar 4) (tVar 6) (tTup (tCons (tVar 7) (tCons (tVar 5) tNil)))) { nx := PvBest K H2 t pa wa bd (.ref pr) W (xAt row) (i + 1), rt := Q, bk := B, ct := C }
          [some (.ref t), some (.ref pa), some (.ref wa), some (.ref pr), some (.ref bd), some (.ref pc), some (.int (W.bl cs : Int)), some v6, none] H7 := by
        intro H7 s7
        refine ⟨_, rfl, _, rfl, by show 2 ≤ sizeLine; decide, fun p hp => ?_⟩
        have s8 := Same.new (o := .tup [v6, .ref pc]) hp
        have s68 := s7.trans s8
        have s18 := s46.trans s68
        have hkv8 := s18 _ _ hkv
        refine ⟨_, rfl, _, rfl, bd, _, rfl, DPut.k (k := .inl (W.bl cs : Int)) hkv8 (sz1 (by omega)), ?_⟩
        have tu : ∀ {v : V} {xs : List V} {o : HO}, TupV K (upd H7 p (.tup [v6, .ref pc])) v xs → TupV K (upd (upd H7 p (.tup [v6, .ref pc])) bd o) v xs := fun h => tupV_but hkv8 (fun a o ha q => by rw [upd_ne ha]; exact q) h
        refine ⟨fun a o ha q => by rw [upd_ne ha]; exact s18 _ _ (e1 a o ha q), _, _, _, _, rfl, upd_same, by have := length_putK kvs (.inl (W.bl cs : Int)) (.ref p); omega, fun k v hm => ?_, fun ds hd hlt' => ?_⟩
        · rcases mem_putK hm with hm | hm
          · obtain ⟨l, h1, h2, h3⟩ := hgd k v hm
            exact ⟨l, h1, h2, h3.mono fun z => tu (z.mono s18)⟩
          · cases hm
            exact ⟨W.bl cs, rfl, hl, v6, .ref pc, cs, tu ⟨p, rfl, SqT.of upd_same⟩, tu (f6'.mono s68), tu ((TupV.mono cv' s34).mono ((s5.trans s6).trans s68)), cup, rfl, hlt⟩
        · rw [valV_put]
          split
          · exact ⟨_, rfl⟩
          · rename_i hne
            rw [take_more hcs] at hd
            rcases List.mem_append.mp hd with hd | hd
            · exact hall ds hd hlt'
            · rw [List.mem_singleton.mp hd] at hne
              exact absurd rfl hne
      refine ⟨_, rfl, _, rfl, bd, valV kvs (.inl (W.bl cs : Int)), rfl, DGet.k (k := .inl (W.bl cs : Int)) hkv6, _, rfl, ?_⟩
      cases hv : valV kvs (.inl (W.bl cs : Int)) with
      | none =>
        refine ift rfl ?_
        refine ift rfl ?_
        exact put _ (Same.refl _)
      | some v0 =>
        refine iff' rfl ?_
        obtain ⟨l0, el, _, q0, c0, cs0, g1, g2, g3, g4, g5, g6⟩ := hgd _ _ (valV_mem hv)
        obtain ⟨tc, rfl, htc⟩ := TupV.mono g1 s46
        refine ⟨_, rfl, _, rfl, _, rfl, bd, _, rfl, by have := DGet.k (k := .inl (W.bl cs : Int)) hkv6; rw [hv] at this; exact this, tc, _, 0, q0, rfl, rfl, htc, rfl, v6, q0, _, _, rfl, f6', TupV.mono g2 s46, sumQ_QB ok hrk cup, sumQ_QB ok hrk g4, _, _, rfl, rfl, _, rfl, ?_⟩
        by_cases hc0 : cmpQ (sumQ (xAt row) cs) (sumQ (xAt row) cs0) < 0
        · refine ift (decide_eq_true hc0) ?_
          exact put _ (Same.refl _)
        · refine iff' (decide_eq_false hc0) ?_
          exact skip _ _ _ s46 fun _ => ⟨_, hv⟩
  · refine iff' (decide_eq_false hpos) ?_
    exact skip _ _ _ s34 fun h => absurd (cmpQ_pos.mpr h) hpos
end Mix
namespace Mix
open PySem PySem.Spec PyProof.Rows L2
theorem rep_any (v : V) (m : Nat) : (List.replicate m [v]).flatten = List.replicate m v := by
  induction m with
  | zero => rfl
  | succ m ih => rw [List.replicate_succ, List.flatten_cons, ih, List.replicate_succ]; rfl
theorem WayV.but {K : PySem.W.Frag} {H H' : Hp} {v : V} {w : Way} (h : WayV K H v w) (e : ∀ {v : V} {xs : List V}, TupV K H v xs → TupV K H' v xs) : WayV K H' v w := by
  cases w with
  | none => exact h
  | some c => exact e h
theorem wAt_set {ws : List Way} {l : Nat} (hl : l < ws.length) (w : Way) (j : Nat) : wAt (ws.set l w) j = if j = l then w else wAt ws j := by
  unfold wAt
  by_cases c : j = l
  · subst c
    rw [if_pos rfl, List.getElem?_set_self hl]
    rfl
  · rw [if_neg c, List.getElem?_set_ne (Ne.symm c)]
theorem wAt_rep {n l : Nat} : wAt (List.replicate n (none : Way)) l = none := by
  unfold wAt
  rw [List.getElem?_replicate]
  split <;> rfl
theorem pure_costs {K : PySem.W.Frag} {mg : Str → Option Value} (T : Txt K mg) (vs : List V) (H : Hp) (Q : VK) (E : XK) (h : sp_costs K vs H Q E) : t_costs K { nx := fun _ H' => Q .non H', rt := Q } (start n_costs vs) H := by
  obtain ⟨t, W, pv, p, rfl, ht, ok, hs, hp, k⟩ := h
  have k3 := ok.k3
  have l4 := ok.l4
  have pos := ok.pos
  refine ⟨_, rfl, _, rfl, t, W, pv, p, rfl, ht, hs, hp.1, ?_⟩
  rintro v H1 s1 ⟨pa, rfl, hpa⟩
  refine ⟨by show 1 ≤ sizeLine; decide, fun l0 hl0 => ?_⟩
  have sl := s1.trans (Same.new (o := .lst [V.non]) hl0)
  obtain ⟨dx, r, hr1, hr2⟩ := ht.mono sl
  refine ⟨_, rfl, t, _, dx, _, _, rfl, hr1, T.cl, T.nl, tabF_l, l0, (W.L : Int), _, rfl, rfl, upd_same, by omega, by omega, sz0 (by simp; omega), fun wa hwa => ?_⟩
  rw [rep_any, show ((W.L : Nat) : Int).toNat = W.L by omega]
  have sw := sl.trans (Same.new (o := .lst (List.replicate W.L V.non)) hwa)
  have hwH : H wa = none := none_of sl hwa
  refine ⟨fun m σ H' => ∃ (us : List V) (ws : List Way) (o3 o4 o5 o6 o7 : Option V), m = meas W (pAt p) ws ∧ σ = [some (.ref t), some (.ref pa), some (.ref wa), o3, o4, o5, o6, o7, none] ∧ Same H H' ∧ SqT K H' pa (vI p) ∧ H' wa = some (.lst us) ∧ All2 (WayV K H') us ws ∧ ws.length = W.L ∧
    WaysOk W (wAt ws) ∧ Proper W (wAt ws) ∧ ∀ l, l < W.L → solQ W (pAt p) (wAt ws) l ≤ pQ p l, ⟨_, _, List.replicate W.L none, none, none, none, none, none, rfl, rfl, sw, ((Same.new hl0).trans (Same.new hwa)).tup hpa, upd_same, ?_, by simp, ?_, ?_, ?_⟩, ?_⟩
  · refine ⟨by simp, fun i x y hx hy => ?_⟩
    rw [List.getElem?_replicate] at hx hy
    by_cases c : i < W.L
    · rw [if_pos c] at hx hy
      cases hx
      cases hy
      rfl
    · rw [if_neg c] at hx
      cases hx
  · exact ⟨fun l c _ h => (by rw [wAt_rep] at h; cases h), fun l c _ h => (by rw [wAt_rep] at h; cases h)⟩
  · exact fun S h0 _ l hl => h0 l hl wAt_rep
  · intro l hl
    have wo : WaysOk W (wAt (List.replicate W.L (none : Way))) := ⟨fun l c _ h => (by rw [wAt_rep] at h; cases h), fun l c _ h => (by rw [wAt_rep] at h; cases h)⟩
    have pr : Proper W (wAt (List.replicate W.L (none : Way))) := fun S h0 _ l hl => h0 l hl wAt_rep
    rw [(sol_ok (p := pAt p) ok wo pr).none l hl wAt_rep]
    exact Rat.le_refl
  rintro m σ H2 ⟨us, ws, o3, o4, o5, o6, o7, rfl, rfl, s2, hpa2, hwa2, hal, hwl, wo, pr, hle⟩
  have so := sol_ok (p := pAt p) ok wo pr
  refine ⟨_, rfl, ift rfl ⟨_, fun _ _ z => z, ?_⟩⟩
  refine ⟨_, rfl, _, rfl, _, rfl, t, W, .ref pa, .ref wa, p, us, ws, rfl, ht.mono s2, ok, ⟨pa, rfl, hpa2⟩, hp, ⟨wa, rfl, SqL.of hwa2⟩, hal, hwl, wo, pr, ?_⟩
  rintro rv H3 s3 hrow
  refine fun bd hbd => ?_
  have s4 := Same.new (o := .dK []) hbd
  have s24 := s3.trans s4
  refine ⟨_, rfl, t, W, rfl, (ht.mono s2).mono s24, ok, ?_⟩
  rintro cv H5 s5 ⟨cus, ⟨ca, rfl, hca⟩, hcus⟩
  have s25 := s24.trans s5
  have hbd5 := s5 _ _ (upd_same (H := H3) (a := bd) (o := .dK []))
  have hwa5 := s25 _ _ hwa2
  have hbH : H bd = none := none_of (s2.trans s3) hbd
  have nwb : wa ≠ bd := ne_of hwa5 hbd5 (by intro z; cases z)
  have hrk := rowQ_ok ok hp wo pr
  refine ⟨ca, rfl, ⟨_, hca⟩, ?_⟩
  refine for_list (xs := cus) (PvBest K H5 t pa wa bd rv W (xAt (rowQ W p ws))) ⟨fun _ _ _ h => h, _, _, _, [], rfl, hbd5, by simp, fun k v h => by simp at h, fun cs h => by simp at h⟩
    (fun i σ H' _ q => seqL_but hbd5 q.1 hca) (fun i x σ H' hx q => stepBest T ok ((ht.mono s2).mono s25) (hrow.mono (s4.trans s5)) hrk hcus ⟨_, hbd5⟩ i x σ H' hx q) ?_
  rintro σ H6 ⟨e6, o5, o6, o7, kvs, rfl, hkv, hkl, hgd, hall⟩
  rw [hcus.len, List.take_length] at hall
  have hwa6 := e6 _ _ nwb hwa5
  refine ⟨_, rfl, bd, kvs, rfl, hkv, rfl, _, rfl, ?_⟩
  have t56 : ∀ {v : V} {xs : List V}, TupV K H5 v xs → TupV K H6 v xs := fun h => tupV_but hbd5 e6 h
  have s26 : ∀ a o, a ≠ bd → H2 a = some o → H6 a = some o := fun a o ha h => e6 a o ha (s25 _ _ h)
  have sH6 : Same H H6 := fun a o h => s26 a o (ne_of_none h hbH) (s2 _ _ h)
  have t26 : ∀ {v : V} {xs : List V}, TupV K H2 v xs → TupV K H6 v xs := fun h => t56 (TupV.mono h s25)
  have hal6 : All2 (WayV K H6) us ws := hal.mono fun _ _ z => z.but t26
  have cnv : ∀ {c : List Nat} {l : Nat}, W.Cup c → l < W.L → (sumQ (xAt (rowQ W p ws)) c < (W.k : Rat) * xAt (rowQ W p ws) l ↔ sumQ (solQ W (pAt p) (wAt ws)) c < (W.k : Rat) * solQ W (pAt p) (wAt ws) l) := by
    intro c l hc hl
    rw [xAt_rowQ hl, sumQ_ext fun d hd => xAt_rowQ (hc.lt d hd)]
  by_cases hkn : kvs = []
  · subst hkn
    refine ift rfl ?_
    refine ⟨_, rfl, _, rfl, wa, us, rfl, .inl ⟨SqL.of hwa6, fun l hl => ⟨by show 2 ≤ sizeLine; decide, fun q hq => ?_⟩⟩⟩
    have s7 := Same.new (o := .tup us) hl
    have s8 := Same.new (o := .tup [rv, .ref l]) hq
    have s78 := s7.trans s8
    refine k _ _ (sH6.trans s78) ⟨rowQ W p ws, ws, rv, .ref l, us, ⟨q, rfl, SqT.of upd_same⟩, ?_, hrk, ⟨l, rfl, s8.tup (SqT.of upd_same)⟩, hal6.mono fun _ _ z => z.mono s78, hwl, ?_⟩
    · obtain ⟨rs, h1, h2⟩ := hrow.mono (s4.trans s5)
      exact ⟨rs, (t56 h1).mono s78, h2.mono fun _ _ z => (t56 z).mono s78⟩
    · refine ⟨wo, pr, ⟨fun l hl h => ?_, fun l c hl h => ?_⟩, fun l hl => ?_, fun cs hc => ?_⟩
      · rw [xAt_rowQ hl]
        exact so.none l hl h
      · rw [xAt_rowQ hl, sumQ_ext fun d hd => xAt_rowQ ((wo.cup l c hl h).lt d hd)]
        exact so.some l c hl h
      · rw [xAt_rowQ hl]
        exact hle l hl
      · apply Classical.byContradiction
        intro hn
        have := hall cs (Wd.cup_mem.mpr hc) (by grind)
        obtain ⟨v, hv⟩ := this
        cases hv
  · have hlen : 0 < kvs.length := List.length_pos_iff.mpr hkn
    refine iff' (by simp; omega) ?_
    refine ⟨bd, .dK kvs, hkv, trivial, fun od => ?_⟩
    have nbw := Ne.symm nwb
    refine ⟨_, rfl, bd, od, rfl, .inl ⟨kvs, upd_same, for_it walk_keys (fun i σ H' => ∃ (us' : List V) (ws' : List Way) (o6 : Option V), σ = [some (.ref t), some (.ref pa), some (.ref wa), some rv, some (.ref bd), o5, o6, o7, none] ∧
      (∀ a o, a ≠ wa → (upd H6 bd (.frz od (.dK kvs))) a = some o → H' a = some o) ∧ H' wa = some (.lst us') ∧ All2 (WayV K H6) us' ws' ∧ ws'.length = W.L ∧ WaysOk W (wAt ws') ∧
      (∀ l, l < W.L → wAt ws' l = wAt ws l ∨ ∃ c, wAt ws' l = some c ∧ sumQ (solQ W (pAt p) (wAt ws)) c < (W.k : Rat) * solQ W (pAt p) (wAt ws) l) ∧
      (0 < i → ∃ l c, l < W.L ∧ wAt ws' l = some c ∧ sumQ (solQ W (pAt p) (wAt ws)) c < (W.k : Rat) * solQ W (pAt p) (wAt ws) l)) ⟨us, ws, o6, rfl, fun _ _ _ h => h, by rw [upd_ne nwb]; exact hwa6, hal6, hwl, wo, fun _ _ => .inl rfl, fun h => absurd h (by decide)⟩ (fun i σ H' _ q => by obtain ⟨_, _, _, _, e, _⟩ := q; exact e _ _ nbw upd_same) ?_ ?_⟩⟩
    · rintro i y σ H7 H8 hi ⟨us', ws', o6', rfl, e7, hw7, hal7, hl7, wo7, st7, ex7⟩ ⟨rfl, kk, vv, hkvi, rfl⟩
      have hm := List.mem_of_getElem? hkvi
      obtain ⟨l, rfl, hll, _⟩ := hgd _ _ hm
      obtain ⟨u, hu⟩ := valV_has hm
      obtain ⟨l2, el, _, q0, c0, cs0, g1, g2, g3, g4, g5, g6⟩ := hgd _ _ (valV_mem hu)
      have el2 : l = l2 := by
        have := Sum.inl.inj el
        omega
      subst el2
      have t67 : ∀ {v : V} {xs : List V}, TupV K H6 v xs → TupV K H8 v xs := fun h => tupV_but2 hkv hwa6 (fun a o h1 h2 q => e7 a o h2 (by rw [upd_ne h1]; exact q)) h
      obtain ⟨tc, rfl, htc⟩ := t67 g1
      have hbd7 := e7 bd _ nbw upd_same
      refine ⟨_, rfl, _, rfl, bd, .ref tc, rfl, .inl ⟨kvs, .inl (l : Int), .inr ⟨od, hbd7⟩, rfl, hu.symm⟩, tc, _, 1, c0, rfl, rfl, htc, rfl, ?_⟩
      refine ⟨_, rfl, _, rfl, wa, us', _, l, rfl, rfl, hw7, ixN_of (by rw [hal7.len, hl7]; exact hll), ?_⟩
      have hlt : sumQ (solQ W (pAt p) (wAt ws)) cs0 < (W.k : Rat) * solQ W (pAt p) (wAt ws) l := (cnv g4 hll).mp g6
      have hset : ∀ j, wAt (ws'.set l (some cs0)) j = if j = l then some cs0 else wAt ws' j := wAt_set (by omega) _
      refine ⟨us'.set l c0, ws'.set l (some cs0), _, rfl, fun a o ha q => by rw [upd_ne ha]; exact e7 a o ha q, upd_same, hal7.set l g3, by simpa using hl7, ⟨fun j c hj e => ?_, fun j c hj e => ?_⟩, fun j hj => ?_, fun _ => ⟨l, cs0, hll, by rw [hset, if_pos rfl], hlt⟩⟩
      · rw [hset] at e
        split at e
        · cases e; exact g4
        · exact wo7.cup j c hj e
      · rw [hset] at e
        split at e
        · rename_i ej
          cases e
          rw [ej]
          exact g5
        · exact wo7.bl j c hj e
      · rw [hset]
        split
        · rename_i ej
          subst ej
          exact .inr ⟨cs0, rfl, hlt⟩
        · exact st7 j hj
    · rintro σ H7 ⟨us', ws', o6', rfl, e7, hw7, hal7, hl7, wo7, st7, ex7⟩
      have st : Step W (solQ W (pAt p) (wAt ws)) (wAt ws) (wAt ws') := ⟨wo7, st7⟩
      have pr7 := st.proper ok wo pr so
      have so7 := sol_ok (p := pAt p) ok wo7 pr7
      have e67 : ∀ a o, a ≠ bd → a ≠ wa → H6 a = some o → (upd H7 bd (.dK kvs)) a = some o := fun a o h1 h2 q => by
        rw [upd_ne h1]
        exact e7 a o h2 (by rw [upd_ne h1]; exact q)
      have t67 : ∀ {v : V} {xs : List V}, TupV K H6 v xs → TupV K (upd H7 bd (.dK kvs)) v xs := fun h => tupV_but2 hkv hwa6 e67 h
      refine ⟨e7 bd _ nbw upd_same, meas W (pAt p) ws', meas_lt ok hl7 wo pr st (ex7 hlen), us', ws', _, _, _, _, _, rfl, rfl, fun a o h => e67 a o (ne_of_none h hbH) (ne_of_none h hwH) (sH6 _ _ h), ?_, by rw [upd_ne nwb]; exact hw7, hal7.mono fun _ _ z => z.but t67, hl7, wo7, pr7, fun l hl => ?_⟩
      · obtain ⟨_, e, h⟩ := t67 (t26 ⟨pa, rfl, hpa2⟩)
        cases e
        exact h
      · exact Rat.le_trans (st.falls ok so pr7 so7 l hl) (hle l hl)
end Mix
set_option maxHeartbeats 1000000
namespace Mix
open PySem PySem.Spec PyProof.Rows L2
/-! ### law_made -/
abbrev n_law_made : List Str := ["_law_top", "_law_bottom", "_law_share"]
abbrev p_law_made : List Str := ["_law_top", "_law_bottom"]
theorem sc_law_made : FnScope n_law_made p_law_made (defScope s_law_made) := ⟨rfl, rfl, rfl, by decide +kernel, rfl, by decide +kernel, by decide +kernel⟩
def t_law_made (K : PySem.W.Frag) : TS := (tSeq (tIfS (tTest (tOp rLtI (tVar 1) (tC (.int 0)))) (tPar 0 1 (tCons (tOp rSubI (tC (.int 0)) (tVar 0)) (tCons (tOp rSubI (tC (.int 0)) (tVar 1)) tNil))) tNext)
  (tSeq (tAsg (tCall (sp_law_divisor K) [] E0 (tCons (tCB rAbs (tCons (tVar 0) tNil)) (tCons (tVar 1) tNil))) (gName 2))
  (tRet (tTup (tCons (tOp rDivI (tVar 0) (tVar 2)) (tCons (tOp rDivI (tVar 1) (tVar 2)) tNil))))))
theorem dv_law_made {P : Program} {w : World} {K : PySem.W.Frag} {mg : Str → Option Value} {base : Heap} (T : Txt K mg) (claw_divisor : Cal P w K mg base 1 "_law_divisor" (sp_law_divisor K)) (f : Addr) (cdv : Value) (A : Around) (outer : List Env) (s : Shared) (H : Hp) (E : XK) (hr : Room 1 (A.deeper (envOfC "_law_made" (defScope s_law_made) s.heap.objs.size f cdv))) :
    PSs (cxOf CX0 P w K mg base n_law_made "_law_made" (defScope s_law_made) f cdv A outer s H E).nox (defBody s_law_made) (t_law_made K) := by
  unfold t_law_made
  exact (pss_cons (ps_if (pt_cmpR op_lt (pv 1) pe_int (nomark _)) (pss_one (ps_par (i := 0) (j := 1) rfl sc_law_made.nd rfl rfl (by decide) rfl rfl (pa_cons (pe_op op_sub pe_int (pv 0)) (pa_cons (pe_op op_sub pe_int (pv 1)) pa_nil)) (by rfl))) pss_nil)
  (pss_cons (ps_set (i := 2) sc_law_made.nd rfl (Or.inl rfl) (pe_c claw_divisor hr (by decide) rfl (pa_cons (pe_callB call_abs rfl T.babs boot_abs (pa_cons (pv 0) pa_nil)) (pa_cons (pv 1) pa_nil))))
  (pss_one (ps_ret (pe_tup (pa_cons (pe_op op_fdivW (pv 0) (pv 2)) (pa_cons (pe_op op_fdivW (pv 1) (pv 2)) pa_nil)))))))

/-! ### law_plus -/
abbrev n_law_plus : List Str := ["_law_one", "_law_other", "_law_often"]
abbrev p_law_plus : List Str := ["_law_one", "_law_other", "_law_often"]
theorem sc_law_plus : FnScope n_law_plus p_law_plus (defScope s_law_plus) := ⟨rfl, rfl, rfl, by decide +kernel, rfl, by decide +kernel, by decide +kernel⟩
def t_law_plus (K : PySem.W.Frag) : TS := (tRet (tCall (sp_law_made K) [] E0 (tCons (tOp rAddI (tOp rMulI (tOp (rIxT K) (tVar 0) (tC (.int 0))) (tOp (rIxT K) (tVar 1) (tC (.int 1)))) (tOp rMulI (tOp rMulI (tVar 2) (tOp (rIxT K) (tVar 1) (tC (.int 0)))) (tOp (rIxT K) (tVar 0) (tC (.int 1))))) (tCons (tOp rMulI (tOp (rIxT K) (tVar 0) (tC (.int 1))) (tOp (rIxT K) (tVar 1) (tC (.int 1)))) tNil))))
theorem dv_law_plus {P : Program} {w : World} {K : PySem.W.Frag} {mg : Str → Option Value} {base : Heap} (T : Txt K mg) (claw_made : Cal P w K mg base 2 "_law_made" (sp_law_made K)) (f : Addr) (cdv : Value) (A : Around) (outer : List Env) (s : Shared) (H : Hp) (E : XK) (hr : Room 2 (A.deeper (envOfC "_law_plus" (defScope s_law_plus) s.heap.objs.size f cdv))) :
    PSs (cxOf CX0 P w K mg base n_law_plus "_law_plus" (defScope s_law_plus) f cdv A outer s H E).nox (defBody s_law_plus) (t_law_plus K) := by
  unfold t_law_plus
  exact (pss_one (ps_ret (pe_c claw_made hr (by decide) rfl (pa_cons (pe_op op_add (pe_op op_mulW (pe_ix ix_tup (pv 0) pe_int (fun _ _ => rfl)) (pe_ix ix_tup (pv 1) pe_int (fun _ _ => rfl))) (pe_op op_mulW (pe_op op_mulW (pv 2) (pe_ix ix_tup (pv 1) pe_int (fun _ _ => rfl))) (pe_ix ix_tup (pv 0) pe_int (fun _ _ => rfl)))) (pa_cons (pe_op op_mulW (pe_ix ix_tup (pv 0) pe_int (fun _ _ => rfl)) (pe_ix ix_tup (pv 1) pe_int (fun _ _ => rfl))) pa_nil)))))

/-! ### law_is_fraction -/
abbrev n_law_is_fraction : List Str := ["_law_value", "_law_part"]
abbrev p_law_is_fraction : List Str := ["_law_value"]
theorem sc_law_is_fraction : FnScope n_law_is_fraction p_law_is_fraction (defScope s_law_is_fraction) := ⟨rfl, rfl, rfl, by decide +kernel, rfl, by decide +kernel, by decide +kernel⟩
def t_law_is_fraction (K : PySem.W.Frag) : TS := (tSeq (tIfS (tOr (tNot (tB (tCB (rIsi K) (tCons (tVar 0) (tCons (tC (.ty "tuple")) tNil))))) (tTest (tOp rNe (tCB (rLen K) (tCons (tVar 0) tNil)) (tC (.int 2))))) (tRet (tC (.bl false))) tNext)
  (tSeq (tFor (iTup K (tVar 0)) (gName 1)
    (tIfS (tOr (tNot (tB (tCB (rIsi K) (tCons (tVar 1) (tCons (tC (.ty "int")) tNil))))) (tB (tCB (rIsi K) (tCons (tVar 1) (tCons (tC (.ty "bool")) tNil))))) (tRet (tC (.bl false))) tNext))
  (tRet (tAndV (tOp rGtI (tOp (rIxT K) (tVar 0) (tC (.int 1))) (tC (.int 0))) (tOp rEq (tCall (sp_law_divisor K) [] E0 (tCons (tCB rAbs (tCons (tOp (rIxT K) (tVar 0) (tC (.int 0))) tNil)) (tCons (tOp (rIxT K) (tVar 0) (tC (.int 1))) tNil))) (tC (.int 1)))))))
theorem dv_law_is_fraction {P : Program} {w : World} {K : PySem.W.Frag} {mg : Str → Option Value} {base : Heap} (T : Txt K mg) (claw_divisor : Cal P w K mg base 1 "_law_divisor" (sp_law_divisor K)) (f : Addr) (cdv : Value) (A : Around) (outer : List Env) (s : Shared) (H : Hp) (E : XK) (hr : Room 1 (A.deeper (envOfC "_law_is_fraction" (defScope s_law_is_fraction) s.heap.objs.size f cdv))) :
    PSs (cxOf CX0 P w K mg base n_law_is_fraction "_law_is_fraction" (defScope s_law_is_fraction) f cdv A outer s H E).nox (defBody s_law_is_fraction) (t_law_is_fraction K) := by
  unfold t_law_is_fraction
  exact (pss_cons (ps_if (PW.pt (pw_or (pt_not (pt_val (pe_callB call_isi rfl T.bisinstance boot_isinstance (pa_cons (pv 0) (pa_cons (pe_bltn (v := .ty "tuple") rfl T.btuple boot_tuple rfl) pa_nil))))) (pw_or1 (pt_cmpR op_ne (pe_callB call_len_seq rfl T.blen boot_len (pa_cons (pv 0) pa_nil)) pe_int (nomark _))))) (pss_one (ps_ret pe_bl)) pss_nil)
  (pss_cons (ps_for PassesOwn.never rfl (pi_tup (pv 0)) (pg_name (i := 1) sc_law_is_fraction.nd rfl (Or.inl rfl))
    (pss_one (ps_if (PW.pt (pw_or (pt_not (pt_val (pe_callB call_isi rfl T.bisinstance boot_isinstance (pa_cons (pv 1) (pa_cons (pe_bltn (v := .ty "int") rfl T.bint boot_int rfl) pa_nil))))) (pw_or1 (pt_val (pe_callB call_isi rfl T.bisinstance boot_isinstance (pa_cons (pv 1) (pa_cons (pe_bltn (v := .ty "bool") rfl T.bbool boot_bool rfl) pa_nil))))))) (pss_one (ps_ret pe_bl)) pss_nil)))
  (pss_one (ps_ret (pe_and (pe_cmpR op_gt (pe_ix ix_tup (pv 0) pe_int (fun _ _ => rfl)) pe_int (nomark _)) (pe_one (pe_cmpR op_eq (pe_c claw_divisor hr (by decide) rfl (pa_cons (pe_callB call_abs rfl T.babs boot_abs (pa_cons (pe_ix ix_tup (pv 0) pe_int (fun _ _ => rfl)) pa_nil)) (pa_cons (pe_ix ix_tup (pv 0) pe_int (fun _ _ => rfl)) pa_nil))) pe_int (nomark _))))))))

/-! ### law_weighed -/
abbrev n_law_weighed : List Str := ["_law_world_here", "_law_row", "_law_cups", "_law_found", "_law_cup"]
abbrev p_law_weighed : List Str := ["_law_world_here", "_law_row", "_law_cups"]
theorem sc_law_weighed : FnScope n_law_weighed p_law_weighed (defScope s_law_weighed) := ⟨rfl, rfl, rfl, by decide +kernel, rfl, by decide +kernel, by decide +kernel⟩
def t_law_weighed (K : PySem.W.Frag) : TS := (tSeq (tAsg (tCall (sp_law_made K) [] E0 (tCons (tOp rMulI (tOp (rIxT K) (tVar 0) (tC (.int 0))) (tOp (rIxT K) (tOp (rIxT K) (tVar 1) (tCall (sp_law_blend K) [] E0 (tCons (tOp (rIxT K) (tVar 0) (tC (.int 1))) (tCons (tOp (rIxT K) (tVar 0) (tC (.int 2))) (tCons (tVar 2) tNil))))) (tC (.int 0)))) (tCons (tOp (rIxT K) (tOp (rIxT K) (tVar 1) (tCall (sp_law_blend K) [] E0 (tCons (tOp (rIxT K) (tVar 0) (tC (.int 1))) (tCons (tOp (rIxT K) (tVar 0) (tC (.int 2))) (tCons (tVar 2) tNil))))) (tC (.int 1))) tNil))) (gName 3))
  (tSeq (tFor (iSeq K (tVar 2)) (gName 4)
    (tAsg (tCall (sp_law_plus K) [] E0 (tCons (tVar 3) (tCons (tOp (rIxT K) (tVar 1) (tVar 4)) (tCons (tOp rSubI (tC (.int 0)) (tC (.int 1))) tNil)))) (gName 3)))
  (tRet (tOp (rIxT K) (tVar 3) (tC (.int 0))))))
theorem dv_law_weighed {P : Program} {w : World} {K : PySem.W.Frag} {mg : Str → Option Value} {base : Heap} (T : Txt K mg) (claw_made : Cal P w K mg base 2 "_law_made" (sp_law_made K)) (claw_blend : Cal P w K mg base 1 "_law_blend" (sp_law_blend K)) (claw_plus : Cal P w K mg base 3 "_law_plus" (sp_law_plus K)) (f : Addr) (cdv : Value) (A : Around) (outer : List Env) (s : Shared) (H : Hp) (E : XK) (hr : Room 3 (A.deeper (envOfC "_law_weighed" (defScope s_law_weighed) s.heap.objs.size f cdv))) :
    PSs (cxOf CX0 P w K mg base n_law_weighed "_law_weighed" (defScope s_law_weighed) f cdv A outer s H E).nox (defBody s_law_weighed) (t_law_weighed K) := by
  unfold t_law_weighed
  exact (pss_cons (ps_set (i := 3) sc_law_weighed.nd rfl (Or.inl rfl) (pe_c claw_made hr (by decide) rfl (pa_cons (pe_op op_mulW (pe_ix ix_tup (pv 0) pe_int (fun _ _ => rfl)) (pe_ix ix_tup (pe_ix ix_tup (pv 1) (pe_c claw_blend hr (by decide) rfl (pa_cons (pe_ix ix_tup (pv 0) pe_int (fun _ _ => rfl)) (pa_cons (pe_ix ix_tup (pv 0) pe_int (fun _ _ => rfl)) (pa_cons (pv 2) pa_nil)))) (fun _ _ => rfl)) pe_int (fun _ _ => rfl))) (pa_cons (pe_ix ix_tup (pe_ix ix_tup (pv 1) (pe_c claw_blend hr (by decide) rfl (pa_cons (pe_ix ix_tup (pv 0) pe_int (fun _ _ => rfl)) (pa_cons (pe_ix ix_tup (pv 0) pe_int (fun _ _ => rfl)) (pa_cons (pv 2) pa_nil)))) (fun _ _ => rfl)) pe_int (fun _ _ => rfl)) pa_nil))))
  (pss_cons (ps_for PassesOwn.never rfl (pi_seq (pv 2)) (pg_name (i := 4) sc_law_weighed.nd rfl (Or.inl rfl))
    (pss_one (ps_set (i := 3) sc_law_weighed.nd rfl (Or.inl rfl) (pe_c claw_plus hr (by decide) rfl (pa_cons (pv 3) (pa_cons (pe_ix ix_tup (pv 1) (pv 4) (fun _ _ => rfl)) (pa_cons (pe_op op_sub pe_int pe_int) pa_nil)))))))
  (pss_one (ps_ret (pe_ix ix_tup (pv 3) pe_int (fun _ _ => rfl))))))

/-! ### law_is_way -/
abbrev n_law_is_way : List Str := ["_law_world_here", "_law_label_here", "_law_way", "_law_cup"]
abbrev p_law_is_way : List Str := ["_law_world_here", "_law_label_here", "_law_way"]
theorem sc_law_is_way : FnScope n_law_is_way p_law_is_way (defScope s_law_is_way) := ⟨rfl, rfl, rfl, by decide +kernel, rfl, by decide +kernel, by decide +kernel⟩
def t_law_is_way (K : PySem.W.Frag) : TS := (tSeq (tIfS (tTest (tOp rIsNo (tVar 2) (tC .non))) (tRet (tC (.bl true))) tNext)
  (tSeq (tIfS (tOr (tNot (tB (tCB (rIsi K) (tCons (tVar 2) (tCons (tC (.ty "tuple")) tNil))))) (tTest (tOp rNe (tCB (rLen K) (tCons (tVar 2) tNil)) (tOp (rIxT K) (tVar 0) (tC (.int 0)))))) (tRet (tC (.bl false))) tNext)
  (tSeq (tFor (iTup K (tVar 2)) (gName 3)
    (tIfS (tOr (tNot (tB (tCB (rIsi K) (tCons (tVar 3) (tCons (tC (.ty "int")) tNil))))) (tOr (tB (tCB (rIsi K) (tCons (tVar 3) (tCons (tC (.ty "bool")) tNil)))) (tTest (tOp (rInRng true) (tVar 3) (tCB rRange1 (tCons (tOp (rIxT K) (tVar 0) (tC (.int 1))) tNil)))))) (tRet (tC (.bl false))) tNext))
  (tRet (tOp rEq (tCall (sp_law_blend K) [] E0 (tCons (tOp (rIxT K) (tVar 0) (tC (.int 1))) (tCons (tOp (rIxT K) (tVar 0) (tC (.int 2))) (tCons (tVar 2) tNil)))) (tVar 1))))))
theorem dv_law_is_way {P : Program} {w : World} {K : PySem.W.Frag} {mg : Str → Option Value} {base : Heap} (T : Txt K mg) (claw_blend : Cal P w K mg base 1 "_law_blend" (sp_law_blend K)) (f : Addr) (cdv : Value) (A : Around) (outer : List Env) (s : Shared) (H : Hp) (E : XK) (hr : Room 1 (A.deeper (envOfC "_law_is_way" (defScope s_law_is_way) s.heap.objs.size f cdv))) :
    PSs (cxOf CX0 P w K mg base n_law_is_way "_law_is_way" (defScope s_law_is_way) f cdv A outer s H E).nox (defBody s_law_is_way) (t_law_is_way K) := by
  unfold t_law_is_way
  exact (pss_cons (ps_if (pt_cmpR op_isN (pv 2) pe_non (nomark _)) (pss_one (ps_ret pe_bl)) pss_nil)
  (pss_cons (ps_if (PW.pt (pw_or (pt_not (pt_val (pe_callB call_isi rfl T.bisinstance boot_isinstance (pa_cons (pv 2) (pa_cons (pe_bltn (v := .ty "tuple") rfl T.btuple boot_tuple rfl) pa_nil))))) (pw_or1 (pt_cmpR op_ne (pe_callB call_len_seq rfl T.blen boot_len (pa_cons (pv 2) pa_nil)) (pe_ix ix_tup (pv 0) pe_int (fun _ _ => rfl)) (nomark _))))) (pss_one (ps_ret pe_bl)) pss_nil)
  (pss_cons (ps_for PassesOwn.never rfl (pi_tup (pv 2)) (pg_name (i := 3) sc_law_is_way.nd rfl (Or.inl rfl))
    (pss_one (ps_if (PW.pt (pw_or (pt_not (pt_val (pe_callB call_isi rfl T.bisinstance boot_isinstance (pa_cons (pv 3) (pa_cons (pe_bltn (v := .ty "int") rfl T.bint boot_int rfl) pa_nil))))) (pw_or (pt_val (pe_callB call_isi rfl T.bisinstance boot_isinstance (pa_cons (pv 3) (pa_cons (pe_bltn (v := .ty "bool") rfl T.bbool boot_bool rfl) pa_nil)))) (pw_or1 (pt_cmpR op_notInRng (pv 3) (pe_callTy cr_range1 rfl T.brange boot_range (pa_cons (pe_ix ix_tup (pv 0) pe_int (fun _ _ => rfl)) pa_nil)) (by rfl)))))) (pss_one (ps_ret pe_bl)) pss_nil)))
  (pss_one (ps_ret (pe_cmpR op_eq (pe_c claw_blend hr (by decide) rfl (pa_cons (pe_ix ix_tup (pv 0) pe_int (fun _ _ => rfl)) (pa_cons (pe_ix ix_tup (pv 0) pe_int (fun _ _ => rfl)) (pa_cons (pv 2) pa_nil)))) (pv 1) (nomark _)))))))

/-! ### law_is_costs -/
abbrev n_law_is_costs : List Str := ["_law_world_here", "_law_prices_here", "_law_value", "_law_part", "_law_row", "_law_ways", "_law_label_here", "_law_way", "_law_cups", "_law_done", "_law_turn", "_law_number", "_law_cup"]
abbrev p_law_is_costs : List Str := ["_law_world_here", "_law_prices_here", "_law_value"]
theorem sc_law_is_costs : FnScope n_law_is_costs p_law_is_costs (defScope s_law_is_costs) := ⟨rfl, rfl, rfl, by decide +kernel, rfl, by decide +kernel, by decide +kernel⟩
def t_law_is_costs (K : PySem.W.Frag) : TS := (tSeq (tIfS (tOr (tNot (tB (tCB (rIsi K) (tCons (tVar 2) (tCons (tC (.ty "tuple")) tNil))))) (tTest (tOp rNe (tCB (rLen K) (tCons (tVar 2) tNil)) (tC (.int 2))))) (tRet (tC (.bl false))) tNext)
  (tSeq (tFor (iTup K (tVar 2)) (gName 3)
    (tIfS (tOr (tNot (tB (tCB (rIsi K) (tCons (tVar 3) (tCons (tC (.ty "tuple")) tNil))))) (tTest (tOp rNe (tCB (rLen K) (tCons (tVar 3) tNil)) (tOp (rIxT K) (tVar 0) (tC (.int 1)))))) (tRet (tC (.bl false))) tNext))
  (tSeq (tAsg (tVar 2) (gTup K 2 (gCons (gName 4) (gCons (gName 5) gNil))))
  (tSeq (tIfS (tNot (tB (tCB (rAll K) (tCons (tLc (iTup K (tVar 4)) (gName 11) tYes (tCall (sp_law_is_fraction K) [] E0 (tCons (tVar 11) tNil)) [11]) tNil)))) (tRet (tC (.bl false))) tNext)
  (tSeq (tFor (iEnumT K (tCons (tVar 5) tNil)) (gTup K 2 (gCons (gName 6) (gCons (gName 7) gNil)))
    (tSeq (tIfS (tOr (tNot (tB (tCall (sp_law_is_way K) [] E0 (tCons (tVar 0) (tCons (tVar 6) (tCons (tVar 7) tNil)))))) (tTest (tOp rGtI (tOp (rIxT K) (tOp (rIxT K) (tVar 4) (tVar 6)) (tC (.int 0))) (tOp rMulI (tOp (rIxL K) (tVar 1) (tVar 6)) (tOp (rIxT K) (tOp (rIxT K) (tVar 4) (tVar 6)) (tC (.int 1))))))) (tRet (tC (.bl false))) tNext)
  (tSeq (tIfS (tAnd (tTest (tOp rIsNo (tVar 7) (tC .non))) (tTest (tOp (rNeD K) (tOp (rIxT K) (tVar 4) (tVar 6)) (tTup (tCons (tOp (rIxL K) (tVar 1) (tVar 6)) (tCons (tC (.int 1)) tNil)))))) (tRet (tC (.bl false))) tNext)
  (tIfS (tAnd (tTest (tOp rNotNo (tVar 7) (tC .non))) (tTest (tOp rNe (tCall (sp_law_weighed K) [] E0 (tCons (tVar 0) (tCons (tVar 4) (tCons (tVar 7) tNil)))) (tC (.int 0))))) (tRet (tC (.bl false))) tNext))))
  (tSeq (tFor (iList K (tCall (sp_law_tuples K) [] E0 (tCons (tOp (rIxT K) (tVar 0) (tC (.int 0))) (tCons (tOp (rIxT K) (tVar 0) (tC (.int 1))) tNil)))) (gName 8)
    (tIfS (tTest (tOp rGtI (tCall (sp_law_weighed K) [] E0 (tCons (tVar 0) (tCons (tVar 4) (tCons (tVar 8) tNil)))) (tC (.int 0)))) (tRet (tC (.bl false))) tNext))
  (tSeq (tAsg (tLst tNil) (gName 9))
  (tSeq (tFor (iRng1 (tCons (tOp (rIxT K) (tVar 0) (tC (.int 1))) tNil)) (gName 10)
    (tFor (iEnumT K (tCons (tVar 5) tNil)) (gTup K 2 (gCons (gName 6) (gCons (gName 7) gNil)))
    (tIfS (tAnd (tTest (tOp (rIn K true) (tVar 6) (tVar 9))) (tOr (tTest (tOp rIsNo (tVar 7) (tC .non))) (tB (tCB (rAny K) (tCons (tLc (iTup K (tVar 7)) (gName 12) tYes (tOp (rIn K false) (tVar 12) (tVar 9)) [12]) tNil))))) (tDrop (tBM K "list" rAppend (tVar 9) (tCons (tVar 6) tNil))) tNext)))
  (tRet (tOp rEq (tCB (rLen K) (tCons (tVar 9) tNil)) (tOp (rIxT K) (tVar 0) (tC (.int 1)))))))))))))
theorem dv_law_is_costs {P : Program} {w : World} {K : PySem.W.Frag} {mg : Str → Option Value} {base : Heap} (T : Txt K mg) (claw_is_fraction : Cal P w K mg base 2 "_law_is_fraction" (sp_law_is_fraction K)) (claw_is_way : Cal P w K mg base 2 "_law_is_way" (sp_law_is_way K)) (claw_weighed : Cal P w K mg base 4 "_law_weighed" (sp_law_weighed K)) (claw_tuples : Cal P w K mg base 1 "_law_tuples" (sp_law_tuples K)) (f : Addr) (cdv : Value) (A : Around) (outer : List Env) (s : Shared) (H : Hp) (E : XK) (hr : Room 4 (A.deeper (envOfC "_law_is_costs" (defScope s_law_is_costs) s.heap.objs.size f cdv))) :
    PSs (cxOf CX0 P w K mg base n_law_is_costs "_law_is_costs" (defScope s_law_is_costs) f cdv A outer s H E).nox (defBody s_law_is_costs) (t_law_is_costs K) := by
  unfold t_law_is_costs
  exact (pss_cons (ps_if (PW.pt (pw_or (pt_not (pt_val (pe_callB call_isi rfl T.bisinstance boot_isinstance (pa_cons (pv 2) (pa_cons (pe_bltn (v := .ty "tuple") rfl T.btuple boot_tuple rfl) pa_nil))))) (pw_or1 (pt_cmpR op_ne (pe_callB call_len_seq rfl T.blen boot_len (pa_cons (pv 2) pa_nil)) pe_int (nomark _))))) (pss_one (ps_ret pe_bl)) pss_nil)
  (pss_cons (ps_for PassesOwn.never rfl (pi_tup (pv 2)) (pg_name (i := 3) sc_law_is_costs.nd rfl (Or.inl rfl))
    (pss_one (ps_if (PW.pt (pw_or (pt_not (pt_val (pe_callB call_isi rfl T.bisinstance boot_isinstance (pa_cons (pv 3) (pa_cons (pe_bltn (v := .ty "tuple") rfl T.btuple boot_tuple rfl) pa_nil))))) (pw_or1 (pt_cmpR op_ne (pe_callB call_len_seq rfl T.blen boot_len (pa_cons (pv 3) pa_nil)) (pe_ix ix_tup (pv 0) pe_int (fun _ _ => rfl)) (nomark _))))) (pss_one (ps_ret pe_bl)) pss_nil)))
  (pss_cons (ps_asg (pv 2) (pg_tup rfl (pgs_cons (pg_name (i := 4) sc_law_is_costs.nd rfl (Or.inl rfl)) (pgs_cons (pg_name (i := 5) sc_law_is_costs.nd rfl (Or.inl rfl)) pgs_nil))))
  (pss_cons (ps_if (pt_not (pt_val (pe_callB (cr_all rfl) rfl T.ball boot_all (pa_cons (pe_lc (own := [("_law_number", 11)]) (g := (gName 11)) (tt := tYes) (te := (tCall (sp_law_is_fraction K) [] E0 (tCons (tVar 11) tNil))) rfl sc_law_is_costs.nd (pi_tup (pv 4)) (blkOk_by (by kernel_rfl)) (fun _ _ _ _ _ => (pg_name (i := 11) sc_law_is_costs.nd rfl (Or.inl rfl))) (fun _ _ _ _ _ => pts_nil) (fun _ _ _ _ _ => (pe_c claw_is_fraction hr (by decide) rfl (pa_cons (pv 11) pa_nil)))) pa_nil)))) (pss_one (ps_ret pe_bl)) pss_nil)
  (pss_cons (ps_for PassesOwn.never rfl (pi_enumT rfl T.benumerate (pa_cons (pv 5) pa_nil)) (pg_tup rfl (pgs_cons (pg_name (i := 6) sc_law_is_costs.nd rfl (Or.inl rfl)) (pgs_cons (pg_name (i := 7) sc_law_is_costs.nd rfl (Or.inl rfl)) pgs_nil)))
    (pss_cons (ps_if (PW.pt (pw_or (pt_not (pt_val (pe_c claw_is_way hr (by decide) rfl (pa_cons (pv 0) (pa_cons (pv 6) (pa_cons (pv 7) pa_nil)))))) (pw_or1 (pt_cmpR op_gt (pe_ix ix_tup (pe_ix ix_tup (pv 4) (pv 6) (fun _ _ => rfl)) pe_int (fun _ _ => rfl)) (pe_op op_mulW (pe_ix ix_list (pv 1) (pv 6) (fun _ _ => rfl)) (pe_ix ix_tup (pe_ix ix_tup (pv 4) (pv 6) (fun _ _ => rfl)) pe_int (fun _ _ => rfl))) (nomark _))))) (pss_one (ps_ret pe_bl)) pss_nil)
  (pss_cons (ps_if (PW.pt (pw_and (pt_cmpR op_isN (pv 7) pe_non (nomark _)) (pw_and1 (pt_cmpR (op_neD hr.units) (pe_ix ix_tup (pv 4) (pv 6) (fun _ _ => rfl)) (pe_tup (pa_cons (pe_ix ix_list (pv 1) (pv 6) (fun _ _ => rfl)) (pa_cons pe_int pa_nil))) (nomark _))))) (pss_one (ps_ret pe_bl)) pss_nil)
  (pss_one (ps_if (PW.pt (pw_and (pt_cmpR op_notN (pv 7) pe_non (nomark _)) (pw_and1 (pt_cmpR op_ne (pe_c claw_weighed hr (by decide) rfl (pa_cons (pv 0) (pa_cons (pv 4) (pa_cons (pv 7) pa_nil)))) pe_int (nomark _))))) (pss_one (ps_ret pe_bl)) pss_nil)))))
  (pss_cons (ps_for PassesOwn.never rfl (pi_list (pe_c claw_tuples hr (by decide) rfl (pa_cons (pe_ix ix_tup (pv 0) pe_int (fun _ _ => rfl)) (pa_cons (pe_ix ix_tup (pv 0) pe_int (fun _ _ => rfl)) pa_nil)))) (pg_name (i := 8) sc_law_is_costs.nd rfl (Or.inl rfl))
    (pss_one (ps_if (pt_cmpR op_gt (pe_c claw_weighed hr (by decide) rfl (pa_cons (pv 0) (pa_cons (pv 4) (pa_cons (pv 8) pa_nil)))) pe_int (nomark _)) (pss_one (ps_ret pe_bl)) pss_nil)))
  (pss_cons (ps_set (i := 9) sc_law_is_costs.nd rfl (Or.inr rfl) (pe_lst pa_nil))
  (pss_cons (ps_for PassesOwn.never rfl (pi_range1 rfl T.brange (pa_cons (pe_ix ix_tup (pv 0) pe_int (fun _ _ => rfl)) pa_nil)) (pg_name (i := 10) sc_law_is_costs.nd rfl (Or.inl rfl))
    (pss_one (ps_for PassesOwn.never rfl (pi_enumT rfl T.benumerate (pa_cons (pv 5) pa_nil)) (pg_tup rfl (pgs_cons (pg_name (i := 6) sc_law_is_costs.nd rfl (Or.inl rfl)) (pgs_cons (pg_name (i := 7) sc_law_is_costs.nd rfl (Or.inl rfl)) pgs_nil)))
    (pss_one (ps_if (PW.pt (pw_and (pt_cmpR op_notIn_seq (pv 6) (pv 9) (by rfl)) (pw_and1 (PW.pt (pw_or (pt_cmpR op_isN (pv 7) pe_non (nomark _)) (pw_or1 (pt_val (pe_callB (cr_any rfl) rfl T.bany boot_any (pa_cons (pe_lc (own := [("_law_cup", 12)]) (g := (gName 12)) (tt := tYes) (te := (tOp (rIn K false) (tVar 12) (tVar 9))) rfl sc_law_is_costs.nd (pi_tup (pv 7)) (blkOk_by (by kernel_rfl)) (fun _ _ _ _ _ => (pg_name (i := 12) sc_law_is_costs.nd rfl (Or.inl rfl))) (fun _ _ _ _ _ => pts_nil) (fun _ _ _ _ _ => (pe_cmpR op_in_seq (pv 12) (pv 9) (by rfl)))) pa_nil))))))))) (pss_one (ps_expr (pe_bm PySem.F.plainAttrs_list PySem.F.slot_list_append PySem.F.type_list_append mt_append (pv 9) (pa_cons (pv 6) pa_nil)))) pss_nil)))))
  (pss_one (ps_ret (pe_cmpR op_eq (pe_callB call_len_seq rfl T.blen boot_len (pa_cons (pv 9) pa_nil)) (pe_ix ix_tup (pv 0) pe_int (fun _ _ => rfl)) (nomark _))))))))))))

end Mix
set_option maxHeartbeats 2000000
namespace Mix
open PySem PySem.Spec PyProof.Rows L2
local macro_rules | `(tactic| walk_at "nx") => `(tactic| (first | refine ⟨_, rfl, ?_⟩ | refine ⟨_, _, rfl, rfl, ?_⟩))
/-! ### divisor -/
abbrev n_divisor : List Str := ["one", "other"]
abbrev p_divisor : List Str := ["one", "other"]
theorem sc_divisor : FnScope n_divisor p_divisor (defScope s_divisor) := ⟨rfl, rfl, rfl, by decide +kernel, rfl, by decide +kernel, by decide +kernel⟩
def t_divisor (K : PySem.W.Frag) : TS := (tSeq (tWhile (tTest (tOp rNe (tVar 1) (tC (.int 0)))) (tPar 0 1 (tCons (tVar 1) (tCons (tOp rModI (tCB rInt1 (tCons (tVar 0) tNil)) (tVar 1)) tNil))))
  (tRet (tVar 0)))
theorem dv_divisor {P : Program} {w : World} {K : PySem.W.Frag} {mg : Str → Option Value} {base : Heap} (T : Txt K mg)  (f : Addr) (cdv : Value) (A : Around) (outer : List Env) (s : Shared) (H : Hp) (E : XK) (hr : Room 0 (A.deeper (envOfC "divisor" (defScope s_divisor) s.heap.objs.size f cdv))) :
    PSs (cxOf CX0 P w K mg base n_divisor "divisor" (defScope s_divisor) f cdv A outer s H E).nox (defBody s_divisor) (t_divisor K) := by
  unfold t_divisor
  exact (pss_cons (ps_while PassesOwn.never (pt_cmpR op_ne (pv 1) pe_int (nomark _)) (pss_one (ps_par (i := 0) (j := 1) rfl sc_divisor.nd rfl rfl (by decide) rfl rfl (pa_cons (pv 1) (pa_cons (pe_op op_mod (pe_callTy call_int1 rfl T.bint boot_int (pa_cons (pv 0) pa_nil)) (pv 1)) pa_nil)) (by rfl))))
  (pss_one (ps_ret (pv 0))))
/-! ### made -/
abbrev n_made : List Str := ["top", "bottom", "share"]
abbrev p_made : List Str := ["top", "bottom"]
theorem sc_made : FnScope n_made p_made (defScope s_made) := ⟨rfl, rfl, rfl, by decide +kernel, rfl, by decide +kernel, by decide +kernel⟩
def t_made (K : PySem.W.Frag) : TS := (tSeq (tIfS (tTest (tOp rEq (tVar 1) (tC (.int 0)))) tNever tNext)
  (tSeq (tAsg (tCall (sp_divisor K) [] E0 (tCons (tCB rAbs (tCons (tVar 0) tNil)) (tCons (tCB rAbs (tCons (tVar 1) tNil)) tNil))) (gName 2))
  (tSeq (tIfS (tTest (tOp rLtI (tVar 1) (tC (.int 0)))) (tAsg (tUn rNegI (tVar 2)) (gName 2)) tNext)
  (tRet (tTup (tCons (tOp rDivI (tVar 0) (tVar 2)) (tCons (tOp rDivI (tVar 1) (tVar 2)) tNil)))))))
theorem dv_made {P : Program} {w : World} {K : PySem.W.Frag} {mg : Str → Option Value} {base : Heap} (T : Txt K mg) (cdivisor : Cal P w K mg base 1 "divisor" (sp_divisor K)) (f : Addr) (cdv : Value) (A : Around) (outer : List Env) (s : Shared) (H : Hp) (E : XK) (hr : Room 1 (A.deeper (envOfC "made" (defScope s_made) s.heap.objs.size f cdv))) :
    PSs (cxOf CX0 P w K mg base n_made "made" (defScope s_made) f cdv A outer s H E).nox (defBody s_made) (t_made K) := by
  unfold t_made
  exact (pss_cons (ps_if (pt_cmpR op_eq (pv 1) pe_int (nomark _)) (pss_one ps_never) pss_nil)
  (pss_cons (ps_set (i := 2) sc_made.nd rfl (Or.inl rfl) (pe_c cdivisor hr (by decide) rfl (pa_cons (pe_callB call_abs rfl T.babs boot_abs (pa_cons (pv 0) pa_nil)) (pa_cons (pe_callB call_abs rfl T.babs boot_abs (pa_cons (pv 1) pa_nil)) pa_nil))))
  (pss_cons (ps_if (pt_cmpR op_lt (pv 1) pe_int (nomark _)) (pss_one (ps_set (i := 2) sc_made.nd rfl (Or.inl rfl) (pe_un un_neg (pv 2)))) pss_nil)
  (pss_one (ps_ret (pe_tup (pa_cons (pe_op op_fdivW (pv 0) (pv 2)) (pa_cons (pe_op op_fdivW (pv 1) (pv 2)) pa_nil))))))))
/-! ### added -/
abbrev n_added : List Str := ["one", "other"]
abbrev p_added : List Str := ["one", "other"]
theorem sc_added : FnScope n_added p_added (defScope s_added) := ⟨rfl, rfl, rfl, by decide +kernel, rfl, by decide +kernel, by decide +kernel⟩
def t_added (K : PySem.W.Frag) : TS := (tRet (tCall (sp_made K) [] E0 (tCons (tOp rAddI (tOp rMulI (tOp (rIxT K) (tVar 0) (tC (.int 0))) (tOp (rIxT K) (tVar 1) (tC (.int 1)))) (tOp rMulI (tOp (rIxT K) (tVar 1) (tC (.int 0))) (tOp (rIxT K) (tVar 0) (tC (.int 1))))) (tCons (tOp rMulI (tOp (rIxT K) (tVar 0) (tC (.int 1))) (tOp (rIxT K) (tVar 1) (tC (.int 1)))) tNil))))
theorem dv_added {P : Program} {w : World} {K : PySem.W.Frag} {mg : Str → Option Value} {base : Heap} (T : Txt K mg) (cmade : Cal P w K mg base 2 "made" (sp_made K)) (f : Addr) (cdv : Value) (A : Around) (outer : List Env) (s : Shared) (H : Hp) (E : XK) (hr : Room 2 (A.deeper (envOfC "added" (defScope s_added) s.heap.objs.size f cdv))) :
    PSs (cxOf CX0 P w K mg base n_added "added" (defScope s_added) f cdv A outer s H E).nox (defBody s_added) (t_added K) := by
  unfold t_added
  exact (pss_one (ps_ret (pe_c cmade hr (by decide) rfl (pa_cons (pe_op op_add (pe_op op_mulW (pe_ix ix_tup (pv 0) pe_int (fun _ _ => rfl)) (pe_ix ix_tup (pv 1) pe_int (fun _ _ => rfl))) (pe_op op_mulW (pe_ix ix_tup (pv 1) pe_int (fun _ _ => rfl)) (pe_ix ix_tup (pv 0) pe_int (fun _ _ => rfl)))) (pa_cons (pe_op op_mulW (pe_ix ix_tup (pv 0) pe_int (fun _ _ => rfl)) (pe_ix ix_tup (pv 1) pe_int (fun _ _ => rfl))) pa_nil)))))
/-! ### times -/
abbrev n_times : List Str := ["one", "other"]
abbrev p_times : List Str := ["one", "other"]
theorem sc_times : FnScope n_times p_times (defScope s_times) := ⟨rfl, rfl, rfl, by decide +kernel, rfl, by decide +kernel, by decide +kernel⟩
def t_times (K : PySem.W.Frag) : TS := (tRet (tCall (sp_made K) [] E0 (tCons (tOp rMulI (tOp (rIxT K) (tVar 0) (tC (.int 0))) (tOp (rIxT K) (tVar 1) (tC (.int 0)))) (tCons (tOp rMulI (tOp (rIxT K) (tVar 0) (tC (.int 1))) (tOp (rIxT K) (tVar 1) (tC (.int 1)))) tNil))))
theorem dv_times {P : Program} {w : World} {K : PySem.W.Frag} {mg : Str → Option Value} {base : Heap} (T : Txt K mg) (cmade : Cal P w K mg base 2 "made" (sp_made K)) (f : Addr) (cdv : Value) (A : Around) (outer : List Env) (s : Shared) (H : Hp) (E : XK) (hr : Room 2 (A.deeper (envOfC "times" (defScope s_times) s.heap.objs.size f cdv))) :
    PSs (cxOf CX0 P w K mg base n_times "times" (defScope s_times) f cdv A outer s H E).nox (defBody s_times) (t_times K) := by
  unfold t_times
  exact (pss_one (ps_ret (pe_c cmade hr (by decide) rfl (pa_cons (pe_op op_mulW (pe_ix ix_tup (pv 0) pe_int (fun _ _ => rfl)) (pe_ix ix_tup (pv 1) pe_int (fun _ _ => rfl))) (pa_cons (pe_op op_mulW (pe_ix ix_tup (pv 0) pe_int (fun _ _ => rfl)) (pe_ix ix_tup (pv 1) pe_int (fun _ _ => rfl))) pa_nil)))))
/-! ### compared -/
abbrev n_compared : List Str := ["one", "other", "gap"]
abbrev p_compared : List Str := ["one", "other"]
theorem sc_compared : FnScope n_compared p_compared (defScope s_compared) := ⟨rfl, rfl, rfl, by decide +kernel, rfl, by decide +kernel, by decide +kernel⟩
def t_compared (K : PySem.W.Frag) : TS := (tSeq (tAsg (tOp rSubI (tOp rMulI (tOp (rIxT K) (tVar 0) (tC (.int 0))) (tOp (rIxT K) (tVar 1) (tC (.int 1)))) (tOp rMulI (tOp (rIxT K) (tVar 1) (tC (.int 0))) (tOp (rIxT K) (tVar 0) (tC (.int 1))))) (gName 2))
  (tSeq (tIfS (tTest (tOp rEq (tVar 2) (tC (.int 0)))) (tRet (tC (.int 0))) tNext)
  (tRet (tIf (tTest (tOp rLtI (tVar 2) (tC (.int 0)))) (tUn rNegI (tC (.int 1))) (tC (.int 1))))))
theorem dv_compared {P : Program} {w : World} {K : PySem.W.Frag} {mg : Str → Option Value} {base : Heap} (T : Txt K mg)  (f : Addr) (cdv : Value) (A : Around) (outer : List Env) (s : Shared) (H : Hp) (E : XK) (hr : Room 0 (A.deeper (envOfC "compared" (defScope s_compared) s.heap.objs.size f cdv))) :
    PSs (cxOf CX0 P w K mg base n_compared "compared" (defScope s_compared) f cdv A outer s H E).nox (defBody s_compared) (t_compared K) := by
  unfold t_compared
  exact (pss_cons (ps_set (i := 2) sc_compared.nd rfl (Or.inl rfl) (pe_op op_sub (pe_op op_mulW (pe_ix ix_tup (pv 0) pe_int (fun _ _ => rfl)) (pe_ix ix_tup (pv 1) pe_int (fun _ _ => rfl))) (pe_op op_mulW (pe_ix ix_tup (pv 1) pe_int (fun _ _ => rfl)) (pe_ix ix_tup (pv 0) pe_int (fun _ _ => rfl)))))
  (pss_cons (ps_if (pt_cmpR op_eq (pv 2) pe_int (nomark _)) (pss_one (ps_ret pe_int)) pss_nil)
  (pss_one (ps_ret (pe_ifExp (pt_cmpR op_lt (pv 2) pe_int (nomark _)) (pe_un un_neg pe_int) pe_int)))))
/-! ### total -/
abbrev n_total : List Str := ["numbers", "found", "number"]
abbrev p_total : List Str := ["numbers"]
theorem sc_total : FnScope n_total p_total (defScope s_total) := ⟨rfl, rfl, rfl, by decide +kernel, rfl, by decide +kernel, by decide +kernel⟩
def t_total (K : PySem.W.Frag) : TS := (tSeq (tAsg (tTup (tCons (tC (.int 0)) (tCons (tC (.int 1)) tNil))) (gName 1))
  (tSeq (tFor (iList K (tVar 0)) (gName 2)
    (tAsg (tCall (sp_added K) [] E0 (tCons (tVar 1) (tCons (tVar 2) tNil))) (gName 1)))
  (tRet (tVar 1))))
theorem dv_total {P : Program} {w : World} {K : PySem.W.Frag} {mg : Str → Option Value} {base : Heap} (T : Txt K mg) (cadded : Cal P w K mg base 3 "added" (sp_added K)) (f : Addr) (cdv : Value) (A : Around) (outer : List Env) (s : Shared) (H : Hp) (E : XK) (hr : Room 3 (A.deeper (envOfC "total" (defScope s_total) s.heap.objs.size f cdv))) :
    PSs (cxOf CX0 P w K mg base n_total "total" (defScope s_total) f cdv A outer s H E).nox (defBody s_total) (t_total K) := by
  unfold t_total
  exact (pss_cons (ps_set (i := 1) sc_total.nd rfl (Or.inl rfl) (pe_tup (pa_cons pe_int (pa_cons pe_int pa_nil))))
  (pss_cons (ps_for PassesOwn.never rfl (pi_list (pv 0)) (pg_name (i := 2) sc_total.nd rfl (Or.inl rfl))
    (pss_one (ps_set (i := 1) sc_total.nd rfl (Or.inl rfl) (pe_c cadded hr (by decide) rfl (pa_cons (pv 1) (pa_cons (pv 2) pa_nil))))))
  (pss_one (ps_ret (pv 1)))))
/-! readings -/
theorem gcd_step {x y : Int} (hx : 0 ≤ x) (hy : 0 < y) : Nat.gcd y.natAbs (x % y).natAbs = Nat.gcd x.natAbs y.natAbs := by
  have e : (x % y).natAbs = x.natAbs % y.natAbs := by
    have h1 : x = (x.natAbs : Int) := by omega
    have h2 : y = (y.natAbs : Int) := by omega
    rw [h1, h2]
    simp only [Int.natAbs_natCast]
    rw [← Int.natCast_emod, Int.natAbs_natCast]
  rw [e, Nat.gcd_comm x.natAbs, Nat.gcd_rec y.natAbs x.natAbs, Nat.gcd_comm]
theorem pure_divisor {K : PySem.W.Frag} (vs : List V) (H : Hp) (Q : VK) (E : XK) (h : sp_divisor K vs H Q E) : t_divisor K { nx := fun _ H' => Q .non H', rt := Q } (start n_divisor vs) H := by
  obtain ⟨a, b, rfl, ha, hb, k⟩ := h
  unfold t_divisor
  refine ⟨fun m σ H' => H' = H ∧ ∃ x y : Int, m = y.natAbs ∧ 0 ≤ x ∧ 0 ≤ y ∧ Nat.gcd x.natAbs y.natAbs = Nat.gcd a.natAbs b.natAbs ∧ σ = [some (.int x), some (.int y)], ⟨_, rfl, a, b, rfl, ha, hb, rfl, rfl⟩, ?_⟩
  rintro m σ H' ⟨rfl, x, y, rfl, hx, hy, hg, rfl⟩
  refine ⟨_, rfl, rfl, _, rfl, ?_⟩
  by_cases c : y = 0
  · subst c
    refine iteF ?_
    refine ⟨_, rfl, ?_⟩
    have e : Nat.gcd x.natAbs (0 : Int).natAbs = x.natAbs := Nat.gcd_zero_right _
    rw [e] at hg
    rw [← hg] at k
    rw [show (x.natAbs : Int) = x by omega] at k
    exact k
  · have e : (!decide (V.int y = V.int 0)) = true := by simp [c]
    refine ift e ?_
    refine ⟨_, fun _ _ z => z, _, rfl, _, rfl, .inl ⟨_, rfl, _, rfl, _, _, rfl, rfl, by omega, _, _, rfl, ?_⟩⟩
    have h1 := Int.emod_lt_of_pos x (show 0 < y by omega)
    have h2 := Int.emod_nonneg x (show y ≠ 0 by omega)
    exact ⟨_, by omega, rfl, y, x % y, rfl, hy, h2, (gcd_step hx (by omega)).trans hg, rfl⟩
theorem abs_if (i : Int) : (if i < 0 then -i else i) = (i.natAbs : Int) := by
  split <;> omega
theorem pure_made {K : PySem.W.Frag} (vs : List V) (H : Hp) (Q : VK) (E : XK) (h : sp_made K vs H Q E) : t_made K { nx := fun _ H' => Q .non H', rt := Q } (start n_made vs) H := by
  obtain ⟨t, b, rfl, hb, hz, k⟩ := h
  have g0 := gcd_pos_of (t := t) hb
  have g1 : Bd 8000 (Nat.gcd t.natAbs b.natAbs : Int) := hz.le (by
    have := Nat.gcd_le_right (m := t.natAbs) (n := b.natAbs) (by omega)
    simp only [Int.natAbs_natCast]
    exact this)
  clear hz
  refine ⟨_, rfl, rfl, _, rfl, iff' (by simp; omega) ?_⟩
  refine ⟨_, rfl, _, rfl, _, rfl, _, rfl, _, _, rfl, by split <;> omega, by split <;> omega, ?_⟩
  simp only [abs_if, Int.natAbs_natCast]
  refine ⟨_, rfl, _, _, rfl, rfl, _, rfl, iff' (by simp; omega) ?_⟩
  refine ⟨_, rfl, _, rfl, _, _, rfl, rfl, cdiv (by omega) g1 (by decide), _, rfl, _, rfl, _, _, rfl, rfl, cdiv (by omega) g1 (by decide), by show 2 ≤ sizeLine; decide, fun p hp => ?_⟩
  refine k _ _ (Same.new hp) ⟨p, rfl, SqT.of ?_⟩
  rw [upd_same]
  show some (HO.tup [V.int (t / (Nat.gcd t.natAbs b.natAbs : Int)), V.int (b / (Nat.gcd t.natAbs b.natAbs : Int))]) = _
  rw [← divInt_num hb, ← divInt_den hb]
theorem pure_added {K : PySem.W.Frag} (vs : List V) (H : Hp) (Q : VK) (E : XK) (h : sp_added K vs H Q E) : t_added K { nx := fun _ H' => Q .non H', rt := Q } (start n_added vs) H := by
  obtain ⟨u, v, a, b, rfl, ⟨p, rfl, hp⟩, ⟨q, rfl, hq⟩, ba, bb, k⟩ := h
  have na := den_posI a
  have nb := den_posI b
  refine ⟨_, rfl, p, _, _, _, rfl, rfl, hp, rfl, _, rfl, q, _, _, _, rfl, rfl, hq, rfl, _, _, rfl, rfl, cmul ba.num bb.den (by decide), ?_⟩
  refine ⟨_, rfl, q, _, _, _, rfl, rfl, hq, rfl, _, rfl, p, _, _, _, rfl, rfl, hp, rfl, _, _, rfl, rfl, cmul bb.num ba.den (by decide), _, _, rfl, rfl, ?_⟩
  refine ⟨_, rfl, p, _, _, _, rfl, rfl, hp, rfl, _, rfl, q, _, _, _, rfl, rfl, hq, rfl, _, _, rfl, rfl, cmul ba.den bb.den (by decide), ?_⟩
  refine ⟨_, _, rfl, Int.mul_pos na nb, (ba.den.mul bb.den).mono (by decide), fun v H' s f => k v H' s ?_⟩
  rw [q_add] at f
  exact f
theorem pure_times {K : PySem.W.Frag} (vs : List V) (H : Hp) (Q : VK) (E : XK) (h : sp_times K vs H Q E) : t_times K { nx := fun _ H' => Q .non H', rt := Q } (start n_times vs) H := by
  obtain ⟨u, v, a, b, rfl, ⟨p, rfl, hp⟩, ⟨q, rfl, hq⟩, ba, bb, k⟩ := h
  have na := den_posI a
  have nb := den_posI b
  refine ⟨_, rfl, p, _, _, _, rfl, rfl, hp, rfl, _, rfl, q, _, _, _, rfl, rfl, hq, rfl, _, _, rfl, rfl, cmul ba.num bb.num (by decide), ?_⟩
  refine ⟨_, rfl, p, _, _, _, rfl, rfl, hp, rfl, _, rfl, q, _, _, _, rfl, rfl, hq, rfl, _, _, rfl, rfl, cmul ba.den bb.den (by decide), ?_⟩
  refine ⟨_, _, rfl, Int.mul_pos na nb, (ba.den.mul bb.den).mono (by decide), fun v H' s f => k v H' s ?_⟩
  rw [q_mul] at f
  exact f
theorem pure_compared {K : PySem.W.Frag} (vs : List V) (H : Hp) (Q : VK) (E : XK) (h : sp_compared K vs H Q E) : t_compared K { nx := fun _ H' => Q .non H', rt := Q } (start n_compared vs) H := by
  obtain ⟨u, v, a, b, rfl, ⟨p, rfl, hp⟩, ⟨q, rfl, hq⟩, ba, bb, k⟩ := h
  refine ⟨_, rfl, p, _, _, _, rfl, rfl, hp, rfl, _, rfl, q, _, _, _, rfl, rfl, hq, rfl, _, _, rfl, rfl, cmul ba.num bb.den (by decide), ?_⟩
  refine ⟨_, rfl, q, _, _, _, rfl, rfl, hq, rfl, _, rfl, p, _, _, _, rfl, rfl, hp, rfl, _, _, rfl, rfl, cmul bb.num ba.den (by decide), _, _, rfl, rfl, ?_⟩
  have e1 := gap_lt a b
  have e2 := gap_eq a b
  unfold cmpQ at k
  refine ⟨_, rfl, rfl, _, rfl, ?_⟩
  by_cases c : a.num * (b.den : Int) - b.num * (a.den : Int) = 0
  · refine ift (by simp only [c, decide_true]) ?_
    have hl : ¬ a < b := fun z => by have := e1.mpr z; omega
    rw [if_neg hl, if_pos (e2.mp c)] at k
    exact k
  · refine iff' (by simp only [V.int.injEq, c, decide_false]) ?_
    refine ⟨_, rfl, _, _, rfl, rfl, _, rfl, ?_⟩
    by_cases d : a.num * (b.den : Int) - b.num * (a.den : Int) < 0
    · refine ift (by simp only [d, decide_true]) ?_
      rw [if_pos (e1.mp d)] at k
      exact ⟨_, rfl, k⟩
    · refine iff' (by simp only [d, decide_false]) ?_
      rw [if_neg (fun z => d (e1.mpr z)), if_neg (fun z => c (e2.mpr z))] at k
      exact k
/-! total -/
theorem sumL_snoc : ∀ (l : List Rat) (q : Rat), sumL (l ++ [q]) = sumL l + q
  | [], q => by simp [sumL]; grind
  | a :: r, q => by
    show a + sumL (r ++ [q]) = a + sumL r + q
    rw [sumL_snoc r q]
    grind
theorem pure_total {K : PySem.W.Frag} (vs : List V) (H : Hp) (Q : VK) (E : XK) (h : sp_total K vs H Q E) : t_total K { nx := fun _ H' => Q .non H', rt := Q } (start n_total vs) H := by
  obtain ⟨p, us, qs, rfl, hp, ha, hb, hl, k⟩ := h
  refine ⟨by show 2 ≤ sizeLine; decide, fun z hz => ?_⟩
  refine ⟨_, rfl, p, rfl, ⟨_, (Same.new hz).seq hp⟩, for_list (K := K) (a := p) (xs := us) (fun i σ H' => ∃ (v : V) (o : Option V), σ = [some (.ref p), some v, o] ∧ Same H H' ∧ FrAt K H' v (sumL (qs.take i)))
    ⟨_, _, rfl, Same.new hz, z, rfl, SqT.of upd_same⟩ (fun i σ H' _ ⟨_, _, _, s, _⟩ => s.seq hp) ?_ ?_⟩
  · rintro i y σ H' hi ⟨v, o, rfl, s, f⟩
    obtain ⟨q, hq, fq⟩ := ha.get hi
    have b1 : QB 4000 (sumL (qs.take i)) := by
      refine (sumL_QB (n := 200) (fun q h => hb q (List.mem_of_mem_take h))).mono ?_
      have : (qs.take i).length ≤ 4 := by rw [List.length_take]; omega
      omega
    refine ⟨_, rfl, _, rfl, v, y, _, q, rfl, f, fq.mono s, b1, (hb q (List.mem_of_getElem? hq)).mono (by decide), fun v' H'' s2 f2 => ?_⟩
    refine ⟨v', some y, rfl, s.trans s2, ?_⟩
    rw [take_more hq, sumL_snoc]
    exact f2
  · rintro σ H' ⟨v, o, rfl, s, f⟩
    rw [ha.len, List.take_length] at f
    exact ⟨_, rfl, k v H' s f⟩
end Mix
namespace Mix
open PySem PySem.Spec PyProof.Rows L2
theorem pure_law_made {K : PySem.W.Frag} (vs : List V) (H : Hp) (Q : VK) (E : XK) (h : sp_law_made K vs H Q E) : t_law_made K { nx := fun _ H' => Q .non H', rt := Q } (start n_law_made vs) H := by
  obtain ⟨t, b, rfl, hb, hz, k⟩ := h
  have g0 := gcd_pos_of (t := t) hb
  have g1 : Bd 8000 (Nat.gcd t.natAbs b.natAbs : Int) := hz.le (by
    have := Nat.gcd_le_right (m := t.natAbs) (n := b.natAbs) (by omega)
    simp only [Int.natAbs_natCast]
    exact this)
  clear hz
  refine ⟨_, rfl, _, _, rfl, rfl, _, rfl, iff' (by simp; omega) ?_⟩
  refine ⟨_, rfl, _, rfl, _, rfl, _, _, rfl, by split <;> omega, by omega, ?_⟩
  simp only [abs_if, Int.natAbs_natCast]
  refine ⟨_, rfl, _, rfl, _, _, rfl, rfl, cdiv (by omega) g1 (by decide), _, rfl, _, rfl, _, _, rfl, rfl, cdiv (by omega) g1 (by decide), by show 2 ≤ sizeLine; decide, fun p hp => ?_⟩
  refine k _ _ (Same.new hp) ⟨p, rfl, SqT.of ?_⟩
  rw [upd_same]
  show some (HO.tup [V.int (t / (Nat.gcd t.natAbs b.natAbs : Int)), V.int (b / (Nat.gcd t.natAbs b.natAbs : Int))]) = _
  rw [← divInt_num hb, ← divInt_den hb]
theorem q_plus (a b : Rat) (n : Int) : Rat.divInt (a.num * (b.den : Int) + n * b.num * (a.den : Int)) ((a.den : Int) * (b.den : Int)) = a + (n : Rat) * b := by
  have ha := den_neI a
  have hb := den_neI b
  rw [Rat.divInt_eq_div]
  have e1 := q_eq a
  have e2 := q_eq b
  rw [Rat.intCast_add, Rat.intCast_mul, Rat.intCast_mul, Rat.intCast_mul, Rat.intCast_mul]
  generalize (a.num : Rat) = an at *
  generalize (b.num : Rat) = bn at *
  generalize ((a.den : Int) : Rat) = ad at *
  generalize ((b.den : Int) : Rat) = bd at *
  rw [e1, e2]
  grind
theorem pure_law_plus {K : PySem.W.Frag} (vs : List V) (H : Hp) (Q : VK) (E : XK) (h : sp_law_plus K vs H Q E) : t_law_plus K { nx := fun _ H' => Q .non H', rt := Q } (start n_law_plus vs) H := by
  obtain ⟨u, v, a, b, n, rfl, ⟨p, rfl, hp⟩, ⟨q, rfl, hq⟩, ba, bb, hn, k⟩ := h
  have na := den_posI a
  have nb := den_posI b
  have bn : Bd 10 n := by rcases hn with rfl | rfl <;> exact bd_of (by decide)
  refine ⟨_, rfl, p, _, _, _, rfl, rfl, hp, rfl, _, rfl, q, _, _, _, rfl, rfl, hq, rfl, _, _, rfl, rfl, cmul ba.num bb.den (by decide), ?_⟩
  refine ⟨_, rfl, _, rfl, q, _, _, _, rfl, rfl, hq, rfl, _, _, rfl, rfl, cmul bn bb.num (by decide), _, rfl, p, _, _, _, rfl, rfl, hp, rfl, _, _, rfl, rfl, cmul (bn.mul bb.num) ba.den (by decide), _, _, rfl, rfl, ?_⟩
  refine ⟨_, rfl, p, _, _, _, rfl, rfl, hp, rfl, _, rfl, q, _, _, _, rfl, rfl, hq, rfl, _, _, rfl, rfl, cmul ba.den bb.den (by decide), ?_⟩
  refine ⟨_, _, rfl, Int.mul_pos na nb, (ba.den.mul bb.den).mono (by decide), fun v H' s f => k v H' s ?_⟩
  rw [q_plus] at f
  exact f
theorem pure_law_is_fraction {K : PySem.W.Frag} (vs : List V) (H : Hp) (Q : VK) (E : XK) (h : sp_law_is_fraction K vs H Q E) : t_law_is_fraction K { nx := fun _ H' => Q .non H', rt := Q } (start n_law_is_fraction vs) H := by
  obtain ⟨v, q, rfl, ⟨p, rfl, hp⟩, k⟩ := h
  have hd := den_posI q
  refine ⟨_, rfl, _, _, _, _, true, rfl, .ty _, tyx_tup hp, k_tt, _, rfl, iff' rfl ?_⟩
  refine ⟨_, rfl, p, _, rfl, .inr hp, rfl, _, rfl, iff' rfl ?_⟩
  refine ⟨_, rfl, p, rfl, ⟨_, hp⟩, ?_⟩
  refine for_it walk_tup (fun i σ H' => H' = H ∧ ∃ o, σ = [some (.ref p), o]) ⟨rfl, none, rfl⟩ (fun i σ H' _ q => by rw [q.1]; exact hp) ?_ ?_
  · rintro i y σ H' H'' hi ⟨rfl, o, rfl⟩ ⟨rfl, hy⟩
    obtain ⟨j, rfl⟩ : ∃ j : Int, y = .int j := by
      match i, hy with
      | 0, hy => exact ⟨_, (Option.some.inj hy).symm⟩
      | 1, hy => exact ⟨_, (Option.some.inj hy).symm⟩
      | i + 2, hy => cases hy
    exact ⟨_, rfl, _, _, _, _, true, rfl, .ty _, .base (.int j), k_ii, _, rfl, iff' rfl ⟨_, rfl, _, _, _, _, false, rfl, .ty _, .base (.int j), k_ib, _, rfl, iff' rfl ⟨rfl, _, rfl⟩⟩⟩
  · rintro σ H' ⟨rfl, o, rfl⟩
    refine ⟨_, rfl, p, _, 1, _, rfl, rfl, hp, rfl, _, _, rfl, rfl, _, rfl, ift (by simp; exact q.den_pos) ?_⟩
    refine ⟨_, rfl, p, _, 0, _, rfl, rfl, hp, rfl, _, rfl, _, rfl, p, _, 1, _, rfl, rfl, hp, rfl, _, _, rfl, by split <;> omega, by omega, rfl, k _ _ (Same.refl _) ?_⟩
    simp only [abs_if, Int.natAbs_natCast]
    have := q.reduced
    unfold Nat.Coprime at this
    rw [this]
    rfl
/-- a row read by a label -/
theorem row_ix {K : PySem.W.Frag} {H : Hp} {rv : V} {x : List Rat} (h : RowAt K H rv x) {l : Nat} (hl : l < x.length) : ∃ pr us pn, rv = .ref pr ∧ SqT K H pr us ∧ atI us (l : Int) = some (.ref pn) ∧ SqT K H pn (frV (xAt x l)) := by
  obtain ⟨us, ⟨pr, rfl, hpr⟩, hal⟩ := h
  obtain ⟨u, hu, ⟨pn, rfl, hpn⟩⟩ := RowAt.at_ hal hl
  exact ⟨pr, us, pn, rfl, hpr, hu, hpn⟩
theorem q_kx (k : Nat) (q : Rat) : Rat.divInt ((k : Int) * q.num) (q.den : Int) = (k : Rat) * q := by
  have hb := den_neI q
  rw [Rat.divInt_eq_div, Rat.intCast_mul]
  have e := q_eq q
  have ek : (((k : Nat) : Int) : Rat) = (k : Rat) := Rat.intCast_natCast k
  rw [ek]
  generalize (q.num : Rat) = n at *
  generalize ((q.den : Int) : Rat) = d at *
  rw [e]
  grind
theorem sumQ_more {f : Nat → Rat} {cs : List Nat} {i c : Nat} (h : cs[i]? = some c) : sumQ f (cs.take (i + 1)) = sumQ f (cs.take i) + f c := by
  unfold sumQ
  rw [take_more h, List.map_append]
  exact sumL_snoc _ _
theorem pure_law_weighed {K : PySem.W.Frag} (vs : List V) (H : Hp) (Q : VK) (E : XK) (h : sp_law_weighed K vs H Q E) : t_law_weighed K { nx := fun _ H' => Q .non H', rt := Q } (start n_law_weighed vs) H := by
  obtain ⟨wv, rv, cv, W, x, cs, rfl, ⟨r, b, ⟨pw, rfl, hpw⟩, hr⟩, ok, hrow, hrk, hcv, cup, k⟩ := h
  have k3 := ok.k3
  have l4 := ok.l4
  have hbl := Wd.bl_lt ok cup
  have hbx : W.bl cs < x.length := by rw [hrk.1]; exact hbl
  have qb := hrk.at_ hbl
  refine ⟨_, rfl, pw, _, 0, _, rfl, rfl, hpw, rfl, _, rfl, _, rfl, pw, _, 1, _, rfl, rfl, hpw, rfl, _, rfl, pw, _, 2, _, rfl, rfl, hpw, rfl, _, rfl, r, cv, W, cs, rfl, hr, hcv, ok, cup, ?_⟩
  rintro v H1 s1 rfl
  obtain ⟨pr, us, pn, rfl, hpr, hu, hpn⟩ := row_ix (hrow.mono s1) hbx
  refine ⟨pr, us, _, _, rfl, rfl, hpr, hu, pn, _, 0, _, rfl, rfl, hpn, rfl, _, _, rfl, rfl, cmul (n := 10) (m := 200) (by show Int.natAbs _ < 1024; omega) qb.num (by decide), ?_⟩
  refine ⟨_, rfl, _, rfl, pw, _, 1, _, rfl, rfl, s1.tup hpw, rfl, _, rfl, pw, _, 2, _, rfl, rfl, s1.tup hpw, rfl, _, rfl, r, cv, W, cs, rfl, s1.seq hr, hcv.mono s1, ok, cup, ?_⟩
  rintro v H2 s2 rfl
  have hpr2 := s2.tup hpr
  have hpn2 := s2.tup hpn
  refine ⟨pr, us, _, _, rfl, rfl, hpr2, hu, pn, _, 1, _, rfl, rfl, hpn2, rfl, ?_⟩
  refine ⟨_, _, rfl, den_posI _, qb.den.mono (by decide), fun v H3 s3 f3 => ?_⟩
  have f3' : FrAt K H3 v ((W.k : Rat) * xAt x (W.bl cs)) := by
    rw [← q_kx]
    exact f3
  have s13 := (s1.trans s2).trans s3
  obtain ⟨ca, rfl, hca⟩ := hcv.mono s13
  refine ⟨_, rfl, ca, _, rfl, hca, fun J wk => ?_⟩
  refine for_it wk (fun i σ H' => Same H3 H' ∧ ∃ (fv : V) (o : Option V) (q : Rat), σ = [some (.ref pw), some (.ref pr), some (.ref ca), some fv, o] ∧ FrAt K H' fv q ∧ q = (W.k : Rat) * xAt x (W.bl cs) - sumQ (xAt x) (cs.take i) ∧ QB (210 + 202 * i) q)
    ⟨Same.refl _, v, none, _, rfl, f3', ?_, ?_⟩ (fun i σ H' _ q => q.1) ?_ ?_
  · simp [sumQ, sumL]
    grind
  · have kq : QB 10 ((W.k : Nat) : Rat) := by
      rw [← Rat.intCast_natCast]
      exact QB.int (n := 10) (show Bd 10 (W.k : Int) from by show Int.natAbs _ < 1024; omega) (by decide)
    exact kq.mul qb
  · rintro i y σ H4 H5 hi ⟨s4, fv, o, q, rfl, fq, eq, bq⟩ ⟨rfl, hy⟩
    obtain ⟨c, hc, rfl⟩ := vN_get' hy
    have hcl := cup.lt c (List.mem_of_getElem? hc)
    have hi3 : i < 3 := by
      rw [vN_len, cup.len] at hi
      omega
    have s14 := (s1.trans s2).trans (s3.trans s4)
    obtain ⟨pr', us', pn', e1, hpr', hu', hpn'⟩ := row_ix (hrow.mono s14) (l := c) (by rw [hrk.1]; exact hcl)
    cases e1
    refine ⟨_, rfl, _, rfl, _, rfl, pr, us', _, _, rfl, rfl, hpr', hu', _, _, rfl, rfl, fv, .ref pn', q, xAt x c, -1, rfl, fq, ⟨pn', rfl, hpn'⟩, bq.mono (by omega), (hrk.at_ hcl).mono (by decide), .inr rfl, fun v5 H6 s6 f6 => ?_⟩
    refine ⟨s4.trans s6, v5, _, _, rfl, f6, ?_, ?_⟩
    · rw [eq, sumQ_more hc]
      have : ((-1 : Int) : Rat) = -1 := rfl
      rw [this]
      grind
    · have b1 : QB 1 ((-1 : Int) : Rat) := QB.int (n := 1) (bd_of (by decide)) (by decide)
      exact (bq.add (b1.mul (hrk.at_ hcl))).mono (by omega)
  · rintro σ H4 ⟨s4, fv, o, q, rfl, ⟨pf, rfl, hpf⟩, eq, bq⟩
    refine ⟨_, rfl, pf, _, 0, _, rfl, rfl, hpf, rfl, k _ _ (s13.trans s4) ?_⟩
    rw [vN_len, List.take_length] at eq
    show V.int q.num = V.int (wgh W x cs).num
    rw [eq]
    rfl
theorem pure_law_is_way {K : PySem.W.Frag} (vs : List V) (H : Hp) (Q : VK) (E : XK) (h : sp_law_is_way K vs H Q E) : t_law_is_way K { nx := fun _ H' => Q .non H', rt := Q } (start n_law_is_way vs) H := by
  obtain ⟨wv, yv, W, l, y, rfl, ⟨r, b, ⟨pw, rfl, hpw⟩, hr⟩, ok, hy, hw, k⟩ := h
  cases y with
  | none =>
    cases hy
    exact ⟨_, rfl, rfl, _, rfl, ift rfl (k _ _ (Same.refl _) rfl)⟩
  | some cs =>
    obtain ⟨pc, rfl, hpc⟩ := hy
    obtain ⟨cup, hbl⟩ := hw cs rfl
    refine ⟨_, rfl, rfl, _, rfl, iff' rfl ?_⟩
    refine ⟨_, rfl, _, _, _, _, true, rfl, .ty _, tyx_tup hpc, k_tt, _, rfl, iff' rfl ?_⟩
    refine ⟨_, rfl, pc, _, rfl, .inr hpc, _, rfl, pw, _, 0, _, rfl, rfl, hpw, rfl, rfl, _, rfl, iff' ?_ ?_⟩
    · simp [vN_len, cup.len]
    refine ⟨_, rfl, pc, rfl, ⟨_, hpc⟩, ?_⟩
    refine for_it walk_tup (fun i σ H' => Same H H' ∧ ∃ o, σ = [some (.ref pw), some (.int (l : Int)), some (.ref pc), o]) ⟨Same.refl _, none, rfl⟩ (fun i σ H' _ q => q.1.tup hpc) ?_ ?_
    · rintro i y σ H' H'' hi ⟨s, o, rfl⟩ ⟨rfl, hy⟩
      obtain ⟨c, hc, rfl⟩ := vN_get' hy
      have hcl := cup.lt c (List.mem_of_getElem? hc)
      refine ⟨_, rfl, _, _, _, _, true, rfl, .ty _, .base (.int _), k_ii, _, rfl, iff' rfl ?_⟩
      refine ⟨_, rfl, _, _, _, _, false, rfl, .ty _, .base (.int _), k_ib, _, rfl, iff' rfl ?_⟩
      refine ⟨_, rfl, _, rfl, pw, _, 1, _, rfl, rfl, s.tup hpw, rfl, _, rfl, fun q hq => ?_⟩
      refine ⟨_, q, 0, (W.L : Int), rfl, rfl, upd_same, _, rfl, iff' ?_ ?_⟩
      · simp
        omega
      · exact ⟨s.trans (Same.new hq), _, rfl⟩
    · rintro σ H' ⟨s, o, rfl⟩
      refine ⟨_, rfl, pw, _, 1, _, rfl, rfl, s.tup hpw, rfl, _, rfl, pw, _, 2, _, rfl, rfl, s.tup hpw, rfl, _, rfl, r, .ref pc, W, cs, rfl, s.seq hr, ⟨pc, rfl, .inr (s.tup hpc)⟩, ok, cup, ?_⟩
      rintro v H2 s2 rfl
      refine ⟨_, rfl, rfl, k _ _ (s.trans s2) ?_⟩
      rw [hbl]
      simp
end Mix
set_option maxHeartbeats 1000000
namespace Mix
open PySem PySem.Spec PyProof.Rows L2
/-! ### law_draw -/
abbrev n_law_draw : List Str := ["_law_script", "_law_salt", "_law_cells", "_law_blend_here", "_law_cell"]
abbrev p_law_draw : List Str := ["_law_script", "_law_salt"]
theorem sc_law_draw : FnScope n_law_draw p_law_draw (defScope s_law_draw) := ⟨rfl, rfl, rfl, by decide +kernel, rfl, by decide +kernel, by decide +kernel⟩
def t_law_draw (K : PySem.W.Frag) : TS := (tSeq (tAsg (tLc (iList K (tSl (rSlL K) (tVar 0) tNoPart (tPart (tC (.int 48))))) (gName 4) tYes (tCB rAbs (tCons (tCB rInt1 (tCons (tVar 4) tNil)) tNil)) [4]) (gName 2))
  (tSeq (tAsg (tOp rAddI (tC (.int 7919)) (tOp rMulI (tC (.int 104729)) (tVar 1))) (gName 3))
  (tSeq (tFor (iList K (tVar 2)) (gName 4)
    (tAsg (tOp rModI (tCB rInt1 (tCons (tOp rAddI (tOp rAddI (tOp rMulI (tVar 3) (tC (.int 48271))) (tOp rModI (tVar 4) (tC (.int 2147483549)))) (tC (.int 11))) tNil)) (tC (.int 2147483647))) (gName 3)))
  (tRet (tLst (tCons (tRevL K (tLc (iList K (tVar 2)) (gName 4) (tTest (tOp rGeI (tVar 4) (tOp rPowI (tC (.int 10)) (tC (.int 18))))) (tVar 4) [4])) (tCons (tVar 3) tNil)))))))
theorem dv_law_draw {P : Program} {w : World} {K : PySem.W.Frag} {mg : Str → Option Value} {base : Heap} (T : Txt K mg)  (f : Addr) (cdv : Value) (A : Around) (outer : List Env) (s : Shared) (H : Hp) (E : XK) (hr : Room 0 (A.deeper (envOfC "_law_draw" (defScope s_law_draw) s.heap.objs.size f cdv))) :
    PSs (cxOf CX0 P w K mg base n_law_draw "_law_draw" (defScope s_law_draw) f cdv A outer s H E).nox (defBody s_law_draw) (t_law_draw K) := by
  unfold t_law_draw
  exact (pss_cons (ps_setLc (i := 2) (own := [("_law_cell", 4)]) (g := (gName 4)) (tt := tYes) (te := (tCB rAbs (tCons (tCB rInt1 (tCons (tVar 4) tNil)) tNil))) rfl sc_law_draw.nd rfl rfl (sw_true rfl rfl rfl (by decide +kernel)) (pi_list (pe_slice sl_list (pv 0) po_none (po_some pe_int))) (blkOk_by (by kernel_rfl)) (fun _ _ _ _ _ => (pg_name (i := 4) sc_law_draw.nd rfl (Or.inl rfl))) (fun _ _ _ _ _ => pts_nil) (fun _ _ _ _ _ => (pe_callB call_abs rfl T.babs boot_abs (pa_cons (pe_callTy call_int1 rfl T.bint boot_int (pa_cons (pv 4) pa_nil)) pa_nil))))
  (pss_cons (ps_set (i := 3) sc_law_draw.nd rfl (Or.inl rfl) (pe_op op_add pe_int (pe_op op_mulW pe_int (pv 1))))
  (pss_cons (ps_for PassesOwn.never rfl (pi_list (pv 2)) (pg_name (i := 4) sc_law_draw.nd rfl (Or.inl rfl))
    (pss_one (ps_set (i := 3) sc_law_draw.nd rfl (Or.inl rfl) (pe_op op_mod (pe_callTy call_int1 rfl T.bint boot_int (pa_cons (pe_op op_add (pe_op op_add (pe_op op_mulW (pv 3) pe_int) (pe_op op_mod (pv 4) pe_int)) pe_int) pa_nil)) pe_int))))
  (pss_one (ps_ret (pe_lst (pa_cons (pe_revL (pe_lc (own := [("_law_cell", 4)]) (g := (gName 4)) (tt := (tTest (tOp rGeI (tVar 4) (tOp rPowI (tC (.int 10)) (tC (.int 18)))))) (te := (tVar 4)) rfl sc_law_draw.nd (pi_list (pv 2)) (blkOk_by (by kernel_rfl)) (fun _ _ _ _ _ => (pg_name (i := 4) sc_law_draw.nd rfl (Or.inl rfl))) (fun _ _ _ _ _ => (pts_one (pt_cmpR op_ge (pv 4) (pe_op op_pow pe_int pe_int) (nomark _)))) (fun _ _ _ _ _ => (pv 4)))) (pa_cons (pv 3) pa_nil))))))))

/-! ### law_any -/
abbrev n_law_any : List Str := ["_law_deal", "_law_bound", "_law_rest"]
abbrev p_law_any : List Str := ["_law_deal", "_law_bound"]
theorem sc_law_any : FnScope n_law_any p_law_any (defScope s_law_any) := ⟨rfl, rfl, rfl, by decide +kernel, rfl, by decide +kernel, by decide +kernel⟩
def t_law_any (K : PySem.W.Frag) : TS := (tSeq (tWhile (tAnd (tTest (tOp (rNeD K) (tOp (rIxL K) (tVar 0) (tC (.int 0))) (tLst tNil))) (tTest (tOp rEq (tOp (rIxL K) (tOp (rIxL K) (tVar 0) (tC (.int 0))) (tUn rNegI (tC (.int 1)))) (tC (.int 0))))) (tDrop (tBM0 K "list" rPop (tOp (rIxL K) (tVar 0) (tC (.int 0))))))
  (tSeq (tIfS (tTest (tOp (rNeD K) (tOp (rIxL K) (tVar 0) (tC (.int 0))) (tLst tNil))) (tSeq (tAsg (tCB rInt1 (tCons (tBM0 K "list" rPop (tOp (rIxL K) (tVar 0) (tC (.int 0)))) tNil)) (gName 2))
  (tSeq (tDrop (tBM K "list" rAppend (tOp (rIxL K) (tVar 0) (tC (.int 0))) (tCons (tOp rDivI (tVar 2) (tVar 1)) tNil)))
  (tRet (tOp rModI (tVar 2) (tVar 1))))) tNext)
  (tSeq (tAsg (tOp rModI (tCB rInt1 (tCons (tOp rAddI (tOp rMulI (tOp (rIxL K) (tVar 0) (tC (.int 1))) (tC (.int 40693))) (tC (.int 71))) tNil)) (tC (.int 2147483647))) (gSub (tVar 0) (tC (.int 1)) rSetL))
  (tRet (tOp rModI (tCB rInt1 (tCons (tOp rDivI (tOp (rIxL K) (tVar 0) (tC (.int 1))) (tC (.int 64))) tNil)) (tVar 1))))))
theorem dv_law_any {P : Program} {w : World} {K : PySem.W.Frag} {mg : Str → Option Value} {base : Heap} (T : Txt K mg)  (f : Addr) (cdv : Value) (A : Around) (outer : List Env) (s : Shared) (H : Hp) (E : XK) (hr : Room 0 (A.deeper (envOfC "_law_any" (defScope s_law_any) s.heap.objs.size f cdv))) :
    PSs (cxOf CX0 P w K mg base n_law_any "_law_any" (defScope s_law_any) f cdv A outer s H E).nox (defBody s_law_any) (t_law_any K) := by
  unfold t_law_any
  exact (pss_cons (ps_while PassesOwn.never (PW.pt (pw_and (pt_cmpR (op_neD hr.units) (pe_ix ix_list (pv 0) pe_int (fun _ _ => rfl)) (pe_lst pa_nil) (nomark _)) (pw_and1 (pt_cmpR op_eq (pe_ix ix_list (pe_ix ix_list (pv 0) pe_int (fun _ _ => rfl)) (pe_un un_neg pe_int) (fun _ _ => rfl)) pe_int (nomark _))))) (pss_one (ps_expr (pe_bm0 PySem.F.plainAttrs_list PySem.F.slot_list_pop PySem.F.type_list_pop mt_pop (pe_ix ix_list (pv 0) pe_int (fun _ _ => rfl))))))
  (pss_cons (ps_if (pt_cmpR (op_neD hr.units) (pe_ix ix_list (pv 0) pe_int (fun _ _ => rfl)) (pe_lst pa_nil) (nomark _)) (pss_cons (ps_set (i := 2) sc_law_any.nd rfl (Or.inl rfl) (pe_callTy call_int1 rfl T.bint boot_int (pa_cons (pe_bm0 PySem.F.plainAttrs_list PySem.F.slot_list_pop PySem.F.type_list_pop mt_pop (pe_ix ix_list (pv 0) pe_int (fun _ _ => rfl))) pa_nil)))
  (pss_cons (ps_expr (pe_bm PySem.F.plainAttrs_list PySem.F.slot_list_append PySem.F.type_list_append mt_append (pe_ix ix_list (pv 0) pe_int (fun _ _ => rfl)) (pa_cons (pe_op op_fdivW (pv 2) (pv 1)) pa_nil)))
  (pss_one (ps_ret (pe_op op_mod (pv 2) (pv 1)))))) pss_nil)
  (pss_cons (ps_asg (pe_op op_mod (pe_callTy call_int1 rfl T.bint boot_int (pa_cons (pe_op op_add (pe_op op_mulW (pe_ix ix_list (pv 0) pe_int (fun _ _ => rfl)) pe_int) pe_int) pa_nil)) pe_int) (pg_sub (pv 0) pe_int set_list))
  (pss_one (ps_ret (pe_op op_mod (pe_callTy call_int1 rfl T.bint boot_int (pa_cons (pe_op op_fdivW (pe_ix ix_list (pv 0) pe_int (fun _ _ => rfl)) pe_int) pa_nil)) (pv 1)))))))

/-! ### law_of -/
abbrev n_law_of : List Str := ["_law_deal", "_law_some"]
abbrev p_law_of : List Str := ["_law_deal", "_law_some"]
theorem sc_law_of : FnScope n_law_of p_law_of (defScope s_law_of) := ⟨rfl, rfl, rfl, by decide +kernel, rfl, by decide +kernel, by decide +kernel⟩
def t_law_of (K : PySem.W.Frag) : TS := (tRet (tOp (rIxL K) (tVar 1) (tCall (sp_law_any K) [] E0 (tCons (tVar 0) (tCons (tCB (rLen K) (tCons (tVar 1) tNil)) tNil)))))
theorem dv_law_of {P : Program} {w : World} {K : PySem.W.Frag} {mg : Str → Option Value} {base : Heap} (T : Txt K mg) (claw_any : Cal P w K mg base 1 "_law_any" (sp_law_any K)) (f : Addr) (cdv : Value) (A : Around) (outer : List Env) (s : Shared) (H : Hp) (E : XK) (hr : Room 1 (A.deeper (envOfC "_law_of" (defScope s_law_of) s.heap.objs.size f cdv))) :
    PSs (cxOf CX0 P w K mg base n_law_of "_law_of" (defScope s_law_of) f cdv A outer s H E).nox (defBody s_law_of) (t_law_of K) := by
  unfold t_law_of
  exact (pss_one (ps_ret (pe_ix ix_list (pv 1) (pe_c claw_any hr (by decide) rfl (pa_cons (pv 0) (pa_cons (pe_callB call_len_seq rfl T.blen boot_len (pa_cons (pv 1) pa_nil)) pa_nil))) (fun _ _ => rfl))))

/-! ### law_mixed -/
abbrev n_law_mixed : List Str := ["_law_deal", "_law_some", "_law_left", "_law_found"]
abbrev p_law_mixed : List Str := ["_law_deal", "_law_some"]
theorem sc_law_mixed : FnScope n_law_mixed p_law_mixed (defScope s_law_mixed) := ⟨rfl, rfl, rfl, by decide +kernel, rfl, by decide +kernel, by decide +kernel⟩
def t_law_mixed (K : PySem.W.Frag) : TS := (tSeq (tPar 2 3 (tCons (tCB (rListOf K) (tCons (tVar 1) tNil)) (tCons (tLst tNil) tNil)))
  (tSeq (tWhile (tTest (tOp (rNeD K) (tVar 2) (tLst tNil))) (tDrop (tBM K "list" rAppend (tVar 3) (tCons (tBM K "list" rPopAt (tVar 2) (tCons (tCall (sp_law_any K) [] E0 (tCons (tVar 0) (tCons (tCB (rLen K) (tCons (tVar 2) tNil)) tNil))) tNil)) tNil))))
  (tRet (tVar 3))))
theorem dv_law_mixed {P : Program} {w : World} {K : PySem.W.Frag} {mg : Str → Option Value} {base : Heap} (T : Txt K mg) (claw_any : Cal P w K mg base 1 "_law_any" (sp_law_any K)) (f : Addr) (cdv : Value) (A : Around) (outer : List Env) (s : Shared) (H : Hp) (E : XK) (hr : Room 1 (A.deeper (envOfC "_law_mixed" (defScope s_law_mixed) s.heap.objs.size f cdv))) :
    PSs (cxOf CX0 P w K mg base n_law_mixed "_law_mixed" (defScope s_law_mixed) f cdv A outer s H E).nox (defBody s_law_mixed) (t_law_mixed K) := by
  unfold t_law_mixed
  exact (pss_cons (ps_par (i := 2) (j := 3) rfl sc_law_mixed.nd rfl rfl (by decide) rfl rfl (pa_cons (pe_callTy call_list_of rfl T.blist boot_list (pa_cons (pv 1) pa_nil)) (pa_cons (pe_lst pa_nil) pa_nil)) (by rfl))
  (pss_cons (ps_while PassesOwn.never (pt_cmpR (op_neD hr.units) (pv 2) (pe_lst pa_nil) (nomark _)) (pss_one (ps_expr (pe_bm PySem.F.plainAttrs_list PySem.F.slot_list_append PySem.F.type_list_append mt_append (pv 3) (pa_cons (pe_bm PySem.F.plainAttrs_list PySem.F.slot_list_pop PySem.F.type_list_pop mt_popAt (pv 2) (pa_cons (pe_c claw_any hr (by decide) rfl (pa_cons (pv 0) (pa_cons (pe_callB call_len_seq rfl T.blen boot_len (pa_cons (pv 2) pa_nil)) pa_nil))) pa_nil)) pa_nil)))))
  (pss_one (ps_ret (pv 3)))))

/-! ### law_power -/
abbrev n_law_power : List Str := ["_law_base", "_law_many", "_law_found", "_law_turn"]
abbrev p_law_power : List Str := ["_law_base", "_law_many"]
theorem sc_law_power : FnScope n_law_power p_law_power (defScope s_law_power) := ⟨rfl, rfl, rfl, by decide +kernel, rfl, by decide +kernel, by decide +kernel⟩
def t_law_power (K : PySem.W.Frag) : TS := (tSeq (tAsg (tC (.int 1)) (gName 2))
  (tSeq (tFor (iRng1 (tCons (tVar 1) tNil)) (gName 3)
    (tAsg (tOp rMulI (tVar 2) (tVar 0)) (gName 2)))
  (tRet (tVar 2))))
theorem dv_law_power {P : Program} {w : World} {K : PySem.W.Frag} {mg : Str → Option Value} {base : Heap} (T : Txt K mg)  (f : Addr) (cdv : Value) (A : Around) (outer : List Env) (s : Shared) (H : Hp) (E : XK) (hr : Room 0 (A.deeper (envOfC "_law_power" (defScope s_law_power) s.heap.objs.size f cdv))) :
    PSs (cxOf CX0 P w K mg base n_law_power "_law_power" (defScope s_law_power) f cdv A outer s H E).nox (defBody s_law_power) (t_law_power K) := by
  unfold t_law_power
  exact (pss_cons (ps_set (i := 2) sc_law_power.nd rfl (Or.inl rfl) pe_int)
  (pss_cons (ps_for PassesOwn.never rfl (pi_range1 rfl T.brange (pa_cons (pv 1) pa_nil)) (pg_name (i := 3) sc_law_power.nd rfl (Or.inl rfl))
    (pss_one (ps_set (i := 2) sc_law_power.nd rfl (Or.inl rfl) (pe_op op_mulW (pv 2) (pv 0)))))
  (pss_one (ps_ret (pv 2)))))

/-! ### law_divisor -/
abbrev n_law_divisor : List Str := ["_law_one", "_law_other"]
abbrev p_law_divisor : List Str := ["_law_one", "_law_other"]
theorem sc_law_divisor : FnScope n_law_divisor p_law_divisor (defScope s_law_divisor) := ⟨rfl, rfl, rfl, by decide +kernel, rfl, by decide +kernel, by decide +kernel⟩
def t_law_divisor (K : PySem.W.Frag) : TS := (tSeq (tWhile (tTest (tOp rGtI (tVar 1) (tC (.int 0)))) (tPar 0 1 (tCons (tVar 1) (tCons (tOp rModI (tCB rInt1 (tCons (tVar 0) tNil)) (tVar 1)) tNil))))
  (tRet (tVar 0)))
theorem dv_law_divisor {P : Program} {w : World} {K : PySem.W.Frag} {mg : Str → Option Value} {base : Heap} (T : Txt K mg)  (f : Addr) (cdv : Value) (A : Around) (outer : List Env) (s : Shared) (H : Hp) (E : XK) (hr : Room 0 (A.deeper (envOfC "_law_divisor" (defScope s_law_divisor) s.heap.objs.size f cdv))) :
    PSs (cxOf CX0 P w K mg base n_law_divisor "_law_divisor" (defScope s_law_divisor) f cdv A outer s H E).nox (defBody s_law_divisor) (t_law_divisor K) := by
  unfold t_law_divisor
  exact (pss_cons (ps_while PassesOwn.never (pt_cmpR op_gt (pv 1) pe_int (nomark _)) (pss_one (ps_par (i := 0) (j := 1) rfl sc_law_divisor.nd rfl rfl (by decide) rfl rfl (pa_cons (pv 1) (pa_cons (pe_op op_mod (pe_callTy call_int1 rfl T.bint boot_int (pa_cons (pv 0) pa_nil)) (pv 1)) pa_nil)) (by rfl))))
  (pss_one (ps_ret (pv 0))))

/-! ### law_inverse -/
abbrev n_law_inverse : List Str := ["_law_k", "_law_modulus", "_law_one"]
abbrev p_law_inverse : List Str := ["_law_k", "_law_modulus"]
theorem sc_law_inverse : FnScope n_law_inverse p_law_inverse (defScope s_law_inverse) := ⟨rfl, rfl, rfl, by decide +kernel, rfl, by decide +kernel, by decide +kernel⟩
def t_law_inverse (K : PySem.W.Frag) : TS := (tRet (tOp (rIxL K) (tLc (iRng1 (tCons (tVar 1) tNil)) (gName 2) (tTest (tOp rEq (tOp rModI (tCB rInt1 (tCons (tOp rSubI (tOp rMulI (tVar 2) (tVar 0)) (tC (.int 1))) tNil)) (tVar 1)) (tC (.int 0)))) (tVar 2) [2]) (tC (.int 0))))
theorem dv_law_inverse {P : Program} {w : World} {K : PySem.W.Frag} {mg : Str → Option Value} {base : Heap} (T : Txt K mg)  (f : Addr) (cdv : Value) (A : Around) (outer : List Env) (s : Shared) (H : Hp) (E : XK) (hr : Room 0 (A.deeper (envOfC "_law_inverse" (defScope s_law_inverse) s.heap.objs.size f cdv))) :
    PSs (cxOf CX0 P w K mg base n_law_inverse "_law_inverse" (defScope s_law_inverse) f cdv A outer s H E).nox (defBody s_law_inverse) (t_law_inverse K) := by
  unfold t_law_inverse
  exact (pss_one (ps_ret (pe_ix ix_list (pe_lc (own := [("_law_one", 2)]) (g := (gName 2)) (tt := (tTest (tOp rEq (tOp rModI (tCB rInt1 (tCons (tOp rSubI (tOp rMulI (tVar 2) (tVar 0)) (tC (.int 1))) tNil)) (tVar 1)) (tC (.int 0))))) (te := (tVar 2)) rfl sc_law_inverse.nd (pi_range1 rfl T.brange (pa_cons (pv 1) pa_nil)) (blkOk_by (by kernel_rfl)) (fun _ _ _ _ _ => (pg_name (i := 2) sc_law_inverse.nd rfl (Or.inl rfl))) (fun _ _ _ _ _ => (pts_one (pt_cmpR op_eq (pe_op op_mod (pe_callTy call_int1 rfl T.bint boot_int (pa_cons (pe_op op_sub (pe_op op_mulW (pv 2) (pv 0)) pe_int) pa_nil)) (pv 1)) pe_int (nomark _)))) (fun _ _ _ _ _ => (pv 2))) pe_int (fun _ _ => rfl))))

/-! ### law_tuples -/
abbrev n_law_tuples : List Str := ["_law_k", "_law_many", "_law_found", "_law_turn", "_law_longer", "_law_row", "_law_one"]
abbrev p_law_tuples : List Str := ["_law_k", "_law_many"]
theorem sc_law_tuples : FnScope n_law_tuples p_law_tuples (defScope s_law_tuples) := ⟨rfl, rfl, rfl, by decide +kernel, rfl, by decide +kernel, by decide +kernel⟩
def t_law_tuples (K : PySem.W.Frag) : TS := (tSeq (tAsg (tLst (tCons (tLst tNil) tNil)) (gName 2))
  (tSeq (tFor (iRng1 (tCons (tVar 0) tNil)) (gName 3)
    (tSeq (tAsg (tLst tNil) (gName 4))
  (tSeq (tFor (iList K (tVar 2)) (gName 5)
    (tAsg (tOp rCat (tVar 4) (tLc (iRng1 (tCons (tVar 1) tNil)) (gName 6) tYes (tOp rCat (tVar 5) (tLst (tCons (tVar 6) tNil))) [6])) (gName 4)))
  (tAsg (tVar 4) (gName 2)))))
  (tRet (tVar 2))))
theorem dv_law_tuples {P : Program} {w : World} {K : PySem.W.Frag} {mg : Str → Option Value} {base : Heap} (T : Txt K mg)  (f : Addr) (cdv : Value) (A : Around) (outer : List Env) (s : Shared) (H : Hp) (E : XK) (hr : Room 0 (A.deeper (envOfC "_law_tuples" (defScope s_law_tuples) s.heap.objs.size f cdv))) :
    PSs (cxOf CX0 P w K mg base n_law_tuples "_law_tuples" (defScope s_law_tuples) f cdv A outer s H E).nox (defBody s_law_tuples) (t_law_tuples K) := by
  unfold t_law_tuples
  exact (pss_cons (ps_set (i := 2) sc_law_tuples.nd rfl (Or.inl rfl) (pe_lst (pa_cons (pe_lst pa_nil) pa_nil)))
  (pss_cons (ps_for PassesOwn.never rfl (pi_range1 rfl T.brange (pa_cons (pv 0) pa_nil)) (pg_name (i := 3) sc_law_tuples.nd rfl (Or.inl rfl))
    (pss_cons (ps_set (i := 4) sc_law_tuples.nd rfl (Or.inl rfl) (pe_lst pa_nil))
  (pss_cons (ps_for PassesOwn.never rfl (pi_list (pv 2)) (pg_name (i := 5) sc_law_tuples.nd rfl (Or.inr rfl))
    (pss_one (ps_set (i := 4) sc_law_tuples.nd rfl (Or.inl rfl) (pe_op op_cat (pv 4) (pe_lc (own := [("_law_one", 6)]) (g := (gName 6)) (tt := tYes) (te := (tOp rCat (tVar 5) (tLst (tCons (tVar 6) tNil)))) rfl sc_law_tuples.nd (pi_range1 rfl T.brange (pa_cons (pv 1) pa_nil)) (blkOk_by (by kernel_rfl)) (fun _ _ _ _ _ => (pg_name (i := 6) sc_law_tuples.nd rfl (Or.inl rfl))) (fun _ _ _ _ _ => pts_nil) (fun _ _ _ _ _ => (pe_op op_cat (pv 5) (pe_lst (pa_cons (pv 6) pa_nil)))))))))
  (pss_one (ps_set (i := 2) sc_law_tuples.nd rfl (Or.inl rfl) (pv 4))))))
  (pss_one (ps_ret (pv 2)))))

/-! ### law_joint -/
abbrev n_law_joint : List Str := ["_law_uppers", "_law_wheels", "_law_found", "_law_wheel"]
abbrev p_law_joint : List Str := ["_law_uppers", "_law_wheels"]
theorem sc_law_joint : FnScope n_law_joint p_law_joint (defScope s_law_joint) := ⟨rfl, rfl, rfl, by decide +kernel, rfl, by decide +kernel, by decide +kernel⟩
def t_law_joint (K : PySem.W.Frag) : TS := (tSeq (tAsg (tOp (rIxL K) (tVar 1) (tC (.int 0))) (gName 2))
  (tSeq (tFor (iList K (tVar 1)) (gName 3)
    (tWhile (tTest (tOp rNe (tVar 2) (tVar 3))) (tIfS (tTest (tOp rGtI (tVar 2) (tVar 3))) (tAsg (tOp (rIxL K) (tVar 0) (tVar 2)) (gName 2)) (tAsg (tOp (rIxL K) (tVar 0) (tVar 3)) (gName 3)))))
  (tRet (tVar 2))))
theorem dv_law_joint {P : Program} {w : World} {K : PySem.W.Frag} {mg : Str → Option Value} {base : Heap} (T : Txt K mg)  (f : Addr) (cdv : Value) (A : Around) (outer : List Env) (s : Shared) (H : Hp) (E : XK) (hr : Room 0 (A.deeper (envOfC "_law_joint" (defScope s_law_joint) s.heap.objs.size f cdv))) :
    PSs (cxOf CX0 P w K mg base n_law_joint "_law_joint" (defScope s_law_joint) f cdv A outer s H E).nox (defBody s_law_joint) (t_law_joint K) := by
  unfold t_law_joint
  exact (pss_cons (ps_set (i := 2) sc_law_joint.nd rfl (Or.inl rfl) (pe_ix ix_list (pv 1) pe_int (fun _ _ => rfl)))
  (pss_cons (ps_for PassesOwn.never rfl (pi_list (pv 1)) (pg_name (i := 3) sc_law_joint.nd rfl (Or.inl rfl))
    (pss_one (ps_while PassesOwn.never (pt_cmpR op_ne (pv 2) (pv 3) (nomark _)) (pss_one (ps_if (pt_cmpR op_gt (pv 2) (pv 3) (nomark _)) (pss_one (ps_set (i := 2) sc_law_joint.nd rfl (Or.inl rfl) (pe_ix ix_list (pv 0) (pv 2) (fun _ _ => rfl)))) (pss_one (ps_set (i := 3) sc_law_joint.nd rfl (Or.inl rfl) (pe_ix ix_list (pv 0) (pv 3) (fun _ _ => rfl)))))))))
  (pss_one (ps_ret (pv 2)))))

/-! ### law_risen -/
abbrev n_law_risen : List Str := ["_law_form_here", "_law_name", "_law_goal", "_law_wheel", "_law_one", "_law_a", "_law_b"]
abbrev p_law_risen : List Str := ["_law_form_here", "_law_name", "_law_goal"]
theorem sc_law_risen : FnScope n_law_risen p_law_risen (defScope s_law_risen) := ⟨rfl, rfl, rfl, by decide +kernel, rfl, by decide +kernel, by decide +kernel⟩
def t_law_risen (K : PySem.W.Frag) : TS := (tSeq (tAsg (tVar 1) (gTup K 2 (gCons (gName 3) (gCons (gName 4) gNil))))
  (tSeq (tWhile (tTest (tOp rNe (tVar 3) (tVar 2))) (tSeq (tAsg (tOp (rIxL K) (tOp (rIxT K) (tVar 0) (tC (.int 2))) (tVar 3)) (gTup K 2 (gCons (gName 5) (gCons (gName 6) gNil))))
  (tSeq (tAsg (tOp (rIxL K) (tOp (rIxT K) (tVar 0) (tC (.int 1))) (tVar 3)) (gName 3))
  (tAsg (tOp rModI (tCB rInt1 (tCons (tOp rAddI (tOp rMulI (tVar 5) (tVar 4)) (tVar 6)) tNil)) (tOp (rIxL K) (tOp (rIxT K) (tVar 0) (tC (.int 0))) (tVar 3))) (gName 4)))))
  (tRet (tVar 4))))
theorem dv_law_risen {P : Program} {w : World} {K : PySem.W.Frag} {mg : Str → Option Value} {base : Heap} (T : Txt K mg)  (f : Addr) (cdv : Value) (A : Around) (outer : List Env) (s : Shared) (H : Hp) (E : XK) (hr : Room 0 (A.deeper (envOfC "_law_risen" (defScope s_law_risen) s.heap.objs.size f cdv))) :
    PSs (cxOf CX0 P w K mg base n_law_risen "_law_risen" (defScope s_law_risen) f cdv A outer s H E).nox (defBody s_law_risen) (t_law_risen K) := by
  unfold t_law_risen
  exact (pss_cons (ps_asg (pv 1) (pg_tup rfl (pgs_cons (pg_name (i := 3) sc_law_risen.nd rfl (Or.inl rfl)) (pgs_cons (pg_name (i := 4) sc_law_risen.nd rfl (Or.inl rfl)) pgs_nil))))
  (pss_cons (ps_while PassesOwn.never (pt_cmpR op_ne (pv 3) (pv 2) (nomark _)) (pss_cons (ps_asg (pe_ix ix_list (pe_ix ix_tup (pv 0) pe_int (fun _ _ => rfl)) (pv 3) (fun _ _ => rfl)) (pg_tup rfl (pgs_cons (pg_name (i := 5) sc_law_risen.nd rfl (Or.inl rfl)) (pgs_cons (pg_name (i := 6) sc_law_risen.nd rfl (Or.inl rfl)) pgs_nil))))
  (pss_cons (ps_set (i := 3) sc_law_risen.nd rfl (Or.inl rfl) (pe_ix ix_list (pe_ix ix_tup (pv 0) pe_int (fun _ _ => rfl)) (pv 3) (fun _ _ => rfl)))
  (pss_one (ps_set (i := 4) sc_law_risen.nd rfl (Or.inl rfl) (pe_op op_mod (pe_callTy call_int1 rfl T.bint boot_int (pa_cons (pe_op op_add (pe_op op_mulW (pv 5) (pv 4)) (pv 6)) pa_nil)) (pe_ix ix_list (pe_ix ix_tup (pv 0) pe_int (fun _ _ => rfl)) (pv 3) (fun _ _ => rfl))))))))
  (pss_one (ps_ret (pv 4)))))

end Mix
set_option maxHeartbeats 2000000
namespace Mix
open PySem PySem.Spec PyProof.Rows L2
abbrev LvN (H0 H : Hp) (u : V) (cs : List Nat) : Prop := ∃ a, u = .ref a ∧ H0 a = none ∧ H a = some (.lst (vN cs))
theorem LvN.same {H0 H H' : Hp} {u : V} {cs : List Nat} (h : LvN H0 H u cs) (e : Same H H') : LvN H0 H' u cs := by
  obtain ⟨a, rfl, h0, h⟩ := h
  exact ⟨a, rfl, h0, e _ _ h⟩
theorem pure_law_tuples {K : PySem.W.Frag} (vs : List V) (H : Hp) (Q : VK) (E : XK) (h : sp_law_tuples K vs H Q E) : t_law_tuples K { nx := fun _ H' => Q .non H', rt := Q } (start n_law_tuples vs) H := by
  obtain ⟨m, n, rfl, hm, hn, hp, k⟩ := h
  have pw : ∀ i, i ≤ m → n ^ i ≤ 64 := fun i hi => by
    rcases Nat.eq_zero_or_pos n with z | z
    · subst z
      rcases Nat.eq_zero_or_pos i with y | y
      · subst y; simp
      · rw [Nat.zero_pow y]; omega
    · exact Nat.le_trans (Nat.pow_le_pow_right z hi) hp
  refine ⟨by show 0 ≤ sizeLine; decide, fun p0 hp0 => ⟨by show 1 ≤ sizeLine; decide, fun p1 hp1 => ?_⟩⟩
  have s0 : Same H (upd (upd H p0 (.lst [])) p1 (.lst [.ref p0])) := (Same.new hp0).trans (Same.new hp1)
  refine ⟨_, rfl, _, rfl, by omega, by omega, for_range (lo := 0) (n := m) (fun i σ H' => Same H H' ∧ ∃ (q : Addr) (us : List V) (o3 o4 o5 : Option V), σ = [some (.int (m : Int)), some (.int (n : Int)), some (.ref q), o3, o4, o5, none] ∧ H q = none ∧ H' q = some (.lst us) ∧ All2 (LvN H H') us (tuplesN n i))
    ⟨s0, p1, [.ref p0], none, none, none, rfl, none_of (Same.new hp0) hp1, upd_same, ?_⟩ ?_ ?_⟩
  · refine All2.snoc All2.nil ⟨p0, rfl, hp0, ?_⟩
    rw [upd_ne (ne_of_none upd_same hp1), upd_same]
    rfl
  · rintro t σ H1 ht ⟨s1, q, us, o3, o4, o5, rfl, hq0, hq, hu⟩
    have hlen : us.length = n ^ t := by rw [hu.len, tuplesN_len]
    have h64 := pw (t + 1) (by omega)
    refine ⟨by show 0 ≤ sizeLine; decide, fun l hl => ?_⟩
    have s2 := Same.new (o := .lst []) hl
    refine ⟨_, rfl, q, rfl, ⟨_, SqL.of (s2 _ _ hq)⟩, for_list (xs := us) (fun j σ H' => Same (upd H1 l (.lst [])) H' ∧ ∃ (g : Addr) (ys : List V) (o5 : Option V), σ = [some (.int (m : Int)), some (.int (n : Int)), some (.ref q), some (.int (0 + (t : Int))), some (.ref g), o5, none] ∧ H g = none ∧ H' g = some (.lst ys) ∧
      All2 (LvN H H') ys (((tuplesN n t).take j).flatMap fun row => (List.range n).map fun c => row ++ [c])) ⟨Same.refl _, l, [], o5, rfl, none_of s1 hl, upd_same, All2.nil⟩ (fun j σ H' _ p => SqL.of (p.1 _ _ (s2 _ _ hq))) ?_ ?_⟩
    · rintro j x σ H2 hx ⟨s3, g, ys, o5', rfl, hg0, hg, hy⟩
      obtain ⟨r, hr, ru⟩ := hu.get hx
      have ru2 := (LvN.same ru s2).same s3
      obtain ⟨a, rfl, _, ha⟩ := ru2
      have hrl : r.length ≤ 3 := by
        have := (mem_tuplesN.mp (List.mem_of_getElem? hr)).1
        omega
      refine ⟨_, rfl, _, rfl, _, rfl, by omega, by omega, ?_⟩
      refine lc_all walk_range (fun D c y H' => ∃ b, y = .ref b ∧ b ≠ D ∧ H b = none ∧ H' b = some (.lst (vN (r ++ [c])))) (by show n ≤ 10000; omega) (fun _ _ => trivial) ?_ ?_ ?_ (fun x H2 P P' h q => h _ _ q) (fun σ2 H3 P P' h q => h _ _ q) ?_
      · rintro D i y H3 H4 l1 l2 hD hD1 rfl ⟨b, rfl, hb, hb0, e⟩
        exact ⟨b, rfl, hb, hb0, by rw [upd_ne hb]; exact e⟩
      · rintro D i y H3 H4 s ⟨b, rfl, hb, hb0, e⟩
        exact ⟨b, rfl, hb, hb0, s _ _ e⟩
      · rintro D i y H3 H4 zs Kp hi hD s4 hD3 ⟨rfl, rfl⟩ kp
        have ha3 := s4 _ _ ha
        refine ⟨rfl, rfl, _, rfl, _, rfl, by show 1 ≤ sizeLine; decide, fun b hb => ?_⟩
        have s5 := Same.new (o := .lst [V.int (0 + (i : Int))]) hb
        refine ⟨a, b, _, _, rfl, rfl, s5 _ _ ha3, upd_same, sz0 (by rw [vN_len]; simp; omega), fun p hp => ?_⟩
        have s6 := s5.trans (Same.new (o := .lst (vN r ++ [V.int (0 + (i : Int))])) hp)
        refine kp _ _ s6 ⟨p, rfl, ?_, none_of ((((s1.trans s2).trans s3).trans s4).trans s5) hp, ?_⟩
        · exact Ne.symm (ne_of_none (s5 _ _ hD3) hp)
        · rw [upd_same, vN_snoc]
          show some (HO.lst (vN r ++ [V.int (0 + (i : Int))])) = _
          rw [show (0 : Int) + (i : Int) = (i : Int) by omega]
      · intro D H3 zs hD s4 eD hz hR
        have hg3 := s4 _ _ hg
        have e1 : ys.length + zs.length ≤ 10000 := by
          rw [hz, hy.len, len_flatMap (n := n) _ (fun _ => by simp), List.length_take, tuplesN_len]
          have h1 : min j (n ^ t) * n ≤ n ^ t * n := Nat.mul_le_mul_right _ (Nat.min_le_right _ _)
          rw [show n ^ t * n = n ^ (t + 1) from (Nat.pow_succ ..).symm] at h1
          show _ + n ≤ _
          omega
        refine ⟨g, D, ys, zs, rfl, rfl, hg3, eD, sz0 e1, fun p hp => ?_⟩
        have s5 := Same.new (o := .lst (ys ++ zs)) hp
        refine ⟨(s3.trans s4).trans s5, p, ys ++ zs, some (.ref a), rfl, none_of (((s1.trans s2).trans s3).trans s4) hp, upd_same, ?_⟩
        rw [flat_more hr]
        have ha2 : All2 (LvN H (upd H3 p (.lst (ys ++ zs)))) zs ((List.range n).map fun c => r ++ [c]) := by
          refine ⟨by rw [hz]; simp, fun i u cs p1 p2 => ?_⟩
          obtain ⟨b, rfl, hb, hb0, e⟩ := hR i u p1
          have hi : i < n := by
            have := (List.getElem?_eq_some_iff.mp p1).1
            omega
          rw [List.getElem?_map, List.getElem?_range hi] at p2
          have := Option.some.inj p2
          subst this
          exact ⟨b, rfl, hb0, s5 _ _ e⟩
        have ha1 := hy.mono fun x y z => LvN.same (LvN.same z s4) s5
        refine ⟨by rw [List.length_append, List.length_append, ha1.len, ha2.len], fun i u cs p1 p2 => ?_⟩
        by_cases hi : i < ys.length
        · rw [List.getElem?_append_left hi] at p1
          rw [List.getElem?_append_left (by rw [← ha1.len]; exact hi)] at p2
          exact ha1.at_ _ _ _ p1 p2
        · rw [List.getElem?_append_right (by omega)] at p1
          rw [List.getElem?_append_right (by rw [← ha1.len]; omega), ← ha1.len] at p2
          exact ha2.at_ _ _ _ p1 p2
    · rintro σ H2 ⟨s3, g, ys, o5', rfl, hg0, hg, hy⟩
      refine ⟨_, rfl, (s1.trans s2).trans s3, g, ys, _, _, _, rfl, hg0, hg, ?_⟩
      rw [hu.len, List.take_length] at hy
      exact hy
  · rintro σ H1 ⟨s1, q, us, o3, o4, o5, rfl, hq0, hq, hu⟩
    exact ⟨_, rfl, k _ _ s1 ⟨us, q, rfl, hq0, hq, hu⟩⟩
theorem pure_law_draw {K : PySem.W.Frag} (vs : List V) (H : Hp) (Q : VK) (E : XK) (h : sp_law_draw K vs H Q E) : t_law_draw K { nx := fun _ H' => Q .non H', rt := Q } (start n_law_draw vs) H := by
  obtain ⟨a, ns, z, rfl, ha, hl, z0, z1, k⟩ := h
  refine ⟨_, rfl, _, rfl, a, vI ns, rfl, ha, fun p hp => ?_⟩
  have s1 := Same.new (o := .lst (cutV (vI ns) none (some 48))) hp
  have hcut : ∃ ms : List Int, cutV (vI ns) none (some 48) = vI ms ∧ ms.length ≤ 63 := by
    refine ⟨(ns.drop (HT.sIx (vI ns).length 0 none)).take (HT.sIx (vI ns).length (vI ns).length (some 48) - HT.sIx (vI ns).length 0 none), ?_, ?_⟩
    · unfold cutV vI
      rw [List.map_take, List.map_drop]
    · rw [List.length_take, List.length_drop]
      omega
  obtain ⟨ms, hms, hml⟩ := hcut
  rw [hms] at s1 ⊢
  refine ⟨p, rfl, ⟨_, SqL.of upd_same⟩, ?_⟩
  refine lc_flat walk_list (fun i => (ms[i]?).map fun j => V.int ((j.natAbs : Nat) : Int)) (by rw [vI_len]; omega) (fun H' s => s.seq (SqL.of upd_same)) ?_ ?_
  · rintro i y H1 H2 Kp Ks hi s2 ⟨rfl, hy⟩ kp ks
    obtain ⟨j, hj, rfl⟩ := vI_get' hy
    refine ⟨rfl, ?_⟩
    refine ⟨_, rfl, .inl ⟨_, rfl, _, rfl, kp _ _ (Same.refl _) ?_⟩⟩
    rw [hj]
    show some (V.int _) = some (V.int (if j < 0 then -j else j))
    congr 2
    split <;> omega
  · intro D H1 hD s2 e2
    have hD2 : ∃ ks : List Nat, H1 D = some (.lst (vN ks)) ∧ ks.length ≤ 63 := by
      refine ⟨ms.map Int.natAbs, ?_, by simpa using hml⟩
      rw [e2, vI_len]
      congr 2
      unfold vN
      rw [List.map_map]
      have go : ∀ l : List Int, ((List.range l.length).filterMap fun i => (l[i]?).map fun j => V.int ((j.natAbs : Nat) : Int)) = l.map ((fun (c : Nat) => V.int (c : Int)) ∘ Int.natAbs) := by
        intro l
        apply List.ext_getElem?
        intro i
        have : ∀ n, n ≤ l.length → ((List.range n).filterMap fun i => (l[i]?).map fun j => V.int ((j.natAbs : Nat) : Int)) = (l.take n).map ((fun (c : Nat) => V.int (c : Int)) ∘ Int.natAbs) := by
          intro n
          induction n with
          | zero => intro _; rfl
          | succ n ih =>
            intro hn
            rw [filterMap_more, ih (by omega), List.getElem?_eq_getElem (by omega), take_more (List.getElem?_eq_getElem (by omega : n < l.length)), List.map_append]
            rfl
        rw [this _ (Nat.le_refl _), List.take_length]
      exact go ms
    obtain ⟨ks, hks, hkl⟩ := hD2
    have s12 := s1.trans s2
    refine ⟨_, rfl, _, _, rfl, rfl, cmul (n := 20) (m := 10) (bd_of (by decide)) (by show Int.natAbs _ < 1024; omega) (by decide), _, _, rfl, rfl, ?_⟩
    refine ⟨_, rfl, D, rfl, ⟨_, SqL.of hks⟩, for_list (xs := vN ks) (fun i σ H' => H' = H1 ∧ ∃ (b : Int) (o : Option V), σ = [some (.ref a), some (.int z), some (.ref D), some (.int b), o] ∧ 0 ≤ b ∧ b < 2147483647) ⟨rfl, 7919 + 104729 * z, none, rfl, by omega, by omega⟩ (fun i σ H' _ p => by rw [p.1]; exact SqL.of hks) ?_ ?_⟩
    · rintro i x σ H' hx ⟨rfl, b, o, rfl, b0, b1⟩
      obtain ⟨j, hj, rfl⟩ := vN_get' hx
      refine ⟨_, rfl, _, _, rfl, rfl, cmul (n := 31) (m := 16) (by show Int.natAbs _ < 2147483648; omega) (bd_of (by decide)) (by decide), _, rfl, _, _, rfl, rfl, (by decide : (0 : Int) < 2147483549), _, _, rfl, rfl, _, _, rfl, rfl, .inl ⟨_, rfl, _, _, rfl, rfl, (by decide : (0 : Int) < 2147483647), rfl, _, _, rfl, Int.emod_nonneg _ (by decide), Int.emod_lt_of_pos _ (by decide)⟩⟩
    · rintro σ H' ⟨rfl, b, o, rfl, b0, b1⟩
      refine ⟨_, rfl, D, rfl, ⟨_, SqL.of hks⟩, ?_⟩
      refine lc_flat walk_list (fun i => (ks[i]?).bind fun (j : Nat) => if (10 : Int) ^ 18 ≤ (j : Int) then some (V.int (j : Int)) else none) (by rw [vN_len]; omega) (fun H'' s => s.seq (SqL.of hks)) ?_ ?_
      · rintro i y H2 H3 Kp Ks hi s3 ⟨rfl, hy⟩ kp kn
        obtain ⟨j, hj, rfl⟩ := vN_get' hy
        refine ⟨rfl, ?_⟩
        refine ⟨_, rfl, _, _, rfl, rfl, ?_, _, _, rfl, rfl, _, rfl, ?_⟩
        · exact ⟨by decide, by decide⟩
        · by_cases hc : (10 : Int) ^ 18 ≤ (j : Int)
          · refine ift (decide_eq_true hc) ?_
            exact ⟨_, rfl, kp _ _ (Same.refl _) (by rw [hj]; show (if _ then _ else _) = _; rw [if_pos hc])⟩
          · refine iff' (decide_eq_false hc) ?_
            exact kn _ (Same.refl _) (by rw [hj]; show (if _ then _ else _) = _; rw [if_neg hc])
      · intro D2 H2 hD2 s3 e3
        obtain ⟨ws, hws, hwl⟩ : ∃ ws : List Int, ((List.range (vN ks).length).filterMap fun i => (ks[i]?).bind fun (j : Nat) => if (10 : Int) ^ 18 ≤ (j : Int) then some (V.int (j : Int)) else none) = vI ws ∧ ws.length ≤ 63 := by
          have go : ∀ n, ∃ ws : List Int, ((List.range n).filterMap fun i => (ks[i]?).bind fun (j : Nat) => if (10 : Int) ^ 18 ≤ (j : Int) then some (V.int (j : Int)) else none) = vI ws ∧ ws.length ≤ n := by
            intro n
            induction n with
            | zero => exact ⟨[], rfl, by simp⟩
            | succ n ih =>
              obtain ⟨ws, h1, h2⟩ := ih
              rw [filterMap_more, h1]
              cases hk : ks[n]? with
              | none => exact ⟨ws, by simp, by omega⟩
              | some j =>
                by_cases hc : (10 : Int) ^ 18 ≤ (j : Int)
                · refine ⟨ws ++ [(j : Int)], ?_, by simp; omega⟩
                  rw [vI_snoc]
                  show _ ++ (match (if _ then _ else _ : Option V) with | some y => [y] | none => []) = _
                  rw [if_pos hc]
                · refine ⟨ws, ?_, by omega⟩
                  show _ ++ (match (if _ then _ else _ : Option V) with | some y => [y] | none => []) = _
                  rw [if_neg hc]
                  simp
          obtain ⟨ws, h1, h2⟩ := go (vN ks).length
          exact ⟨ws, h1, by rw [vN_len] at h2; omega⟩
        rw [hws] at e3
        refine ⟨D2, _, rfl, SqL.of e3, fun c hc => ?_⟩
        have s4 := Same.new (o := .lst (vI ws).reverse) hc
        refine ⟨_, rfl, by show 2 ≤ sizeLine; decide, fun d hd => ?_⟩
        have s5 := Same.new (o := .lst [.ref c, .int b]) hd
        have sall := ((s12.trans s3).trans s4).trans s5
        refine k _ _ sall ⟨d, c, rfl, ?_, ?_, ws.reverse, b, upd_same, ?_, by simp; omega, b0, b1⟩
        · cases hh : H d with
          | none => rfl
          | some u => have := ((s12.trans s3).trans s4) _ _ hh; rw [hd] at this; cases this
        · cases hh : H c with
          | none => rfl
          | some u => have := (s12.trans s3) _ _ hh; rw [hc] at this; cases this
        · rw [upd_ne (ne_of_none upd_same hd), upd_same]
          unfold vI
          rw [List.map_reverse]
end Mix
/-! Plain Lean: rounds that gather labels till nothing comes. -/
namespace Mix
theorem nodup_len : ∀ {L : Nat} {ds : List Nat}, ds.Nodup → (∀ d ∈ ds, d < L) → ds.length ≤ L
  | 0, ds, _, h => by
    cases ds with
    | nil => simp
    | cons d r => exact absurd (h d (by simp)) (by omega)
  | L + 1, ds, hn, h => by
    by_cases c : L ∈ ds
    · have h1 := nodup_len (L := L) (ds := ds.erase L) (hn.erase L) fun d hd => by
        have h2 := h d (List.mem_of_mem_erase hd)
        have h3 : d ≠ L := ((hn.mem_erase_iff).mp hd).1
        omega
      rw [List.length_erase_of_mem c] at h1
      omega
    · have h1 := nodup_len (L := L) hn fun d hd => by
        have h2 := h d hd
        have h3 : d ≠ L := fun e => c (e ▸ hd)
        omega
      omega
theorem nodup_full {L : Nat} {ds : List Nat} (hn : ds.Nodup) (h : ∀ d ∈ ds, d < L) (hl : L ≤ ds.length) : ∀ d, d < L → d ∈ ds := by
  intro d hd
  apply Classical.byContradiction
  intro c
  have := nodup_len (L := L) (ds := d :: ds) (List.nodup_cons.mpr ⟨c, hn⟩) fun e he => by
    rcases List.mem_cons.mp he with rfl | he
    · exact hd
    · exact h e he
  simp at this
  omega
theorem full_len : ∀ {L : Nat} {ds : List Nat}, (∀ l, l < L → l ∈ ds) → L ≤ ds.length
  | 0, _, _ => Nat.zero_le _
  | L + 1, ds, h => by
    have h1 := full_len (L := L) (ds := ds.erase L) fun l hl => (List.mem_erase_of_ne (by omega)).mpr (h l (by omega))
    have h2 := h L (by omega)
    rw [List.length_erase_of_mem h2] at h1
    have := List.length_pos_of_mem h2
    omega
section
variable {ι : Type} {L : Nat} {tgt : ι → Nat} {ready : List Nat → ι → Prop} {its : List ι} {ds0 ds : List Nat}
def Closed (tgt : ι → Nat) (ready : List Nat → ι → Prop) (its : List ι) (ds : List Nat) : Prop := ∀ it ∈ its, ready ds it → tgt it ∈ ds
structure Rnd (L : Nat) (tgt : ι → Nat) (ready : List Nat → ι → Prop) (its : List ι) (ds0 : List Nat) (i : Nat) (ds : List Nat) : Prop where
  nodup : ds.Nodup
  lt : ∀ d ∈ ds, d < L
  same : Closed tgt ready its ds0 → ds = ds0
  cases : (ds = ds0 ∧ ∀ it ∈ its.take i, ready ds0 it → tgt it ∈ ds0) ∨ ds0.length < ds.length
  sub : ∀ d ∈ ds0, d ∈ ds
theorem Rnd.init (hn : ds0.Nodup) (hl : ∀ d ∈ ds0, d < L) : Rnd L tgt ready its ds0 0 ds0 := ⟨hn, hl, fun _ => rfl, .inl ⟨rfl, fun it h => by simp at h⟩, fun _ h => h⟩
theorem Rnd.keep {i : Nat} {it : ι} (r : Rnd L tgt ready its ds0 i ds) (hi : its[i]? = some it) (h : ds = ds0 → ready ds0 it → tgt it ∈ ds0) : Rnd L tgt ready its ds0 (i + 1) ds := by
  refine ⟨r.nodup, r.lt, r.same, ?_, r.sub⟩
  rcases r.cases with ⟨e, f⟩ | l
  · refine .inl ⟨e, fun jt hj => ?_⟩
    rw [List.take_add_one, hi] at hj
    rcases List.mem_append.mp hj with hj | hj
    · exact f jt hj
    · rw [List.mem_singleton.mp hj]
      exact h e
  · exact .inr l
theorem Rnd.add {i : Nat} {it : ι} (r : Rnd L tgt ready its ds0 i ds) (hi : its[i]? = some it) (hl : tgt it < L) (hn : tgt it ∉ ds) (h : ds = ds0 → ready ds0 it) : Rnd L tgt ready its ds0 (i + 1) (ds ++ [tgt it]) := by
  refine ⟨?_, ?_, fun c => ?_, .inr ?_, fun d hd => List.mem_append_left _ (r.sub d hd)⟩
  · rw [List.nodup_append]
    refine ⟨r.nodup, by simp, fun a ha b hb => ?_⟩
    rw [List.mem_singleton.mp hb]
    intro e
    exact hn (e ▸ ha)
  · intro d hd
    rcases List.mem_append.mp hd with hd | hd
    · exact r.lt d hd
    · rw [List.mem_singleton.mp hd]
      exact hl
  · have e := r.same c
    have := c it (List.mem_of_getElem? hi) (h e)
    rw [← e] at this
    exact absurd this hn
  · have : ds0.length ≤ ds.length := by
      rcases r.cases with ⟨e, _⟩ | l
      · rw [e]; exact Nat.le_refl _
      · omega
    simp
    omega
theorem Rnd.fin {t : Nat} (r : Rnd L tgt ready its ds0 its.length ds) (h : Closed tgt ready its ds0 ∨ t ≤ ds0.length) : Closed tgt ready its ds ∨ t + 1 ≤ ds.length := by
  rcases r.cases with ⟨e, f⟩ | l
  · rw [List.take_length] at f
    rw [e]
    exact .inl f
  · rcases h with h | h
    · have := r.same h
      rw [this] at l
      exact absurd l (by omega)
    · exact .inr (by omega)
theorem closed_of (hn : ds.Nodup) (hl : ∀ d ∈ ds, d < L) (ht : ∀ it ∈ its, tgt it < L) (h : Closed tgt ready its ds ∨ L ≤ ds.length) : Closed tgt ready its ds := by
  rcases h with h | h
  · exact h
  · exact fun it hi _ => nodup_full hn hl h _ (ht it hi)
end
end Mix
namespace Mix
open PySem PySem.Spec PyProof.Rows L2
theorem flatAll_vN (cs : List Nat) : (vN cs).all flatV = true := by
  unfold vN
  rw [List.all_map, List.all_eq_true]
  intro c _
  rfl
theorem inV_vN (c : Nat) (cs : List Nat) : inV (.int (c : Int)) (vN cs) = decide (c ∈ cs) := by
  unfold inV vN
  rw [List.any_map, Bool.eq_iff_iff, List.any_eq_true, decide_eq_true_iff]
  constructor
  · rintro ⟨d, hd, e⟩
    have : (d : Int) = (c : Int) := by
      have h : (decide ((d : Int) = (c : Int))) = true := by simpa [Function.comp, eqV] using e
      exact of_decide_eq_true h
    have : d = c := by omega
    exact this ▸ hd
  · intro h
    exact ⟨c, h, by simp [Function.comp, eqV]⟩
theorem bls {f : Nat → Bool} (n : Nat) : (List.range n).filterMap (fun i => some (V.bl (f i))) = ((List.range n).map f).map V.bl := by
  rw [range_filterMap_some, List.map_map]
  rfl
theorem frV_one {q : Rat} {p : Int} : q = (p : Rat) ↔ [q.num, (q.den : Int)] = [p, 1] := by
  constructor
  · rintro rfl
    rw [Rat.num_intCast, Rat.den_intCast]
    rfl
  · intro h
    have h1 : q.num = p := (List.cons.inj h).1
    have h2 : (q.den : Int) = 1 := (List.cons.inj (List.cons.inj h).2).1
    refine q_parts (a := q) (b := (p : Rat)) ?_ ?_
    · rw [h1, Rat.num_intCast]
    · rw [h2, Rat.den_intCast]
      rfl
theorem q_le_int {q : Rat} {p : Int} (h : q ≤ (p : Rat)) : q.num ≤ p * (q.den : Int) := by
  apply Int.not_lt.mp
  intro hlt
  have h0 := gap_lt ((p : Int) : Rat) q
  rw [Rat.num_intCast, Rat.den_intCast] at h0
  have : ((p : Int) : Rat) < q := h0.mp (by simp; omega)
  exact absurd h (Rat.not_le.mpr this)
theorem q_num_zero {q : Rat} : q.num = 0 ↔ q = 0 := Rat.num_eq_zero
theorem q_num_pos {q : Rat} : 0 < q.num ↔ 0 < q := by
  have h := gap_lt 0 q
  rw [show (0 : Rat).num = 0 from rfl, show (0 : Rat).den = 1 from rfl] at h
  rw [← h]
  constructor <;> intro g <;> omega
/-- a label of the ways is done next -/
def rdy (ws : List Way) (ds : List Nat) (l : Nat) : Prop := wAt ws l = none ∨ ∃ c, wAt ws l = some c ∧ ∃ d ∈ c, d ∈ ds
theorem pure_law_is_costs {K : PySem.W.Frag} (vs : List V) (H : Hp) (Q : VK) (E : XK) (h : sp_law_is_costs K vs H Q E) : t_law_is_costs K { nx := fun _ H' => Q .non H', rt := Q } (start n_law_is_costs vs) H := by
  obtain ⟨wv, pv, cv, W, p, x, ws, rfl, hw, ok, ⟨pp, rfl, hpp⟩, hp, ⟨rv, yv, us, ⟨pc, rfl, hpc⟩, hrow, hrk, ⟨py, rfl, hpy⟩, hal, hwl, ic⟩, k⟩ := h
  obtain ⟨r, b, ⟨pw, rfl, hpw⟩, hr⟩ := id hw
  have k3 := ok.k3
  have l4 := ok.l4
  have hul : us.length = W.L := by rw [hal.len, hwl]
  refine ⟨_, rfl, _, _, _, _, true, rfl, .ty _, tyx_tup hpc, k_tt, _, rfl, iff' rfl ?_⟩
  refine ⟨_, rfl, pc, _, rfl, .inr hpc, rfl, _, rfl, iff' rfl ?_⟩
  refine ⟨_, rfl, pc, rfl, ⟨_, hpc⟩, ?_⟩
  refine for_it walk_tup (fun i σ H' => H' = H ∧ ∃ o, σ = [some (.ref pw), some (.ref pp), some (.ref pc), o, none, none, none, none, none, none, none, none, none]) ⟨rfl, none, rfl⟩ (fun i σ H' _ q => by rw [q.1]; exact hpc) ?_ ?_
  · rintro i y σ H' H'' hi ⟨rfl, o, rfl⟩ ⟨rfl, hy⟩
    obtain ⟨a, zs, rfl, ha, hzl⟩ : ∃ a zs, y = .ref a ∧ SqT K H'' a zs ∧ zs.length = W.L := by
      match i, hy with
      | 0, hy =>
        obtain ⟨vs, ⟨a, rfl, ha⟩, h2⟩ := hrow
        exact ⟨a, vs, (Option.some.inj hy).symm, ha, by rw [h2.len, hrk.1]⟩
      | 1, hy => exact ⟨py, us, (Option.some.inj hy).symm, hpy, hul⟩
      | i + 2, hy => cases hy
    refine ⟨_, rfl, _, _, _, _, true, rfl, .ty _, tyx_tup ha, k_tt, _, rfl, iff' rfl ?_⟩
    refine ⟨_, rfl, a, _, rfl, .inr ha, _, rfl, pw, _, 1, _, rfl, rfl, hpw, rfl, rfl, _, rfl, iff' (by simp [hzl]) ⟨rfl, _, rfl⟩⟩
  rintro σ H' ⟨rfl, o, rfl⟩
  refine ⟨_, rfl, pc, _, rfl, hpc, rfl, _, _, rfl, _, _, rfl, rfl, ?_⟩
  obtain ⟨rs, ⟨pr, rfl, hpr⟩, hrs⟩ := id hrow
  refine ⟨_, rfl, pr, rfl, ⟨_, hpr⟩, ?_⟩
  refine lc_flat walk_tup (fun i => some (.bl true)) (by rw [hrs.len, hrk.1]; omega) (fun H' s => s.tup hpr) ?_ ?_
  · rintro i y H2 H3 Kp Ks hi s2 ⟨rfl, hy⟩ kp ks
    obtain ⟨q, hq, fq⟩ := hrs.get hy
    refine ⟨rfl, _, rfl, y, q, rfl, TupV.mono fq s2, ?_⟩
    rintro v H4 s4 rfl
    exact kp _ _ s4 rfl
  intro D H2 hD s2 e2
  rw [bls (f := fun _ => true)] at e2
  refine ⟨D, _, rfl, SqL.of e2, _, rfl, iff' ?_ ?_⟩
  · simp
  have hcy2 := s2.tup hpy
  refine ⟨_, rfl, py, us, rfl, hcy2, ?_⟩
  refine for_it walk_enumT (fun i σ H' => Same H2 H' ∧ ∃ (o6 o7 : Option V), σ = [some (.ref pw), some (.ref pp), some (.ref pc), o, some (.ref pr), some (.ref py), o6, o7, none, none, none, none, none]) ⟨Same.refl _, none, none, rfl⟩ (fun i σ H' _ q => q.1.tup hcy2) ?_ ?_
  · rintro i y σ H3 H4 hi ⟨s3, o6, o7, rfl⟩ ⟨T1, x1, z, rfl, hT, rfl, ex, ez⟩
    cases ex
    replace ez : us[i]? = some z := ez
    obtain ⟨w, hwi, ww⟩ := hal.get ez
    have iL : i < W.L := by omega
    have s4 := (s2.trans s3).trans (Same.new (o := .tup [V.int (i : Nat), z]) hT)
    have s34 := s3.trans (Same.new (o := .tup [V.int (i : Nat), z]) hT)
    have hwl := ic.le i iL
    have ewt : wAt ws i = w := wAt_get hwi
    refine ⟨T1, _, rfl, SqT.of upd_same, rfl, _, _, rfl, _, _, rfl, rfl, ?_⟩
    refine ⟨_, rfl, _, rfl, _, rfl, .ref pw, z, W, i, w, rfl, hw.mono s4, ok, ww.mono s4, fun cs e => ⟨ic.ways.cup i cs iL (by rw [ewt, e]), ic.ways.bl i cs iL (by rw [ewt, e])⟩, ?_⟩
    rintro v H5 s5 rfl
    have s45 := s4.trans s5
    obtain ⟨pr', us', pn, e1, hpr5, hu5, hpn5⟩ := row_ix (hrow.mono s45) (l := i) (by rw [hrk.1]; exact iL)
    cases e1
    have hpp5 := s45.seq hpp
    have hpi : atI (vI p) ((i : Nat) : Int) = some (.int (pAt p i)) := atI_nat (pAt_get (by rw [hp.1]; exact iL))
    have bp : Bd 10 (pAt p i) := by have := hp.2 i; show Int.natAbs _ < 1024; omega
    refine ⟨_, rfl, iff' rfl ?_⟩
    refine ⟨_, rfl, _, rfl, pr, us', _, _, rfl, rfl, hpr5, hu5, pn, _, 0, _, rfl, rfl, hpn5, rfl, ?_⟩
    refine ⟨_, rfl, _, rfl, pp, _, _, _, rfl, rfl, hpp5, hpi, _, rfl, _, rfl, pr, us', _, _, rfl, rfl, hpr5, hu5, pn, _, 1, _, rfl, rfl, hpn5, rfl, _, _, rfl, rfl, cmul bp (hrk.at_ iL).den (by decide), _, _, rfl, rfl, _, rfl, iff' (decide_eq_false (Int.not_lt.mpr (q_le_int hwl))) ?_⟩
    cases w with
    | none =>
      cases ww
      refine ⟨_, rfl, rfl, _, rfl, ift rfl ?_⟩
      refine ⟨_, rfl, _, rfl, pr, us', _, _, rfl, rfl, hpr5, hu5, _, rfl, _, rfl, pp, _, _, _, rfl, rfl, hpp5, hpi, by show 2 ≤ sizeLine; decide, fun q hq => ?_⟩
      have s6 := Same.new (o := .tup [V.int (pAt p i), V.int 1]) hq
      refine ⟨.tuple ([(xAt x i).num, ((xAt x i).den : Int)].map PyData.int), .tuple ([pAt p i, 1].map PyData.int), .tup (s6.tup hpn5) (dp_vI [_, _]), .tup (SqT.of upd_same) (dp_vI [_, _]), shaped_t _, shaped_t _, _, rfl, ?_⟩
      have heq : xAt x i = ((pAt p i : Int) : Rat) := ic.sol.none i iL ewt
      rw [eqv_t, decide_eq_true (frV_one.mp heq)]
      refine iff' rfl ?_
      refine ⟨_, rfl, rfl, _, rfl, iff' rfl ?_⟩
      refine iff' rfl ?_
      exact ⟨(s34.trans s5).trans s6, _, _, rfl⟩
    | some cs =>
      obtain ⟨pz, rfl, hpz⟩ := ww
      refine ⟨_, rfl, rfl, _, rfl, iff' rfl ?_⟩
      refine iff' rfl ?_
      refine ⟨_, rfl, rfl, _, rfl, ift rfl ?_⟩
      have cup := ic.ways.cup i cs iL ewt
      refine ⟨_, rfl, _, rfl, _, rfl, .ref pw, .ref pr, .ref pz, W, x, cs, rfl, hw.mono s45, ok, hrow.mono s45, hrk, ⟨pz, rfl, .inr (s45.tup hpz)⟩, cup, ?_⟩
      rintro v H6 s6 rfl
      have hz : wgh W x cs = 0 := by
        unfold wgh
        have h1 := ic.sol.some i cs iL ewt
        rw [← ic.ways.bl i cs iL ewt] at h1
        rw [h1]
        grind
      rw [hz]
      refine ⟨rfl, _, rfl, iff' rfl ?_⟩
      exact ⟨(s34.trans s5).trans s6, _, _, rfl⟩
  rintro σ H3 ⟨s3, o6, o7, rfl⟩
  have s23 := s2.trans s3
  refine ⟨_, rfl, pw, _, 0, _, rfl, rfl, s23.tup hpw, rfl, _, rfl, pw, _, 1, _, rfl, rfl, s23.tup hpw, rfl, W.k, W.L, rfl, k3.2, by omega, pow_small l4 k3.2, ?_⟩
  rintro v H4 s4 ⟨cus, ca, rfl, hca0, hca', hcus⟩
  have hca := SqL.of (K := K) hca'
  have s24 := s23.trans s4
  refine ⟨ca, rfl, ⟨_, hca⟩, ?_⟩
  refine for_list (xs := cus) (fun i σ H' => Same H4 H' ∧ ∃ (o8 : Option V), σ = [some (.ref pw), some (.ref pp), some (.ref pc), o, some (.ref pr), some (.ref py), o6, o7, o8, none, none, none, none]) ⟨Same.refl _, none, rfl⟩ (fun i σ H' _ q => q.1.seq hca) ?_ ?_
  · rintro i y σ H5 hy ⟨s5, o8, rfl⟩
    obtain ⟨cs, hcs, a, rfl, _, ha⟩ := hcus.get hy
    have cup : W.Cup cs := Wd.cup_mem.mp (List.mem_of_getElem? hcs)
    have s25 := s24.trans s5
    refine ⟨_, rfl, _, rfl, _, rfl, .ref pw, .ref pr, .ref a, W, x, cs, rfl, hw.mono s25, ok, hrow.mono s25, hrk, ⟨a, rfl, .inl (SqL.of (s5 _ _ ha))⟩, cup, ?_⟩
    rintro v H6 s6 rfl
    have hz : ¬ 0 < (wgh W x cs).num := by
      rw [q_num_pos]
      unfold wgh
      have := ic.cups cs cup
      intro h
      grind
    exact ⟨_, _, rfl, rfl, _, rfl, iff' (decide_eq_false hz) ⟨s5.trans s6, _, rfl⟩⟩
  rintro σ H5 ⟨s5, o8, rfl⟩
  have s25 := s24.trans s5
  refine ⟨by show 0 ≤ sizeLine; decide, fun dn hdn => ?_⟩
  have s6 := Same.new (o := .lst []) hdn
  have s26 := s25.trans s6
  have hdnH : H' dn = none := none_of s25 hdn
  refine ⟨_, rfl, pw, _, 1, _, rfl, rfl, s26.tup hpw, rfl, _, rfl, by omega, by omega, ?_⟩
  rw [show ((W.L : Nat) : Int).toNat = W.L by omega]
  have lt_of : ∀ it ∈ List.range W.L, id it < W.L := fun it h => List.mem_range.mp h
  refine for_range (lo := 0) (n := W.L) (fun t σ H6 => Same H' H6 ∧ ∃ (ds : List Nat) (o6 o7 o10 : Option V), σ = [some (.ref pw), some (.ref pp), some (.ref pc), o, some (.ref pr), some (.ref py), o6, o7, o8, some (.ref dn), o10, none, none] ∧ H6 dn = some (.lst (vN ds)) ∧ ds.Nodup ∧ (∀ d ∈ ds, d < W.L) ∧
    (Closed id (rdy ws) (List.range W.L) ds ∨ t ≤ ds.length)) ⟨s26, [], _, _, _, rfl, upd_same, List.nodup_nil, fun d h => by simp at h, .inr (Nat.zero_le _)⟩ ?_ ?_
  · rintro t σ H6 ht ⟨s7, ds0, o6, o7, o10, rfl, hd0, hn0, hl0, hc0⟩
    refine ⟨_, rfl, py, us, rfl, s7.tup hpy, ?_⟩
    have tb : ∀ {H7 : Hp} {v : V} {xs : List V}, (∀ a u, a ≠ dn → H6 a = some u → H7 a = some u) → TupV K H6 v xs → TupV K H7 v xs := by
      rintro H7 v xs e ⟨q, rfl, h⟩
      refine ⟨q, rfl, ?_⟩
      rcases h with (h | ⟨u, h⟩) | h
      · exact .inl (.inl (e _ _ (ne_of h hd0 (by intro z; cases z)) h))
      · exact .inl (.inr ⟨u, e _ _ (ne_of h hd0 (by intro z; cases z)) h⟩)
      · exact .inr h
    refine for_it walk_enumT (fun i σ H7 => ∃ (ds : List Nat) (o6 o7 : Option V), σ = [some (.ref pw), some (.ref pp), some (.ref pc), o, some (.ref pr), some (.ref py), o6, o7, o8, some (.ref dn), some (.int (0 + (t : Int))), none, none] ∧ Same H' H7 ∧ H7 dn = some (.lst (vN ds)) ∧
      Rnd W.L id (rdy ws) (List.range W.L) ds0 i ds) ⟨ds0, _, _, rfl, s7, hd0, Rnd.init hn0 hl0⟩ (fun i σ H7 _ q => by obtain ⟨_, _, _, _, q, _⟩ := q; exact q.tup hpy) ?_ ?_
    · rintro i y σ H7 H8 hi ⟨ds, o6, o7, rfl, s8, hd, rn⟩ ⟨T1, x1, z, rfl, hT, rfl, ex, ez⟩
      cases ex
      replace ez : us[i]? = some z := ez
      obtain ⟨w, hwi, ww⟩ := hal.get ez
      have iL : i < W.L := by omega
      have hit : (List.range W.L)[i]? = some i := List.getElem?_range iL
      have ewt : wAt ws i = w := wAt_get hwi
      have sT := Same.new (o := .tup [V.int (i : Nat), z]) hT
      have s9 := s8.trans sT
      have hd9 := sT _ _ hd
      refine ⟨T1, _, rfl, SqT.of upd_same, rfl, _, _, rfl, _, _, rfl, rfl, ?_⟩
      refine ⟨_, rfl, _, rfl, dn, _, rfl, .inl (SqL.of hd9), rfl, flatAll_vN ds, _, rfl, ?_⟩
      rw [if_pos rfl, show inV (V.int ((i : Nat) : Int)) (vN ds) = decide (i ∈ ds) from inV_vN i ds]
      have add : ∀ (H10 : Hp) (o7 : Option V), Same H' H10 → H10 dn = some (.lst (vN ds)) → i ∉ ds → rdy ws ds i → ∃ l zs y, V.ref dn = V.ref l ∧ [V.int ((i : Nat) : Int)] = [y] ∧ H10 l = some (.lst zs) ∧ zs.length < sizeLine ∧ ∃ (ds : List Nat) (o6' o7' : Option V),
          [some (.ref pw), some (.ref pp), some (.ref pc), o, some (.ref pr), some (.ref py), some (.int ((i : Nat) : Int)), o7, o8, some (.ref dn), some (.int (0 + (t : Int))), none, none] = [some (.ref pw), some (.ref pp), some (.ref pc), o, some (.ref pr), some (.ref py), o6', o7', o8, some (.ref dn), some (.int (0 + (t : Int))), none, none] ∧ Same H' (upd H10 l (.lst (zs ++ [y]))) ∧ (upd H10 l (.lst (zs ++ [y]))) dn = some (.lst (vN ds)) ∧
          Rnd W.L id (rdy ws) (List.range W.L) ds0 (i + 1) ds := by
        intro H10 o7 s10 h10 hni hrd
        have := nodup_len rn.nodup rn.lt
        exact ⟨dn, _, _, rfl, rfl, h10, sz1 (by rw [vN_len]; omega), ds ++ [i], _, _, rfl, s10.mut hdnH, by rw [upd_same, vN_snoc], rn.add hit iL hni (fun e => e ▸ hrd)⟩
      by_cases hin : i ∈ ds
      · refine iff' (by simp [hin]) ?_
        refine iff' rfl ?_
        exact ⟨ds, _, _, rfl, s9, hd9, rn.keep hit fun e _ => e ▸ hin⟩
      · refine ift (by simp [hin]) ?_
        cases w with
        | none =>
          cases ww
          refine ⟨_, rfl, rfl, _, rfl, ift rfl ?_⟩
          refine ift rfl ?_
          exact ⟨_, rfl, tyL (SqL.of hd9), _, rfl, add _ _ s9 hd9 hin (.inl ewt)⟩
        | some cs =>
          obtain ⟨pz, rfl, hpz⟩ := ww
          have cup := ic.ways.cup i cs iL ewt
          refine ⟨_, rfl, rfl, _, rfl, iff' rfl ?_⟩
          refine ⟨_, rfl, pz, rfl, ⟨_, s9.tup hpz⟩, ?_⟩
          refine lc_flat walk_tup (fun j => some (.bl (decide ((cs.getD j 0) ∈ ds)))) (by rw [vN_len, cup.len]; omega) (fun H' s => (s9.trans s).tup hpz) ?_ ?_
          · rintro j y H10 H11 Kp Ks hj s10 ⟨rfl, hy⟩ kp ks
            obtain ⟨c, hc, rfl⟩ := vN_get' hy
            refine ⟨rfl, ?_⟩
            refine ⟨_, rfl, _, rfl, dn, _, rfl, .inl (SqL.of (s10 _ _ hd9)), rfl, flatAll_vN ds, kp _ _ (Same.refl _) ?_⟩
            rw [if_neg (by decide), inV_vN, List.getD_eq_getElem?_getD, hc]
            rfl
          · intro D2 H10 hD2 s10 e10
            rw [bls] at e10
            refine ⟨D2, _, rfl, SqL.of e10, _, rfl, ?_⟩
            have hany : (((List.range (vN cs).length).map fun j => decide ((cs.getD j 0) ∈ ds)).any id) = true ↔ ∃ d ∈ cs, d ∈ ds := by
              rw [vN_len, List.any_map, List.any_eq_true]
              constructor
              · rintro ⟨j, hj, e⟩
                have hj' := List.mem_range.mp hj
                refine ⟨cs.getD j 0, ?_, of_decide_eq_true e⟩
                rw [List.getD_eq_getElem?_getD, List.getElem?_eq_getElem hj']
                exact List.getElem_mem _
              · rintro ⟨d, hd, hd2⟩
                obtain ⟨j, hj⟩ := List.mem_iff_getElem?.mp hd
                refine ⟨j, List.mem_range.mpr (List.getElem?_eq_some_iff.mp hj).1, ?_⟩
                show decide _ = true
                rw [List.getD_eq_getElem?_getD, hj]
                exact decide_eq_true hd2
            by_cases hex : ∃ d ∈ cs, d ∈ ds
            · refine ift (hany.mpr hex) ?_
              exact ⟨_, rfl, tyL (SqL.of (s10 _ _ hd9)), _, rfl, add _ _ (s9.trans s10) (s10 _ _ hd9) hin (.inr ⟨cs, ewt, hex⟩)⟩
            · refine iff' (by rw [← Bool.not_eq_true]; exact fun h => hex (hany.mp h)) ?_
              refine ⟨ds, _, _, rfl, s9.trans s10, s10 _ _ hd9, rn.keep hit fun e h => ?_⟩
              rcases h with h | ⟨c, h, h2⟩
              · rw [ewt] at h; cases h
              · rw [ewt] at h
                cases h
                exact absurd (e ▸ h2) hex
    · rintro σ H7 ⟨ds, o6, o7, rfl, s8, hd, rn⟩
      rw [hul] at rn
      have rn' : Rnd W.L id (rdy ws) (List.range W.L) ds0 (List.range W.L).length ds := by rw [List.length_range]; exact rn
      exact ⟨s8, ds, _, _, _, rfl, hd, rn.nodup, rn.lt, rn'.fin hc0⟩
  · rintro σ H6 ⟨s7, ds, o6, o7, o10, rfl, hd, hn, hl, hc⟩
    have hcl := closed_of hn hl lt_of hc
    have full : ∀ l, l < W.L → l ∈ ds := ic.proper (fun l => l ∈ ds) (fun l hl e => hcl l (List.mem_range.mpr hl) (.inl e)) (fun l c hl e h => hcl l (List.mem_range.mpr hl) (.inr ⟨c, e, h⟩))
    have h1 := nodup_len hn hl
    have h2 := full_len full
    refine ⟨_, rfl, dn, _, rfl, .inl (SqL.of hd), _, rfl, pw, _, 1, _, rfl, rfl, s7.tup hpw, rfl, rfl, k _ _ s7 ?_⟩
    rw [vN_len, show ds.length = W.L by omega]
    simp
end Mix
set_option maxHeartbeats 1000000
namespace Mix
open PySem PySem.Spec PyProof.Rows L2
/-! ### law_label -/
abbrev n_law_label : List Str := ["_law_labels", "_law_results_here", "_law_naming", "_law_recipe", "_law_cup"]
abbrev p_law_label : List Str := ["_law_labels", "_law_results_here", "_law_naming", "_law_recipe"]
theorem sc_law_label : FnScope n_law_label p_law_label (defScope s_law_label) := ⟨rfl, rfl, rfl, by decide +kernel, rfl, by decide +kernel, by decide +kernel⟩
def t_law_label (K : PySem.W.Frag) (spr : Sp) : TS := (tSeq (tIfS (tNot (tB (tCB (rIsi K) (tCons (tVar 3) (tCons (tC (.ty "tuple")) tNil))))) (tRet (tOp (rIxL K) (tVar 2) (tVar 3))) tNext)
  (tRet (tCall (sp_law_blend K) [] E0 (tCons (tVar 0) (tCons (tVar 1) (tCons (tLc (iTup K (tVar 3)) (gName 4) tYes (tCall spr [] E0 (tCons (tVar 0) (tCons (tVar 1) (tCons (tVar 2) (tCons (tVar 4) tNil))))) [4]) tNil))))))
theorem dv_law_label {P : Program} {w : World} {K : PySem.W.Frag} {mg : Str → Option Value} {base : Heap} (T : Txt K mg) (claw_blend : Cal P w K mg base 1 "_law_blend" (sp_law_blend K)) {j : Nat} (hj : 1 ≤ j) {spr : Sp} (cself : Cal P w K mg base j "_law_label" spr) (f : Addr) (cdv : Value) (A : Around) (outer : List Env) (s : Shared) (H : Hp) (E : XK) (hr : Room j (A.deeper (envOfC "_law_label" (defScope s_law_label) s.heap.objs.size f cdv))) :
    PSs (cxOf CX0 P w K mg base n_law_label "_law_label" (defScope s_law_label) f cdv A outer s H E).nox (defBody s_law_label) (t_law_label K spr) := by
  unfold t_law_label
  exact (pss_cons (ps_if (pt_not (pt_val (pe_callB call_isi rfl T.bisinstance boot_isinstance (pa_cons (pv 3) (pa_cons (pe_bltn (v := .ty "tuple") rfl T.btuple boot_tuple rfl) pa_nil))))) (pss_one (ps_ret (pe_ix ix_list (pv 2) (pv 3) (fun _ _ => rfl)))) pss_nil)
  (pss_one (ps_ret (pe_c claw_blend hr (by omega) rfl (pa_cons (pv 0) (pa_cons (pv 1) (pa_cons (pe_lc (own := [("_law_cup", 4)]) (g := (gName 4)) (tt := tYes) (te := (tCall spr [] E0 (tCons (tVar 0) (tCons (tVar 1) (tCons (tVar 2) (tCons (tVar 4) tNil)))))) rfl sc_law_label.nd (pi_tup (pv 3)) (blkOk_by (by kernel_rfl)) (fun _ _ _ _ _ => (pg_name (i := 4) sc_law_label.nd rfl (Or.inl rfl))) (fun _ _ _ _ _ => pts_nil) (fun _ _ _ _ _ => (pe_c cself hr (Nat.le_refl _) rfl (pa_cons (pv 0) (pa_cons (pv 1) (pa_cons (pv 2) (pa_cons (pv 4) pa_nil))))))) pa_nil)))))))

/-! ### law_bill -/
abbrev n_law_bill : List Str := ["_law_k", "_law_prices_here", "_law_recipe", "_law_found", "_law_cup"]
abbrev p_law_bill : List Str := ["_law_k", "_law_prices_here", "_law_recipe"]
theorem sc_law_bill : FnScope n_law_bill p_law_bill (defScope s_law_bill) := ⟨rfl, rfl, rfl, by decide +kernel, rfl, by decide +kernel, by decide +kernel⟩
def t_law_bill (K : PySem.W.Frag) (spr : Sp) : TS := (tSeq (tIfS (tNot (tB (tCB (rIsi K) (tCons (tVar 2) (tCons (tC (.ty "tuple")) tNil))))) (tRet (tTup (tCons (tOp (rIxL K) (tVar 1) (tVar 2)) (tCons (tC (.int 1)) tNil)))) tNext)
  (tSeq (tAsg (tTup (tCons (tC (.int 0)) (tCons (tC (.int 1)) tNil))) (gName 3))
  (tSeq (tFor (iTup K (tVar 2)) (gName 4)
    (tAsg (tCall (sp_law_plus K) [] E0 (tCons (tVar 3) (tCons (tCall spr [] E0 (tCons (tVar 0) (tCons (tVar 1) (tCons (tVar 4) tNil)))) (tCons (tC (.int 1)) tNil)))) (gName 3)))
  (tRet (tCall (sp_law_made K) [] E0 (tCons (tOp (rIxT K) (tVar 3) (tC (.int 0))) (tCons (tOp rMulI (tOp (rIxT K) (tVar 3) (tC (.int 1))) (tVar 0)) tNil)))))))
theorem dv_law_bill {P : Program} {w : World} {K : PySem.W.Frag} {mg : Str → Option Value} {base : Heap} (T : Txt K mg) (claw_plus : Cal P w K mg base 3 "_law_plus" (sp_law_plus K)) (claw_made : Cal P w K mg base 2 "_law_made" (sp_law_made K)) {j : Nat} (hj : 3 ≤ j) {spr : Sp} (cself : Cal P w K mg base j "_law_bill" spr) (f : Addr) (cdv : Value) (A : Around) (outer : List Env) (s : Shared) (H : Hp) (E : XK) (hr : Room j (A.deeper (envOfC "_law_bill" (defScope s_law_bill) s.heap.objs.size f cdv))) :
    PSs (cxOf CX0 P w K mg base n_law_bill "_law_bill" (defScope s_law_bill) f cdv A outer s H E).nox (defBody s_law_bill) (t_law_bill K spr) := by
  unfold t_law_bill
  exact (pss_cons (ps_if (pt_not (pt_val (pe_callB call_isi rfl T.bisinstance boot_isinstance (pa_cons (pv 2) (pa_cons (pe_bltn (v := .ty "tuple") rfl T.btuple boot_tuple rfl) pa_nil))))) (pss_one (ps_ret (pe_tup (pa_cons (pe_ix ix_list (pv 1) (pv 2) (fun _ _ => rfl)) (pa_cons pe_int pa_nil))))) pss_nil)
  (pss_cons (ps_set (i := 3) sc_law_bill.nd rfl (Or.inl rfl) (pe_tup (pa_cons pe_int (pa_cons pe_int pa_nil))))
  (pss_cons (ps_for PassesOwn.never rfl (pi_tup (pv 2)) (pg_name (i := 4) sc_law_bill.nd rfl (Or.inl rfl))
    (pss_one (ps_set (i := 3) sc_law_bill.nd rfl (Or.inl rfl) (pe_c claw_plus hr (by omega) rfl (pa_cons (pv 3) (pa_cons (pe_c cself hr (Nat.le_refl _) rfl (pa_cons (pv 0) (pa_cons (pv 1) (pa_cons (pv 4) pa_nil)))) (pa_cons pe_int pa_nil)))))))
  (pss_one (ps_ret (pe_c claw_made hr (by omega) rfl (pa_cons (pe_ix ix_tup (pv 3) pe_int (fun _ _ => rfl)) (pa_cons (pe_op op_mulW (pe_ix ix_tup (pv 3) pe_int (fun _ _ => rfl)) (pv 0)) pa_nil))))))))

/-! ### law_is_recipe -/
abbrev n_law_is_recipe : List Str := ["_law_world_here", "_law_value", "_law_deep", "_law_cup"]
abbrev p_law_is_recipe : List Str := ["_law_world_here", "_law_value", "_law_deep"]
theorem sc_law_is_recipe : FnScope n_law_is_recipe p_law_is_recipe (defScope s_law_is_recipe) := ⟨rfl, rfl, rfl, by decide +kernel, rfl, by decide +kernel, by decide +kernel⟩
def t_law_is_recipe (K : PySem.W.Frag) (spr : Sp) : TS := (tSeq (tIfS (tB (tCB (rIsi K) (tCons (tVar 1) (tCons (tC (.ty "tuple")) tNil)))) (tSeq (tIfS (tOr (tTest (tOp rEq (tVar 2) (tC (.int 0)))) (tTest (tOp rNe (tCB (rLen K) (tCons (tVar 1) tNil)) (tOp (rIxT K) (tVar 0) (tC (.int 0)))))) (tRet (tC (.bl false))) tNext)
  (tRet (tCB (rAll K) (tCons (tLc (iTup K (tVar 1)) (gName 3) tYes (tCall spr [] E0 (tCons (tVar 0) (tCons (tVar 3) (tCons (tOp rSubI (tVar 2) (tC (.int 1))) tNil)))) [3]) tNil)))) tNext)
  (tRet (tAndV (tCB (rIsi K) (tCons (tVar 1) (tCons (tC (.ty "int")) tNil))) (tAndV (tNotV (tCB (rIsi K) (tCons (tVar 1) (tCons (tC (.ty "bool")) tNil)))) (tOp (rInRng false) (tVar 1) (tCB rRange1 (tCons (tOp (rIxT K) (tVar 0) (tC (.int 1))) tNil)))))))
theorem dv_law_is_recipe {P : Program} {w : World} {K : PySem.W.Frag} {mg : Str → Option Value} {base : Heap} (T : Txt K mg)  {j : Nat} (hj : 0 ≤ j) {spr : Sp} (cself : Cal P w K mg base j "_law_is_recipe" spr) (f : Addr) (cdv : Value) (A : Around) (outer : List Env) (s : Shared) (H : Hp) (E : XK) (hr : Room j (A.deeper (envOfC "_law_is_recipe" (defScope s_law_is_recipe) s.heap.objs.size f cdv))) :
    PSs (cxOf CX0 P w K mg base n_law_is_recipe "_law_is_recipe" (defScope s_law_is_recipe) f cdv A outer s H E).nox (defBody s_law_is_recipe) (t_law_is_recipe K spr) := by
  unfold t_law_is_recipe
  exact (pss_cons (ps_if (pt_val (pe_callB call_isi rfl T.bisinstance boot_isinstance (pa_cons (pv 1) (pa_cons (pe_bltn (v := .ty "tuple") rfl T.btuple boot_tuple rfl) pa_nil)))) (pss_cons (ps_if (PW.pt (pw_or (pt_cmpR op_eq (pv 2) pe_int (nomark _)) (pw_or1 (pt_cmpR op_ne (pe_callB call_len_seq rfl T.blen boot_len (pa_cons (pv 1) pa_nil)) (pe_ix ix_tup (pv 0) pe_int (fun _ _ => rfl)) (nomark _))))) (pss_one (ps_ret pe_bl)) pss_nil)
  (pss_one (ps_ret (pe_callB (cr_all rfl) rfl T.ball boot_all (pa_cons (pe_lc (own := [("_law_cup", 3)]) (g := (gName 3)) (tt := tYes) (te := (tCall spr [] E0 (tCons (tVar 0) (tCons (tVar 3) (tCons (tOp rSubI (tVar 2) (tC (.int 1))) tNil))))) rfl sc_law_is_recipe.nd (pi_tup (pv 1)) (blkOk_by (by kernel_rfl)) (fun _ _ _ _ _ => (pg_name (i := 3) sc_law_is_recipe.nd rfl (Or.inl rfl))) (fun _ _ _ _ _ => pts_nil) (fun _ _ _ _ _ => (pe_c cself hr (Nat.le_refl _) rfl (pa_cons (pv 0) (pa_cons (pv 3) (pa_cons (pe_op op_sub (pv 2) pe_int) pa_nil)))))) pa_nil))))) pss_nil)
  (pss_one (ps_ret (pe_and (pe_callB call_isi rfl T.bisinstance boot_isinstance (pa_cons (pv 1) (pa_cons (pe_bltn (v := .ty "int") rfl T.bint boot_int rfl) pa_nil))) (pe_and (pe_not (pe_callB call_isi rfl T.bisinstance boot_isinstance (pa_cons (pv 1) (pa_cons (pe_bltn (v := .ty "bool") rfl T.bbool boot_bool rfl) pa_nil)))) (pe_one (pe_cmpR op_inRng (pv 1) (pe_callTy cr_range1 rfl T.brange boot_range (pa_cons (pe_ix ix_tup (pv 0) pe_int (fun _ _ => rfl)) pa_nil)) (by rfl))))))))

/-! ### law_exact -/
abbrev n_law_exact : List Str := ["_law_world_here", "_law_prices_here", "_law_row", "_law_found", "_law_even", "_law_turn", "_law_cups", "_law_label_here", "_law_cup"]
abbrev p_law_exact : List Str := ["_law_world_here", "_law_prices_here", "_law_row"]
theorem sc_law_exact : FnScope n_law_exact p_law_exact (defScope s_law_exact) := ⟨rfl, rfl, rfl, by decide +kernel, rfl, by decide +kernel, by decide +kernel⟩
def t_law_exact (K : PySem.W.Frag) : TS := (tSeq (tAsg (tLc (iRng1 (tCons (tOp (rIxT K) (tVar 0) (tC (.int 1))) tNil)) (gName 7) (tTest (tOp (rEqD K) (tOp (rIxT K) (tVar 2) (tVar 7)) (tTup (tCons (tOp (rIxL K) (tVar 1) (tVar 7)) (tCons (tC (.int 1)) tNil))))) (tVar 7) [7]) (gName 3))
  (tSeq (tAsg (tLc (iList K (tCall (sp_law_tuples K) [] E0 (tCons (tOp (rIxT K) (tVar 0) (tC (.int 0))) (tCons (tOp (rIxT K) (tVar 0) (tC (.int 1))) tNil)))) (gName 6) (tTest (tOp rEq (tCall (sp_law_weighed K) [] E0 (tCons (tVar 0) (tCons (tVar 2) (tCons (tVar 6) tNil)))) (tC (.int 0)))) (tVar 6) [6]) (gName 4))
  (tSeq (tFor (iRng1 (tCons (tOp (rIxT K) (tVar 0) (tC (.int 1))) tNil)) (gName 5)
    (tFor (iList K (tVar 4)) (gName 6)
    (tSeq (tAsg (tCall (sp_law_blend K) [] E0 (tCons (tOp (rIxT K) (tVar 0) (tC (.int 1))) (tCons (tOp (rIxT K) (tVar 0) (tC (.int 2))) (tCons (tVar 6) tNil)))) (gName 7))
  (tIfS (tAnd (tTest (tOp (rIn K true) (tVar 7) (tVar 3))) (tB (tCB (rAll K) (tCons (tLc (iList K (tVar 6)) (gName 8) tYes (tOp (rIn K false) (tVar 8) (tVar 3)) [8]) tNil)))) (tDrop (tBM K "list" rAppend (tVar 3) (tCons (tVar 7) tNil))) tNext))))
  (tRet (tVar 3)))))
theorem dv_law_exact {P : Program} {w : World} {K : PySem.W.Frag} {mg : Str → Option Value} {base : Heap} (T : Txt K mg) (claw_tuples : Cal P w K mg base 1 "_law_tuples" (sp_law_tuples K)) (claw_weighed : Cal P w K mg base 4 "_law_weighed" (sp_law_weighed K)) (claw_blend : Cal P w K mg base 1 "_law_blend" (sp_law_blend K)) (f : Addr) (cdv : Value) (A : Around) (outer : List Env) (s : Shared) (H : Hp) (E : XK) (hr : Room 4 (A.deeper (envOfC "_law_exact" (defScope s_law_exact) s.heap.objs.size f cdv))) :
    PSs (cxOf CX0 P w K mg base n_law_exact "_law_exact" (defScope s_law_exact) f cdv A outer s H E).nox (defBody s_law_exact) (t_law_exact K) := by
  unfold t_law_exact
  exact (pss_cons (ps_set (i := 3) sc_law_exact.nd rfl (Or.inr rfl) (pe_lc (own := [("_law_label_here", 7)]) (g := (gName 7)) (tt := (tTest (tOp (rEqD K) (tOp (rIxT K) (tVar 2) (tVar 7)) (tTup (tCons (tOp (rIxL K) (tVar 1) (tVar 7)) (tCons (tC (.int 1)) tNil)))))) (te := (tVar 7)) rfl sc_law_exact.nd (pi_range1 rfl T.brange (pa_cons (pe_ix ix_tup (pv 0) pe_int (fun _ _ => rfl)) pa_nil)) (blkOk_by (by kernel_rfl)) (fun _ _ _ _ _ => (pg_name (i := 7) sc_law_exact.nd rfl (Or.inl rfl))) (fun _ _ _ _ _ => (pts_one (pt_cmpR (op_eqD hr.units) (pe_ix ix_tup (pv 2) (pv 7) (fun _ _ => rfl)) (pe_tup (pa_cons (pe_ix ix_list (pv 1) (pv 7) (fun _ _ => rfl)) (pa_cons pe_int pa_nil))) (nomark _)))) (fun _ _ _ _ _ => (pv 7))))
  (pss_cons (ps_setLc (i := 4) (own := [("_law_cups", 6)]) (g := (gName 6)) (tt := (tTest (tOp rEq (tCall (sp_law_weighed K) [] E0 (tCons (tVar 0) (tCons (tVar 2) (tCons (tVar 6) tNil)))) (tC (.int 0))))) (te := (tVar 6)) rfl sc_law_exact.nd rfl rfl (sw_true rfl rfl rfl (by decide +kernel)) (pi_list (pe_c claw_tuples hr (by decide) rfl (pa_cons (pe_ix ix_tup (pv 0) pe_int (fun _ _ => rfl)) (pa_cons (pe_ix ix_tup (pv 0) pe_int (fun _ _ => rfl)) pa_nil)))) (blkOk_by (by kernel_rfl)) (fun _ _ _ _ _ => (pg_name (i := 6) sc_law_exact.nd rfl (Or.inl rfl))) (fun _ _ _ _ _ => (pts_one (pt_cmpR op_eq (pe_c claw_weighed hr (by decide) rfl (pa_cons (pv 0) (pa_cons (pv 2) (pa_cons (pv 6) pa_nil)))) pe_int (nomark _)))) (fun _ _ _ _ _ => (pv 6)))
  (pss_cons (ps_for PassesOwn.never rfl (pi_range1 rfl T.brange (pa_cons (pe_ix ix_tup (pv 0) pe_int (fun _ _ => rfl)) pa_nil)) (pg_name (i := 5) sc_law_exact.nd rfl (Or.inl rfl))
    (pss_one (ps_for PassesOwn.never rfl (pi_list (pv 4)) (pg_name (i := 6) sc_law_exact.nd rfl (Or.inl rfl))
    (pss_cons (ps_set (i := 7) sc_law_exact.nd rfl (Or.inl rfl) (pe_c claw_blend hr (by decide) rfl (pa_cons (pe_ix ix_tup (pv 0) pe_int (fun _ _ => rfl)) (pa_cons (pe_ix ix_tup (pv 0) pe_int (fun _ _ => rfl)) (pa_cons (pv 6) pa_nil)))))
  (pss_one (ps_if (PW.pt (pw_and (pt_cmpR op_notIn_seq (pv 7) (pv 3) (by rfl)) (pw_and1 (pt_val (pe_callB (cr_all rfl) rfl T.ball boot_all (pa_cons (pe_lc (own := [("_law_cup", 8)]) (g := (gName 8)) (tt := tYes) (te := (tOp (rIn K false) (tVar 8) (tVar 3))) rfl sc_law_exact.nd (pi_list (pv 6)) (blkOk_by (by kernel_rfl)) (fun _ _ _ _ _ => (pg_name (i := 8) sc_law_exact.nd rfl (Or.inl rfl))) (fun _ _ _ _ _ => pts_nil) (fun _ _ _ _ _ => (pe_cmpR op_in_seq (pv 8) (pv 3) (by rfl)))) pa_nil)))))) (pss_one (ps_expr (pe_bm PySem.F.plainAttrs_list PySem.F.slot_list_append PySem.F.type_list_append mt_append (pv 3) (pa_cons (pv 7) pa_nil)))) pss_nil))))))
  (pss_one (ps_ret (pv 3))))))

/-! ### law_all_right -/
abbrev n_law_all_right : List Str := ["_law_deal", "_law_world_here", "_law_table_here", "_law_prices_here", "_law_pair", "_law_exact_here", "_law_label_here", "_law_told_here"]
abbrev p_law_all_right : List Str := ["_law_deal", "_law_world_here", "_law_table_here", "_law_prices_here"]
theorem sc_law_all_right : FnScope n_law_all_right p_law_all_right (defScope s_law_all_right) := ⟨rfl, rfl, rfl, by decide +kernel, rfl, by decide +kernel, by decide +kernel⟩
def t_law_all_right (K : PySem.W.Frag) : TS := (tSeq (tAsg (tCall (sp_costs K) [] E0 (tCons (tVar 2) (tCons (tVar 3) tNil))) (gName 4))
  (tSeq (tIfS (tNot (tB (tCall (sp_law_is_costs K) [] E0 (tCons (tVar 1) (tCons (tVar 3) (tCons (tVar 4) tNil)))))) (tRet (tC (.bl false))) tNext)
  (tSeq (tAsg (tCall (sp_law_exact K) [] E0 (tCons (tVar 1) (tCons (tVar 3) (tCons (tOp (rIxT K) (tVar 4) (tC (.int 0))) tNil)))) (gName 5))
  (tSeq (tFor (iRng1 (tCons (tOp (rIxT K) (tVar 1) (tC (.int 1))) tNil)) (gName 6)
    (tSeq (tAsg (tCall (sp_law_told K) [] E0 (tCons (tVar 2) (tCons (tCall (sp_law_shown K) [] E0 (tCons (tVar 0) (tCons (tVar 3) tNil))) (tCons (tVar 6) tNil)))) (gName 7))
  (tIfS (tTest (tOp (rIn K true) (tVar 6) (tVar 5))) (tIfS (tOr (tTest (tOp (rNeD K) (tVar 7) (tLst (tCons (tC (.int 0)) tNil)))) (tOr (tB (tCB (rIsi K) (tCons (tVar 7) (tCons (tC (.ty "tuple")) tNil)))) (tB (tCB (rIsi K) (tCons (tOp (rIxL K) (tVar 7) (tC (.int 0))) (tCons (tC (.ty "bool")) tNil)))))) (tRet (tC (.bl false))) tNext) (tIfS (tNot (tB (tCall (sp_law_is_recipe K 4) [] E0 (tCons (tVar 1) (tCons (tVar 7) (tCons (tC (.int 12)) tNil)))))) (tRet (tC (.bl false))) (tIfS (tTest (tOp rNe (tCall (sp_law_label K 4) [] E0 (tCons (tOp (rIxT K) (tVar 1) (tC (.int 1))) (tCons (tOp (rIxT K) (tVar 1) (tC (.int 2))) (tCons (tLstRg (tRg1 (tOp (rIxT K) (tVar 1) (tC (.int 1))))) (tCons (tVar 7) tNil))))) (tVar 6))) (tRet (tC (.bl false))) (tIfS (tTest (tOp (rNeD K) (tCall (sp_law_bill K 4) [] E0 (tCons (tOp (rIxT K) (tVar 1) (tC (.int 0))) (tCons (tVar 3) (tCons (tVar 7) tNil)))) (tOp (rIxT K) (tOp (rIxT K) (tVar 4) (tC (.int 0))) (tVar 6)))) (tRet (tC (.bl false))) tNext))))))
  (tRet (tC (.bl true)))))))
theorem dv_law_all_right {P : Program} {w : World} {K : PySem.W.Frag} {mg : Str → Option Value} {base : Heap} (T : Txt K mg) (ccosts : Cal P w K mg base 6 "costs" (sp_costs K)) (claw_is_costs : Cal P w K mg base 5 "_law_is_costs" (sp_law_is_costs K)) (claw_exact : Cal P w K mg base 5 "_law_exact" (sp_law_exact K)) (claw_told : Cal P w K mg base 8 "_law_told" (sp_law_told K)) (claw_shown : Cal P w K mg base 2 "_law_shown" (sp_law_shown K)) (claw_is_recipe : Cal P w K mg base 7 "_law_is_recipe" (sp_law_is_recipe K 4)) (claw_label : Cal P w K mg base 8 "_law_label" (sp_law_label K 4)) (claw_bill : Cal P w K mg base 10 "_law_bill" (sp_law_bill K 4)) (f : Addr) (cdv : Value) (A : Around) (outer : List Env) (s : Shared) (H : Hp) (E : XK) (hr : Room 10 (A.deeper (envOfC "_law_all_right" (defScope s_law_all_right) s.heap.objs.size f cdv))) :
    PSs (cxOf CX0 P w K mg base n_law_all_right "_law_all_right" (defScope s_law_all_right) f cdv A outer s H E).nox (defBody s_law_all_right) (t_law_all_right K) := by
  unfold t_law_all_right
  exact (pss_cons (ps_set (i := 4) sc_law_all_right.nd rfl (Or.inl rfl) (pe_c ccosts hr (by decide) rfl (pa_cons (pv 2) (pa_cons (pv 3) pa_nil))))
  (pss_cons (ps_if (pt_not (pt_val (pe_c claw_is_costs hr (by decide) rfl (pa_cons (pv 1) (pa_cons (pv 3) (pa_cons (pv 4) pa_nil)))))) (pss_one (ps_ret pe_bl)) pss_nil)
  (pss_cons (ps_set (i := 5) sc_law_all_right.nd rfl (Or.inl rfl) (pe_c claw_exact hr (by decide) rfl (pa_cons (pv 1) (pa_cons (pv 3) (pa_cons (pe_ix ix_tup (pv 4) pe_int (fun _ _ => rfl)) pa_nil)))))
  (pss_cons (ps_for PassesOwn.never rfl (pi_range1 rfl T.brange (pa_cons (pe_ix ix_tup (pv 1) pe_int (fun _ _ => rfl)) pa_nil)) (pg_name (i := 6) sc_law_all_right.nd rfl (Or.inl rfl))
    (pss_cons (ps_set (i := 7) sc_law_all_right.nd rfl (Or.inl rfl) (pe_c claw_told hr (by decide) rfl (pa_cons (pv 2) (pa_cons (pe_c claw_shown hr (by decide) rfl (pa_cons (pv 0) (pa_cons (pv 3) pa_nil))) (pa_cons (pv 6) pa_nil)))))
  (pss_one (ps_if (pt_cmpR op_notIn_seq (pv 6) (pv 5) (by rfl)) (pss_one (ps_if (PW.pt (pw_or (pt_cmpR (op_neD hr.units) (pv 7) (pe_lst (pa_cons pe_int pa_nil)) (nomark _)) (pw_or (pt_val (pe_callB call_isi rfl T.bisinstance boot_isinstance (pa_cons (pv 7) (pa_cons (pe_bltn (v := .ty "tuple") rfl T.btuple boot_tuple rfl) pa_nil)))) (pw_or1 (pt_val (pe_callB call_isi rfl T.bisinstance boot_isinstance (pa_cons (pe_ix ix_list (pv 7) pe_int (fun _ _ => rfl)) (pa_cons (pe_bltn (v := .ty "bool") rfl T.bbool boot_bool rfl) pa_nil)))))))) (pss_one (ps_ret pe_bl)) pss_nil)) (pss_one (ps_if (pt_not (pt_val (pe_c claw_is_recipe hr (by decide) rfl (pa_cons (pv 1) (pa_cons (pv 7) (pa_cons pe_int pa_nil)))))) (pss_one (ps_ret pe_bl)) (pss_one (ps_if (pt_cmpR op_ne (pe_c claw_label hr (by decide) rfl (pa_cons (pe_ix ix_tup (pv 1) pe_int (fun _ _ => rfl)) (pa_cons (pe_ix ix_tup (pv 1) pe_int (fun _ _ => rfl)) (pa_cons (pe_listRg rfl rfl T.blist (prg_1 rfl T.brange (pe_ix ix_tup (pv 1) pe_int (fun _ _ => rfl)))) (pa_cons (pv 7) pa_nil))))) (pv 6) (nomark _)) (pss_one (ps_ret pe_bl)) (pss_one (ps_if (pt_cmpR (op_neD hr.units) (pe_c claw_bill hr (by decide) rfl (pa_cons (pe_ix ix_tup (pv 1) pe_int (fun _ _ => rfl)) (pa_cons (pv 3) (pa_cons (pv 7) pa_nil)))) (pe_ix ix_tup (pe_ix ix_tup (pv 4) pe_int (fun _ _ => rfl)) (pv 6) (fun _ _ => rfl)) (nomark _)) (pss_one (ps_ret pe_bl)) pss_nil))))))))))
  (pss_one (ps_ret pe_bl))))))

end Mix
set_option maxHeartbeats 2000000
namespace Mix
open PySem PySem.Spec PyProof.Rows L2
/-- a label, or a tuple of recipes -/
theorem RecAt.cases {K : PySem.W.Frag} {H : Hp} {W : Wd} {p x : Nat → Rat} {dp : Nat} {v : V} {l : Nat} (h : RecAt K H W p x dp v l) :
    (v = .int (l : Int) ∧ l < W.L ∧ x l = p l) ∨ ∃ d us cs, dp = d + 1 ∧ TupV K H v us ∧ W.Cup cs ∧ (W.k : Rat) * x (W.bl cs) = sumQ x cs ∧ W.bl cs = l ∧ us.length = cs.length ∧
      ∀ (i : Nat) (u : V) (c : Nat), us[i]? = some u → cs[i]? = some c → RecAt K H W p x d u c := by
  cases dp with
  | zero => exact .inl h
  | succ d =>
    rcases h with h | ⟨us, cs, h⟩
    · exact .inl h
    · exact .inr ⟨d, us, cs, rfl, h⟩
theorem fm_vN {cs : List Nat} {n : Nat} (h : n = cs.length) : (List.range n).filterMap (fun i => some (V.int ((cs.getD i 0 : Nat) : Int))) = vN cs := by
  subst h
  rw [range_filterMap_some]
  unfold vN
  apply List.ext_getElem?
  intro i
  rw [List.getElem?_map, List.getElem?_map]
  by_cases c : i < cs.length
  · rw [List.getElem?_range c, List.getElem?_eq_getElem c, Option.map_some, Option.map_some, List.getD_eq_getElem?_getD, List.getElem?_eq_getElem c]
    rfl
  · rw [List.getElem?_eq_none (by simp; omega), List.getElem?_eq_none (by omega)]
    rfl
theorem pure_law_label {K : PySem.W.Frag} {spr : Sp} (dp : Nat) (hs : ∀ d, dp = d + 1 → spr = sp_law_label K d) (vs : List V) (H : Hp) (Q : VK) (E : XK) (h : sp_law_label K dp vs H Q E) : t_law_label K spr { nx := fun _ H' => Q .non H', rt := Q } (start n_law_label vs) H := by
  obtain ⟨r, n, W, p, x, v, l, rfl, hr, hn, ok, hv, k⟩ := h
  have k3 := ok.k3
  rcases hv.cases with ⟨rfl, hl, hx⟩ | ⟨d, us, cs, rfl, ⟨pu, rfl, hpu⟩, cup, heq, hbl, hlen, hrec⟩
  · refine ⟨_, rfl, _, _, _, _, false, rfl, .ty _, .base (.int _), k_it, _, rfl, ift rfl ?_⟩
    refine ⟨_, rfl, _, rfl, n, _, _, .int (l : Int), rfl, rfl, hn, atI_nat (vN_get (List.getElem?_range hl)), k _ _ (Same.refl _) rfl⟩
  · have es := hs d rfl
    subst es
    refine ⟨_, rfl, _, _, _, _, true, rfl, .ty _, tyx_tup hpu, k_tt, _, rfl, iff' rfl ?_⟩
    refine ⟨_, rfl, _, rfl, _, rfl, pu, rfl, ⟨_, hpu⟩, ?_⟩
    refine lc_flat walk_tup (fun i => some (.int ((cs.getD i 0 : Nat) : Int))) (by rw [hlen, cup.len]; omega) (fun H' s => s.tup hpu) ?_ ?_
    · rintro i y H2 H3 Kp Ks hi s2 ⟨rfl, hy⟩ kp ks
      have hci : cs[i]? = some (cs.getD i 0) := by
        rw [List.getD_eq_getElem?_getD, List.getElem?_eq_getElem (by omega)]
        rfl
      refine ⟨rfl, ?_⟩
      refine ⟨_, rfl, _, rfl, _, rfl, _, rfl, r, n, W, p, x, y, cs.getD i 0, rfl, s2.seq hr, s2.seq hn, ok, RecAt.mono s2 (hrec i y _ hy hci), ?_⟩
      rintro v H4 s4 rfl
      exact kp _ _ s4 rfl
    · intro D H2 hD s2 e2
      rw [fm_vN hlen] at e2
      refine ⟨r, .ref D, W, cs, rfl, s2.seq hr, ⟨D, rfl, .inl (SqL.of e2)⟩, ok, cup, ?_⟩
      rintro v H3 s3 rfl
      refine k _ _ (s2.trans s3) ?_
      rw [hbl]
theorem pure_law_bill {K : PySem.W.Frag} {spr : Sp} (dp : Nat) (hs : ∀ d, dp = d + 1 → spr = sp_law_bill K d) (vs : List V) (H : Hp) (Q : VK) (E : XK) (h : sp_law_bill K dp vs H Q E) : t_law_bill K spr { nx := fun _ H' => Q .non H', rt := Q } (start n_law_bill vs) H := by
  obtain ⟨pv, W, p, x, v, l, rfl, ok, ⟨pp, rfl, hpp⟩, hp, hxb, hv, k⟩ := h
  have k3 := ok.k3
  rcases hv.cases with ⟨rfl, hl, hx⟩ | ⟨d, us, cs, rfl, ⟨pu, rfl, hpu⟩, cup, heq, hbl, hlen, hrec⟩
  · refine ⟨_, rfl, _, _, _, _, false, rfl, .ty _, .base (.int _), k_it, _, rfl, ift rfl ?_⟩
    refine ⟨_, rfl, _, rfl, pp, _, _, .int (pAt p l), rfl, rfl, hpp, atI_nat (pAt_get (by rw [hp.1]; exact hl)), by show 2 ≤ sizeLine; decide, fun q hq => ?_⟩
    refine k _ _ (Same.new hq) ⟨q, rfl, SqT.of ?_⟩
    rw [upd_same, hx]
    show _ = some (HO.tup [V.int ((pAt p l : Int) : Rat).num, V.int ((((pAt p l : Int) : Rat).den : Nat) : Int)])
    rw [Rat.num_intCast, Rat.den_intCast]
    rfl
  · have es := hs d rfl
    subst es
    refine ⟨_, rfl, _, _, _, _, true, rfl, .ty _, tyx_tup hpu, k_tt, _, rfl, iff' rfl ?_⟩
    refine ⟨by show 2 ≤ sizeLine; decide, fun q0 hq0 => ?_⟩
    have s1 := Same.new (o := .tup [V.int 0, V.int 1]) hq0
    refine ⟨_, rfl, pu, rfl, ⟨_, s1.tup hpu⟩, ?_⟩
    refine for_it walk_tup (fun i σ H' => Same H H' ∧ ∃ (fv : V) (o : Option V) (q : Rat), σ = [some (.int (W.k : Int)), some (.ref pp), some (.ref pu), some fv, o] ∧ FrAt K H' fv q ∧ q = sumQ x (cs.take i) ∧ QB (1 + 202 * i) q)
      ⟨s1, .ref q0, none, 0, rfl, ⟨q0, rfl, SqT.of upd_same⟩, rfl, ⟨bd_of (by decide), bd_of (by decide)⟩⟩ (fun i σ H' _ q => q.1.tup hpu) ?_ ?_
    · rintro i y σ H2 H3 hi ⟨s2, fv, o, q, rfl, fq, eq, bq⟩ ⟨rfl, hy⟩
      have hi3 : i < 3 := by
        rw [hlen, cup.len] at hi
        omega
      have hci : cs[i]? = some (cs.getD i 0) := by
        rw [List.getD_eq_getElem?_getD, List.getElem?_eq_getElem (by omega)]
        rfl
      have hcl := cup.lt _ (List.mem_of_getElem? hci)
      refine ⟨_, rfl, _, rfl, _, rfl, _, rfl, .ref pp, W, p, x, y, cs.getD i 0, rfl, ok, ⟨pp, rfl, s2.seq hpp⟩, hp, hxb, RecAt.mono s2 (hrec i y _ hy hci), fun v H4 s4 f4 => ?_⟩
      refine ⟨fv, v, q, x (cs.getD i 0), 1, rfl, TupV.mono fq s4, f4, bq.mono (by omega), (hxb _ hcl).mono (by decide), .inl rfl, fun v5 H5 s5 f5 => ?_⟩
      have e1 : ((1 : Int) : Rat) = 1 := rfl
      rw [e1] at f5
      refine ⟨(s2.trans s4).trans s5, v5, _, _, rfl, f5, ?_, ?_⟩
      · rw [eq, sumQ_more hci]
        grind
      · have b1 : QB 1 (1 : Rat) := ⟨bd_of (by decide), bd_of (by decide)⟩
        exact (bq.add (b1.mul (hxb _ hcl))).mono (by omega)
    · rintro σ H2 ⟨s2, fv, o, q, rfl, ⟨pf, rfl, hpf⟩, eq, bq⟩
      rw [hlen, List.take_length] at eq
      have bl : us.length ≤ 3 := by rw [hlen, cup.len]; omega
      have kb : Bd 10 (W.k : Int) := by show Int.natAbs _ < 1024; omega
      refine ⟨_, rfl, pf, _, 0, _, rfl, rfl, hpf, rfl, _, rfl, pf, _, 1, _, rfl, rfl, hpf, rfl, _, rfl, _, _, rfl, rfl, cmul bq.den kb (by omega), ?_⟩
      have dk := den_posI q
      refine ⟨_, _, rfl, Int.mul_pos dk (by omega), (bq.den.mul kb).mono (by omega), fun v H3 s3 f3 => k _ _ (s2.trans s3) ?_⟩
      have e : Rat.divInt q.num ((q.den : Int) * (W.k : Int)) = x l := by
        rw [Rat.divInt_eq_div, Rat.intCast_mul]
        have hd := den_neI q
        have hk : ((W.k : Int) : Rat) ≠ 0 := by
          intro z
          have := Rat.intCast_eq_zero_iff.mp z
          omega
        have e1 := q_eq q
        have e2 : ((W.k : Int) : Rat) * x l = q := by
          rw [eq, ← heq, hbl, Rat.intCast_natCast]
        generalize (q.num : Rat) = n at *
        generalize ((q.den : Int) : Rat) = dd at *
        generalize ((W.k : Int) : Rat) = kk at *
        grind
      rw [e] at f3
      exact f3
theorem pure_law_is_recipe {K : PySem.W.Frag} {spr : Sp} (dp : Nat) (hs : ∀ d, dp = d + 1 → spr = sp_law_is_recipe K d) (vs : List V) (H : Hp) (Q : VK) (E : XK) (h : sp_law_is_recipe K dp vs H Q E) : t_law_is_recipe K spr { nx := fun _ H' => Q .non H', rt := Q } (start n_law_is_recipe vs) H := by
  obtain ⟨wv, W, p, x, v, l, n, rfl, hw, ok, hv, h1, h2, k⟩ := h
  obtain ⟨r, b, ⟨pw, rfl, hpw⟩, hr⟩ := id hw
  have k3 := ok.k3
  rcases hv.cases with ⟨rfl, hl, hx⟩ | ⟨d, us, cs, rfl, ⟨pu, rfl, hpu⟩, cup, heq, hbl, hlen, hrec⟩
  · refine ⟨_, rfl, _, _, _, _, false, rfl, .ty _, .base (.int _), k_it, _, rfl, iff' rfl ?_⟩
    refine ⟨_, rfl, _, _, _, _, true, rfl, .ty _, .base (.int _), k_ii, _, rfl, ift rfl ?_⟩
    refine ⟨_, rfl, _, _, _, _, false, rfl, .ty _, .base (.int _), k_ib, _, rfl, _, rfl, ift rfl ?_⟩
    refine ⟨_, rfl, _, rfl, pw, _, 1, _, rfl, rfl, hpw, rfl, _, rfl, fun q hq => ?_⟩
    refine ⟨_, q, 0, (W.L : Int), rfl, rfl, upd_same, k _ _ (Same.new hq) ?_⟩
    rw [if_neg (by decide)]
    congr 1
    exact decide_eq_true ⟨by omega, by omega⟩
  · have es := hs d rfl
    subst es
    refine ⟨_, rfl, _, _, _, _, true, rfl, .ty _, tyx_tup hpu, k_tt, _, rfl, ift rfl ?_⟩
    refine ⟨_, rfl, rfl, _, rfl, iff' (by simp; omega) ?_⟩
    refine ⟨_, rfl, pu, _, rfl, .inr hpu, _, rfl, pw, _, 0, _, rfl, rfl, hpw, rfl, rfl, _, rfl, iff' (by simp [hlen, cup.len]) ?_⟩
    refine ⟨_, rfl, pu, rfl, ⟨_, hpu⟩, ?_⟩
    refine lc_flat walk_tup (fun i => some (.bl true)) (by rw [hlen, cup.len]; omega) (fun H' s => s.tup hpu) ?_ ?_
    · rintro i y H2 H3 Kp Ks hi s2 ⟨rfl, hy⟩ kp ks
      have hci : cs[i]? = some (cs.getD i 0) := by
        rw [List.getD_eq_getElem?_getD, List.getElem?_eq_getElem (by omega)]
        rfl
      refine ⟨rfl, ?_⟩
      refine ⟨_, rfl, _, rfl, _, rfl, _, _, rfl, rfl, .ref pw, W, p, x, y, cs.getD i 0, n - 1, rfl, hw.mono s2, ok, RecAt.mono s2 (hrec i y _ hy hci), by omega, by omega, ?_⟩
      rintro v H4 s4 rfl
      exact kp _ _ s4 rfl
    · intro D H2 hD s2 e2
      rw [bls (f := fun _ => true)] at e2
      refine ⟨D, _, rfl, SqL.of e2, k _ _ s2 ?_⟩
      congr 1
      simp
end Mix
namespace Mix
open PySem PySem.Spec PyProof.Rows L2
/-- a filtered row, in step with what it stands for -/
theorem filt2 {α : Type} {R : V → α → Prop} {us : List V} {xs : List α} (a : All2 R us xs) (g : α → Bool) : ∀ n, n ≤ us.length → ∃ vs : List V, ((List.range n).filterMap fun i => (xs[i]?).bind fun x => if g x = true then us[i]? else none) = vs ∧ All2 R vs ((xs.take n).filter g)
  | 0, _ => ⟨[], rfl, All2.nil⟩
  | n + 1, h => by
    obtain ⟨vs, h1, h2⟩ := filt2 a g n (by omega)
    have hu : us[n]? = some us[n] := List.getElem?_eq_getElem (by omega)
    obtain ⟨x, hx, r⟩ := a.get hu
    rw [filterMap_more, h1, take_more hx, List.filter_append, hx, Option.bind_some]
    by_cases c : g x = true
    · rw [if_pos c, hu]
      refine ⟨_, rfl, ?_⟩
      rw [show List.filter g [x] = [x] by simp [c]]
      exact h2.snoc r
    · rw [if_neg c]
      refine ⟨_, rfl, ?_⟩
      rw [show List.filter g [x] = [] by simp [c]]
      simpa using h2
def rdyE (ds cs : List Nat) : Prop := ∀ c ∈ cs, c ∈ ds
theorem pure_law_exact {K : PySem.W.Frag} (vs : List V) (H : Hp) (Q : VK) (E : XK) (h : sp_law_exact K vs H Q E) : t_law_exact K { nx := fun _ H' => Q .non H', rt := Q } (start n_law_exact vs) H := by
  obtain ⟨wv, pv, rv, W, p, x, rfl, hw, ok, ⟨pp, rfl, hpp⟩, hp, hrow, hrk, k⟩ := h
  obtain ⟨r, b, ⟨pw, rfl, hpw⟩, hr⟩ := id hw
  have k3 := ok.k3
  have l4 := ok.l4
  refine ⟨_, rfl, pw, _, 1, _, rfl, rfl, hpw, rfl, _, rfl, by omega, by omega, ?_⟩
  rw [show ((W.L : Nat) : Int).toNat = W.L by omega]
  refine lc_flat walk_range (fun i => if xAt x i = pQ p i then some (.int (i : Int)) else none) (by omega) (fun _ _ => trivial) ?_ ?_
  · rintro i y H2 H3 Kp Ks hi s2 ⟨rfl, hy⟩ kp ks
    have e0 : (0 : Int) + (i : Int) = (i : Int) := by omega
    have ey : y = .int (i : Int) := by
      rw [hy]
      show V.int (0 + (i : Int)) = _
      rw [e0]
    clear hy
    subst ey
    obtain ⟨pr, us, pn, rfl, hpr, hu, hpn⟩ := row_ix (hrow.mono s2) (l := i) (by rw [hrk.1]; exact hi)
    refine ⟨rfl, ?_⟩
    refine ⟨_, rfl, _, rfl, pr, us, _, _, rfl, rfl, hpr, hu, _, rfl, _, rfl, pp, _, _, .int (pAt p i), rfl, rfl, s2.seq hpp, atI_nat (pAt_get (by rw [hp.1]; exact hi)), by show 2 ≤ sizeLine; decide, fun q hq => ?_⟩
    have s3 := Same.new (o := .tup [V.int (pAt p i), V.int 1]) hq
    refine ⟨.tuple ([(xAt x i).num, ((xAt x i).den : Int)].map PyData.int), .tuple ([pAt p i, 1].map PyData.int), .tup (s3.tup hpn) (dp_vI [_, _]), .tup (SqT.of upd_same) (dp_vI [_, _]), shaped_t _, shaped_t _, _, rfl, ?_⟩
    rw [eqv_t]
    by_cases c : xAt x i = pQ p i
    · refine ift (decide_eq_true (frV_one.mp c)) ?_
      exact ⟨_, rfl, kp _ _ s3 (by rw [if_pos c])⟩
    · refine iff' (decide_eq_false fun e => c (frV_one.mpr e)) ?_
      exact ks _ s3 (by rw [if_neg c])
  intro dn H2 hdn s2 e2
  obtain ⟨ds0, hds0, hmem0, hnd0⟩ : ∃ ds0 : List Nat, H2 dn = some (.lst (vN ds0)) ∧ (∀ l, l ∈ ds0 ↔ l < W.L ∧ xAt x l = pQ p l) ∧ ds0.Nodup := by
    refine ⟨(List.range W.L).filter fun i => decide (xAt x i = pQ p i), ?_, fun l => by rw [List.mem_filter, List.mem_range]; simp, List.nodup_range.filter _⟩
    rw [e2]
    congr 2
    have go : ∀ n, ((List.range n).filterMap fun i => if xAt x i = pQ p i then some (V.int (i : Int)) else none) = vN ((List.range n).filter fun i => decide (xAt x i = pQ p i)) := by
      intro n
      induction n with
      | zero => rfl
      | succ n ih =>
        rw [filterMap_more, ih, List.range_succ, List.filter_append]
        by_cases c : xAt x n = pQ p n
        · rw [if_pos c, show List.filter (fun i => decide (xAt x i = pQ p i)) [n] = [n] by simp [c], vN_snoc]
        · rw [if_neg c, show List.filter (fun i => decide (xAt x i = pQ p i)) [n] = [] by simp [c]]
          simp
    exact go _
  refine ⟨_, rfl, pw, _, 0, _, rfl, rfl, s2.tup hpw, rfl, _, rfl, pw, _, 1, _, rfl, rfl, s2.tup hpw, rfl, W.k, W.L, rfl, k3.2, by omega, pow_small l4 k3.2, ?_⟩
  rintro v H3 s3 ⟨cus, ca, rfl, hca0, hca', hcus⟩
  have hca := SqL.of (K := K) hca'
  have s13 := s2.trans s3
  have hcl : cus.length ≤ 64 := by
    rw [hcus.len, tuplesN_len]
    exact pow_small l4 k3.2
  refine ⟨ca, rfl, ⟨_, hca⟩, ?_⟩
  refine lc_flat walk_list (fun i => ((tuplesN W.L W.k)[i]?).bind fun cs => if (decide ((wgh W x cs).num = 0)) = true then cus[i]? else none) (by omega) (fun H' s => s.seq hca) ?_ ?_
  · rintro i y H4 H5 Kp Ks hi s4 ⟨rfl, hy⟩ kp ks
    obtain ⟨cs, hcs, a, rfl, ha0, ha⟩ := hcus.get hy
    have cup : W.Cup cs := Wd.cup_mem.mp (List.mem_of_getElem? hcs)
    have s14 := s13.trans s4
    refine ⟨rfl, ?_⟩
    refine ⟨_, rfl, _, rfl, _, rfl, .ref pw, rv, .ref a, W, x, cs, rfl, hw.mono s14, ok, hrow.mono s14, hrk, ⟨a, rfl, .inl (SqL.of (s4 _ _ ha))⟩, cup, ?_⟩
    rintro v H6 s6 rfl
    refine ⟨rfl, _, rfl, ?_⟩
    by_cases c : (wgh W x cs).num = 0
    · refine ift (by simp [c]) ?_
      exact ⟨_, rfl, kp _ _ s6 (by rw [hcs, Option.bind_some, if_pos (decide_eq_true c), hy])⟩
    · refine iff' (by simp [c]) ?_
      exact ks _ s6 (by rw [hcs, Option.bind_some, if_neg (by simp [c])])
  intro en H4 hen s4 e4
  obtain ⟨evs, hev, hal⟩ := filt2 hcus (fun cs => decide ((wgh W x cs).num = 0)) cus.length (Nat.le_refl _)
  rw [hev] at e4
  rw [hcus.len, List.take_length] at hal
  have s14 := s13.trans s4
  have s24 := s3.trans s4
  have hd4 := s24 _ _ hds0
  have nen : en ≠ dn := Ne.symm (ne_of_none (s3 _ _ hds0) hen)
  have hevn : ∀ cs, cs ∈ (tuplesN W.L W.k).filter (fun cs => decide ((wgh W x cs).num = 0)) ↔ W.Cup cs ∧ (W.k : Rat) * xAt x (W.bl cs) = sumQ (xAt x) cs := by
    intro cs
    rw [List.mem_filter, Wd.cup_mem, decide_eq_true_iff, q_num_zero]
    unfold wgh
    constructor
    · rintro ⟨h1, h2⟩
      exact ⟨h1, by grind⟩
    · rintro ⟨h1, h2⟩
      exact ⟨h1, by grind⟩
  generalize hits : (tuplesN W.L W.k).filter (fun cs => decide ((wgh W x cs).num = 0)) = its at hal hevn
  -- the lists of cups stand beside the list that grows
  have hal4 : All2 (fun u cs => ∃ a, u = .ref a ∧ a ≠ dn ∧ H4 a = some (.lst (vN cs))) evs its := hal.mono fun u cs z => by
    obtain ⟨a, rfl, h0, h⟩ := z
    exact ⟨a, rfl, fun e => (by rw [e, hds0] at h0; cases h0), s4 _ _ h⟩
  refine ⟨_, rfl, pw, _, 1, _, rfl, rfl, s14.tup hpw, rfl, _, rfl, by omega, by omega, ?_⟩
  rw [show ((W.L : Nat) : Int).toNat = W.L by omega]
  have tlt : ∀ it ∈ its, W.bl it < W.L := fun it h => Wd.bl_lt ok ((hevn it).mp h).1
  refine for_range (lo := 0) (n := W.L) (fun t σ H6 => (∀ a u, a ≠ dn → H4 a = some u → H6 a = some u) ∧ Same H H6 ∧ ∃ (ds : List Nat) (o5 o6 o7 : Option V), σ = [some (.ref pw), some (.ref pp), some rv, some (.ref dn), some (.ref en), o5, o6, o7, none] ∧ H6 dn = some (.lst (vN ds)) ∧ ds.Nodup ∧ (∀ d ∈ ds, d < W.L) ∧
    (∀ d ∈ ds, Exa W (pQ p) (xAt x) d) ∧ (∀ d ∈ ds0, d ∈ ds) ∧ (Closed W.bl rdyE its ds ∨ t ≤ ds.length))
    ⟨fun _ _ _ h => h, s14, ds0, none, none, none, rfl, hd4, hnd0, fun d h => ((hmem0 d).mp h).1, fun d h => .base ((hmem0 d).mp h).1 ((hmem0 d).mp h).2, fun _ h => h, .inr (Nat.zero_le _)⟩ ?_ ?_
  · rintro t σ H6 ht ⟨e6, s6, dst, o5, o6, o7, rfl, hdt, hnt, hlt, hxt, hst, hct⟩
    refine ⟨_, rfl, en, rfl, ⟨_, SqL.of (e6 _ _ nen e4)⟩, ?_⟩
    refine for_list (xs := evs) (fun i σ H7 => (∀ a u, a ≠ dn → H4 a = some u → H7 a = some u) ∧ Same H H7 ∧ ∃ (ds : List Nat) (o6 o7 : Option V), σ = [some (.ref pw), some (.ref pp), some rv, some (.ref dn), some (.ref en), some (.int (0 + (t : Int))), o6, o7, none] ∧ H7 dn = some (.lst (vN ds)) ∧
      (∀ d ∈ ds, Exa W (pQ p) (xAt x) d) ∧ (∀ d ∈ ds0, d ∈ ds) ∧ Rnd W.L W.bl rdyE its dst i ds) ⟨e6, s6, dst, o6, o7, rfl, hdt, hxt, hst, Rnd.init hnt hlt⟩ (fun i σ H7 _ q => SqL.of (q.1 _ _ nen e4)) ?_ ?_
    · rintro i y σ H7 hy ⟨e7, s7, ds, o6, o7, rfl, hd, hx, hs0, rn⟩
      obtain ⟨cs, hcs, a, rfl, han, ha⟩ := hal4.get hy
      have hcm := List.mem_of_getElem? hcs
      obtain ⟨cup, heq⟩ := (hevn cs).mp hcm
      have hbl := Wd.bl_lt ok cup
      have ha7 := e7 _ _ han ha
      refine ⟨_, rfl, pw, _, 1, _, rfl, rfl, s7.tup hpw, rfl, _, rfl, pw, _, 2, _, rfl, rfl, s7.tup hpw, rfl, _, rfl, r, .ref a, W, cs, rfl, s7.seq hr, ⟨a, rfl, .inl (SqL.of ha7)⟩, ok, cup, ?_⟩
      rintro v H8 s8 rfl
      have e8 : ∀ a u, a ≠ dn → H4 a = some u → H8 a = some u := fun a u h1 h2 => s8 _ _ (e7 a u h1 h2)
      have s78 := s7.trans s8
      have hd8 := s8 _ _ hd
      refine ⟨_, rfl, _, rfl, dn, _, rfl, .inl (SqL.of hd8), rfl, flatAll_vN ds, _, rfl, ?_⟩
      rw [if_pos rfl, inV_vN]
      by_cases hin : W.bl cs ∈ ds
      · refine iff' (by simp [hin]) ?_
        refine iff' rfl ?_
        exact ⟨e8, s78, ds, _, _, rfl, hd8, hx, hs0, rn.keep hcs fun e _ => e ▸ hin⟩
      · refine ift (by simp [hin]) ?_
        have ha8 := s8 _ _ ha7
        refine ⟨_, rfl, a, rfl, ⟨_, SqL.of ha8⟩, ?_⟩
        refine lc_flat walk_list (fun j => some (.bl (decide ((cs.getD j 0) ∈ ds)))) (by rw [vN_len, cup.len]; omega) (fun H' s => s.seq (SqL.of ha8)) ?_ ?_
        · rintro j y H10 H11 Kp Ks hj s10 ⟨rfl, hy⟩ kp ks
          obtain ⟨c, hc, rfl⟩ := vN_get' hy
          refine ⟨rfl, ?_⟩
          refine ⟨_, rfl, _, rfl, dn, _, rfl, .inl (SqL.of (s10 _ _ hd8)), rfl, flatAll_vN ds, kp _ _ (Same.refl _) ?_⟩
          rw [if_neg (by decide), inV_vN, List.getD_eq_getElem?_getD, hc]
          rfl
        · intro D2 H10 hD2 s10 e10
          rw [bls] at e10
          have hd10 := s10 _ _ hd8
          refine ⟨D2, _, rfl, SqL.of e10, _, rfl, ?_⟩
          have hallq : (((List.range (vN cs).length).map fun j => decide ((cs.getD j 0) ∈ ds)).all id) = true ↔ rdyE ds cs := by
            rw [vN_len, List.all_map, List.all_eq_true]
            constructor
            · intro h c hc
              obtain ⟨j, hj⟩ := List.mem_iff_getElem?.mp hc
              have h1 := h j (List.mem_range.mpr (List.getElem?_eq_some_iff.mp hj).1)
              have h2 : cs.getD j 0 ∈ ds := of_decide_eq_true h1
              rw [List.getD_eq_getElem?_getD, hj] at h2
              exact h2
            · intro h j hj
              have hj' := List.mem_range.mp hj
              refine decide_eq_true (h _ ?_)
              rw [List.getD_eq_getElem?_getD, List.getElem?_eq_getElem hj']
              exact List.getElem_mem _
          by_cases hex : rdyE ds cs
          · refine ift (hallq.mpr hex) ?_
            have := nodup_len rn.nodup rn.lt
            refine ⟨_, rfl, tyL (SqL.of hd10), _, rfl, dn, _, _, rfl, rfl, hd10, sz1 (by rw [vN_len]; omega), fun a u h1 h2 => by rw [upd_ne h1]; exact s10 _ _ (e8 a u h1 h2), (s78.trans s10).mut hdn, ds ++ [W.bl cs], _, _, rfl, by rw [upd_same, vN_snoc], fun d hdm => ?_, fun d hdm => List.mem_append_left _ (hs0 d hdm), rn.add hcs hbl hin fun e => e ▸ hex⟩
            rcases List.mem_append.mp hdm with hdm | hdm
            · exact hx d hdm
            · rw [List.mem_singleton.mp hdm]
              exact .step cup heq fun c hc => hx c (hex c hc)
          · refine iff' (by rw [← Bool.not_eq_true]; exact fun h => hex (hallq.mp h)) ?_
            exact ⟨fun a u h1 h2 => s10 _ _ (e8 a u h1 h2), s78.trans s10, ds, _, _, rfl, hd10, hx, hs0, rn.keep hcs fun e h => absurd (e ▸ h) hex⟩
    · rintro σ H7 ⟨e7, s7, ds, o6, o7, rfl, hd, hx, hs0, rn⟩
      rw [hal4.len] at rn
      exact ⟨e7, s7, ds, _, _, _, rfl, hd, rn.nodup, rn.lt, hx, hs0, rn.fin hct⟩
  · rintro σ H6 ⟨e6, s6, ds, o5, o6, o7, rfl, hd, hn, hl, hx, hs0, hc⟩
    have hcl := closed_of hn hl tlt hc
    refine ⟨_, rfl, k _ _ s6 ⟨ds, dn, rfl, hdn, hd, fun l => ⟨hx l, fun h => ?_⟩⟩⟩
    induction h with
    | base h1 h2 => exact hs0 _ ((hmem0 _).mpr ⟨h1, h2⟩)
    | step cup heq _ ih => exact hcl _ ((hevn _).mpr ⟨cup, heq⟩) fun c hc => ih c hc
end Mix
namespace Mix
open PySem PySem.Spec PyProof.Rows L2
theorem RecAt.but {K : PySem.W.Frag} {H H' : Hp} {W : Wd} {p x : Nat → Rat} (e : ∀ {v : V} {xs : List V}, TupV K H v xs → TupV K H' v xs) : ∀ {d : Nat} {v : V} {l : Nat}, RecAt K H W p x d v l → RecAt K H' W p x d v l
  | 0, _, _, h => h
  | d + 1, _, _, h => by
    rcases h with h | ⟨us, cs, h1, h2, h3, h4, h5, h6⟩
    · exact .inl h
    · exact .inr ⟨us, cs, e h1, h2, h3, h4, h5, fun i u c a b => RecAt.but e (h6 i u c a b)⟩
theorem RecAt.le {K : PySem.W.Frag} {H : Hp} {W : Wd} {p x : Nat → Rat} {d : Nat} {v : V} {l : Nat} (h : RecAt K H W p x d v l) : ∀ {e : Nat}, d ≤ e → RecAt K H W p x e v l := by
  intro e he
  induction he with
  | refl => exact h
  | step _ ih => exact ih.succ
/-- a dict whose keys are the labels ds, in step -/
abbrev DcV (R : V → Nat → Prop) (kvs : List (Key × V)) (ds : List Nat) : Prop := All2 (fun (kv : Key × V) (l : Nat) => kv.1 = Sum.inl (l : Int) ∧ R kv.2 l) kvs ds
section
variable {R R' : V → Nat → Prop} {kvs : List (Key × V)} {ds : List Nat} {l : Nat} {v : V}
theorem DcV.out (h : DcV R kvs ds) (hl : l ∉ ds) : valV kvs (.inl (l : Int)) = none := by
  cases e : valV kvs (.inl (l : Int)) with
  | none => rfl
  | some u =>
    obtain ⟨i, hi⟩ := List.mem_iff_getElem?.mp (valV_mem e)
    obtain ⟨l', h1, h2, _⟩ := h.get hi
    have : l = l' := by
      have := Sum.inl.inj h2
      omega
    subst this
    exact absurd (List.mem_of_getElem? h1) hl
theorem DcV.val (h : DcV R kvs ds) (hl : l ∈ ds) : ∃ u, valV kvs (.inl (l : Int)) = some u ∧ R u l := by
  obtain ⟨i, hi⟩ := List.mem_iff_getElem?.mp hl
  obtain ⟨⟨k0, v0⟩, h1, h2, _⟩ := h.get' hi
  obtain rfl : k0 = .inl (l : Int) := h2
  obtain ⟨u, hu⟩ := valV_has (List.mem_of_getElem? h1)
  obtain ⟨j, hj⟩ := List.mem_iff_getElem?.mp (valV_mem hu)
  obtain ⟨l', _, h4, h5⟩ := h.get hj
  have : l = l' := by
    have := Sum.inl.inj h4
    omega
  subst this
  exact ⟨u, hu, h5⟩
theorem DcV.put (h : DcV R kvs ds) (hl : l ∉ ds) (r : R v l) : DcV R (putK kvs (.inl (l : Int)) v) (ds ++ [l]) := by
  have e : putK kvs (.inl (l : Int)) v = kvs ++ [(.inl (l : Int), v)] := by
    unfold putK
    split
    · rename_i c
      exfalso
      obtain ⟨kv, hm, hk⟩ := List.any_eq_true.mp c
      have hk' : kv.1 = Sum.inl (l : Int) := of_decide_eq_true hk
      obtain ⟨i, hi⟩ := List.mem_iff_getElem?.mp hm
      obtain ⟨l', h1, h2, _⟩ := h.get hi
      rw [hk'] at h2
      have : l = l' := by
        have := Sum.inl.inj h2
        omega
      subst this
      exact hl (List.mem_of_getElem? h1)
    · rfl
  rw [e]
  exact h.snoc ⟨rfl, r⟩
theorem DcV.more (h : DcV R kvs ds) (f : ∀ v l, l ∈ ds → R v l → R' v l) : DcV R' kvs ds := ⟨h.len, fun i kv l a b => by
  obtain ⟨h1, h2⟩ := h.at_ i kv l a b
  exact ⟨h1, f _ _ (List.mem_of_getElem? b) h2⟩⟩
end
theorem RecAt.exa {K : PySem.W.Frag} {H : Hp} {W : Wd} {p x : Nat → Rat} : ∀ {d : Nat} {v : V} {l : Nat}, RecAt K H W p x d v l → Exa W p x l
  | 0, _, _, h => .base h.2.1 h.2.2
  | d + 1, _, _, h => by
    rcases h with h | ⟨us, cs, h1, h2, h3, h4, h5, h6⟩
    · exact .base h.2.1 h.2.2
    · rw [← h4]
      refine .step h2 h3 fun c hc => ?_
      obtain ⟨i, hi⟩ := List.mem_iff_getElem?.mp hc
      have hl := (List.getElem?_eq_some_iff.mp hi).1
      exact (h6 i us[i] c (List.getElem?_eq_getElem (by omega)) hi).exa
theorem pick2 {R : V → Nat → Prop} {g : Nat → Option V} {cs : List Nat} (h : ∀ c ∈ cs, ∃ u, g c = some u ∧ R u c) : ∀ n, n ≤ cs.length → All2 R ((List.range n).filterMap fun i => g (cs.getD i 0)) (cs.take n)
  | 0, _ => All2.nil
  | n + 1, hn => by
    have hc : cs[n]? = some cs[n] := List.getElem?_eq_getElem (by omega)
    obtain ⟨u, hu, r⟩ := h _ (List.mem_of_getElem? hc)
    rw [filterMap_more, take_more hc, List.getD_eq_getElem?_getD, hc, Option.getD_some, hu]
    exact (pick2 h n (by omega)).snoc r
theorem tupV_but3 {K : PySem.W.Frag} {H H' : Hp} {a b : Addr} {ks ls : List (Key × V)} {v : V} {xs : List V} (ha : H a = some (.dK ks)) (hb : H b = some (.dK ls)) (e : ∀ c o, c ≠ a → c ≠ b → H c = some o → H' c = some o) (h : TupV K H v xs) : TupV K H' v xs := by
  obtain ⟨p, rfl, h⟩ := h
  refine ⟨p, rfl, ?_⟩
  rcases h with (h | ⟨o, h⟩) | h
  · exact .inl (.inl (e _ _ (ne_of h ha (by intro z; cases z)) (ne_of h hb (by intro z; cases z)) h))
  · exact .inl (.inr ⟨o, e _ _ (ne_of h ha (by intro z; cases z)) (ne_of h hb (by intro z; cases z)) h⟩)
  · exact .inr h
theorem pure_cheapest_recipe {K : PySem.W.Frag} {mg : Str → Option Value} (T : Txt K mg) (vs : List V) (H : Hp) (Q : VK) (E : XK) (h : sp_cheapest_recipe K vs H Q E) : t_cheapest_recipe K E { nx := fun _ H' => Q .non H', rt := Q } (start n_cheapest_recipe vs) H := by
  obtain ⟨t, W, pv, p, lb, x, ws0, rfl, ht, ok, hs, hp, hlb, ic, k1, k2⟩ := h
  have k3 := ok.k3
  have l4 := ok.l4
  obtain ⟨dx, rr, hrr1, hrr2⟩ := id ht
  refine ⟨_, rfl, _, rfl, t, W, pv, p, rfl, ht, hs, hp.1, ?_⟩
  rintro v H1 s1 ⟨pa, rfl, hpa⟩
  refine ⟨_, rfl, _, rfl, t, W, .ref pa, p, rfl, ht.mono s1, ok, ⟨pa, rfl, .inr hpa⟩, hp, ?_⟩
  rintro cv H2 s2 ⟨xr, wr, rv, wv, uw, ⟨pc, rfl, hpc⟩, hrow, hrk, _, _, _, ic'⟩
  have hx : ∀ l, l < W.L → xAt xr l = x l := fun l hl => IsCosts.uniq ok ic' ic l hl
  have s12 := s1.trans s2
  refine ⟨pc, _, 0, rv, rfl, rfl, hpc, rfl, ?_⟩
  refine fun fd hfd => ?_
  have s3 := Same.new (o := .dK []) hfd
  have s13 := s12.trans s3
  have hfH : H fd = none := none_of s12 hfd
  refine ⟨_, rfl, t, _, dx, _, _, rfl, s13 _ _ hrr1, T.cl, T.nl, tabF_l, _, rfl, by omega, by omega, ?_⟩
  obtain ⟨H3, e3⟩ : ∃ H3, H3 = upd H2 fd (.dK []) := ⟨_, rfl⟩
  have hfd3 : H3 fd = some (.dK []) := by rw [e3, upd_same]
  have hrow3 : RowAt K H3 rv xr := by rw [e3]; exact hrow.mono s3
  have hpa3 : SqT K H3 pa (vI p) := by rw [e3]; exact s3.tup (s2.tup hpa)
  rw [← e3] at s13 ⊢
  clear s3 e3
  have ht3 := ht.mono s13
  rw [show ((W.L : Nat) : Int).toNat = W.L by omega]
  refine for_range (lo := 0) (n := W.L) (fun i σ H' => (∀ a o, a ≠ fd → H3 a = some o → H' a = some o) ∧ ∃ (o5 : Option V) (kvs : List (Key × V)) (ds : List Nat), σ = [some (.ref t), some (.ref pa), some (.int (lb : Int)), some rv, some (.ref fd), o5, none, none, none, none, none, none] ∧
    H' fd = some (.dK kvs) ∧ DcV (fun v l => v = .int (l : Int) ∧ l < W.L ∧ x l = pQ p l) kvs ds ∧ ds.Nodup ∧ (∀ l, l ∈ ds ↔ l < i ∧ x l = pQ p l) ∧ ds.length ≤ i)
    ⟨fun _ _ _ h => h, none, [], [], rfl, hfd3, All2.nil, List.nodup_nil, fun l => ⟨fun h => by simp at h, fun h => absurd h.1 (by omega)⟩, Nat.zero_le _⟩ ?_ ?_
  · rintro i σ H4 hi ⟨e4, o5, kvs, ds, rfl, hkv, hdc, hnd, hmem, hlen⟩
    have e0 : (0 : Int) + (i : Int) = (i : Int) := by omega
    rw [e0]
    have hrow4 : RowAt K H4 rv xr := by
      obtain ⟨vs, h1, h2⟩ := hrow3
      exact ⟨vs, tupV_but hfd3 e4 h1, h2.mono fun _ _ z => tupV_but hfd3 e4 z⟩
    have hpa4 : SqT K H4 pa (vI p) := by
      obtain ⟨_, e, h⟩ := tupV_but hfd3 e4 ⟨pa, rfl, hpa3⟩
      cases e
      exact h
    obtain ⟨pr, us, pn, rfl, hpr, hu, hpn⟩ := row_ix hrow4 (l := i) (by rw [hrk.1]; exact hi)
    refine ⟨_, rfl, _, rfl, pr, us, _, _, rfl, rfl, hpr, hu, _, rfl, _, rfl, pa, _, _, .int (pAt p i), rfl, rfl, hpa4, atI_nat (pAt_get (by rw [hp.1]; exact hi)), by show 2 ≤ sizeLine; decide, fun q hq => ?_⟩
    have s5 := Same.new (o := .tup [V.int (pAt p i), V.int 1]) hq
    refine ⟨.tuple ([(xAt xr i).num, ((xAt xr i).den : Int)].map PyData.int), .tuple ([pAt p i, 1].map PyData.int), .tup (s5.tup hpn) (dp_vI [_, _]), .tup (SqT.of upd_same) (dp_vI [_, _]), shaped_t _, shaped_t _, _, rfl, ?_⟩
    rw [eqv_t]
    have hin : i ∉ ds := fun h => absurd ((hmem i).mp h).1 (by omega)
    by_cases c : xAt xr i = pQ p i
    · refine ift (decide_eq_true (frV_one.mp c)) ?_
      have hkv5 := s5 _ _ hkv
      refine ⟨_, rfl, _, rfl, _, rfl, fd, _, rfl, DPut.k (k := .inl (i : Int)) hkv5 (sz1 (by rw [hdc.len]; omega)), fun a o ha h => by rw [upd_ne ha]; exact s5 _ _ (e4 a o ha h), _, _, ds ++ [i], rfl, upd_same, hdc.put hin ⟨rfl, hi, (hx i hi) ▸ c⟩, ?_, fun l => ?_, by simp; omega⟩
      · rw [List.nodup_append]
        refine ⟨hnd, by simp, fun a ha b hb e => ?_⟩
        rw [List.mem_singleton.mp hb] at e
        exact hin (e ▸ ha)
      · rw [List.mem_append, hmem, List.mem_singleton]
        constructor
        · rintro (⟨h1, h2⟩ | rfl)
          · exact ⟨by omega, h2⟩
          · exact ⟨by omega, (hx l hi) ▸ c⟩
        · rintro ⟨h1, h2⟩
          by_cases e : l = i
          · exact .inr e
          · exact .inl ⟨by omega, h2⟩
    · refine iff' (decide_eq_false fun e => c (frV_one.mpr e)) ?_
      refine ⟨fun a o ha h => s5 _ _ (e4 a o ha h), _, kvs, ds, rfl, s5 _ _ hkv, hdc, hnd, fun l => ?_, by omega⟩
      rw [hmem]
      constructor
      · rintro ⟨h1, h2⟩
        exact ⟨by omega, h2⟩
      · rintro ⟨h1, h2⟩
        refine ⟨?_, h2⟩
        rcases Nat.lt_succ_iff_lt_or_eq.mp h1 with h1 | rfl
        · exact h1
        · exact absurd ((hx l hi).trans h2) c
  rintro σ H4 ⟨e4, o5, kv0, ds0, rfl, hkv0, hdc0, hnd0, hmem0, hlen0⟩
  -- the cups that cost just what they should
  have tup4 : ∀ {v : V} {xs : List V}, TupV K H3 v xs → TupV K H4 v xs := fun h => tupV_but hfd3 e4 h
  have s14 : Same H H4 := fun a o h => e4 a o (ne_of_none h hfH) (s13 _ _ h)
  have ht4 := ht.mono s14
  have hrow4 : RowAt K H4 rv xr := by
    obtain ⟨vs, h1, h2⟩ := hrow3
    exact ⟨vs, tup4 h1, h2.mono fun _ _ z => tup4 z⟩
  refine ⟨_, rfl, t, W, rfl, ht4, ok, ?_⟩
  rintro v H5 s5 ⟨cus, ⟨ca, rfl, hca⟩, hcus⟩
  have hcl : cus.length ≤ 64 := by
    rw [hcus.len, tuplesN_len]
    exact pow_small l4 k3.2
  refine ⟨ca, rfl, ⟨_, hca⟩, ?_⟩
  refine lc_flat walk_list (fun i => ((tuplesN W.L W.k)[i]?).bind fun cs => if (decide ((W.k : Rat) * xAt xr (W.bl cs) = sumQ (xAt xr) cs)) = true then cus[i]? else none) (by omega) (fun H' s => s.seq hca) ?_ ?_
  · rintro i y H6 H7 Kp Ks hi s6 ⟨rfl, hy⟩ kp ks
    obtain ⟨cs, hcs, cv⟩ := hcus.get hy
    have cup : W.Cup cs := Wd.cup_mem.mp (List.mem_of_getElem? hcs)
    have s56 := s5.trans s6
    refine ⟨rfl, ?_⟩
    refine ⟨_, rfl, _, rfl, _, rfl, t, W, rv, y, xr, cs, rfl, ht4.mono s56, ok, hrow4.mono s56, hrk, TupV.mono cv s6, cup, ?_⟩
    rintro v H8 s8 rfl
    refine ⟨rfl, _, rfl, ?_⟩
    by_cases c : (W.k : Rat) * xAt xr (W.bl cs) = sumQ (xAt xr) cs
    · refine ift (by simp [cmpQ_zero.mpr c]) ?_
      exact ⟨_, rfl, kp _ _ s8 (by rw [hcs, Option.bind_some, if_pos (decide_eq_true c), hy])⟩
    · refine iff' (by simp [mt cmpQ_zero.mp c]) ?_
      exact ks _ s8 (by rw [hcs, Option.bind_some, if_neg (by simp [c])])
  intro en H6 hen s6 e6
  obtain ⟨evs, hev, hal⟩ := filt2 hcus (fun cs => decide ((W.k : Rat) * xAt xr (W.bl cs) = sumQ (xAt xr) cs)) cus.length (Nat.le_refl _)
  rw [hev] at e6
  rw [hcus.len, List.take_length] at hal
  have s46 := s5.trans s6
  have s16 := s14.trans s46
  have hevn : ∀ cs, cs ∈ (tuplesN W.L W.k).filter (fun cs => decide ((W.k : Rat) * xAt xr (W.bl cs) = sumQ (xAt xr) cs)) ↔ W.Cup cs ∧ (W.k : Rat) * x (W.bl cs) = sumQ x cs := by
    intro cs
    rw [List.mem_filter, Wd.cup_mem, decide_eq_true_iff]
    constructor
    · rintro ⟨h1, h2⟩
      rw [hx _ (Wd.bl_lt ok h1), sumQ_ext fun d hd => hx d (h1.lt d hd)] at h2
      exact ⟨h1, h2⟩
    · rintro ⟨h1, h2⟩
      rw [hx _ (Wd.bl_lt ok h1), sumQ_ext fun d hd => hx d (h1.lt d hd)]
      exact ⟨h1, h2⟩
  generalize hits : (tuplesN W.L W.k).filter (fun cs => decide ((W.k : Rat) * xAt xr (W.bl cs) = sumQ (xAt xr) cs)) = its at hal hevn
  have tlt : ∀ it ∈ its, W.bl it < W.L := fun it h => Wd.bl_lt ok ((hevn it).mp h).1
  have hal6 : All2 (CupV K H6) evs its := hal.mono fun _ _ z => TupV.mono z s6
  have hkv6 := s46 _ _ hkv0
  have nef : en ≠ fd := Ne.symm (ne_of_none (s5 _ _ hkv0) hen)
  have hlt0 : ∀ d ∈ ds0, d < W.L := fun d h => ((hmem0 d).mp h).1
  refine ⟨_, rfl, t, _, dx, _, _, rfl, s16 _ _ hrr1, T.cl, T.nl, tabF_l, _, rfl, by omega, by omega, ?_⟩
  rw [show ((W.L : Nat) : Int).toNat = W.L by omega]
  refine for_range (lo := 0) (n := W.L) (fun n σ H' => (∀ a o, a ≠ fd → H6 a = some o → H' a = some o) ∧ ∃ (o7 o8 o9 o10 : Option V) (kvs : List (Key × V)) (ds : List Nat), σ = [some (.ref t), some (.ref pa), some (.int (lb : Int)), some rv, some (.ref fd), o5, some (.ref en), o7, o8, o9, o10, none] ∧
    H' fd = some (.dK kvs) ∧ DcV (RecAt K H' W (pQ p) x n) kvs ds ∧ ds.Nodup ∧ (∀ d ∈ ds, d < W.L) ∧ (∀ d ∈ ds0, d ∈ ds) ∧ (Closed W.bl rdyE its ds ∨ n ≤ ds.length))
    ⟨fun _ _ _ h => h, none, none, none, none, kv0, ds0, rfl, hkv6, hdc0, hnd0, hlt0, fun _ h => h, .inr (Nat.zero_le _)⟩ ?_ ?_
  · rintro n σ H7 hn ⟨e7, o7, o8, o9, o10, kvs, ds, rfl, hkv, hdc, hnd, hlt, hsub, hcl'⟩
    refine fun bd hbd => ?_
    have s8 := Same.new (o := .dK []) hbd
    obtain ⟨H8, e8⟩ : ∃ H8, H8 = upd H7 bd (.dK []) := ⟨_, rfl⟩
    have hbd8 : H8 bd = some (.dK []) := by rw [e8, upd_same]
    rw [← e8] at s8 ⊢
    clear e8
    have nfb : fd ≠ bd := ne_of_none hkv hbd
    have en7 := e7 _ _ nef e6
    have neb : en ≠ bd := ne_of_none en7 hbd
    have hdl : ds.length ≤ 4 := Nat.le_trans (nodup_len hnd hlt) l4
    have tup68 : ∀ {v : V} {xs : List V}, TupV K H6 v xs → TupV K H8 v xs := fun h => (tupV_but hkv6 e7 h).mono s8
    refine ⟨_, rfl, en, rfl, ⟨_, SqL.of (s8 _ _ en7)⟩, ?_⟩
    refine for_list (xs := evs) (fun i σ H' => (∀ a o, a ≠ bd → H8 a = some o → H' a = some o) ∧ ∃ (o9 o10 : Option V) (kvm : List (Key × V)) (es : List Nat), σ = [some (.ref t), some (.ref pa), some (.int (lb : Int)), some rv, some (.ref fd), o5, some (.ref en), some (.int (0 + (n : Int))), some (.ref bd), o9, o10, none] ∧
      H' bd = some (.dK kvm) ∧ DcV (RecAt K H' W (pQ p) x (n + 1)) kvm es ∧ Rnd W.L W.bl rdyE its ds i (ds ++ es))
      ⟨fun _ _ _ h => h, o9, o10, [], [], rfl, hbd8, All2.nil, by rw [List.append_nil]; exact Rnd.init hnd hlt⟩ (fun i σ H' _ q => SqL.of (q.1 _ _ neb (s8 _ _ en7))) ?_ ?_
    · rintro i y σ H9 hy ⟨e9, o9, o10, kvm, es, rfl, hkm, hdm, rn⟩
      obtain ⟨cs, hcs, cv6⟩ := hal6.get hy
      have hcm := List.mem_of_getElem? hcs
      obtain ⟨cup, heq⟩ := (hevn cs).mp hcm
      have hbl := Wd.bl_lt ok cup
      have t89 : ∀ {v : V} {xs : List V}, TupV K H8 v xs → TupV K H9 v xs := fun h => tupV_but hbd8 e9 h
      have cv9 : CupV K H9 y cs := t89 (tup68 cv6)
      have ht9 : TabAt K H9 t W := by
        obtain ⟨dx, r, h1, h2⟩ := ht.mono s16
        obtain ⟨_, er, h3⟩ := t89 (tup68 ⟨r, rfl, h2⟩)
        cases er
        have h7 := e7 _ _ (ne_of h1 hkv6 (by intro z; cases z)) h1
        exact ⟨dx, r, e9 _ _ (ne_of_none h7 hbd) (s8 _ _ h7), h3⟩
      obtain ⟨dx9, r9, hr91, hr92⟩ := id ht9
      refine ⟨_, rfl, t, _, _, rfl, hr91, tabF_no, _, rfl, t, W, y, cs, rfl, ht9, ok, cv9, cup, ?_⟩
      rintro v H10 s10 rfl
      have hkv10 : H10 fd = some (.dK kvs) := s10 _ _ (e9 _ _ nfb (s8 _ _ hkv))
      have hkm10 := s10 _ _ hkm
      have hel : es.length ≤ 4 := by
        have := nodup_len rn.nodup rn.lt
        rw [List.length_append] at this
        omega
      have keep : ∀ (H11 : Hp) (o11 : Option V), Same H10 H11 → ((ds ++ es) = ds → rdyE ds cs → W.bl cs ∈ ds) → (fun (σ : L2.St) (H' : Hp) => (∀ a o, a ≠ bd → H8 a = some o → H' a = some o) ∧ ∃ (o9 o10 : Option V) (kvm : List (Key × V)) (es : List Nat), σ = [some (.ref t), some (.ref pa), some (.int (lb : Int)), some rv, some (.ref fd), o5, some (.ref en), some (.int (0 + (n : Int))), some (.ref bd), o9, o10, none] ∧
          H' bd = some (.dK kvm) ∧ DcV (RecAt K H' W (pQ p) x (n + 1)) kvm es ∧ Rnd W.L W.bl rdyE its ds (i + 1) (ds ++ es)) [some (.ref t), some (.ref pa), some (.int (lb : Int)), some rv, some (.ref fd), o5, some (.ref en), some (.int (0 + (n : Int))), some (.ref bd), some y, some (.int (W.bl cs : Int)), none] H11 := fun H11 _ s11 hh =>
        ⟨fun a o ha h => s11 _ _ (s10 _ _ (e9 a o ha h)), _, _, kvm, es, rfl, s11 _ _ hkm10, hdm.more fun _ _ _ z => z.mono (s10.trans s11), rn.keep hcs hh⟩
      refine ⟨_, rfl, _, rfl, fd, valV kvs (.inl (W.bl cs : Int)), rfl, DGet.k (k := .inl (W.bl cs : Int)) hkv10, _, rfl, ?_⟩
      by_cases hin : W.bl cs ∈ ds
      · obtain ⟨u, hu, _⟩ := hdc.val hin
        rw [hu]
        refine iff' rfl ?_
        refine iff' rfl ?_
        exact keep _ none (Same.refl _) fun _ _ => hin
      rw [hdc.out hin]
      refine ift rfl ?_
      refine ⟨_, rfl, _, rfl, bd, valV kvm (.inl (W.bl cs : Int)), rfl, DGet.k (k := .inl (W.bl cs : Int)) hkm10, _, rfl, ?_⟩
      by_cases hie : W.bl cs ∈ es
      · obtain ⟨u, hu, _⟩ := hdm.val hie
        rw [hu]
        refine iff' rfl ?_
        refine iff' rfl ?_
        refine keep _ none (Same.refl _) fun e _ => ?_
        rw [← e]
        exact List.mem_append_right _ hie
      rw [hdm.out hie]
      refine ift rfl ?_
      obtain ⟨py, rfl, hpy⟩ := TupV.mono cv9 s10
      refine ⟨_, rfl, py, rfl, ⟨_, hpy⟩, ?_⟩
      refine lc_flat walk_tup (fun j => some (.bl (valV kvs (.inl ((cs.getD j 0 : Nat) : Int))).isSome)) (by rw [vN_len, cup.len]; omega) (fun H' s => s.tup hpy) ?_ ?_
      · rintro j z H11 H12 Kp Ks hj s11 ⟨rfl, hz⟩ kp ks
        obtain ⟨c, hc, rfl⟩ := vN_get' hz
        refine ⟨rfl, ?_⟩
        refine ⟨_, rfl, _, rfl, fd, _, rfl, DGet.k (k := .inl (c : Int)) (s11 _ _ hkv10), kp _ _ (Same.refl _) ?_⟩
        rw [List.getD_eq_getElem?_getD, hc]
        rfl
      intro D2 H11 hD2 s11 e11
      rw [bls] at e11
      refine ⟨D2, _, rfl, SqL.of e11, _, rfl, ?_⟩
      have hin2 : ∀ c, (valV kvs (.inl ((c : Nat) : Int))).isSome = true ↔ c ∈ ds := by
        intro c
        by_cases h : c ∈ ds
        · obtain ⟨u, hu, _⟩ := hdc.val h
          simp [hu, h]
        · simp [hdc.out h, h]
      have hallq : (((List.range (vN cs).length).map fun j => (valV kvs (.inl ((cs.getD j 0 : Nat) : Int))).isSome).all id) = true ↔ rdyE ds cs := by
        rw [vN_len, List.all_map, List.all_eq_true]
        constructor
        · intro h c hc
          obtain ⟨j, hj⟩ := List.mem_iff_getElem?.mp hc
          have h1 := h j (List.mem_range.mpr (List.getElem?_eq_some_iff.mp hj).1)
          have h2 : cs.getD j 0 ∈ ds := (hin2 _).mp h1
          rw [List.getD_eq_getElem?_getD, hj] at h2
          exact h2
        · intro h j hj
          have hj' := List.mem_range.mp hj
          refine (hin2 _).mpr (h _ ?_)
          rw [List.getD_eq_getElem?_getD, List.getElem?_eq_getElem hj']
          exact List.getElem_mem _
      by_cases hex : rdyE ds cs
      · refine ift (hallq.mpr hex) ?_
        have hpy11 := s11.tup hpy
        have hkv11 := s11 _ _ hkv10
        refine ⟨_, rfl, py, rfl, ⟨_, hpy11⟩, ?_⟩
        have got : ∀ c ∈ cs, ∃ u, valV kvs (.inl (c : Int)) = some u ∧ RecAt K H8 W (pQ p) x n u c := fun c hc => by
          obtain ⟨u, hu, r⟩ := hdc.val (hex c hc)
          exact ⟨u, hu, r.mono s8⟩
        refine lc_flat walk_tup (fun j => valV kvs (.inl ((cs.getD j 0 : Nat) : Int))) (by rw [vN_len, cup.len]; omega) (fun H' s => s.tup hpy11) ?_ ?_
        · rintro j z H12 H13 Kp Ks hj s12' ⟨rfl, hz⟩ kp ks
          obtain ⟨c, hc, rfl⟩ := vN_get' hz
          obtain ⟨u, hu, _⟩ := got c (List.mem_of_getElem? hc)
          refine ⟨rfl, ?_⟩
          refine ⟨_, rfl, _, rfl, fd, u, rfl, by have := DGet.k (k := .inl (c : Int)) (s12' _ _ hkv11); rw [hu] at this; exact this, kp _ _ (Same.refl _) ?_⟩
          rw [List.getD_eq_getElem?_getD, hc]
          exact hu
        intro D3 H12 hD3 s12' e12
        have pk := pick2 got cs.length (Nat.le_refl _)
        rw [List.take_length] at pk
        rw [vN_len] at e12
        refine ⟨D3, _, rfl, .inl ⟨SqL.of e12, fun q hq => ?_⟩⟩
        generalize hus : ((List.range cs.length).filterMap fun i => valV kvs (.inl ((cs.getD i 0 : Nat) : Int))) = us at e12 pk
        have s13' := Same.new (o := .tup us) hq
        have s103 := (s11.trans s12').trans s13'
        have s93 := s10.trans s103
        have hkm13 := s93 _ _ hkm
        have e13 : ∀ a o, a ≠ bd → H8 a = some o → (upd H12 q (.tup us)) a = some o := fun a o ha h => s93 _ _ (e9 a o ha h)
        have hq13 : (upd H12 q (.tup us)) q = some (.tup us) := upd_same
        obtain ⟨H13, eH⟩ : ∃ H13, H13 = upd H12 q (.tup us) := ⟨_, rfl⟩
        rw [← eH] at s93 hkm13 e13 hq13 ⊢
        have tu : ∀ {o : HO} {v : V} {xs : List V}, TupV K H13 v xs → TupV K (upd H13 bd o) v xs := fun h => tupV_but hkm13 (fun a o ha q => by rw [upd_ne ha]; exact q) h
        have t8 : ∀ {v : V} {xs : List V}, TupV K H8 v xs → TupV K H13 v xs := fun h => tupV_but hbd8 e13 h
        refine ⟨_, rfl, _, rfl, bd, _, rfl, DPut.k (k := .inl (W.bl cs : Int)) hkm13 (sz1 (by rw [hdm.len]; omega)), fun a o ha h => by rw [upd_ne ha]; exact e13 a o ha h, _, _, _, es ++ [W.bl cs], rfl, upd_same, (hdm.more fun _ _ _ z => RecAt.but (fun h => tu (TupV.mono h s93)) z).put hie (.inr ⟨us, cs, tu ⟨q, rfl, SqT.of hq13⟩, cup, heq, rfl, pk.len, fun i u c a b => RecAt.but (fun h => tu (t8 h)) (pk.at_ i u c a b)⟩), ?_⟩
        rw [← List.append_assoc]
        exact rn.add hcs hbl (fun h => (List.mem_append.mp h).elim hin hie) fun _ => hex
      · refine iff' (by rw [← Bool.not_eq_true]; exact fun h => hex (hallq.mp h)) ?_
        exact keep _ none s11 fun _ h => absurd h hex
    · rintro σ H9 ⟨e9, o9, o10, kvm, es, rfl, hkm, hdm, rn⟩
      rw [hal6.len] at rn
      have rf := rn.fin hcl'
      have hkv9 : H9 fd = some (.dK kvs) := e9 _ _ nfb (s8 _ _ hkv)
      have t89 : ∀ {v : V} {xs : List V}, TupV K H8 v xs → TupV K H9 v xs := fun h => tupV_but hbd8 e9 h
      refine ⟨bd, .dK kvm, hkm, trivial, fun od => ?_⟩
      refine ⟨_, rfl, bd, od, rfl, .inl ⟨kvm, upd_same, for_it walk_keys (fun i σ H' => ∃ (o10 : Option V) (kvs' : List (Key × V)), σ = [some (.ref t), some (.ref pa), some (.int (lb : Int)), some rv, some (.ref fd), o5, some (.ref en), some (.int (0 + (n : Int))), some (.ref bd), o9, o10, none] ∧
        (∀ a o, a ≠ fd → (upd H9 bd (.frz od (.dK kvm))) a = some o → H' a = some o) ∧ H' fd = some (.dK kvs') ∧ DcV (RecAt K H9 W (pQ p) x (n + 1)) kvs' (ds ++ es.take i))
        ⟨o10, kvs, rfl, fun _ _ _ h => h, by rw [upd_ne nfb]; exact hkv9, ?_⟩ (fun i σ H' _ q => by obtain ⟨_, _, _, e, _⟩ := q; exact e _ _ (Ne.symm nfb) upd_same) ?_ ?_⟩⟩
      · rw [List.take_zero, List.append_nil]
        exact hdc.more fun _ _ _ z => (RecAt.but (fun h => t89 (TupV.mono h s8)) z).succ
      · rintro i y σ H10 H11 hi ⟨o10', kvs', rfl, e10, hk10, hd10⟩ ⟨rfl, kk, vv, hkvi, rfl⟩
        obtain ⟨l, hl, rfl, _⟩ := hdm.get hkvi
        obtain ⟨u, hu, ru⟩ := hdm.val (List.mem_of_getElem? hl)
        have hbd10 := e10 bd _ (Ne.symm nfb) upd_same
        have nd := List.Nodup.sublist (List.Sublist.append_left (List.take_sublist (i + 1) es) ds) rn.nodup
        have lt' : ∀ d ∈ ds ++ es.take i, d < W.L := fun d h => rn.lt d (List.mem_append.mpr ((List.mem_append.mp h).imp id fun h => List.mem_of_mem_take h))
        have nd0 := List.Nodup.sublist (List.Sublist.append_left (List.take_sublist i es) ds) rn.nodup
        rw [take_more hl, ← List.append_assoc, List.nodup_append] at nd
        have hnl : l ∉ ds ++ es.take i := fun h => nd.2.2 l h l (by simp) rfl
        have hlen := nodup_len nd0 lt'
        refine ⟨_, rfl, _, rfl, bd, u, rfl, .inl ⟨kvm, .inl (l : Int), .inr ⟨od, hbd10⟩, rfl, hu.symm⟩, _, rfl, _, rfl, fd, _, rfl, DPut.k (k := .inl (l : Int)) hk10 (sz1 (by rw [hd10.len]; omega)), _, _, rfl, fun a o ha h => by rw [upd_ne ha]; exact e10 a o ha h, upd_same, ?_⟩
        rw [take_more hl, ← List.append_assoc]
        exact hd10.put hnl ru
      · rintro σ H10 ⟨o10', kvs', rfl, e10, hk10, hd10⟩
        have hml : kvm.length = es.length := hdm.len
        rw [hml, List.take_length] at hd10
        refine ⟨e10 bd _ (Ne.symm nfb) upd_same, fun a o ha h => ?_, _, _, _, _, kvs', ds ++ es, rfl, by rw [upd_ne nfb]; exact hk10, ?_, rn.nodup, rn.lt, fun d h => rn.sub d (hsub d h), rf⟩
        · have h7 := e7 a o ha h
          have nb := ne_of_none h7 hbd
          rw [upd_ne nb]
          refine e10 a o ha ?_
          rw [upd_ne nb]
          exact e9 a o nb (s8 _ _ h7)
        · refine hd10.more fun _ _ _ z => RecAt.but (fun h => tupV_but3 hkv9 hkm (fun c o h1 h2 hc => ?_) h) z
          rw [upd_ne h2]
          refine e10 c o h1 ?_
          rw [upd_ne h2]
          exact hc
  · rintro σ H7 ⟨e7, o7, o8, o9, o10, kvs, ds, rfl, hkv, hdc, hnd, hlt, hsub, hcl'⟩
    have hcl2 := closed_of hnd hlt tlt hcl'
    have s17 : Same H H7 := fun a o h => e7 a o (ne_of_none h hfH) (s16 _ _ h)
    have key : ∀ l, Exa W (pQ p) x l → l ∈ ds := by
      intro l h
      clear k1 k2
      induction h with
      | base h1 h2 => exact hsub _ ((hmem0 _).mpr ⟨h1, h2⟩)
      | step cup heq _ ih => exact hcl2 _ ((hevn _).mpr ⟨cup, heq⟩) fun c hc => ih c hc
    refine ⟨_, rfl, _, rfl, fd, valV kvs (.inl (lb : Int)), rfl, DGet.k (k := .inl (lb : Int)) hkv, _, rfl, ?_⟩
    by_cases hin : lb ∈ ds
    · obtain ⟨u, hu, ru⟩ := hdc.val hin
      rw [hu]
      refine iff' rfl ?_
      refine ⟨_, rfl, _, rfl, fd, u, rfl, by have := DGet.k (k := .inl (lb : Int)) hkv; rw [hu] at this; exact this, ?_⟩
      exact k1 ru.exa _ _ s17 (ru.le l4)
    · rw [hdc.out hin]
      refine ift rfl ?_
      refine ⟨.int 0, rfl, fun d hd => k2 (fun h => hin (key lb h)) d _ (s17.trans (Same.new hd)) (none_of s17 hd) upd_same⟩
end Mix
namespace Mix
open PySem PySem.Spec PyProof.Rows L2
/-- Table's own __init__, made -/
structure MkT (P : Program) (w : World) (K : PySem.W.Frag) (mg : Str → Option Value) (base : Heap) (k : Nat) (sp : Sp) : Prop where
  ex : ∃ (fd : FuncData) (ps : List Str), FnOk P w K mg base CX0 k (He.ma K (tabC K) "__init__") fd ps sp ∧ Binds K fd ps []
section
variable {X : Cx} {k j : Nat} {sp : Sp} {p pos : Pos} {e : Expr} {es : List Expr} {t : TA}
theorem pe_mkT (T : Txt X.K X.mg) (c : MkT X.prog X.w X.K X.mg X.base k sp) (hr : Room j X.A) (hk : k + 1 ≤ j) (hg : Gl X "Table") (ha : PA X (e :: es) t)
    (he : starEach (e :: es) X.env = (false, eval e X.env) :: starEach es X.env := by rfl) (hpl : (backTo pos (starEach es X.env)).any (·.1) = false := by rfl) :
    PE X (.Call (.Name "Table" p) (e :: es) [] pos) (tMake (tabC X.K) sp [] E0 t) := by
  obtain ⟨fd, ps, F, b⟩ := c.ex
  exact pe_make T.mkr F (hr.mono hk) hg T.gT b .nil pass0 ha (by decide) he hpl
end
/-! ### law -/
abbrev n_law : List Str := ["_law_script", "_law_salt", "_law_deal", "_law_world_here", "_law_table_here", "_law_prices_here"]
abbrev p_law : List Str := ["_law_script"]
theorem sc_law : FnScope n_law p_law (defScope s_law) := ⟨rfl, rfl, rfl, by decide +kernel, rfl, by decide +kernel, by decide +kernel⟩
def t_law (K : PySem.W.Frag) : TS := (tSeq (tFor (iRng1 (tCons (tOp rAddI (tC (.int 1)) (tCB (rLen K) (tCons (tSl (rSlL K) (tVar 0) tNoPart (tPart (tC (.int 1)))) tNil))) tNil)) (gName 1)
    (tSeq (tAsg (tCall (sp_law_draw K) [] E0 (tCons (tVar 0) (tCons (tOp rAddI (tC (.int 601)) (tVar 1)) tNil))) (gName 2))
  (tSeq (tAsg (tCall (sp_law_world K) [] E0 (tCons (tVar 2) (tCons (tC (.int 4)) tNil))) (gName 3))
  (tSeq (tPar 4 5 (tCons (tMake (tabC K) (sp_Table_init K) [] E0 (tCons (tOp (rIxT K) (tVar 3) (tC (.int 0))) (tCons (tOp (rIxT K) (tVar 3) (tC (.int 1))) (tCons (tCall (sp_law_shown K) [] E0 (tCons (tVar 2) (tCons (tOp (rIxT K) (tVar 3) (tC (.int 2))) tNil))) tNil)))) (tCons (tCall (sp_law_prices K) [] E0 (tCons (tVar 2) (tCons (tOp (rIxT K) (tVar 3) (tC (.int 1))) tNil))) tNil)))
  (tIfS (tOr (tNot (tB (tCall (sp_law_all_right K) [] E0 (tCons (tVar 2) (tCons (tVar 3) (tCons (tVar 4) (tCons (tVar 5) tNil))))))) (tNot (tB (tCall (sp_law_all_right K) [] E0 (tCons (tVar 2) (tCons (tVar 3) (tCons (tVar 4) (tCons (tRevL K (tVar 5)) tNil)))))))) (tRet (tC (.bl false))) tNext)))))
  (tRet (tC (.bl true))))
theorem dv_law {P : Program} {w : World} {K : PySem.W.Frag} {mg : Str → Option Value} {base : Heap} (T : Txt K mg) (claw_draw : Cal P w K mg base 1 "_law_draw" (sp_law_draw K)) (claw_world : Cal P w K mg base 5 "_law_world" (sp_law_world K)) (claw_shown : Cal P w K mg base 2 "_law_shown" (sp_law_shown K)) (claw_prices : Cal P w K mg base 2 "_law_prices" (sp_law_prices K)) (claw_all_right : Cal P w K mg base 11 "_law_all_right" (sp_law_all_right K)) (cTable_init : MkT P w K mg base 4 (sp_Table_init K)) (f : Addr) (cdv : Value) (A : Around) (outer : List Env) (s : Shared) (H : Hp) (E : XK) (hr : Room 11 (A.deeper (envOfC "law" (defScope s_law) s.heap.objs.size f cdv))) :
    PSs (cxOf CX0 P w K mg base n_law "law" (defScope s_law) f cdv A outer s H E).nox (defBody s_law) (t_law K) := by
  unfold t_law
  exact (pss_cons (ps_for PassesOwn.never rfl (pi_range1 rfl T.brange (pa_cons (pe_op op_add pe_int (pe_callB call_len_seq rfl T.blen boot_len (pa_cons (pe_slice sl_list (pv 0) po_none (po_some pe_int)) pa_nil))) pa_nil)) (pg_name (i := 1) sc_law.nd rfl (Or.inl rfl))
    (pss_cons (ps_set (i := 2) sc_law.nd rfl (Or.inl rfl) (pe_c claw_draw hr (by decide) rfl (pa_cons (pv 0) (pa_cons (pe_op op_add pe_int (pv 1)) pa_nil))))
  (pss_cons (ps_set (i := 3) sc_law.nd rfl (Or.inl rfl) (pe_c claw_world hr (by decide) rfl (pa_cons (pv 2) (pa_cons pe_int pa_nil))))
  (pss_cons (ps_par (i := 4) (j := 5) rfl sc_law.nd rfl rfl (by decide) rfl rfl (pa_cons (pe_mkT T cTable_init hr (by decide) rfl (pa_cons (pe_ix ix_tup (pv 3) pe_int (fun _ _ => rfl)) (pa_cons (pe_ix ix_tup (pv 3) pe_int (fun _ _ => rfl)) (pa_cons (pe_c claw_shown hr (by decide) rfl (pa_cons (pv 2) (pa_cons (pe_ix ix_tup (pv 3) pe_int (fun _ _ => rfl)) pa_nil))) pa_nil)))) (pa_cons (pe_c claw_prices hr (by decide) rfl (pa_cons (pv 2) (pa_cons (pe_ix ix_tup (pv 3) pe_int (fun _ _ => rfl)) pa_nil))) pa_nil)) (by rfl))
  (pss_one (ps_if (PW.pt (pw_or (pt_not (pt_val (pe_c claw_all_right hr (by decide) rfl (pa_cons (pv 2) (pa_cons (pv 3) (pa_cons (pv 4) (pa_cons (pv 5) pa_nil))))))) (pw_or1 (pt_not (pt_val (pe_c claw_all_right hr (by decide) rfl (pa_cons (pv 2) (pa_cons (pv 3) (pa_cons (pv 4) (pa_cons (pe_revL (pv 5)) pa_nil)))))))))) (pss_one (ps_ret pe_bl)) pss_nil))))))
  (pss_one (ps_ret pe_bl)))

end Mix
namespace Mix
open PySem PySem.Spec PyProof.Rows L2
theorem SameX.row {K : PySem.W.Frag} {d c : Addr} {H H' : Hp} {v : V} {x : List Rat} (e : SameX d c H H') (dl : DealAt H d c) (h : RowAt K H v x) : RowAt K H' v x := by
  obtain ⟨vs, h1, h2⟩ := h
  exact ⟨vs, e.tupV dl h1, h2.mono fun _ _ z => e.tupV dl z⟩
theorem LsX.seq {K : PySem.W.Frag} {d c : Addr} {H : Hp} {v : V} {xs : List V} (h : LsX d c H v xs) : SeqV K H v xs := by
  obtain ⟨a, rfl, h1, h2⟩ := h
  exact ⟨a, rfl, .inl (SqL.of h1)⟩
theorem pure_law_all_right {K : PySem.W.Frag} (vs : List V) (H : Hp) (Q : VK) (E : XK) (h : sp_law_all_right K vs H Q E) : t_law_all_right K { nx := fun _ H' => Q .non H', rt := Q } (start n_law_all_right vs) H := by
  obtain ⟨d, c, t, wv, pv, W, p, rfl, dl, hw, ok, ht, hpv, hp, k⟩ := h
  have k3 := ok.k3
  have l4 := ok.l4
  refine ⟨_, rfl, _, rfl, t, W, pv, p, rfl, ht, ok, hpv.seq, hp, ?_⟩
  rintro cv H1 s1 ⟨x, ws, hco⟩
  have hco' := hco
  obtain ⟨rv, yv, us, ⟨pc, rfl, hpc⟩, hrow, hrk, hyv, hal, hwl, ic⟩ := hco
  refine ⟨_, rfl, _, rfl, _, rfl, wv, pv, .ref pc, W, p, x, ws, rfl, hw.at_.mono s1, ok, (hpv.same s1).lst, hp, hco', ?_⟩
  rintro v H2 s2 rfl
  have s12 := s1.trans s2
  refine ⟨_, rfl, iff' rfl ?_⟩
  have hpc2 := s2.tup hpc
  refine ⟨_, rfl, _, rfl, _, rfl, pc, _, 0, rv, rfl, rfl, hpc2, rfl, wv, pv, rv, W, p, x, rfl, hw.at_.mono s12, ok, (hpv.same s12).lst, hp, hrow.mono s2, hrk, ?_⟩
  rintro v H3 s3 ⟨S, ea, rfl, hea0, hea, hS⟩
  have s13 := s12.trans s3
  have d3 := dl.same s13
  have hne : ea ≠ d ∧ ea ≠ c := (dl.same s12).fresh hea0
  have hw3 := hw
  obtain ⟨r, b, ⟨pw, rfl, hpw⟩, hr, r1, r2⟩ := id hw
  refine ⟨_, rfl, pw, _, 1, _, rfl, rfl, s13.tup hpw, rfl, _, rfl, by omega, by omega, ?_⟩
  rw [show ((W.L : Nat) : Int).toNat = W.L by omega]
  refine for_range (lo := 0) (n := W.L) (fun i σ H' => SameX d c H3 H' ∧ DealAt H' d c ∧ ∃ (o6 o7 : Option V), σ = [some (.ref d), some (.ref pw), some (.ref t), some pv, some (.ref pc), some (.ref ea), o6, o7]) ⟨SameX.refl, d3, none, none, rfl⟩ ?_ ?_
  · rintro i σ H4 hi ⟨s4, d4, o6, o7, rfl⟩
    have e0 : (0 : Int) + (i : Int) = (i : Int) := by omega
    rw [e0]
    have hpv4 := (hpv.same s13).x s4
    refine ⟨_, rfl, _, rfl, _, rfl, d, c, pv, _, rfl, d4, hpv4, ?_⟩
    rintro sv H5 s5 d5 hsv
    have s35 := s4.trans s5
    have ht5 : TabAt K H5 t W := s35.tab d3 (ht.mono s13)
    refine ⟨_, rfl, t, W, sv, p, i, xAt x, wAt ws, rfl, ht5, ok, hsv, hp, hi, ic, ?_⟩
    rintro tv H6 s6 hto
    have s36 := s35.trans (s6.x (d := d) (c := c))
    have d6 := d5.same s6
    have hea6 : H6 ea = some (.lst (vN S)) := s36 _ _ hne.1 hne.2 hea
    have hw6 : WorldX K d c W (.ref pw) H6 := WorldX.x (by obtain ⟨r, b, h1, h2, h3⟩ := hw3; exact ⟨r, b, h1.mono s13, s13 _ _ h2, h3⟩) d3 s36
    have hrow6 : RowAt K H6 rv x := s36.row d3 ((hrow.mono s2).mono s3)
    have hpv6 := (hpv.same s13).x s36
    have hpc6 : SqT K H6 pc [rv, yv] := s36.tup d3 (s3.tup hpc2)
    have hpw6 : SqT K H6 pw _ := s36.tup d3 (s13.tup hpw)
    have hr6 : H6 r = some (.lst (vN W.res)) := s36 _ _ r1 r2 (s13 _ _ hr)
    refine ⟨_, rfl, _, rfl, ea, _, rfl, .inl (SqL.of hea6), rfl, flatAll_vN S, _, rfl, ?_⟩
    rw [if_pos rfl, inV_vN]
    rcases hto with ⟨hex, hrec⟩ | ⟨hno, ⟨tl, rfl, htl⟩⟩
    · have hin : i ∈ S := (hS i).mpr hex
      refine iff' (by simp [hin]) ?_
      refine ⟨_, rfl, _, rfl, .ref pw, W, pQ p, xAt x, tv, i, 12, rfl, hw6.at_, ok, hrec, by decide, by decide, ?_⟩
      rintro v H7 s7 rfl
      refine ⟨_, rfl, iff' rfl ?_⟩
      have hr7 := s7 _ _ hr6
      refine ⟨_, rfl, pw, _, 1, _, rfl, rfl, s7.tup hpw6, rfl, _, rfl, pw, _, 2, _, rfl, rfl, s7.tup hpw6, rfl, _, rfl, pw, _, 1, _, rfl, rfl, s7.tup hpw6, rfl, _, rfl, RgOk.of_le (by decide) (by omega) (by decide) (by omega), fun q hq => ?_⟩
      have s8 := Same.new (o := .lst (rgV 0 (W.L : Int))) hq
      have s78 := s7.trans s8
      have hq8 : (upd H7 q (.lst (rgV 0 (W.L : Int)))) q = some (.lst (vN (List.range W.L))) := by
        rw [upd_same]
        unfold rgV vN
        simp
      refine ⟨_, rfl, r, q, W, pQ p, xAt x, tv, i, rfl, SqL.of (s8 _ _ hr7), SqL.of hq8, ok, RecAt.mono s78 hrec, ?_⟩
      rintro v H9 s9 rfl
      refine ⟨_, rfl, rfl, _, rfl, iff' (by simp) ?_⟩
      have s79 := s78.trans s9
      refine ⟨_, rfl, pw, _, 0, _, rfl, rfl, s79.tup hpw6, rfl, _, rfl, _, rfl, pv, W, p, xAt x, tv, i, rfl, ok, (hpv6.same s79).lst, hp, fun l hl => hrk.at_ hl, RecAt.mono s79 hrec, ?_⟩
      rintro v H10 s10 ⟨pb, rfl, hpb⟩
      have s710 := s79.trans s10
      obtain ⟨pr, us', pn, rfl, hpr, hu, hpn⟩ := row_ix (hrow6.mono s710) (l := i) (by rw [hrk.1]; exact hi)
      refine ⟨_, rfl, pc, _, 0, _, rfl, rfl, s710.tup hpc6, rfl, _, rfl, pr, us', _, _, rfl, rfl, hpr, hu, ?_⟩
      refine ⟨.tuple ([(xAt x i).num, ((xAt x i).den : Int)].map PyData.int), .tuple ([(xAt x i).num, ((xAt x i).den : Int)].map PyData.int), .tup hpb (dp_vI [_, _]), .tup hpn (dp_vI [_, _]), shaped_t _, shaped_t _, _, rfl, ?_⟩
      rw [eqv_t]
      refine iff' (by simp) ?_
      exact ⟨s36.trans (s710.x (d := d) (c := c)), d6.same s710, _, _, rfl⟩
    · have hin : i ∉ S := fun h => hno ((hS i).mp h)
      refine ift (by simp [hin]) ?_
      refine ⟨_, rfl, by show 1 ≤ sizeLine; decide, fun q hq => ?_⟩
      have s7 := Same.new (o := .lst [V.int 0]) hq
      refine ⟨.list ([0].map PyData.int), .list ([0].map PyData.int), .lst (s7.seq htl) (dp_vI [_]), .lst (SqL.of upd_same) (dp_vI [_]), shaped_l _, shaped_l _, _, rfl, ?_⟩
      rw [eqv_l]
      refine iff' (by simp) ?_
      refine ⟨_, rfl, _, _, _, _, false, rfl, .ty _, tyx_lst (s7.seq htl), k_lt, _, rfl, iff' rfl ?_⟩
      refine ⟨_, rfl, tl, _, 0, .int 0, rfl, rfl, s7.seq htl, rfl, _, _, _, _, false, rfl, .ty _, .base (.int 0), k_ib, _, rfl, iff' rfl ?_⟩
      exact ⟨s36.trans (s7.x (d := d) (c := c)), d6.same s7, _, _, rfl⟩
  · rintro σ H4 ⟨s4, d4, o6, o7, rfl⟩
    exact k _ _ ((s13.x (d := d) (c := c)).trans s4) d4 rfl
end Mix
set_option maxHeartbeats 1000000
namespace Mix
open PySem PySem.Spec PyProof.Rows L2
/-! ### law_standard -/
abbrev n_law_standard : List Str := ["_law_k", "_law_m", "_law_d", "_law_cases", "_law_step", "_law_row", "_law_inside", "_law_rest", "_law_found", "_law_naming", "_law_one", "_law_spot", "_law_at"]
abbrev p_law_standard : List Str := ["_law_k", "_law_m", "_law_d"]
theorem sc_law_standard : FnScope n_law_standard p_law_standard (defScope s_law_standard) := ⟨rfl, rfl, rfl, by decide +kernel, rfl, by decide +kernel, by decide +kernel⟩
def t_law_standard (K : PySem.W.Frag) : TS := (tSeq (tAsg (tTup (tCons (tLst tNil) (tCons (tCall (sp_law_inverse K) [] E0 (tCons (tVar 0) (tCons (tVar 2) tNil))) tNil))) (gTup K 2 (gCons (gName 3) (gCons (gName 4) gNil))))
  (tSeq (tFor (iList K (tCall (sp_law_tuples K) [] E0 (tCons (tVar 1) (tCons (tOp rAddI (tVar 2) (tC (.int 1))) tNil)))) (gName 5)
    (tSeq (tAsg (tCB (rTupOf K) (tCons (tLc (iRng1 (tCons (tVar 1) tNil)) (gName 10) (tTest (tOp rGtI (tOp (rIxL K) (tVar 5) (tVar 10)) (tC (.int 0)))) (tVar 10) [10]) tNil)) (gName 6))
  (tSeq (tAsg (tCB (rTupOf K) (tCons (tLc (iList K (tVar 5)) (gName 11) tYes (tIf (tTest (tOp rEq (tVar 11) (tC (.int 0)))) (tC (.int 0)) (tOp rSubI (tVar 11) (tC (.int 1)))) [11]) tNil)) (gName 7))
  (tIfS (tAnd (tTest (tOp (rNeD K) (tVar 6) (tTup tNil))) (tTest (tOp rEq (tOp rModI (tCB rInt1 (tCons (tOp rSubI (tCB (rSumT K) (tCons (tVar 7) tNil)) (tC (.int 1))) tNil)) (tVar 2)) (tC (.int 0))))) (tDrop (tBM K "list" rAppend (tVar 3) (tCons (tTup (tCons (tVar 6) (tCons (tVar 7) tNil))) tNil))) tNext))))
  (tSeq (tAsg (tTup (tCons (tCB (rSortedC K) (tCons (tVar 3) tNil)) (tCons (tLst tNil) tNil))) (gTup K 2 (gCons (gName 3) (gCons (gName 8) gNil))))
  (tSeq (tFor (iList K (tCall (sp_law_tuples K) [] E0 (tCons (tVar 0) (tCons (tCB (rLen K) (tCons (tVar 3) tNil)) tNil)))) (gName 5)
    (tSeq (tAsg (tCB (rTupOf K) (tCons (tLc (iRng1 (tCons (tVar 1) tNil)) (gName 10) (tTest (tOp (rNeD K) (tLc (iList K (tVar 5)) (gName 12) (tTest (tOp (rIn K false) (tVar 10) (tOp (rIxT K) (tOp (rIxL K) (tVar 3) (tVar 12)) (tC (.int 0))))) (tVar 12) [12]) (tLst tNil))) (tVar 10) [10]) tNil)) (gName 6))
  (tSeq (tAsg (tCB (rTupOf K) (tCons (tLc (iRng1 (tCons (tVar 1) tNil)) (gName 10) tYes (tOp rModI (tCB rInt1 (tCons (tOp rMulI (tCB (rSum K) (tCons (tLc (iList K (tVar 5)) (gName 12) tYes (tOp (rIxT K) (tOp (rIxT K) (tOp (rIxL K) (tVar 3) (tVar 12)) (tC (.int 1))) (tVar 10)) [12]) tNil)) (tVar 4)) tNil)) (tVar 2)) [10]) tNil)) (gName 7))
  (tDrop (tBM K "list" rAppend (tVar 8) (tCons (tBM K "list" (rIndexD K) (tVar 3) (tCons (tTup (tCons (tVar 6) (tCons (tVar 7) tNil))) tNil)) tNil))))))
  (tSeq (tAsg (tLc (iRng1 (tCons (tVar 1) tNil)) (gName 10) tYes (tBM K "list" (rIndexD K) (tVar 3) (tCons (tTup (tCons (tTup (tCons (tVar 10) tNil)) (tCons (tCB (rTupOf K) (tCons (tLc (iRng1 (tCons (tVar 1) tNil)) (gName 12) tYes (tIf (tTest (tOp rEq (tVar 12) (tVar 10))) (tOp rModI (tCB rInt1 (tCons (tC (.int 1)) tNil)) (tVar 2)) (tC (.int 0))) [12]) tNil)) tNil))) tNil)) [10]) (gName 9))
  (tRet (tTup (tCons (tCB (rLen K) (tCons (tVar 3) tNil)) (tCons (tVar 8) (tCons (tVar 9) tNil))))))))))
theorem dv_law_standard {P : Program} {w : World} {K : PySem.W.Frag} {mg : Str → Option Value} {base : Heap} (T : Txt K mg) (claw_inverse : Cal P w K mg base 1 "_law_inverse" (sp_law_inverse K)) (claw_tuples : Cal P w K mg base 1 "_law_tuples" (sp_law_tuples K)) (f : Addr) (cdv : Value) (A : Around) (outer : List Env) (s : Shared) (H : Hp) (E : XK) (hr : Room 1 (A.deeper (envOfC "_law_standard" (defScope s_law_standard) s.heap.objs.size f cdv))) :
    PSs (cxOf CX0 P w K mg base n_law_standard "_law_standard" (defScope s_law_standard) f cdv A outer s H E).nox (defBody s_law_standard) (t_law_standard K) := by
  unfold t_law_standard
  exact (pss_cons (ps_asg (pe_tup (pa_cons (pe_lst pa_nil) (pa_cons (pe_c claw_inverse hr (by decide) rfl (pa_cons (pv 0) (pa_cons (pv 2) pa_nil))) pa_nil))) (pg_tup rfl (pgs_cons (pg_name (i := 3) sc_law_standard.nd rfl (Or.inr rfl)) (pgs_cons (pg_name (i := 4) sc_law_standard.nd rfl (Or.inr rfl)) pgs_nil))))
  (pss_cons (ps_for PassesOwn.never rfl (pi_list (pe_c claw_tuples hr (by decide) rfl (pa_cons (pv 1) (pa_cons (pe_op op_add (pv 2) pe_int) pa_nil)))) (pg_name (i := 5) sc_law_standard.nd rfl (Or.inr rfl))
    (pss_cons (ps_set (i := 6) sc_law_standard.nd rfl (Or.inl rfl) (pe_callTy call_tuple_of rfl T.btuple boot_tuple (pa_cons (pe_lc (own := [("_law_one", 10)]) (g := (gName 10)) (tt := (tTest (tOp rGtI (tOp (rIxL K) (tVar 5) (tVar 10)) (tC (.int 0))))) (te := (tVar 10)) rfl sc_law_standard.nd (pi_range1 rfl T.brange (pa_cons (pv 1) pa_nil)) (blkOk_by (by kernel_rfl)) (fun _ _ _ _ _ => (pg_name (i := 10) sc_law_standard.nd rfl (Or.inl rfl))) (fun _ _ _ _ _ => (pts_one (pt_cmpR op_gt (pe_ix ix_list (pv 5) (pv 10) (fun _ _ => rfl)) pe_int (nomark _)))) (fun _ _ _ _ _ => (pv 10))) pa_nil)))
  (pss_cons (ps_set (i := 7) sc_law_standard.nd rfl (Or.inl rfl) (pe_callTy call_tuple_of rfl T.btuple boot_tuple (pa_cons (pe_lc (own := [("_law_spot", 11)]) (g := (gName 11)) (tt := tYes) (te := (tIf (tTest (tOp rEq (tVar 11) (tC (.int 0)))) (tC (.int 0)) (tOp rSubI (tVar 11) (tC (.int 1))))) rfl sc_law_standard.nd (pi_list (pv 5)) (blkOk_by (by kernel_rfl)) (fun _ _ _ _ _ => (pg_name (i := 11) sc_law_standard.nd rfl (Or.inl rfl))) (fun _ _ _ _ _ => pts_nil) (fun _ _ _ _ _ => (pe_ifExp (pt_cmpR op_eq (pv 11) pe_int (nomark _)) pe_int (pe_op op_sub (pv 11) pe_int)))) pa_nil)))
  (pss_one (ps_if (PW.pt (pw_and (pt_cmpR (op_neD hr.units) (pv 6) (pe_tup pa_nil) (nomark _)) (pw_and1 (pt_cmpR op_eq (pe_op op_mod (pe_callTy call_int1 rfl T.bint boot_int (pa_cons (pe_op op_sub (pe_callB (cr_sumT rfl) rfl T.bsum boot_sum (pa_cons (pv 7) pa_nil)) pe_int) pa_nil)) (pv 2)) pe_int (nomark _))))) (pss_one (ps_expr (pe_bm PySem.F.plainAttrs_list PySem.F.slot_list_append PySem.F.type_list_append mt_append (pv 3) (pa_cons (pe_tup (pa_cons (pv 6) (pa_cons (pv 7) pa_nil))) pa_nil)))) pss_nil)))))
  (pss_cons (ps_asg (pe_tup (pa_cons (pe_callB (cr_sortedC hr) rfl T.bsorted boot_sorted (pa_cons (pv 3) pa_nil)) (pa_cons (pe_lst pa_nil) pa_nil))) (pg_tup rfl (pgs_cons (pg_name (i := 3) sc_law_standard.nd rfl (Or.inr rfl)) (pgs_cons (pg_name (i := 8) sc_law_standard.nd rfl (Or.inl rfl)) pgs_nil))))
  (pss_cons (ps_for PassesOwn.never rfl (pi_list (pe_c claw_tuples hr (by decide) rfl (pa_cons (pv 0) (pa_cons (pe_callB call_len_seq rfl T.blen boot_len (pa_cons (pv 3) pa_nil)) pa_nil)))) (pg_name (i := 5) sc_law_standard.nd rfl (Or.inr rfl))
    (pss_cons (ps_set (i := 6) sc_law_standard.nd rfl (Or.inl rfl) (pe_callTy call_tuple_of rfl T.btuple boot_tuple (pa_cons (pe_lc (own := [("_law_one", 10)]) (g := (gName 10)) (tt := (tTest (tOp (rNeD K) (tLc (iList K (tVar 5)) (gName 12) (tTest (tOp (rIn K false) (tVar 10) (tOp (rIxT K) (tOp (rIxL K) (tVar 3) (tVar 12)) (tC (.int 0))))) (tVar 12) [12]) (tLst tNil)))) (te := (tVar 10)) rfl sc_law_standard.nd (pi_range1 rfl T.brange (pa_cons (pv 1) pa_nil)) (blkOk_by (by kernel_rfl)) (fun _ _ _ _ _ => (pg_name (i := 10) sc_law_standard.nd rfl (Or.inr rfl))) (fun _ _ _ _ _ => (pts_one (pt_cmpR (op_neD hr.units) (pe_lc (own := [("_law_at", 12)]) (g := (gName 12)) (tt := (tTest (tOp (rIn K false) (tVar 10) (tOp (rIxT K) (tOp (rIxL K) (tVar 3) (tVar 12)) (tC (.int 0)))))) (te := (tVar 12)) rfl sc_law_standard.nd (pi_list (pv 5)) (blkOk_by (by kernel_rfl)) (fun _ _ _ _ _ => (pg_name (i := 12) sc_law_standard.nd rfl (Or.inl rfl))) (fun _ _ _ _ _ => (pts_one (pt_cmpR op_in_seq (pv 10) (pe_ix ix_tup (pe_ix ix_list (pv 3) (pv 12) (fun _ _ => rfl)) pe_int (fun _ _ => rfl)) (by rfl)))) (fun _ _ _ _ _ => (pv 12))) (pe_lst pa_nil) (nomark _)))) (fun _ _ _ _ _ => (pv 10))) pa_nil)))
  (pss_cons (ps_set (i := 7) sc_law_standard.nd rfl (Or.inl rfl) (pe_callTy call_tuple_of rfl T.btuple boot_tuple (pa_cons (pe_lc (own := [("_law_one", 10)]) (g := (gName 10)) (tt := tYes) (te := (tOp rModI (tCB rInt1 (tCons (tOp rMulI (tCB (rSum K) (tCons (tLc (iList K (tVar 5)) (gName 12) tYes (tOp (rIxT K) (tOp (rIxT K) (tOp (rIxL K) (tVar 3) (tVar 12)) (tC (.int 1))) (tVar 10)) [12]) tNil)) (tVar 4)) tNil)) (tVar 2))) rfl sc_law_standard.nd (pi_range1 rfl T.brange (pa_cons (pv 1) pa_nil)) (blkOk_by (by kernel_rfl)) (fun _ _ _ _ _ => (pg_name (i := 10) sc_law_standard.nd rfl (Or.inr rfl))) (fun _ _ _ _ _ => pts_nil) (fun _ _ _ _ _ => (pe_op op_mod (pe_callTy call_int1 rfl T.bint boot_int (pa_cons (pe_op op_mulW (pe_callB (cr_sum rfl) rfl T.bsum boot_sum (pa_cons (pe_lc (own := [("_law_at", 12)]) (g := (gName 12)) (tt := tYes) (te := (tOp (rIxT K) (tOp (rIxT K) (tOp (rIxL K) (tVar 3) (tVar 12)) (tC (.int 1))) (tVar 10))) rfl sc_law_standard.nd (pi_list (pv 5)) (blkOk_by (by kernel_rfl)) (fun _ _ _ _ _ => (pg_name (i := 12) sc_law_standard.nd rfl (Or.inl rfl))) (fun _ _ _ _ _ => pts_nil) (fun _ _ _ _ _ => (pe_ix ix_tup (pe_ix ix_tup (pe_ix ix_list (pv 3) (pv 12) (fun _ _ => rfl)) pe_int (fun _ _ => rfl)) (pv 10) (fun _ _ => rfl)))) pa_nil)) (pv 4)) pa_nil)) (pv 2)))) pa_nil)))
  (pss_one (ps_expr (pe_bm PySem.F.plainAttrs_list PySem.F.slot_list_append PySem.F.type_list_append mt_append (pv 8) (pa_cons (pe_bm PySem.F.plainAttrs_list PySem.F.slot_list_index PySem.F.type_list_index (mt_indexD (hu65 hr)) (pv 3) (pa_cons (pe_tup (pa_cons (pv 6) (pa_cons (pv 7) pa_nil))) pa_nil)) pa_nil)))))))
  (pss_cons (ps_setLc (i := 9) (own := [("_law_one", 10)]) (g := (gName 10)) (tt := tYes) (te := (tBM K "list" (rIndexD K) (tVar 3) (tCons (tTup (tCons (tTup (tCons (tVar 10) tNil)) (tCons (tCB (rTupOf K) (tCons (tLc (iRng1 (tCons (tVar 1) tNil)) (gName 12) tYes (tIf (tTest (tOp rEq (tVar 12) (tVar 10))) (tOp rModI (tCB rInt1 (tCons (tC (.int 1)) tNil)) (tVar 2)) (tC (.int 0))) [12]) tNil)) tNil))) tNil))) rfl sc_law_standard.nd rfl rfl (sw_true rfl rfl rfl (by decide +kernel)) (pi_range1 rfl T.brange (pa_cons (pv 1) pa_nil)) (blkOk_by (by kernel_rfl)) (fun _ _ _ _ _ => (pg_name (i := 10) sc_law_standard.nd rfl (Or.inr rfl))) (fun _ _ _ _ _ => pts_nil) (fun _ _ _ _ _ => (pe_bm PySem.F.plainAttrs_list PySem.F.slot_list_index PySem.F.type_list_index (mt_indexD (hu65 hr)) (pv 3) (pa_cons (pe_tup (pa_cons (pe_tup (pa_cons (pv 10) pa_nil)) (pa_cons (pe_callTy call_tuple_of rfl T.btuple boot_tuple (pa_cons (pe_lc (own := [("_law_at", 12)]) (g := (gName 12)) (tt := tYes) (te := (tIf (tTest (tOp rEq (tVar 12) (tVar 10))) (tOp rModI (tCB rInt1 (tCons (tC (.int 1)) tNil)) (tVar 2)) (tC (.int 0)))) rfl sc_law_standard.nd (pi_range1 rfl T.brange (pa_cons (pv 1) pa_nil)) (blkOk_by (by kernel_rfl)) (fun _ _ _ _ _ => (pg_name (i := 12) sc_law_standard.nd rfl (Or.inl rfl))) (fun _ _ _ _ _ => pts_nil) (fun _ _ _ _ _ => (pe_ifExp (pt_cmpR op_eq (pv 12) (pv 10) (nomark _)) (pe_op op_mod (pe_callTy call_int1 rfl T.bint boot_int (pa_cons pe_int pa_nil)) (pv 2)) pe_int))) pa_nil)) pa_nil))) pa_nil))))
  (pss_one (ps_ret (pe_tup (pa_cons (pe_callB call_len_seq rfl T.blen boot_len (pa_cons (pv 3) pa_nil)) (pa_cons (pv 8) (pa_cons (pv 9) pa_nil)))))))))))

/-! ### law_blend -/
abbrev n_law_blend : List Str := ["_law_labels", "_law_results_here", "_law_cups", "_law_at", "_law_cup"]
abbrev p_law_blend : List Str := ["_law_labels", "_law_results_here", "_law_cups"]
theorem sc_law_blend : FnScope n_law_blend p_law_blend (defScope s_law_blend) := ⟨rfl, rfl, rfl, by decide +kernel, rfl, by decide +kernel, by decide +kernel⟩
def t_law_blend (K : PySem.W.Frag) : TS := (tSeq (tAsg (tC (.int 0)) (gName 3))
  (tSeq (tFor (iSeq K (tVar 2)) (gName 4)
    (tAsg (tOp rAddI (tOp rMulI (tVar 3) (tVar 0)) (tVar 4)) (gName 3)))
  (tRet (tOp (rIxL K) (tVar 1) (tVar 3)))))
theorem dv_law_blend {P : Program} {w : World} {K : PySem.W.Frag} {mg : Str → Option Value} {base : Heap} (T : Txt K mg)  (f : Addr) (cdv : Value) (A : Around) (outer : List Env) (s : Shared) (H : Hp) (E : XK) (hr : Room 0 (A.deeper (envOfC "_law_blend" (defScope s_law_blend) s.heap.objs.size f cdv))) :
    PSs (cxOf CX0 P w K mg base n_law_blend "_law_blend" (defScope s_law_blend) f cdv A outer s H E).nox (defBody s_law_blend) (t_law_blend K) := by
  unfold t_law_blend
  exact (pss_cons (ps_set (i := 3) sc_law_blend.nd rfl (Or.inl rfl) pe_int)
  (pss_cons (ps_for PassesOwn.never rfl (pi_seq (pv 2)) (pg_name (i := 4) sc_law_blend.nd rfl (Or.inl rfl))
    (pss_one (ps_set (i := 3) sc_law_blend.nd rfl (Or.inl rfl) (pe_op op_add (pe_op op_mulW (pv 3) (pv 0)) (pv 4)))))
  (pss_one (ps_ret (pe_ix ix_list (pv 1) (pv 3) (fun _ _ => rfl))))))

/-! ### law_world -/
abbrev n_law_world : List Str := ["_law_deal", "_law_most", "_law_k", "_law_kind", "_law_bound", "_law_labels", "_law_results_here"]
abbrev p_law_world : List Str := ["_law_deal", "_law_most"]
theorem sc_law_world : FnScope n_law_world p_law_world (defScope s_law_world) := ⟨rfl, rfl, rfl, by decide +kernel, rfl, by decide +kernel, by decide +kernel⟩
def t_law_world (K : PySem.W.Frag) : TS := (tSeq (tPar 2 3 (tCons (tCall (sp_law_of K) [] E0 (tCons (tVar 0) (tCons (tLst (tCons (tC (.int 2)) (tCons (tC (.int 2)) (tCons (tC (.int 2)) (tCons (tC (.int 3)) tNil))))) tNil))) (tCons (tCall (sp_law_any K) [] E0 (tCons (tVar 0) (tCons (tC (.int 6)) tNil))) tNil)))
  (tSeq (tAsg (tIf (tTest (tOp rEq (tVar 2) (tC (.int 2)))) (tVar 1) (tOp rSubI (tVar 1) (tC (.int 1)))) (gName 4))
  (tSeq (tIfS (tTest (tOp rLtI (tVar 3) (tC (.int 4)))) (tSeq (tAsg (tCall (sp_law_table K) [] E0 (tCons (tVar 0) (tCons (tVar 2) (tCons (tVar 4) tNil)))) (gTup K 2 (gCons (gName 5) (gCons (gName 6) gNil))))
  (tSeq (tIfS (tAnd (tTest (tOp rEq (tVar 3) (tC (.int 3)))) (tTest (tOp rGtI (tVar 5) (tC (.int 1))))) (tRet (tTup (tCons (tVar 2) (tCons (tVar 5) (tCons (tCall (sp_law_spoilt K) [] E0 (tCons (tVar 0) (tCons (tVar 5) (tCons (tVar 6) tNil)))) (tCons (tC (.bl false)) tNil)))))) tNext)
  (tRet (tTup (tCons (tVar 2) (tCons (tVar 5) (tCons (tVar 6) (tCons (tC (.bl true)) tNil)))))))) tNext)
  (tSeq (tAsg (tOp rAddI (tC (.int 1)) (tCall (sp_law_any K) [] E0 (tCons (tVar 0) (tCons (tVar 4) tNil)))) (gName 5))
  (tRet (tTup (tCons (tVar 2) (tCons (tVar 5) (tCons (tCall (sp_law_random K) [] E0 (tCons (tVar 0) (tCons (tVar 2) (tCons (tVar 5) tNil)))) (tCons (tC (.bl false)) tNil))))))))))
theorem dv_law_world {P : Program} {w : World} {K : PySem.W.Frag} {mg : Str → Option Value} {base : Heap} (T : Txt K mg) (claw_of : Cal P w K mg base 2 "_law_of" (sp_law_of K)) (claw_any : Cal P w K mg base 1 "_law_any" (sp_law_any K)) (claw_table : Cal P w K mg base 4 "_law_table" (sp_law_table K)) (claw_spoilt : Cal P w K mg base 2 "_law_spoilt" (sp_law_spoilt K)) (claw_random : Cal P w K mg base 2 "_law_random" (sp_law_random K)) (f : Addr) (cdv : Value) (A : Around) (outer : List Env) (s : Shared) (H : Hp) (E : XK) (hr : Room 4 (A.deeper (envOfC "_law_world" (defScope s_law_world) s.heap.objs.size f cdv))) :
    PSs (cxOf CX0 P w K mg base n_law_world "_law_world" (defScope s_law_world) f cdv A outer s H E).nox (defBody s_law_world) (t_law_world K) := by
  unfold t_law_world
  exact (pss_cons (ps_par (i := 2) (j := 3) rfl sc_law_world.nd rfl rfl (by decide) rfl rfl (pa_cons (pe_c claw_of hr (by decide) rfl (pa_cons (pv 0) (pa_cons (pe_lst (pa_cons pe_int (pa_cons pe_int (pa_cons pe_int (pa_cons pe_int pa_nil))))) pa_nil))) (pa_cons (pe_c claw_any hr (by decide) rfl (pa_cons (pv 0) (pa_cons pe_int pa_nil))) pa_nil)) (by rfl))
  (pss_cons (ps_set (i := 4) sc_law_world.nd rfl (Or.inl rfl) (pe_ifExp (pt_cmpR op_eq (pv 2) pe_int (nomark _)) (pv 1) (pe_op op_sub (pv 1) pe_int)))
  (pss_cons (ps_if (pt_cmpR op_lt (pv 3) pe_int (nomark _)) (pss_cons (ps_asg (pe_c claw_table hr (by decide) rfl (pa_cons (pv 0) (pa_cons (pv 2) (pa_cons (pv 4) pa_nil)))) (pg_tup rfl (pgs_cons (pg_name (i := 5) sc_law_world.nd rfl (Or.inl rfl)) (pgs_cons (pg_name (i := 6) sc_law_world.nd rfl (Or.inl rfl)) pgs_nil))))
  (pss_cons (ps_if (PW.pt (pw_and (pt_cmpR op_eq (pv 3) pe_int (nomark _)) (pw_and1 (pt_cmpR op_gt (pv 5) pe_int (nomark _))))) (pss_one (ps_ret (pe_tup (pa_cons (pv 2) (pa_cons (pv 5) (pa_cons (pe_c claw_spoilt hr (by decide) rfl (pa_cons (pv 0) (pa_cons (pv 5) (pa_cons (pv 6) pa_nil)))) (pa_cons pe_bl pa_nil))))))) pss_nil)
  (pss_one (ps_ret (pe_tup (pa_cons (pv 2) (pa_cons (pv 5) (pa_cons (pv 6) (pa_cons pe_bl pa_nil))))))))) pss_nil)
  (pss_cons (ps_set (i := 5) sc_law_world.nd rfl (Or.inl rfl) (pe_op op_add pe_int (pe_c claw_any hr (by decide) rfl (pa_cons (pv 0) (pa_cons (pv 4) pa_nil)))))
  (pss_one (ps_ret (pe_tup (pa_cons (pv 2) (pa_cons (pv 5) (pa_cons (pe_c claw_random hr (by decide) rfl (pa_cons (pv 0) (pa_cons (pv 2) (pa_cons (pv 5) pa_nil)))) (pa_cons pe_bl pa_nil)))))))))))

/-! ### law_shown -/
abbrev n_law_shown : List Str := ["_law_deal", "_law_row"]
abbrev p_law_shown : List Str := ["_law_deal", "_law_row"]
theorem sc_law_shown : FnScope n_law_shown p_law_shown (defScope s_law_shown) := ⟨rfl, rfl, rfl, by decide +kernel, rfl, by decide +kernel, by decide +kernel⟩
def t_law_shown (K : PySem.W.Frag) : TS := (tRet (tIf (tTest (tOp rEq (tCall (sp_law_any K) [] E0 (tCons (tVar 0) (tCons (tC (.int 2)) tNil))) (tC (.int 0)))) (tCB (rListOf K) (tCons (tVar 1) tNil)) (tCB (rTupOf K) (tCons (tVar 1) tNil))))
theorem dv_law_shown {P : Program} {w : World} {K : PySem.W.Frag} {mg : Str → Option Value} {base : Heap} (T : Txt K mg) (claw_any : Cal P w K mg base 1 "_law_any" (sp_law_any K)) (f : Addr) (cdv : Value) (A : Around) (outer : List Env) (s : Shared) (H : Hp) (E : XK) (hr : Room 1 (A.deeper (envOfC "_law_shown" (defScope s_law_shown) s.heap.objs.size f cdv))) :
    PSs (cxOf CX0 P w K mg base n_law_shown "_law_shown" (defScope s_law_shown) f cdv A outer s H E).nox (defBody s_law_shown) (t_law_shown K) := by
  unfold t_law_shown
  exact (pss_one (ps_ret (pe_ifExp (pt_cmpR op_eq (pe_c claw_any hr (by decide) rfl (pa_cons (pv 0) (pa_cons pe_int pa_nil))) pe_int (nomark _)) (pe_callTy call_list_of rfl T.blist boot_list (pa_cons (pv 1) pa_nil)) (pe_callTy call_tuple_of rfl T.btuple boot_tuple (pa_cons (pv 1) pa_nil)))))

/-! ### law_prices -/
abbrev n_law_prices : List Str := ["_law_deal", "_law_labels", "_law_kind", "_law_found", "_law_at", "_law_label_here"]
abbrev p_law_prices : List Str := ["_law_deal", "_law_labels"]
theorem sc_law_prices : FnScope n_law_prices p_law_prices (defScope s_law_prices) := ⟨rfl, rfl, rfl, by decide +kernel, rfl, by decide +kernel, by decide +kernel⟩
def t_law_prices (K : PySem.W.Frag) : TS := (tSeq (tAsg (tCall (sp_law_any K) [] E0 (tCons (tVar 0) (tCons (tC (.int 5)) tNil))) (gName 2))
  (tSeq (tIfS (tTest (tOp rLtI (tVar 2) (tC (.int 2)))) (tRet (tLc (iRng1 (tCons (tVar 1) tNil)) (gName 5) tYes (tOp rSubI (tCall (sp_law_any K) [] E0 (tCons (tVar 0) (tCons (tC (.int 9)) tNil))) (tC (.int 3))) [5])) tNext)
  (tSeq (tIfS (tTest (tOp rEq (tVar 2) (tC (.int 2)))) (tRet (tLc (iRng1 (tCons (tVar 1) tNil)) (gName 5) tYes (tOp rSubI (tCall (sp_law_any K) [] E0 (tCons (tVar 0) (tCons (tC (.int 2001)) tNil))) (tC (.int 1000))) [5])) tNext)
  (tSeq (tAsg (tOp rRep (tLst (tCons (tOp rSubI (tCall (sp_law_any K) [] E0 (tCons (tVar 0) (tCons (tC (.int 2001)) tNil))) (tC (.int 1000))) tNil)) (tVar 1)) (gName 3))
  (tSeq (tIfS (tTest (tOp rEq (tVar 2) (tC (.int 4)))) (tSeq (tAsg (tCall (sp_law_any K) [] E0 (tCons (tVar 0) (tCons (tVar 1) tNil))) (gName 4))
  (tAsg (tOp rCat (tOp rCat (tSl (rSlL K) (tVar 3) tNoPart (tPart (tVar 4))) (tLst (tCons (tIf (tTest (tOp rLtI (tCB rAbs (tCons (tOp (rIxL K) (tVar 3) (tVar 4)) tNil)) (tC (.int 1000)))) (tOp rAddI (tOp rSubI (tOp (rIxL K) (tVar 3) (tVar 4)) (tC (.int 1))) (tOp rMulI (tC (.int 2)) (tCall (sp_law_any K) [] E0 (tCons (tVar 0) (tCons (tC (.int 2)) tNil))))) (tC (.int 0))) tNil))) (tSl (rSlL K) (tVar 3) (tPart (tOp rAddI (tVar 4) (tC (.int 1)))) tNoPart)) (gName 3))) tNext)
  (tRet (tVar 3)))))))
theorem dv_law_prices {P : Program} {w : World} {K : PySem.W.Frag} {mg : Str → Option Value} {base : Heap} (T : Txt K mg) (claw_any : Cal P w K mg base 1 "_law_any" (sp_law_any K)) (f : Addr) (cdv : Value) (A : Around) (outer : List Env) (s : Shared) (H : Hp) (E : XK) (hr : Room 1 (A.deeper (envOfC "_law_prices" (defScope s_law_prices) s.heap.objs.size f cdv))) :
    PSs (cxOf CX0 P w K mg base n_law_prices "_law_prices" (defScope s_law_prices) f cdv A outer s H E).nox (defBody s_law_prices) (t_law_prices K) := by
  unfold t_law_prices
  exact (pss_cons (ps_set (i := 2) sc_law_prices.nd rfl (Or.inl rfl) (pe_c claw_any hr (by decide) rfl (pa_cons (pv 0) (pa_cons pe_int pa_nil))))
  (pss_cons (ps_if (pt_cmpR op_lt (pv 2) pe_int (nomark _)) (pss_one (ps_ret (pe_lc (own := [("_law_label_here", 5)]) (g := (gName 5)) (tt := tYes) (te := (tOp rSubI (tCall (sp_law_any K) [] E0 (tCons (tVar 0) (tCons (tC (.int 9)) tNil))) (tC (.int 3)))) rfl sc_law_prices.nd (pi_range1 rfl T.brange (pa_cons (pv 1) pa_nil)) (blkOk_by (by kernel_rfl)) (fun _ _ _ _ _ => (pg_name (i := 5) sc_law_prices.nd rfl (Or.inl rfl))) (fun _ _ _ _ _ => pts_nil) (fun _ _ _ _ _ => (pe_op op_sub (pe_c claw_any hr (by decide) rfl (pa_cons (pv 0) (pa_cons pe_int pa_nil))) pe_int))))) pss_nil)
  (pss_cons (ps_if (pt_cmpR op_eq (pv 2) pe_int (nomark _)) (pss_one (ps_ret (pe_lc (own := [("_law_label_here", 5)]) (g := (gName 5)) (tt := tYes) (te := (tOp rSubI (tCall (sp_law_any K) [] E0 (tCons (tVar 0) (tCons (tC (.int 2001)) tNil))) (tC (.int 1000)))) rfl sc_law_prices.nd (pi_range1 rfl T.brange (pa_cons (pv 1) pa_nil)) (blkOk_by (by kernel_rfl)) (fun _ _ _ _ _ => (pg_name (i := 5) sc_law_prices.nd rfl (Or.inl rfl))) (fun _ _ _ _ _ => pts_nil) (fun _ _ _ _ _ => (pe_op op_sub (pe_c claw_any hr (by decide) rfl (pa_cons (pv 0) (pa_cons pe_int pa_nil))) pe_int))))) pss_nil)
  (pss_cons (ps_set (i := 3) sc_law_prices.nd rfl (Or.inl rfl) (pe_op op_rep (pe_lst (pa_cons (pe_op op_sub (pe_c claw_any hr (by decide) rfl (pa_cons (pv 0) (pa_cons pe_int pa_nil))) pe_int) pa_nil)) (pv 1)))
  (pss_cons (ps_if (pt_cmpR op_eq (pv 2) pe_int (nomark _)) (pss_cons (ps_set (i := 4) sc_law_prices.nd rfl (Or.inl rfl) (pe_c claw_any hr (by decide) rfl (pa_cons (pv 0) (pa_cons (pv 1) pa_nil))))
  (pss_one (ps_set (i := 3) sc_law_prices.nd rfl (Or.inl rfl) (pe_op op_cat (pe_op op_cat (pe_slice sl_list (pv 3) po_none (po_some (pv 4))) (pe_lst (pa_cons (pe_ifExp (pt_cmpR op_lt (pe_callB call_abs rfl T.babs boot_abs (pa_cons (pe_ix ix_list (pv 3) (pv 4) (fun _ _ => rfl)) pa_nil)) pe_int (nomark _)) (pe_op op_add (pe_op op_sub (pe_ix ix_list (pv 3) (pv 4) (fun _ _ => rfl)) pe_int) (pe_op op_mulW pe_int (pe_c claw_any hr (by decide) rfl (pa_cons (pv 0) (pa_cons pe_int pa_nil))))) pe_int) pa_nil))) (pe_slice sl_list (pv 3) (po_some (pe_op op_add (pv 4) pe_int)) po_none))))) pss_nil)
  (pss_one (ps_ret (pv 3))))))))

end Mix
set_option maxHeartbeats 2000000
namespace Mix
open PySem PySem.Spec PyProof.Rows L2
theorem pure_law_blend {K : PySem.W.Frag} (vs : List V) (H : Hp) (Q : VK) (E : XK) (h : sp_law_blend K vs H Q E) : t_law_blend K { nx := fun _ H' => Q .non H', rt := Q } (start n_law_blend vs) H := by
  obtain ⟨r, cv, W, cs, rfl, hr, ⟨ca, rfl, hca⟩, ok, cup, k⟩ := h
  have k3 := ok.k3
  have l4 := ok.l4
  refine ⟨_, rfl, ca, _, rfl, hca, fun J wk => ?_⟩
  refine for_it wk (fun i σ H' => Same H H' ∧ ∃ (o : Option V), σ = [some (.int (W.L : Int)), some (.ref r), some (.ref ca), some (.int (spot W.L (cs.take i) : Int)), o]) ⟨Same.refl _, none, rfl⟩ (fun i σ H' _ q => q.1) ?_ ?_
  · rintro i y σ H1 H2 hi ⟨s, o, rfl⟩ ⟨rfl, hy⟩
    obtain ⟨c, hc, rfl⟩ := vN_get' hy
    have hcl := cup.lt c (List.mem_of_getElem? hc)
    have hsp : spot W.L (cs.take i) ≤ 64 := by
      have h1 := spot_lt (L := W.L) (cs := cs.take i) fun d hd => cup.lt d (List.mem_of_mem_take hd)
      have h2 : W.L ^ (cs.take i).length ≤ 64 := pow_small l4 (by rw [List.length_take, cup.len]; omega)
      omega
    refine ⟨_, rfl, _, rfl, _, _, rfl, rfl, cmul (n := 10) (m := 10) (by show Int.natAbs _ < 1024; omega) (by show Int.natAbs _ < 1024; omega) (by decide), _, rfl, _, _, rfl, rfl, s, some (.int (c : Int)), ?_⟩
    rw [spot_take hc]
    push_cast
    rfl
  · rintro σ H1 ⟨s, o, rfl⟩
    rw [vN_len, List.take_length]
    have hlt : spot W.L cs < W.res.length := by
      rw [ok.len, ← cup.len]
      exact spot_lt cup.lt
    refine ⟨_, rfl, _, rfl, r, _, _, _, rfl, rfl, s.seq hr, atI_nat (vN_get (List.getElem?_eq_getElem hlt)), k _ _ s ?_⟩
    unfold Wd.bl
    rw [List.getD_eq_getElem?_getD, List.getElem?_eq_getElem hlt]
    rfl
theorem pure_law_shown {K : PySem.W.Frag} (vs : List V) (H : Hp) (Q : VK) (E : XK) (h : sp_law_shown K vs H Q E) : t_law_shown K { nx := fun _ H' => Q .non H', rt := Q } (start n_law_shown vs) H := by
  obtain ⟨d, c, lv, xs, rfl, dl, hl, k⟩ := h
  refine ⟨_, rfl, d, c, 2, rfl, dl, by decide, by decide, ?_⟩
  rintro v H1 s1 d1 ⟨r, rfl, hr⟩
  obtain ⟨a, rfl, ha, a1, a2⟩ := hl.x s1
  refine ⟨rfl, _, rfl, ?_⟩
  by_cases h0 : r = 0
  · subst h0
    refine ift (by simp) ?_
    exact ⟨_, rfl, a, xs, rfl, .inl (SqL.of ha), fun l hl => k _ _ (s1.trans (SameX.new hl)) (d1.new hl) ⟨l, rfl, .inl (SqL.of upd_same)⟩⟩
  · refine iff' (by simp; omega) ?_
    exact ⟨_, rfl, a, xs, rfl, .inl ⟨SqL.of ha, fun l hl => k _ _ (s1.trans (SameX.new hl)) (d1.new hl) ⟨l, rfl, .inr (SqT.of upd_same)⟩⟩⟩
theorem vI_append (a b : List Int) : vI (a ++ b) = vI a ++ vI b := by
  unfold vI
  rw [List.map_append]
/-- a row of draws -/
theorem lc_draws {d c : Addr} {H : Hp} {b n : Nat} {off : Int} {vsl : List Nat} {g : TG} {te : TE} {σ : L2.St} (dl : DealAt H d c) (hb : (off : Int) ≤ 1000 ∧ 0 ≤ off ∧ (b : Int) - 1 - off ≤ 1000) (hn : n ≤ 100)
    (hs : ∀ (i : Nat) (H1 : Hp) (Kp : V → Hp → Prop), i < n → DealAt H1 d c → (∀ (r : Nat) H', SameX d c H1 H' → DealAt H' d c → r < b → Kp (.int ((r : Int) - off)) H') → g (.int (0 + (i : Int))) (wipe σ vsl) H1 fun σ2 H2 => wipe σ2 vsl = wipe σ vsl ∧ te σ2 H2 Kp)
    (mono : ∀ (x : V) (H2 : Hp) (P P' : L2.St → Hp → Prop), (∀ σ2 H3, P σ2 H3 → P' σ2 H3) → g x (wipe σ vsl) H2 P → g x (wipe σ vsl) H2 P') {Qd : Addr → Hp → Prop}
    (hQ : ∀ (D : Addr) H' (ps : List Int), H D = none → SameX d c H H' → DealAt H' d c → H' D = some (.lst (vI ps)) → ps.length = n → (∀ i ∈ ps, i.natAbs ≤ 1000) → Qd D H') :
    ∀ D, H D = none → ∃ W : Nat → Nat → Hp → Prop, (∃ m, W 0 m (upd H D (.lst []))) ∧ ∀ i m H, W i m H →
      ((Itr 0 n).stop i H ∧ Qd D H) ∨ ((Itr 0 n).go i H ∧ ∃ Nx : Hp → Prop, (∀ H', Nx H' → ∃ m', m' < m ∧ W (i + 1) m' H') ∧ ∀ x H', (Itr 0 n).yld i H x H' → g x (wipe σ vsl) H' fun σ2 H2 => wipe σ2 vsl = wipe σ vsl ∧ tYes σ2 H2 fun b H3 =>
        if b = true then te σ2 H3 fun y H4 => ∃ acc, H4 D = some (.lst acc) ∧ acc.length < sizeLine ∧ Nx (upd H4 D (.lst (acc ++ [y]))) else Nx H3) := by
  intro D hD
  have fr := dl.fresh hD
  refine lc_range (fun i H' => SameX d c H H' ∧ DealAt H' d c ∧ ∃ ps : List Int, H' D = some (.lst (vI ps)) ∧ ps.length = i ∧ ∀ i ∈ ps, i.natAbs ≤ 1000) ⟨SameX.new hD, dl.new hD, [], upd_same, rfl, fun i h => by simp at h⟩ ?_ ?_
  · rintro i H1 hi ⟨s1, d1, ps, hps, hpl, hpb⟩
    refine mono _ _ _ _ (fun σ2 H2 q => ⟨q.1, q.2⟩) (hs i H1 _ hi d1 fun r H2 s2 d2 hr => ⟨vI ps, s2 _ _ fr.1 fr.2 hps, sz1 (by rw [vI_len]; omega), (s1.trans s2).mut hD, ?_, ps ++ [(r : Int) - off], by rw [upd_same, vI_snoc], by simp [hpl], fun j hj => ?_⟩)
    · obtain ⟨ns, b, h1, h2, h3⟩ := d2
      exact ⟨ns, b, by rw [upd_ne (Ne.symm fr.1)]; exact h1, by rw [upd_ne (Ne.symm fr.2)]; exact h2, h3⟩
    · rcases List.mem_append.mp hj with hj | hj
      · exact hpb j hj
      · rw [List.mem_singleton.mp hj]
        omega
  · rintro H1 ⟨s1, d1, ps, hps, hpl, hpb⟩
    exact hQ D H1 ps hD s1 d1 hps hpl hpb
theorem cut_take (xs : List V) {j : Nat} (h : j ≤ xs.length) : cutV xs none (some (j : Int)) = xs.take j := by
  unfold cutV
  rw [HT.sIx_none, HT.sIx_nat]
  simp
theorem cut_drop (xs : List V) {j : Nat} (h : j ≤ xs.length) : cutV xs (some (j : Int)) none = xs.drop j := by
  unfold cutV
  rw [HT.sIx_none, HT.sIx_nat, Nat.min_eq_left h]
  rw [List.take_of_length_le (by rw [List.length_drop]; omega)]
theorem vI_cut (ps : List Int) (j : Nat) : vI (ps.take j) = (vI ps).take j ∧ vI (ps.drop j) = (vI ps).drop j := by
  unfold vI
  exact ⟨List.map_take, List.map_drop⟩
theorem pr_item {K : PySem.W.Frag} {d c f : Addr} {o1 o2 o5 : Option V} {at_ : Nat} {ps : List Int} {H : Hp} {Qx : VK} (dl : DealAt H d c) (hf : H f = some (.lst (vI ps))) (f1 : f ≠ d) (f2 : f ≠ c) (hat : at_ < ps.length) (hb : ∀ i ∈ ps, i.natAbs ≤ 1000)
    (k : ∀ (y : Int) H', SameX d c H H' → DealAt H' d c → y.natAbs ≤ 1000 → Qx (.int y) H') :
    tIf (tTest (tOp rLtI (tCB rAbs (tCons (tOp (rIxL K) (tVar 3) (tVar 4)) tNil)) (tC (.int 1000)))) (tOp rAddI (tOp rSubI (tOp (rIxL K) (tVar 3) (tVar 4)) (tC (.int 1))) (tOp rMulI (tC (.int 2)) (tCall (sp_law_any K) [] E0 (tCons (tVar 0) (tCons (tC (.int 2)) tNil))))) (tC (.int 0))
      [some (.ref d), o1, o2, some (.ref f), some (.int (at_ : Int)), o5] H Qx := by
  have hx := hb ps[at_] (List.getElem_mem hat)
  have ha : atI (vI ps) (at_ : Int) = some (.int ps[at_]) := atI_nat (by unfold vI; rw [List.getElem?_map, List.getElem?_eq_getElem hat]; rfl)
  generalize ps[at_] = x at hx ha
  refine ⟨_, rfl, _, rfl, f, _, _, _, rfl, rfl, SqL.of hf, ha, x, rfl, _, _, rfl, rfl, _, rfl, ?_⟩
  by_cases h : (if x < 0 then -x else x) < 1000
  · refine ift (decide_eq_true h) ?_
    refine ⟨_, rfl, _, rfl, f, _, _, _, rfl, rfl, SqL.of hf, ha, _, _, rfl, rfl, _, rfl, d, c, 2, rfl, dl, by decide, by decide, ?_⟩
    rintro v H1 s1 d1 ⟨r, rfl, hr⟩
    refine ⟨_, _, rfl, rfl, cmul (n := 10) (m := 10) (bd_of (by decide)) (by show Int.natAbs _ < 1024; omega) (by decide), _, _, rfl, rfl, k _ _ s1 d1 ?_⟩
    split at h <;> omega
  · refine iff' (decide_eq_false h) ?_
    exact k 0 _ SameX.refl dl (by decide)
theorem pure_law_prices {K : PySem.W.Frag} (vs : List V) (H : Hp) (Q : VK) (E : XK) (h : sp_law_prices K vs H Q E) : t_law_prices K { nx := fun _ H' => Q .non H', rt := Q } (start n_law_prices vs) H := by
  obtain ⟨d, c, L, rfl, dl, hl1, hl4, k⟩ := h
  refine ⟨_, rfl, d, c, 5, rfl, dl, by decide, by decide, ?_⟩
  rintro v H1 s1 d1 ⟨r, rfl, hr⟩
  have draw : ∀ {σ : L2.St} {H1 : Hp} (b : Nat) (off : Int), σ = [some (.ref d), some (.int (L : Int)), some (.int (r : Int)), none, none, none] → SameX d c H H1 → DealAt H1 d c → 0 < b → b ≤ 5000 → ((off : Int) ≤ 1000 ∧ 0 ≤ off ∧ (b : Int) - 1 - off ≤ 1000) →
      tLc (iRng1 (tCons (tVar 1) tNil)) (gName 5) tYes (tOp rSubI (tCall (sp_law_any K) [] E0 (tCons (tVar 0) (tCons (tC (.int (b : Int))) tNil))) (tC (.int off))) [5] σ H1 Q := by
    rintro σ H1 b off rfl s1 d1 hb0 hb5 hb
    refine ⟨_, rfl, _, rfl, by omega, by omega, ?_⟩
    rw [show ((L : Nat) : Int).toNat = L by omega]
    refine lc_draws (b := b) (off := off) d1 hb (by omega) ?_ (fun x H2 P P' h q => h _ _ q) ?_
    · rintro i H2 Kp hi d2 kp
      refine ⟨rfl, _, rfl, d, c, b, rfl, d2, hb0, hb5, ?_⟩
      rintro v H3 s3 d3 ⟨q, rfl, hq⟩
      exact ⟨_, _, rfl, rfl, kp q _ s3 d3 hq⟩
    · rintro D H2 ps hD s2 d2 e2 hpl hpb
      exact k _ _ (s1.trans s2) d2 ⟨ps, LsX.new d1 hD e2, hpl, hpb⟩
  refine ⟨_, rfl, _, _, rfl, rfl, _, rfl, ?_⟩
  by_cases h2 : (r : Int) < 2
  · refine ift (decide_eq_true h2) ?_
    exact draw 9 3 rfl s1 d1 (by decide) (by decide) ⟨by decide, by decide, by decide⟩
  refine iff' (decide_eq_false h2) ?_
  refine ⟨_, rfl, rfl, _, rfl, ?_⟩
  by_cases h3 : r = 2
  · subst h3
    refine ift (by simp) ?_
    exact draw 2001 1000 rfl s1 d1 (by decide) (by decide) ⟨by decide, by decide, by decide⟩
  refine iff' (by simp; omega) ?_
  refine ⟨_, rfl, d, c, 2001, rfl, d1, by decide, by decide, ?_⟩
  rintro v H2 s2 d2 ⟨q, rfl, hq⟩
  refine ⟨_, _, rfl, rfl, by show 1 ≤ sizeLine; decide, fun l0 hl0 => ?_⟩
  have s3 := Same.new (o := .lst [V.int ((q : Int) - 1000)]) hl0
  refine ⟨_, rfl, l0, (L : Int), _, rfl, rfl, upd_same, by omega, by omega, sz0 (by simp; omega), fun f hf => ?_⟩
  have er : (List.replicate ((L : Nat) : Int).toNat [V.int ((q : Int) - 1000)]).flatten = vI (List.replicate L ((q : Int) - 1000)) := by
    rw [rep_any, show ((L : Nat) : Int).toNat = L by omega]
    unfold vI
    rw [List.map_replicate]
  rw [er]
  have sx := (s1.trans s2).trans (s3.x (d := d) (c := c))
  have d3 := d2.same s3
  have ff := d3.fresh hf
  have d4 := d3.new (o := .lst (vI (List.replicate L ((q : Int) - 1000)))) hf
  have sx4 := sx.trans (SameX.new (d := d) (c := c) (o := .lst (vI (List.replicate L ((q : Int) - 1000)))) hf)
  have hpb : ∀ i ∈ List.replicate L ((q : Int) - 1000), i.natAbs ≤ 1000 := fun i hi => by
    rw [(List.mem_replicate.mp hi).2]
    omega
  have hpl : (List.replicate L ((q : Int) - 1000)).length = L := List.length_replicate
  generalize List.replicate L ((q : Int) - 1000) = ps at *
  refine ⟨_, rfl, rfl, _, rfl, ?_⟩
  by_cases h4 : r = 4
  · subst h4
    refine ift (by simp) ?_
    refine ⟨_, rfl, _, rfl, d, c, L, rfl, d4, by omega, by omega, ?_⟩
    rintro v H5 s5 d5 ⟨at_, rfl, hat⟩
    have hf5 := s5 _ _ ff.1 ff.2 (upd_same (H := upd H2 l0 (.lst [V.int ((q : Int) - 1000)])) (a := f) (o := .lst (vI ps)))
    have hal : at_ ≤ (vI ps).length := by rw [vI_len]; omega
    have hal1 : at_ + 1 ≤ (vI ps).length := by rw [vI_len]; omega
    refine ⟨_, rfl, _, rfl, _, rfl, f, _, rfl, SqL.of hf5, fun p1 hp1 => ?_⟩
    rw [cut_take _ hal]
    have s6 := Same.new (o := .lst ((vI ps).take at_)) hp1
    have d6 := d5.same s6
    have f1 := d5.fresh hp1
    refine pr_item (ps := ps) d6 (s6 _ _ hf5) ff.1 ff.2 (by omega) hpb ?_
    intro y H7 s7 d7 hy
    refine ⟨by show 1 ≤ sizeLine; decide, fun p2 hp2 => ?_⟩
    have s8 := Same.new (o := .lst [V.int y]) hp2
    have hp17 := s7 _ _ f1.1 f1.2 (upd_same (H := H5) (a := p1) (o := .lst ((vI ps).take at_)))
    have hf7 := s7 _ _ ff.1 ff.2 (s6 _ _ hf5)
    refine ⟨p1, p2, _, _, rfl, rfl, s8 _ _ hp17, upd_same, sz0 (by rw [List.length_take]; simp; omega), fun p3 hp3 => ?_⟩
    have s9 := Same.new (o := .lst ((vI ps).take at_ ++ [V.int y])) hp3
    have s89 := s8.trans s9
    refine ⟨_, rfl, _, rfl, _, _, rfl, rfl, _, rfl, f, _, rfl, SqL.of (s89 _ _ hf7), fun p4 hp4 => ?_⟩
    rw [show ((at_ : Int) + 1) = ((at_ + 1 : Nat) : Int) by omega, cut_drop _ hal1]
    have s10 := Same.new (o := .lst ((vI ps).drop (at_ + 1))) hp4
    refine ⟨p3, p4, _, _, rfl, rfl, s10 _ _ upd_same, upd_same, sz0 (by rw [List.length_append, List.length_take, List.length_drop, vI_len]; simp; omega), fun p5 hp5 => ?_⟩
    have s8t := (s89.trans s10)
    have d8 := d7.same s8t
    have sall : SameX d c H (upd _ p5 (.lst ((vI ps).take at_ ++ [V.int y] ++ (vI ps).drop (at_ + 1)))) := ((((sx4.trans s5).trans (s6.x (d := d) (c := c))).trans s7).trans (s8t.x (d := d) (c := c))).trans (SameX.new hp5)
    refine ⟨_, rfl, k _ _ sall (d8.new hp5) ⟨ps.take at_ ++ [y] ++ ps.drop (at_ + 1), LsX.new d8 hp5 ?_, ?_, fun i hi => ?_⟩⟩
    · rw [upd_same, vI_append, vI_snoc, (vI_cut ps at_).1, (vI_cut ps (at_ + 1)).2]
    · simp
      omega
    · rcases List.mem_append.mp hi with hi | hi
      · rcases List.mem_append.mp hi with hi | hi
        · exact hpb i (List.mem_of_mem_take hi)
        · rw [List.mem_singleton.mp hi]
          exact hy
      · exact hpb i (List.mem_of_mem_drop hi)
  · refine iff' (by simp; omega) ?_
    exact ⟨_, rfl, k _ _ sx4 d4 ⟨ps, ⟨f, rfl, upd_same, ff⟩, hpl, hpb⟩⟩
theorem pure_law_world {K : PySem.W.Frag} (vs : List V) (H : Hp) (Q : VK) (E : XK) (h : sp_law_world K vs H Q E) : t_law_world K { nx := fun _ H' => Q .non H', rt := Q } (start n_law_world vs) H := by
  obtain ⟨d, c, rfl, dl, k⟩ := h
  refine ⟨_, rfl, by show 4 ≤ sizeLine; decide, fun l hl => ?_⟩
  have fl := dl.fresh hl
  refine ⟨d, c, l, _, rfl, dl.new hl, upd_same, fl.1, fl.2, by simp, by decide, ?_⟩
  rintro v H1 s1 d1 hv
  have s01 := (SameX.new (d := d) (c := c) (o := .lst [V.int 2, V.int 2, V.int 2, V.int 3]) hl).trans s1
  obtain ⟨kk, most, rfl, hkm, e2⟩ : ∃ kk most : Nat, v = .int (kk : Int) ∧ KM kk most ∧ (kk = 2 ∨ kk = 3) := by
    have h : v = .int 2 ∨ v = .int 3 := by simpa using hv
    rcases h with rfl | rfl
    · exact ⟨2, 4, rfl, .inl ⟨rfl, rfl⟩, .inl rfl⟩
    · exact ⟨3, 3, rfl, .inr ⟨rfl, rfl⟩, .inr rfl⟩
  refine ⟨_, rfl, d, c, 6, rfl, d1, by decide, by decide, ?_⟩
  rintro v H2 s2 d2 ⟨r, rfl, hr⟩
  have s02 := s01.trans s2
  refine ⟨_, _, rfl, ?_⟩
  have rest : ∀ (o : Option V), o = some (.int (most : Int)) → (tSeq (tIfS (tTest (tOp rLtI (tVar 3) (tC (.int 4)))) (tSeq (tAsg (tCall (sp_law_table K) [] E0 (tCons (tVar 0) (tCons (tVar 2) (tCons (tVar 4) tNil)))) (gTup K 2 (gCons (gName 5) (gCons (gName 6) gNil))))
  (tSeq (tIfS (tAnd (tTest (tOp rEq (tVar 3) (tC (.int 3)))) (tTest (tOp rGtI (tVar 5) (tC (.int 1))))) (tRet (tTup (tCons (tVar 2) (tCons (tVar 5) (tCons (tCall (sp_law_spoilt K) [] E0 (tCons (tVar 0) (tCons (tVar 5) (tCons (tVar 6) tNil)))) (tCons (tC (.bl false)) tNil)))))) tNext)
  (tRet (tTup (tCons (tVar 2) (tCons (tVar 5) (tCons (tVar 6) (tCons (tC (.bl true)) tNil)))))))) tNext)
  (tSeq (tAsg (tOp rAddI (tC (.int 1)) (tCall (sp_law_any K) [] E0 (tCons (tVar 0) (tCons (tVar 4) tNil)))) (gName 5))
  (tRet (tTup (tCons (tVar 2) (tCons (tVar 5) (tCons (tCall (sp_law_random K) [] E0 (tCons (tVar 0) (tCons (tVar 2) (tCons (tVar 5) tNil)))) (tCons (tC (.bl false)) tNil)))))))) { nx := fun _ H' => Q .non H', rt := Q } [some (.ref d), some (.int 4), some (.int (kk : Int)), some (.int (r : Int)), o, none, none] H2 := by
    rintro o rfl
    refine ⟨_, rfl, _, _, rfl, rfl, _, rfl, ?_⟩
    have mk : ∀ (L : Nat) (res : List Nat) (rr : Addr) (b : Bool) (H3 : Hp), SameX d c H H3 → DealAt H3 d c → H3 rr = some (.lst (vN res)) → rr ≠ d → rr ≠ c → Wd.Ok ⟨kk, L, res⟩ →
        ([V.int (kk : Int), V.int (L : Int), V.ref rr, V.bl b].length ≤ sizeLine ∧ ∀ p, H3 p = none → Q (.ref p) (upd H3 p (.tup [V.int (kk : Int), V.int (L : Int), V.ref rr, V.bl b]))) := by
      intro L res rr b H3 s3 d3 hr3 r1 r2 ok
      refine ⟨by show 4 ≤ sizeLine; decide, fun p hp => k _ _ (s3.trans (SameX.new hp)) (d3.new hp) ⟨⟨kk, L, res⟩, ok, rr, b, ⟨p, rfl, SqT.of upd_same⟩, ?_, r1, r2⟩⟩
      rw [upd_ne (ne_of_none hr3 hp)]
      exact hr3
    by_cases h4 : (r : Int) < 4
    · refine ift (decide_eq_true h4) ?_
      refine ⟨_, rfl, _, rfl, _, rfl, d, c, kk, most, rfl, d2, hkm, ?_⟩
      rintro v H3 s3 d3 ⟨rr, L, res, ⟨pt, rfl, hpt⟩, hrr, r1, r2, ok⟩
      have s03 := s02.trans s3
      refine ⟨pt, _, rfl, hpt, rfl, _, _, rfl, _, _, rfl, rfl, ?_⟩
      have fin : (tRet (tTup (tCons (tVar 2) (tCons (tVar 5) (tCons (tVar 6) (tCons (tC (.bl true)) tNil)))))) { nx := fun _ H' => Q .non H', rt := Q } [some (.ref d), some (.int 4), some (.int (kk : Int)), some (.int (r : Int)), some (.int (most : Int)), some (.int (L : Int)), some (.ref rr)] H3 :=
        ⟨_, rfl, _, rfl, _, rfl, mk L res rr true H3 s03 d3 hrr r1 r2 ok⟩
      refine ⟨_, rfl, rfl, _, rfl, ?_⟩
      by_cases h3 : r = 3
      · subst h3
        refine ift (by simp) ?_
        refine ⟨_, rfl, _, _, rfl, rfl, _, rfl, ?_⟩
        by_cases hL : (1 : Int) < (L : Int)
        · refine ift (decide_eq_true hL) ?_
          refine ⟨_, rfl, _, rfl, _, rfl, _, rfl, _, rfl, d, c, rr, ⟨kk, L, res⟩, rfl, d3, hrr, r1, r2, ok, by show 2 ≤ L; omega, ?_⟩
          rintro v H4 s4 d4 ⟨rr2, res2, rfl, hrr2, q1, q2, ok2⟩
          exact mk L res2 rr2 false H4 (s03.trans s4) d4 hrr2 q1 q2 ok2
        · refine iff' (decide_eq_false hL) ?_
          exact fin
      · refine iff' (by simp; omega) ?_
        exact fin
    · refine iff' (decide_eq_false h4) ?_
      have hm : 0 < most ∧ most ≤ 5000 := by rcases hkm with ⟨_, rfl⟩ | ⟨_, rfl⟩ <;> decide
      refine ⟨_, rfl, _, rfl, d, c, most, rfl, d2, hm.1, hm.2, ?_⟩
      rintro v H3 s3 d3 ⟨q, rfl, hq⟩
      have s03 := s02.trans s3
      refine ⟨_, _, rfl, rfl, ?_⟩
      have e1 : (1 : Int) + (q : Int) = ((1 + q : Nat) : Int) := by omega
      refine ⟨_, rfl, _, rfl, _, rfl, _, rfl, _, rfl, d, c, kk, most, 1 + q, by rw [← e1]; rfl, d3, hkm, by omega, by omega, ?_⟩
      rintro v H4 s4 d4 ⟨rr2, res2, rfl, hrr2, q1, q2, ok2⟩
      have := mk (1 + q) res2 rr2 false H4 (s03.trans s4) d4 hrr2 q1 q2 ok2
      rw [← e1] at this
      exact this
  refine ⟨_, rfl, rfl, _, rfl, ?_⟩
  rcases hkm with ⟨rfl, rfl⟩ | ⟨rfl, rfl⟩
  · refine ift rfl ?_
    exact ⟨_, rfl, rest _ rfl⟩
  · refine iff' rfl ?_
    exact ⟨_, rfl, _, _, rfl, rfl, rest _ rfl⟩
end Mix
namespace Mix
open PySem PySem.Spec PyProof.Rows L2
theorem prices_ok {W : Wd} {p : List Int} (h1 : p.length = W.L) (h2 : ∀ i ∈ p, i.natAbs ≤ 1000) : PricesOk W p := by
  refine ⟨h1, fun l => ?_⟩
  unfold pAt
  rw [List.getD_eq_getElem?_getD]
  by_cases c : l < p.length
  · rw [List.getElem?_eq_getElem c]
    exact h2 _ (List.getElem_mem _)
  · rw [List.getElem?_eq_none (by omega)]
    decide
theorem pure_law {K : PySem.W.Frag} (vs : List V) (H : Hp) (Q : VK) (E : XK) (h : sp_law K vs H Q E) : t_law K { nx := fun _ H' => Q .non H', rt := Q } (start n_law vs) H := by
  obtain ⟨a, ns, rfl, ha, hl, k⟩ := h
  refine ⟨_, rfl, _, rfl, a, vI ns, rfl, ha, fun p hp => ?_⟩
  have s1 := Same.new (o := .lst (cutV (vI ns) none (some 1))) hp
  refine ⟨p, _, rfl, .inl (SqL.of upd_same), _, _, rfl, rfl, ?_⟩
  have hcl : (cutV (vI ns) none (some 1)).length ≤ 1 := by
    unfold cutV
    rw [List.length_take]
    have : HT.sIx (vI ns).length (vI ns).length (some 1) ≤ 1 := by
      rw [show (some (1 : Int)) = some ((1 : Nat) : Int) from rfl, HT.sIx_nat]
      exact Nat.min_le_left _ _
    omega
  generalize (cutV (vI ns) none (some 1)).length = m at hcl
  refine ⟨_, rfl, by omega, by omega, ?_⟩
  refine for_range (lo := 0) (n := ((1 : Int) + (m : Int)).toNat) (fun i σ H' => Same H H' ∧ ∃ (o1 o2 o3 o4 o5 : Option V), σ = [some (.ref a), o1, o2, o3, o4, o5]) ⟨s1, _, _, _, _, _, rfl⟩ ?_ ?_
  · rintro i σ H1 hi ⟨s1, o1, o2, o3, o4, o5, rfl⟩
    refine ⟨_, rfl, _, rfl, _, _, rfl, rfl, a, ns, _, rfl, s1.seq ha, hl, by omega, by omega, ?_⟩
    rintro v H2 s2 ⟨d, c, rfl, hd0, hc0, dl⟩
    refine ⟨_, rfl, d, c, rfl, dl, ?_⟩
    rintro wv H3 s3 d3 ⟨W, ok, hw⟩
    obtain ⟨r, b, ⟨pw, rfl, hpw⟩, hr, r1, r2⟩ := id hw
    refine ⟨_, rfl, pw, _, 0, _, rfl, rfl, hpw, rfl, _, rfl, pw, _, 1, _, rfl, rfl, hpw, rfl, _, rfl, _, rfl, pw, _, 2, _, rfl, rfl, hpw, rfl, d, c, .ref r, _, rfl, d3, ⟨r, rfl, hr, r1, r2⟩, ?_⟩
    rintro sv H4 s4 d4 hsv
    refine fun x dx hx hdx hne => ?_
    have u1 := Same.new (o := .own x) hdx
    have hx' : (upd H4 dx (.own x)) x = none := by rw [upd_ne (Ne.symm hne)]; exact hx
    have u2 := Same.new (o := .ins (tabC K) dx []) hx'
    have u12 := u1.trans u2
    refine ⟨x, dx, W, sv, rfl, upd_same, ok, hsv.mono u12, fun H5 e5 tab => ⟨rfl, ?_⟩⟩
    have s5 : Same H4 H5 := fun a o h => e5 a o (ne_of_none h hx) (u12 a o h)
    have d5 := d4.same s5
    have s35 : SameX d c H3 H5 := s4.trans (s5.x)
    have hpw5 := s35.tup d3 hpw
    refine ⟨_, rfl, _, rfl, pw, _, 1, _, rfl, rfl, hpw5, rfl, d, c, W.L, rfl, d5, ok.pos, ok.l4, ?_⟩
    rintro pv H6 s6 d6 ⟨ps, hps, hpl, hpb⟩
    have s36 := s35.trans s6
    refine ⟨_, _, rfl, ?_⟩
    have hw6 := hw.x d3 s36
    have tab6 := s6.tab d5 tab
    refine ⟨_, rfl, _, rfl, _, rfl, _, rfl, d, c, x, .ref pw, pv, W, ps, rfl, d6, hw6, ok, tab6, hps, prices_ok hpl hpb, ?_⟩
    rintro v H7 s7 d7 rfl
    refine ⟨_, rfl, iff' rfl ?_⟩
    obtain ⟨pa, rfl, hpa, q1, q2⟩ := hps.x s7
    refine ⟨_, rfl, _, rfl, _, rfl, _, rfl, pa, vI ps, rfl, SqL.of hpa, fun q hq => ?_⟩
    have d8 := d7.new (o := .lst (vI ps).reverse) hq
    have s8 : SameX d c H7 (upd H7 q (.lst (vI ps).reverse)) := SameX.new hq
    have hrv : (vI ps).reverse = vI ps.reverse := by
      unfold vI
      rw [List.map_reverse]
    refine ⟨d, c, x, .ref pw, .ref q, W, ps.reverse, rfl, d8, hw6.x d6 (s7.trans s8), ok, (s7.trans s8).tab d6 tab6, LsX.new d7 hq (by rw [upd_same, hrv]), prices_ok (by simpa using hpl) (fun i hi => hpb i (List.mem_reverse.mp hi)), ?_⟩
    rintro v H9 s9 d9 rfl
    refine ⟨_, rfl, iff' rfl ?_⟩
    have stot : SameX d c H2 H9 := (((s3.trans s36).trans s7).trans s8).trans s9
    have hsame : Same H1 H9 := fun b o h => stot b o (ne_of_none h hd0) (ne_of_none h hc0) (s2 b o h)
    exact ⟨s1.trans hsame, _, _, _, _, _, rfl⟩
  · rintro σ H1 ⟨s1, o1, o2, o3, o4, o5, rfl⟩
    exact k _ _ s1 rfl
end Mix
set_option maxHeartbeats 4000000
namespace L2
open PySem PySem.Spec PyProof.Rows
/-- what the clause 'except x as n' wishes of an exception that it names for certain -/
def wAs1 (K : PySem.W.Frag) (c : Value) (i : Nat) (ts : Addr → Value → Option Addr → TS) (D : Ends) : WX := fun cls d σ H =>
  PySem.W.exmOne K cls c = some true ∧ ∀ a, H a = none → ts a cls d { nx := fun σ' H' => D.nx (σ'.set i none) H', rt := D.rt, bk := fun σ' H' => D.bk (σ'.set i none) H', ct := fun σ' H' => D.ct (σ'.set i none) H' } (σ.set i (some (.ref a))) H
section
variable {X : Cx} {x n : Str} {c : Value} {i : Nat} {body suite : List Stmt} {b₀ : Stmt} {np pos pos' : Pos} {tb : WX → TS} {ts : Addr → Value → Option Addr → TS} {hds : List ExceptHandler}
/-- an exception that has landed stands beside every frame: a suite may be entered with it -/
theorem enter_suite {pins : List (Addr × Obj)} {σ : St} {H : Hp} {s : Shared} {B : Heap} {a : Addr} {cls : Value} {d : Option Addr} (I : Inv X pins σ H s) (hf : X.env.frame = some X.env.locals) (fl : HandSPX.FlyingZ B (X.env :: X.outer) a (Zc cls d) s.heap) (na : H a = none) :
    ∃ oe, Zc cls d oe ∧ (∃ vs, oe.data = .fields vs) ∧ s.heap.get? a = some oe ∧ Inv (X.suite a ((a, oe) :: (X.pn ++ pins))) [] σ H s := by
  obtain ⟨oe, vs, there, hz, hv⟩ := fl.there
  have beside : a ∉ X.env.locals :: X.fs := fun h => by
    have inFrames : a ∈ frs (X.env :: X.outer) := by
      unfold frs
      rw [List.filterMap_cons, hf]
      exact h
    obtain ⟨_, o, eo, plain⟩ := fl.2.2.1.mem inFrames
    rw [there] at eo
    exact plain vs (Option.some.inj eo ▸ hv)
  exact ⟨oe, hz, ⟨vs, hv⟩, there, I.suite there hv na (fun e => beside (e ▸ .head _)) fun h => beside (.tail _ h)⟩
/-- try: .. except x as n: .. and more clauses, where an exception is one of x for certain; x a name of the module -/
theorem ps_try_as1 (hs : X.stack = X.env :: X.outer) (hf : X.env.frame = some X.env.locals) (hN : X.N.Nodup) (hi : X.N[i]? = some n) (hln : X.env.kindOf n = some .local) (hg : Gl X x) (hx : X.mg x = some c) (hd : (x == ("__debug__" : Str)) = false)
    (hb : ∀ (W : WX) (pn : List (Addr × Obj)) (xe : Value → Shared → Prop), Takes (X.tr pn xe) W → PSs (X.tr pn xe) body (tb W))
    (hsu : ∀ (a : Addr) (oe : Obj) (cls : Value) (d : Option Addr) (pn : List (Addr × Obj)), Zc cls d oe → (∃ vs, oe.data = .fields vs) → PSs (X.suite a ((a, oe) :: pn)) (b₀ :: suite) (ts a cls d)) :
    PS X (.Try body (.ExceptHandler (some (.Name x np)) (some n) (b₀ :: suite) pos' :: hds) [] [] pos) (fun D σ H => tb (wAs1 X.K c i ts D) D σ H) := by
  refine ⟨fun pins s σ H D I h => wpAny_Try_except (wpAny_mono ((hb (wAs1 X.K c i ts D) (X.pn ++ pins) _ ?caught).run [] s σ H D (I.toTry _) h) ?through fun _ _ k => k)⟩
  case through =>
    intro f s1 q
    cases f with
    | next =>
      obtain ⟨σ1, H1, I1, q1⟩ := q
      exact wpAny_execs_nil ⟨σ1, H1, I1.ofTry I.ok, q1⟩
    | ret u =>
      obtain ⟨v, σ1, H1, I1, r1, q1⟩ := q
      exact ⟨v, σ1, H1, I1.ofTry I.ok, r1, q1⟩
    | brk =>
      obtain ⟨σ1, H1, I1, q1⟩ := q
      exact ⟨σ1, H1, I1.ofTry I.ok, q1⟩
    | cont =>
      obtain ⟨σ1, H1, I1, q1⟩ := q
      exact ⟨σ1, H1, I1.ofTry I.ok, q1⟩
  case caught =>
    rintro u s1 ⟨a, B, s0, pins1, σ1, H1, cls, d, rfl, I0, nb, up, sky, na, os, ag, hit, go⟩
    have I1 := I0.ofTry I.ok
    refine Sky.land Zc.steady (by rw [I.ok.frames, hs]) hf (by rw [← hs]; exact sky) fun h3 fl3 up3 => ?_
    have I3 : Inv X pins σ1 H1 { s1 with heap := h3 } := I1.landed nb fl3.1 (up.trans up3) os ag
    obtain ⟨oe, hz, _, at3, S3⟩ := enter_suite I3 hf fl3 na
    refine wpAny_handleBy_cons (codeAny_handlers_test (ld_glob (X := X.suite a ((a, oe) :: (X.pn ++ pins))) S3 hg hx ?_ hd)) (fun q => by cases q)
    refine (PySem.W.exm_one (M := model X.prog X.w) I3.kIn (fun _ _ _ _ k q => wpAny_typeOf_ref (k _ _ at3) (by rw [hz.1]; exact q)) hit).here ?_
    refine codeAny_handlers_suite_as (HandSPX.lands_againZ fl3 fun h4 fl4 up4 => ?_)
    have I4 : Inv X pins σ1 H1 { s1 with heap := h4 } := I1.landed nb fl4.1 ((up.trans up3).trans up4) os ag
    obtain ⟨oe4, hz4, hv4, _, S4⟩ := enter_suite I4 hf fl4 na
    refine store_ok (X := X.suite a ((a, oe4) :: (X.pn ++ pins))) (v := .ref a) S4 hN hi (.inl hln) rfl (fun s5 S5 => wpAny_mono ((hsu a oe4 cls d (X.pn ++ pins) hz4 hv4).run [] s5 _ H1 _ S5 (go a na)) (fun f s6 q => ?_) fun _ _ k => k.elim) (.inr hln)
    cases f with
    | ret u =>
      obtain ⟨v, σ6, H6, S6, r6, q6⟩ := q
      exact gone_ok (S6.unsuite I.ok) hN hi hln fun s7 I7 => ⟨v, _, _, I7, r6, q6⟩
    | next =>
      obtain ⟨σ6, H6, S6, q6⟩ := q
      exact gone_ok (S6.unsuite I.ok) hN hi hln fun s7 I7 => ⟨_, _, I7, q6⟩
    | brk =>
      obtain ⟨σ6, H6, S6, q6⟩ := q
      exact gone_ok (S6.unsuite I.ok) hN hi hln fun s7 I7 => ⟨_, _, I7, q6⟩
    | cont =>
      obtain ⟨σ6, H6, S6, q6⟩ := q
      exact gone_ok (S6.unsuite I.ok) hN hi hln fun s7 I7 => ⟨_, _, I7, q6⟩
end
end L2
namespace Mix
open PySem PySem.Spec PyProof.Rows L2
/-- a def that may raise -/
structure CalX (P : Program) (w : World) (K : PySem.W.Frag) (mg : Str → Option Value) (base : Heap) (k : Nat) (x : Str) (sp : Sp) : Prop where
  ex : ∃ (f : Addr) (fd : FuncData) (ps : List Str), FnOk P w K mg base (L2.CX P w) k f fd ps sp ∧ mg x = some (.ref f) ∧ PySem.W.keepIn K (.ref f) = true ∧ Binds K fd ps []
/-! ### law_told -/
abbrev n_law_told : List Str := ["_law_table_here", "_law_prices_here", "_law_label_here", "e"]
abbrev p_law_told : List Str := ["_law_table_here", "_law_prices_here", "_law_label_here"]
theorem sc_law_told : FnScope n_law_told p_law_told (defScope s_law_told) := ⟨rfl, rfl, rfl, by decide +kernel, rfl, by decide +kernel, by decide +kernel⟩
def t_told_suite (K : PySem.W.Frag) : Addr → Value → Option Addr → TS := fun a cls d => tRet (tLst (tCons (tXf a cls d (refC K) "at" (tVar 3)) tNil))
def t_law_told (K : PySem.W.Frag) : TS := fun D σ H => tRet (tCallS (sp_cheapest_recipe K) (WE (wAs1 K (.ref (refC K)) 3 (t_told_suite K) D)) (tCons (tVar 0) (tCons (tVar 1) (tCons (tVar 2) tNil)))) D σ H
theorem dv_law_told {P : Program} {w : World} {K : PySem.W.Frag} {mg : Str → Option Value} {base : Heap} {fI cc cda : Addr} (R : PySem.RefX.RefTxt P K mg (refC K) fI cc cda) (ch : CalX P w K mg base 7 "cheapest_recipe" (sp_cheapest_recipe K)) (f : Addr) (cdv : Value) (A : Around) (outer : List Env) (s : Shared) (H : Hp) (E : XK) (hr : Room 7 (A.deeper (envOfC "_law_told" (defScope s_law_told) s.heap.objs.size f cdv))) :
    PSs (cxOf CX0 P w K mg base n_law_told "_law_told" (defScope s_law_told) f cdv A outer s H E).nox (defBody s_law_told) (t_law_told K) := by
  obtain ⟨fc, fdc, psc, F, hm, kp, b⟩ := ch.ex
  exact pss_one (ps_try_as1 (i := 3) (tb := fun W => tRet (tCallS (sp_cheapest_recipe K) (WE W) (tCons (tVar 0) (tCons (tVar 1) (tCons (tVar 2) tNil))))) (ts := t_told_suite K) rfl rfl sc_law_told.nd rfl rfl rfl R.gC (by decide)
    (fun W pn xe tk => pss_one (ps_ret (by exact (pe_callS F hr rfl hm kp b (fun σ => passAt tk σ) (by exact (pa_cons (pv 0) (pa_cons (pv 1) (pa_cons (pv 2) pa_nil))))))))
    (fun a oe cls d pn hz hf => pss_one (ps_ret (by exact (pe_lst (pa_cons (pe_xf ⟨R.ga, R.gg, R.exC, R.hdC⟩ R.noN hz hf (pv 3)) pa_nil))))))
theorem pure_law_told {K : PySem.W.Frag} (te : PySem.W.exmOne K (.ref (refC K)) (.ref (refC K)) = some true) (vs : List V) (H : Hp) (Q : VK) (E : XK) (h : sp_law_told K vs H Q E) : t_law_told K { nx := fun _ H' => Q .non H', rt := Q } (start n_law_told vs) H := by
  obtain ⟨t, W, pv, p, l, x, ws, rfl, ht, ok, hs, hp, hl, ic, k⟩ := h
  refine ⟨_, rfl, _, rfl, _, rfl, t, W, pv, p, l, x, ws, rfl, ht, ok, hs, hp, hl, ic, fun hex v H' s hrec => k v H' s (.inl ⟨hex, hrec⟩), fun hno d H' s hd he => ?_⟩
  refine ⟨te, fun a ha => ?_⟩
  refine ⟨_, rfl, rfl, rfl, d, _, .int 0, rfl, he, rfl, by show 1 ≤ sizeLine; decide, fun q hq => ?_⟩
  exact k _ _ (s.trans (Same.new hq)) (.inr ⟨hno, q, rfl, SqL.of upd_same⟩)
end Mix
set_option maxHeartbeats 2000000
namespace Mix
open PySem PySem.Spec PyProof.Rows L2
theorem eraseIdx_perm {α : Type} : ∀ {xs : List α} {i : Nat} {y : α}, xs[i]? = some y → (y :: xs.eraseIdx i).Perm xs
  | [], i, y, h => by simp at h
  | x :: r, 0, y, h => by
    have : x = y := by simpa using h
    subst this
    exact List.Perm.refl _
  | x :: r, i + 1, y, h => by
    have h1 : r[i]? = some y := by simpa using h
    exact (List.Perm.swap _ _ _).trans ((eraseIdx_perm h1).cons x)
theorem seqIndex_nat {n j : Nat} (h : j < n) : seqIndex? (j : Int) n = some j := (ixN_seq (ixN_of h)).1
/-- a list of pairs reads -/
theorem pairs_read {K : PySem.W.Frag} {H : Hp} {xs : List V} {nm : List (Nat × Nat)} (a : All2 (PairV K H) xs nm) {ys : List V} (h : ∀ y ∈ ys, y ∈ xs) : ∃ qs, All2 (PairV K H) ys qs := by
  induction ys with
  | nil => exact ⟨[], All2.nil⟩
  | cons y r ih =>
    obtain ⟨qs, hq⟩ := ih fun z hz => h z (List.mem_cons_of_mem _ hz)
    obtain ⟨i, hi⟩ := List.mem_iff_getElem?.mp (h y (List.mem_cons_self))
    obtain ⟨q, _, r1⟩ := a.get hi
    refine ⟨q :: qs, by simp [hq.len], fun j u v p p' => ?_⟩
    cases j with
    | zero =>
      have e1 : y = u := by simpa using p
      have e2 : q = v := by simpa using p'
      rw [← e1, ← e2]
      exact r1
    | succ j => exact hq.at_ j u v (by simpa using p) (by simpa using p')
theorem pure_law_mixed {K : PySem.W.Frag} (vs : List V) (H : Hp) (Q : VK) (E : XK) (h : sp_law_mixed K vs H Q E) : t_law_mixed K { nx := fun _ H' => Q .non H', rt := Q } (start n_law_mixed vs) H := by
  obtain ⟨d, c, lv, xs, nm, rfl, dl, ⟨a, rfl, ha, a1, a2⟩, hx, hl, k⟩ := h
  have hxl : xs.length ≤ 4 := by rw [hx.len]; exact hl
  refine ⟨_, rfl, a, xs, rfl, .inl (SqL.of ha), fun l hl0 => ⟨by show 0 ≤ sizeLine; decide, fun f hf => ?_⟩⟩
  have fl := dl.fresh hl0
  have s1 := Same.new (o := .lst xs) hl0
  have dl1 := dl.same s1
  have ff := dl1.fresh hf
  have s2 := s1.trans (Same.new (o := .lst []) hf)
  have nlf : l ≠ f := ne_of_none upd_same hf
  have hf0 : H f = none := by
    rw [upd_ne (Ne.symm nlf)] at hf
    exact hf
  refine ⟨_, _, rfl, ?_⟩
  refine ⟨fun m σ H' => ∃ ls fs : List V, m = ls.length ∧ σ = [some (.ref d), some (.ref a), some (.ref l), some (.ref f)] ∧ SameX d c H H' ∧ DealAt H' d c ∧ H' l = some (.lst ls) ∧ H' f = some (.lst fs) ∧ (ls ++ fs).Perm xs,
    ⟨_, xs, [], rfl, rfl, s2.x, dl.same s2, (Same.new (o := .lst []) hf) _ _ upd_same, upd_same, by simp⟩, ?_⟩
  rintro m σ H1 ⟨ls, fs, rfl, rfl, sx, d1, hls, hfs, hp⟩
  have hlen := hp.length_eq
  rw [List.length_append] at hlen
  obtain ⟨qs, hq⟩ := pairs_read (ys := ls) ⟨hx.len, fun i x y p q => (hx.at_ i x y p q).x dl sx⟩ (fun y hy => hp.mem_iff.mp (List.mem_append_left _ hy))
  refine ⟨_, rfl, by show 0 ≤ sizeLine; decide, fun p hp0 => ?_⟩
  have s3 := Same.new (o := .lst []) hp0
  refine ⟨.list (qs.map pD), .list [], .lst (SqL.of (s3 _ _ hls)) (dp_pairs ⟨hq.len, fun i x y p q => (hq.at_ i x y p q).same s3⟩), .lst (SqL.of upd_same) .nil, pDs_shaped qs, shaped_nil, _, rfl, ?_⟩
  rw [eqv_list, eqvAll_nil]
  have d3 := d1.same s3
  by_cases hn : ls = []
  · subst hn
    have : qs = [] := List.length_eq_zero_iff.mp (by rw [← hq.len]; rfl)
    subst this
    refine iff' (by simp) ?_
    refine ⟨_, rfl, k _ _ (sx.trans (s3.x (d := d) (c := c))) d3 ⟨fs, ⟨f, rfl, s3 _ _ hfs, ff⟩, by simpa using hp⟩⟩
  · have hpos : 0 < ls.length := List.length_pos_iff.mpr hn
    have hqn : qs ≠ [] := by
      intro e
      have := hq.len
      rw [e] at this
      simp at this
      exact hn this
    refine ift (by simp [hqn]) ?_
    refine ⟨_, fun _ _ z => z, ?_⟩
    refine ⟨_, rfl, tyL (SqL.of (s3 _ _ hfs)), _, rfl, tyL (SqL.of (s3 _ _ hls)), _, rfl, _, rfl, l, ls, rfl, .inl (SqL.of (s3 _ _ hls)), d, c, ls.length, rfl, d3, hpos, by omega, ?_⟩
    rintro v H2 s4 d4 ⟨r, rfl, hr⟩
    have hls2 := s4 _ _ fl.1 fl.2 (s3 _ _ hls)
    have hfs2 := s4 _ _ ff.1 ff.2 (s3 _ _ hfs)
    refine ⟨l, ls, _, r, ls[r], rfl, rfl, hls2, by omega, by omega, seqIndex_nat hr, List.getElem?_eq_getElem hr, ?_⟩
    have hfs3 : upd H2 l (.lst (ls.eraseIdx r)) f = some (.lst fs) := by
      rw [upd_ne (Ne.symm nlf)]
      exact hfs2
    refine ⟨f, fs, _, rfl, rfl, hfs3, sz1 (by omega), ?_⟩
    have sl := ((sx.trans (s3.x (d := d) (c := c))).trans s4)
    have hd : DealAt (upd (upd H2 l (.lst (ls.eraseIdx r))) f (.lst (fs ++ [ls[r]]))) d c := by
      obtain ⟨ns, b, h1, h2, h3⟩ := d4
      refine ⟨ns, b, ?_, ?_, h3⟩
      · rw [upd_ne (Ne.symm ff.1), upd_ne (Ne.symm fl.1)]
        exact h1
      · rw [upd_ne (Ne.symm ff.2), upd_ne (Ne.symm fl.2)]
        exact h2
    refine ⟨(ls.eraseIdx r).length, by rw [List.length_eraseIdx_of_lt hr]; omega, ls.eraseIdx r, fs ++ [ls[r]], rfl, rfl, ((sl.mut hl0).mut hf0), hd, ?_, upd_same, ?_⟩
    · rw [upd_ne nlf, upd_same]
    · have e1 := eraseIdx_perm (List.getElem?_eq_getElem hr)
      have e2 : (ls.eraseIdx r ++ (fs ++ [ls[r]])).Perm (ls[r] :: ls.eraseIdx r ++ fs) := by
        rw [← List.append_assoc]
        exact (List.perm_append_comm).trans (List.Perm.refl _)
      exact e2.trans ((e1.append_right fs).trans hp)
theorem pure_law_inverse {K : PySem.W.Frag} (vs : List V) (H : Hp) (Q : VK) (E : XK) (h : sp_law_inverse K vs H Q E) : t_law_inverse K { nx := fun _ H' => Q .non H', rt := Q } (start n_law_inverse vs) H := by
  obtain ⟨k, m, rfl, hk, h1, h7, hg, q⟩ := h
  refine ⟨_, rfl, _, rfl, by omega, by omega, ?_⟩
  refine lc_flat walk_range (fun i => if ((i : Int) * (k : Int) - 1) % (m : Int) = 0 then some (.int (i : Int)) else none) (by show m ≤ 10000; omega) (fun _ _ => trivial) ?_ ?_
  · rintro i y H1 H2 Kp Ks hi s1 ⟨rfl, rfl⟩ kp ks
    refine ⟨rfl, ?_⟩
    refine ⟨_, rfl, _, rfl, _, _, rfl, rfl, cmul (n := 10) (m := 10) (by show Int.natAbs _ < 1024; omega) (by show Int.natAbs _ < 1024; omega) (by decide), _, _, rfl, rfl, .inl ⟨_, rfl, _, rfl, _, _, rfl, rfl, by omega, rfl, _, rfl, ?_⟩⟩
    have e : (0 : Int) + (i : Int) = (i : Int) := by omega
    rw [e]
    by_cases hc : ((i : Int) * (k : Int) - 1) % (m : Int) = 0
    · refine ift (by simp [hc]) ?_
      exact ⟨_, rfl, kp _ _ (Same.refl _) (by rw [if_pos hc]; show _ = some (V.int (0 + (i : Int))); rw [e])⟩
    · refine iff' (by simp [hc]) ?_
      exact ks _ (Same.refl _) (by rw [if_neg hc])
  · intro D H1 hD s1 e1
    have hex : ((List.range m).filterMap fun (i : Nat) => if ((i : Int) * (k : Int) - 1) % (m : Int) = 0 then some (V.int (i : Int)) else none)[0]? = some (.int (invN k m : Int)) := by
      have dec : ∀ k ∈ [2, 3], ∀ m ∈ [1, 2, 3, 4, 5, 6, 7], Nat.gcd m k = 1 → ((List.range m).filterMap fun (i : Nat) => if ((i : Int) * (k : Int) - 1) % (m : Int) = 0 then some (i : Nat) else none)[0]? = some (invN k m) := by decide
      have hh := dec k (by rcases hk with h | h <;> simp [h]) m (by simp; omega) hg
      have e2 : ((List.range m).filterMap fun (i : Nat) => if ((i : Int) * (k : Int) - 1) % (m : Int) = 0 then some (V.int (i : Int)) else none) = ((List.range m).filterMap fun (i : Nat) => if ((i : Int) * (k : Int) - 1) % (m : Int) = 0 then some (i : Nat) else none).map fun (i : Nat) => V.int (i : Int) := by
        rw [List.map_filterMap]
        congr 1
        funext i
        by_cases hc : ((i : Int) * (k : Int) - 1) % (m : Int) = 0
        · rw [if_pos hc, if_pos hc]; rfl
        · rw [if_neg hc, if_neg hc]; rfl
      rw [e2, List.getElem?_map, hh]
      rfl
    refine ⟨D, _, 0, _, rfl, rfl, SqL.of e1, atI_nat (j := 0) hex, q _ _ s1 rfl⟩
theorem pure_law_joint {K : PySem.W.Frag} (vs : List V) (H : Hp) (Q : VK) (E : XK) (h : sp_law_joint K vs H Q E) : t_law_joint K { nx := fun _ H' => Q .non H', rt := Q } (start n_law_joint vs) H := by
  obtain ⟨a, b, up, ws, rfl, ha, hb, hu, hne, hw, k⟩ := h
  obtain ⟨w0, rs, rfl⟩ := List.exists_cons_of_ne_nil hne
  refine ⟨_, rfl, b, _, 0, .int (w0 : Int), rfl, rfl, hb, atI_nat (j := 0) rfl, _, rfl, b, rfl, ⟨_, hb⟩, ?_⟩
  refine for_list (xs := vN (w0 :: rs)) (fun i σ H' => H' = H ∧ ∃ (g : Nat) (o : Option V), σ = [some (.ref a), some (.ref b), some (.int (g : Int)), o] ∧ g < up.length ∧ ∀ w ∈ (w0 :: rs).take i, Anc up w g) ⟨rfl, w0, none, rfl, hw w0 (by simp), by simp⟩ (fun i σ H' _ p => by rw [p.1]; exact hb) ?_ ?_
  · rintro i x σ H' hx ⟨rfl, g, o, rfl, hg, hA⟩
    obtain ⟨w, hwi, rfl⟩ := vN_get' hx
    have hwl := hw w (List.mem_of_getElem? hwi)
    refine ⟨fun m σ H1 => H1 = H' ∧ ∃ (g1 w1 : Nat), m = g1 + w1 ∧ σ = [some (.ref a), some (.ref b), some (.int (g1 : Int)), some (.int (w1 : Int))] ∧ g1 < up.length ∧ w1 < up.length ∧ Anc up g g1 ∧ Anc up w w1, ⟨_, rfl, g, w, rfl, rfl, hg, hwl, .refl _, .refl _⟩, ?_⟩
    rintro m σ H1 ⟨rfl, g1, w1, rfl, rfl, l1, l2, A1, A2⟩
    have upS : ∀ {x y : Nat}, Anc up x y → ∀ {u : Nat}, up[y]? = some u → Anc up x u := by
      intro x y h
      induction h with
      | refl x => intro u hu; exact .step hu (.refl _)
      | step e _ ih => intro u hu; exact .step e (ih hu)
    have tr : ∀ {x y z : Nat}, Anc up x y → Anc up y z → Anc up x z := by
      intro x y z h
      induction h with
      | refl x => exact fun h => h
      | step e _ ih => exact fun h => .step e (ih h)
    refine ⟨_, rfl, _, rfl, rfl, _, rfl, ?_⟩
    by_cases he : g1 = w1
    · subst he
      refine iff' (by simp) ⟨rfl, g1, _, rfl, l1, fun v hv => ?_⟩
      rw [take_more hwi] at hv
      rcases List.mem_append.mp hv with hv | hv
      · exact tr (hA v hv) A1
      · rw [List.mem_singleton.mp hv]
        exact A2
    · refine ift (by simp; omega) ?_
      refine ⟨_, fun _ _ z => z, ?_⟩
      refine ⟨_, rfl, _, rfl, _, _, rfl, rfl, _, rfl, ?_⟩
      by_cases hlt : w1 < g1
      · refine ift (by simp; omega) ?_
        have hgu : up[g1]? = some up[g1] := List.getElem?_eq_getElem l1
        have hgl := hu _ _ hgu
        refine ⟨_, rfl, _, rfl, a, _, _, .int ((up[g1] : Nat) : Int), rfl, rfl, ha, atI_nat (vN_get hgu), up[g1] + w1, by omega, rfl, up[g1], w1, rfl, rfl, by omega, l2, upS A1 hgu, A2⟩
      · refine iff' (by simp; omega) ?_
        have hgu : up[w1]? = some up[w1] := List.getElem?_eq_getElem l2
        have hgl := hu _ _ hgu
        refine ⟨_, rfl, _, rfl, a, _, _, .int ((up[w1] : Nat) : Int), rfl, rfl, ha, atI_nat (vN_get hgu), g1 + up[w1], by omega, rfl, g1, up[w1], rfl, rfl, l1, by omega, A1, upS A2 hgu⟩
  · rintro σ H' ⟨rfl, g, o, rfl, hg, hA⟩
    refine ⟨_, rfl, k _ _ (Same.refl _) ⟨g, rfl, hg, fun w hw => hA w ?_⟩⟩
    rw [vN_len, List.take_length]
    exact hw
theorem pure_law_risen {K : PySem.W.Frag} (vs : List V) (H : Hp) (Q : VK) (E : XK) (h : sp_law_risen K vs H Q E) : t_law_risen K { nx := fun _ H' => Q .non H', rt := Q } (start n_law_risen vs) H := by
  obtain ⟨fv, nv, F, k, most, w, i, g, s, rfl, ⟨a, b, m, n, ms, ns, ⟨pf, rfl, hpf⟩, ha, hb, hm, hms, hn, hns⟩, ok, ⟨pn, rfl, hpn⟩, hs, hi, hA, q⟩ := h
  have hszl : ∀ {w s : Nat}, F.sz[w]? = some s → s ≤ 4 := fun h => (ok.szok _ (List.mem_of_getElem? h)).2.1
  refine ⟨_, rfl, pn, _, rfl, hpn, rfl, _, _, rfl, _, _, rfl, rfl, ?_⟩
  refine ⟨fun mm σ H1 => H1 = H ∧ ∃ (w1 i1 : Nat) (o1 o2 : Option V), mm = w1 + 1 ∧ σ = [some (.ref pf), some (.ref pn), some (.int (g : Int)), some (.int (w1 : Int)), some (.int (i1 : Int)), o1, o2] ∧ i1 ≤ 4 ∧ w1 < F.sz.length ∧ Anc F.up w1 g,
    ⟨_, rfl, w, i, none, none, rfl, rfl, by have := hszl hs; omega, (List.getElem?_eq_some_iff.mp hs).1, hA⟩, ?_⟩
  rintro mm σ H1 ⟨rfl, w1, i1, o1, o2, rfl, rfl, hi1, hw1, A1⟩
  refine ⟨_, rfl, _, rfl, rfl, _, rfl, ?_⟩
  by_cases he : w1 = g
  · refine iff' (by simp [he]) ?_
    exact ⟨_, rfl, q _ _ (Same.refl _) ⟨i1, rfl, hi1⟩⟩
  · refine ift (by simp; omega) ?_
    refine ⟨_, fun _ _ z => z, ?_⟩
    cases A1 with
    | refl => exact absurd rfl he
    | step e A2 =>
      rename_i u
      have hul := ok.upok _ _ e
      have hw0 : 0 < w1 := by
        rcases Nat.eq_zero_or_pos w1 with z | z
        · subst z
          exfalso
          have hu0 : u = 0 := by omega
          subst hu0
          have : ∀ {x y : Nat}, Anc F.up x y → x = 0 → y = 0 := by
            intro x y h
            induction h with
            | refl => exact fun h => h
            | step e' _ ih =>
              intro hx
              subst hx
              rw [e] at e'
              exact ih (Option.some.inj e').symm
          exact he (this A2 rfl).symm
        · exact z
      obtain ⟨q1, hq1⟩ : ∃ q1, F.mp[w1]? = some q1 := ⟨F.mp[w1]'(by rw [ok.lm]; exact hw1), List.getElem?_eq_getElem _⟩
      obtain ⟨mv, hmv, ⟨pm, rfl, hpm⟩⟩ := hms.get' hq1
      have hb1 := ok.mpok _ (List.mem_of_getElem? hq1)
      have hu1 : u < F.sz.length := by omega
      obtain ⟨s1, hs1⟩ : ∃ s1, F.sz[u]? = some s1 := ⟨_, List.getElem?_eq_getElem hu1⟩
      have hs1p := ok.szok _ (List.mem_of_getElem? hs1)
      refine ⟨_, rfl, pf, _, 2, .ref m, rfl, rfl, hpf, rfl, _, rfl, m, _, _, _, rfl, rfl, hm, atI_nat hmv, pm, _, rfl, hpm, rfl, _, _, rfl, _, _, rfl, rfl, ?_⟩
      refine ⟨_, rfl, pf, _, 1, .ref b, rfl, rfl, hpf, rfl, _, rfl, b, _, _, .int (u : Int), rfl, rfl, hb, atI_nat (vN_get e), _, rfl, ?_⟩
      have hmu : CMulW (q1.1 : Int) (i1 : Int) := cmul (n := 10) (m := 10) (by show Int.natAbs _ < 1024; omega) (by show Int.natAbs _ < 1024; omega) (by decide)
      obtain ⟨r, hr, hr2⟩ := modN ((q1.1 : Int) * (i1 : Int) + (q1.2 : Int)) hs1p.1
      refine ⟨_, rfl, _, _, rfl, rfl, hmu, _, rfl, _, _, rfl, rfl, .inl ⟨_, rfl, _, rfl, pf, _, 0, .ref a, rfl, rfl, hpf, rfl, _, rfl, a, _, _, .int (s1 : Int), rfl, rfl, ha, atI_nat (vN_get hs1), _, _, rfl, rfl, by omega, u + 1, by omega, rfl, u, r, some (.int (q1.1 : Int)), some (.int (q1.2 : Int)), rfl, ?_, by omega, hu1, A2⟩⟩
      show [_, _, _, _, some (V.int (((q1.1 : Int) * (i1 : Int) + (q1.2 : Int)) % (s1 : Int))), _, _] = _
      rw [hr]
end Mix
set_option maxHeartbeats 1000000
namespace Mix
open PySem PySem.Spec PyProof.Rows L2
/-! ### law_form -/
abbrev n_law_form : List Str := ["_law_deal", "_law_k", "_law_most", "_law_odd", "_law_sizes", "_law_uppers", "_law_maps", "_law_turn", "_law_some", "_law_size", "_law_upper", "_law_step", "_law_names", "_law_wheel", "_law_d", "_law_one"]
abbrev p_law_form : List Str := ["_law_deal", "_law_k", "_law_most"]
theorem sc_law_form : FnScope n_law_form p_law_form (defScope s_law_form) := ⟨rfl, rfl, rfl, by decide +kernel, rfl, by decide +kernel, by decide +kernel⟩
def t_law_form (K : PySem.W.Frag) : TS := (tSeq (tAsg (tLc (iRng2 (tCons (tC (.int 1)) (tCons (tOp rAddI (tVar 2) (tC (.int 1))) tNil))) (gName 14) (tTest (tOp rEq (tCall (sp_law_divisor K) [] E0 (tCons (tVar 14) (tCons (tVar 1) tNil))) (tC (.int 1)))) (tVar 14) [14]) (gName 3))
  (tSeq (tAsg (tTup (tCons (tLst (tCons (tCall (sp_law_of K) [] E0 (tCons (tVar 0) (tCons (tVar 3) tNil))) tNil)) (tCons (tLst (tCons (tC (.int 0)) tNil)) (tCons (tLst (tCons (tTup (tCons (tC (.int 1)) (tCons (tC (.int 0)) tNil))) tNil)) tNil)))) (gTup K 3 (gCons (gName 4) (gCons (gName 5) (gCons (gName 6) gNil)))))
  (tSeq (tFor (iRng1 (tCons (tCall (sp_law_any K) [] E0 (tCons (tVar 0) (tCons (tVar 2) tNil))) tNil)) (gName 7)
    (tSeq (tAsg (tLc (iList K (tVar 3)) (gName 14) (tTest (tOp rLeI (tVar 14) (tOp rSubI (tVar 2) (tCB (rSum K) (tCons (tVar 4) tNil))))) (tVar 14) [14]) (gName 8))
  (tIfS (tTest (tOp (rNeD K) (tVar 8) (tLst tNil))) (tSeq (tPar 9 10 (tCons (tCall (sp_law_of K) [] E0 (tCons (tVar 0) (tCons (tOp rCat (tSl (rSlL K) (tVar 8) tNoPart (tPart (tC (.int 1)))) (tVar 8)) tNil))) (tCons (tCall (sp_law_any K) [] E0 (tCons (tVar 0) (tCons (tCB (rLen K) (tCons (tVar 4) tNil)) tNil))) tNil)))
  (tSeq (tAsg (tOp rDivI (tOp (rIxL K) (tVar 4) (tVar 10)) (tCall (sp_law_divisor K) [] E0 (tCons (tOp (rIxL K) (tVar 4) (tVar 10)) (tCons (tVar 9) tNil)))) (gName 11))
  (tSeq (tAsg (tTup (tCons (tOp rCat (tVar 4) (tLst (tCons (tVar 9) tNil))) (tCons (tOp rCat (tVar 5) (tLst (tCons (tVar 10) tNil))) tNil))) (gTup K 2 (gCons (gName 4) (gCons (gName 5) gNil))))
  (tAsg (tOp rCat (tVar 6) (tLst (tCons (tTup (tCons (tOp rModI (tCB rInt1 (tCons (tOp rMulI (tVar 11) (tCall (sp_law_any K) [] E0 (tCons (tVar 0) (tCons (tC (.int 8)) tNil)))) tNil)) (tOp (rIxL K) (tVar 4) (tVar 10))) (tCons (tCall (sp_law_any K) [] E0 (tCons (tVar 0) (tCons (tOp (rIxL K) (tVar 4) (tVar 10)) tNil))) tNil))) tNil))) (gName 6))))) tNext)))
  (tSeq (tAsg (tLst tNil) (gName 12))
  (tSeq (tFor (iEnum K (tCons (tVar 4) tNil)) (gTup K 2 (gCons (gName 13) (gCons (gName 9) gNil)))
    (tAsg (tOp rCat (tVar 12) (tLc (iRng1 (tCons (tVar 9) tNil)) (gName 15) tYes (tTup (tCons (tVar 13) (tCons (tVar 15) tNil))) [15])) (gName 12)))
  (tRet (tTup (tCons (tVar 4) (tCons (tVar 5) (tCons (tVar 6) (tCons (tCall (sp_law_mixed K) [] E0 (tCons (tVar 0) (tCons (tVar 12) tNil))) tNil)))))))))))
theorem dv_law_form {P : Program} {w : World} {K : PySem.W.Frag} {mg : Str → Option Value} {base : Heap} (T : Txt K mg) (claw_divisor : Cal P w K mg base 1 "_law_divisor" (sp_law_divisor K)) (claw_of : Cal P w K mg base 2 "_law_of" (sp_law_of K)) (claw_any : Cal P w K mg base 1 "_law_any" (sp_law_any K)) (claw_mixed : Cal P w K mg base 2 "_law_mixed" (sp_law_mixed K)) (f : Addr) (cdv : Value) (A : Around) (outer : List Env) (s : Shared) (H : Hp) (E : XK) (hr : Room 2 (A.deeper (envOfC "_law_form" (defScope s_law_form) s.heap.objs.size f cdv))) :
    PSs (cxOf CX0 P w K mg base n_law_form "_law_form" (defScope s_law_form) f cdv A outer s H E).nox (defBody s_law_form) (t_law_form K) := by
  unfold t_law_form
  exact (pss_cons (ps_setLc (i := 3) (own := [("_law_d", 14)]) (g := (gName 14)) (tt := (tTest (tOp rEq (tCall (sp_law_divisor K) [] E0 (tCons (tVar 14) (tCons (tVar 1) tNil))) (tC (.int 1))))) (te := (tVar 14)) rfl sc_law_form.nd rfl rfl (sw_true rfl rfl rfl (by decide +kernel)) (pi_range2 rfl T.brange (pa_cons pe_int (pa_cons (pe_op op_add (pv 2) pe_int) pa_nil))) (blkOk_by (by kernel_rfl)) (fun _ _ _ _ _ => (pg_name (i := 14) sc_law_form.nd rfl (Or.inl rfl))) (fun _ _ _ _ _ => (pts_one (pt_cmpR op_eq (pe_c claw_divisor hr (by decide) rfl (pa_cons (pv 14) (pa_cons (pv 1) pa_nil))) pe_int (nomark _)))) (fun _ _ _ _ _ => (pv 14)))
  (pss_cons (ps_asg (pe_tup (pa_cons (pe_lst (pa_cons (pe_c claw_of hr (by decide) rfl (pa_cons (pv 0) (pa_cons (pv 3) pa_nil))) pa_nil)) (pa_cons (pe_lst (pa_cons pe_int pa_nil)) (pa_cons (pe_lst (pa_cons (pe_tup (pa_cons pe_int (pa_cons pe_int pa_nil))) pa_nil)) pa_nil)))) (pg_tup rfl (pgs_cons (pg_name (i := 4) sc_law_form.nd rfl (Or.inr rfl)) (pgs_cons (pg_name (i := 5) sc_law_form.nd rfl (Or.inl rfl)) (pgs_cons (pg_name (i := 6) sc_law_form.nd rfl (Or.inl rfl)) pgs_nil)))))
  (pss_cons (ps_for PassesOwn.never rfl (pi_range1 rfl T.brange (pa_cons (pe_c claw_any hr (by decide) rfl (pa_cons (pv 0) (pa_cons (pv 2) pa_nil))) pa_nil)) (pg_name (i := 7) sc_law_form.nd rfl (Or.inl rfl))
    (pss_cons (ps_setLc (i := 8) (own := [("_law_d", 14)]) (g := (gName 14)) (tt := (tTest (tOp rLeI (tVar 14) (tOp rSubI (tVar 2) (tCB (rSum K) (tCons (tVar 4) tNil)))))) (te := (tVar 14)) rfl sc_law_form.nd rfl rfl (sw_true rfl rfl rfl (by decide +kernel)) (pi_list (pv 3)) (blkOk_by (by kernel_rfl)) (fun _ _ _ _ _ => (pg_name (i := 14) sc_law_form.nd rfl (Or.inl rfl))) (fun _ _ _ _ _ => (pts_one (pt_cmpR op_le (pv 14) (pe_op op_sub (pv 2) (pe_callB (cr_sum rfl) rfl T.bsum boot_sum (pa_cons (pv 4) pa_nil))) (nomark _)))) (fun _ _ _ _ _ => (pv 14)))
  (pss_one (ps_if (pt_cmpR (op_neD hr.units) (pv 8) (pe_lst pa_nil) (nomark _)) (pss_cons (ps_par (i := 9) (j := 10) rfl sc_law_form.nd rfl rfl (by decide) rfl rfl (pa_cons (pe_c claw_of hr (by decide) rfl (pa_cons (pv 0) (pa_cons (pe_op op_cat (pe_slice sl_list (pv 8) po_none (po_some pe_int)) (pv 8)) pa_nil))) (pa_cons (pe_c claw_any hr (by decide) rfl (pa_cons (pv 0) (pa_cons (pe_callB call_len_seq rfl T.blen boot_len (pa_cons (pv 4) pa_nil)) pa_nil))) pa_nil)) (by rfl))
  (pss_cons (ps_set (i := 11) sc_law_form.nd rfl (Or.inl rfl) (pe_op op_fdivW (pe_ix ix_list (pv 4) (pv 10) (fun _ _ => rfl)) (pe_c claw_divisor hr (by decide) rfl (pa_cons (pe_ix ix_list (pv 4) (pv 10) (fun _ _ => rfl)) (pa_cons (pv 9) pa_nil)))))
  (pss_cons (ps_asg (pe_tup (pa_cons (pe_op op_cat (pv 4) (pe_lst (pa_cons (pv 9) pa_nil))) (pa_cons (pe_op op_cat (pv 5) (pe_lst (pa_cons (pv 10) pa_nil))) pa_nil))) (pg_tup rfl (pgs_cons (pg_name (i := 4) sc_law_form.nd rfl (Or.inr rfl)) (pgs_cons (pg_name (i := 5) sc_law_form.nd rfl (Or.inl rfl)) pgs_nil))))
  (pss_one (ps_set (i := 6) sc_law_form.nd rfl (Or.inl rfl) (pe_op op_cat (pv 6) (pe_lst (pa_cons (pe_tup (pa_cons (pe_op op_mod (pe_callTy call_int1 rfl T.bint boot_int (pa_cons (pe_op op_mulW (pv 11) (pe_c claw_any hr (by decide) rfl (pa_cons (pv 0) (pa_cons pe_int pa_nil)))) pa_nil)) (pe_ix ix_list (pv 4) (pv 10) (fun _ _ => rfl))) (pa_cons (pe_c claw_any hr (by decide) rfl (pa_cons (pv 0) (pa_cons (pe_ix ix_list (pv 4) (pv 10) (fun _ _ => rfl)) pa_nil))) pa_nil))) pa_nil)))))))) pss_nil))))
  (pss_cons (ps_set (i := 12) sc_law_form.nd rfl (Or.inl rfl) (pe_lst pa_nil))
  (pss_cons (ps_for PassesOwn.never rfl (pi_enum rfl T.benumerate (pa_cons (pv 4) pa_nil)) (pg_tup rfl (pgs_cons (pg_name (i := 13) sc_law_form.nd rfl (Or.inr rfl)) (pgs_cons (pg_name (i := 9) sc_law_form.nd rfl (Or.inl rfl)) pgs_nil)))
    (pss_one (ps_set (i := 12) sc_law_form.nd rfl (Or.inl rfl) (pe_op op_cat (pv 12) (pe_lc (own := [("_law_one", 15)]) (g := (gName 15)) (tt := tYes) (te := (tTup (tCons (tVar 13) (tCons (tVar 15) tNil)))) rfl sc_law_form.nd (pi_range1 rfl T.brange (pa_cons (pv 9) pa_nil)) (blkOk_by (by kernel_rfl)) (fun _ _ _ _ _ => (pg_name (i := 15) sc_law_form.nd rfl (Or.inl rfl))) (fun _ _ _ _ _ => pts_nil) (fun _ _ _ _ _ => (pe_tup (pa_cons (pv 13) (pa_cons (pv 15) pa_nil)))))))))
  (pss_one (ps_ret (pe_tup (pa_cons (pv 4) (pa_cons (pv 5) (pa_cons (pv 6) (pa_cons (pe_c claw_mixed hr (by decide) rfl (pa_cons (pv 0) (pa_cons (pv 12) pa_nil))) pa_nil))))))))))))

/-! ### law_results -/
abbrev n_law_results : List Str := ["_law_k", "_law_form_here", "_law_sizes", "_law_uppers", "_law_maps", "_law_names", "_law_steps", "_law_found", "_law_row", "_law_goal", "_law_whole", "_law_size", "_law_label_here"]
abbrev p_law_results : List Str := ["_law_k", "_law_form_here"]
theorem sc_law_results : FnScope n_law_results p_law_results (defScope s_law_results) := ⟨rfl, rfl, rfl, by decide +kernel, rfl, by decide +kernel, by decide +kernel⟩
def t_law_results (K : PySem.W.Frag) : TS := (tSeq (tAsg (tVar 1) (gTup K 4 (gCons (gName 2) (gCons (gName 3) (gCons (gName 4) (gCons (gName 5) gNil))))))
  (tSeq (tPar 6 7 (tCons (tLc (iList K (tVar 2)) (gName 11) tYes (tCall (sp_law_inverse K) [] E0 (tCons (tVar 0) (tCons (tVar 11) tNil))) [11]) (tCons (tLst tNil) tNil)))
  (tSeq (tFor (iList K (tCall (sp_law_tuples K) [] E0 (tCons (tVar 0) (tCons (tCB (rLen K) (tCons (tVar 5) tNil)) tNil)))) (gName 8)
    (tSeq (tAsg (tCall (sp_law_joint K) [] E0 (tCons (tVar 3) (tCons (tLc (iList K (tVar 8)) (gName 12) tYes (tOp (rIxT K) (tOp (rIxL K) (tVar 5) (tVar 12)) (tC (.int 0))) [12]) tNil))) (gName 9))
  (tSeq (tAsg (tCB (rSum K) (tCons (tLc (iList K (tVar 8)) (gName 12) tYes (tCall (sp_law_risen K) [] E0 (tCons (tVar 1) (tCons (tOp (rIxL K) (tVar 5) (tVar 12)) (tCons (tVar 9) tNil)))) [12]) tNil)) (gName 10))
  (tDrop (tBM K "list" rAppend (tVar 7) (tCons (tBM K "list" (rIndexD K) (tVar 5) (tCons (tTup (tCons (tVar 9) (tCons (tOp rModI (tCB rInt1 (tCons (tOp rMulI (tVar 10) (tOp (rIxL K) (tVar 6) (tVar 9))) tNil)) (tOp (rIxL K) (tVar 2) (tVar 9))) tNil))) tNil)) tNil))))))
  (tRet (tVar 7)))))
theorem dv_law_results {P : Program} {w : World} {K : PySem.W.Frag} {mg : Str → Option Value} {base : Heap} (T : Txt K mg) (claw_inverse : Cal P w K mg base 1 "_law_inverse" (sp_law_inverse K)) (claw_tuples : Cal P w K mg base 1 "_law_tuples" (sp_law_tuples K)) (claw_joint : Cal P w K mg base 1 "_law_joint" (sp_law_joint K)) (claw_risen : Cal P w K mg base 1 "_law_risen" (sp_law_risen K)) (f : Addr) (cdv : Value) (A : Around) (outer : List Env) (s : Shared) (H : Hp) (E : XK) (hr : Room 1 (A.deeper (envOfC "_law_results" (defScope s_law_results) s.heap.objs.size f cdv))) :
    PSs (cxOf CX0 P w K mg base n_law_results "_law_results" (defScope s_law_results) f cdv A outer s H E).nox (defBody s_law_results) (t_law_results K) := by
  unfold t_law_results
  exact (pss_cons (ps_asg (pv 1) (pg_tup rfl (pgs_cons (pg_name (i := 2) sc_law_results.nd rfl (Or.inl rfl)) (pgs_cons (pg_name (i := 3) sc_law_results.nd rfl (Or.inl rfl)) (pgs_cons (pg_name (i := 4) sc_law_results.nd rfl (Or.inl rfl)) (pgs_cons (pg_name (i := 5) sc_law_results.nd rfl (Or.inr rfl)) pgs_nil))))))
  (pss_cons (ps_par (i := 6) (j := 7) rfl sc_law_results.nd rfl rfl (by decide) rfl rfl (pa_cons (pe_lc (own := [("_law_size", 11)]) (g := (gName 11)) (tt := tYes) (te := (tCall (sp_law_inverse K) [] E0 (tCons (tVar 0) (tCons (tVar 11) tNil)))) rfl sc_law_results.nd (pi_list (pv 2)) (blkOk_by (by kernel_rfl)) (fun _ _ _ _ _ => (pg_name (i := 11) sc_law_results.nd rfl (Or.inl rfl))) (fun _ _ _ _ _ => pts_nil) (fun _ _ _ _ _ => (pe_c claw_inverse hr (by decide) rfl (pa_cons (pv 0) (pa_cons (pv 11) pa_nil))))) (pa_cons (pe_lst pa_nil) pa_nil)) (by rfl))
  (pss_cons (ps_for PassesOwn.never rfl (pi_list (pe_c claw_tuples hr (by decide) rfl (pa_cons (pv 0) (pa_cons (pe_callB call_len_seq rfl T.blen boot_len (pa_cons (pv 5) pa_nil)) pa_nil)))) (pg_name (i := 8) sc_law_results.nd rfl (Or.inl rfl))
    (pss_cons (ps_set (i := 9) sc_law_results.nd rfl (Or.inr rfl) (pe_c claw_joint hr (by decide) rfl (pa_cons (pv 3) (pa_cons (pe_lc (own := [("_law_label_here", 12)]) (g := (gName 12)) (tt := tYes) (te := (tOp (rIxT K) (tOp (rIxL K) (tVar 5) (tVar 12)) (tC (.int 0)))) rfl sc_law_results.nd (pi_list (pv 8)) (blkOk_by (by kernel_rfl)) (fun _ _ _ _ _ => (pg_name (i := 12) sc_law_results.nd rfl (Or.inl rfl))) (fun _ _ _ _ _ => pts_nil) (fun _ _ _ _ _ => (pe_ix ix_tup (pe_ix ix_list (pv 5) (pv 12) (fun _ _ => rfl)) pe_int (fun _ _ => rfl)))) pa_nil))))
  (pss_cons (ps_set (i := 10) sc_law_results.nd rfl (Or.inl rfl) (pe_callB (cr_sum rfl) rfl T.bsum boot_sum (pa_cons (pe_lc (own := [("_law_label_here", 12)]) (g := (gName 12)) (tt := tYes) (te := (tCall (sp_law_risen K) [] E0 (tCons (tVar 1) (tCons (tOp (rIxL K) (tVar 5) (tVar 12)) (tCons (tVar 9) tNil))))) rfl sc_law_results.nd (pi_list (pv 8)) (blkOk_by (by kernel_rfl)) (fun _ _ _ _ _ => (pg_name (i := 12) sc_law_results.nd rfl (Or.inl rfl))) (fun _ _ _ _ _ => pts_nil) (fun _ _ _ _ _ => (pe_c claw_risen hr (by decide) rfl (pa_cons (pv 1) (pa_cons (pe_ix ix_list (pv 5) (pv 12) (fun _ _ => rfl)) (pa_cons (pv 9) pa_nil)))))) pa_nil)))
  (pss_one (ps_expr (pe_bm PySem.F.plainAttrs_list PySem.F.slot_list_append PySem.F.type_list_append mt_append (pv 7) (pa_cons (pe_bm PySem.F.plainAttrs_list PySem.F.slot_list_index PySem.F.type_list_index (mt_indexD (hu65 hr)) (pv 5) (pa_cons (pe_tup (pa_cons (pv 9) (pa_cons (pe_op op_mod (pe_callTy call_int1 rfl T.bint boot_int (pa_cons (pe_op op_mulW (pv 10) (pe_ix ix_list (pv 6) (pv 9) (fun _ _ => rfl))) pa_nil)) (pe_ix ix_list (pv 2) (pv 9) (fun _ _ => rfl))) pa_nil))) pa_nil)) pa_nil)))))))
  (pss_one (ps_ret (pv 7))))))

/-! ### law_table -/
abbrev n_law_table : List Str := ["_law_deal", "_law_k", "_law_most", "_law_some", "_law_fit", "_law_m", "_law_d", "_law_table_here", "_law_form_here"]
abbrev p_law_table : List Str := ["_law_deal", "_law_k", "_law_most"]
theorem sc_law_table : FnScope n_law_table p_law_table (defScope s_law_table) := ⟨rfl, rfl, rfl, by decide +kernel, rfl, by decide +kernel, by decide +kernel⟩
def t_law_table (K : PySem.W.Frag) : TS := (tSeq (tIfS (tAnd (tTest (tOp rGtI (tVar 2) (tC (.int 2)))) (tTest (tOp rEq (tCall (sp_law_any K) [] E0 (tCons (tVar 0) (tCons (tC (.int 5)) tNil))) (tC (.int 0))))) (tSeq (tAsg (tLst (tCons (tTup (tCons (tC (.int 1)) (tCons (tC (.int 1)) tNil))) (tCons (tTup (tCons (tC (.int 2)) (tCons (tC (.int 1)) tNil))) (tCons (tTup (tCons (tC (.int 3)) (tCons (tC (.int 1)) tNil))) (tCons (tTup (tCons (tC (.int 1)) (tCons (tC (.int 3)) tNil))) (tCons (tTup (tCons (tC (.int 2)) (tCons (tC (.int 3)) tNil))) (tCons (tTup (tCons (tC (.int 2)) (tCons (tC (.int 5)) tNil))) (tCons (tTup (tCons (tC (.int 1)) (tCons (tC (.int 5)) tNil))) (tCons (tTup (tCons (tC (.int 1)) (tCons (tC (.int 7)) tNil))) (tCons (tTup (tCons (tC (.int 2)) (tCons (tC (.int 2)) tNil))) (tCons (tTup (tCons (tC (.int 1)) (tCons (tC (.int 2)) tNil))) (tCons (tTup (tCons (tC (.int 1)) (tCons (tC (.int 4)) tNil))) (tCons (tTup (tCons (tC (.int 2)) (tCons (tC (.int 4)) tNil))) tNil))))))))))))) (gName 3))
  (tSeq (tAsg (tLst tNil) (gName 4))
  (tSeq (tFor (iList K (tVar 3)) (gTup K 2 (gCons (gName 5) (gCons (gName 6) gNil)))
    (tIfS (tAnd (tTest (tOp rLeI (tOp rDivI (tOp rSubI (tCall (sp_law_power K) [] E0 (tCons (tOp rAddI (tVar 6) (tC (.int 1))) (tCons (tVar 5) tNil))) (tC (.int 1))) (tVar 6)) (tVar 2))) (tTest (tOp rEq (tCall (sp_law_divisor K) [] E0 (tCons (tVar 6) (tCons (tVar 1) tNil))) (tC (.int 1))))) (tDrop (tBM K "list" rAppend (tVar 4) (tCons (tTup (tCons (tVar 5) (tCons (tVar 6) tNil))) tNil))) tNext))
  (tSeq (tAsg (tCall (sp_law_of K) [] E0 (tCons (tVar 0) (tCons (tVar 4) tNil))) (gTup K 2 (gCons (gName 5) (gCons (gName 6) gNil))))
  (tSeq (tAsg (tCall (sp_law_standard K) [] E0 (tCons (tVar 1) (tCons (tVar 5) (tCons (tVar 6) tNil)))) (gName 7))
  (tRet (tTup (tCons (tOp (rIxT K) (tVar 7) (tC (.int 0))) (tCons (tOp (rIxT K) (tVar 7) (tC (.int 1))) tNil))))))))) tNext)
  (tSeq (tAsg (tCall (sp_law_form K) [] E0 (tCons (tVar 0) (tCons (tVar 1) (tCons (tVar 2) tNil)))) (gName 8))
  (tRet (tTup (tCons (tCB (rLen K) (tCons (tOp (rIxT K) (tVar 8) (tC (.int 3))) tNil)) (tCons (tCall (sp_law_results K) [] E0 (tCons (tVar 1) (tCons (tVar 8) tNil))) tNil))))))
theorem dv_law_table {P : Program} {w : World} {K : PySem.W.Frag} {mg : Str → Option Value} {base : Heap} (T : Txt K mg) (claw_any : Cal P w K mg base 1 "_law_any" (sp_law_any K)) (claw_power : Cal P w K mg base 1 "_law_power" (sp_law_power K)) (claw_divisor : Cal P w K mg base 1 "_law_divisor" (sp_law_divisor K)) (claw_of : Cal P w K mg base 2 "_law_of" (sp_law_of K)) (claw_standard : Cal P w K mg base 2 "_law_standard" (sp_law_standard K)) (claw_form : Cal P w K mg base 3 "_law_form" (sp_law_form K)) (claw_results : Cal P w K mg base 2 "_law_results" (sp_law_results K)) (f : Addr) (cdv : Value) (A : Around) (outer : List Env) (s : Shared) (H : Hp) (E : XK) (hr : Room 3 (A.deeper (envOfC "_law_table" (defScope s_law_table) s.heap.objs.size f cdv))) :
    PSs (cxOf CX0 P w K mg base n_law_table "_law_table" (defScope s_law_table) f cdv A outer s H E).nox (defBody s_law_table) (t_law_table K) := by
  unfold t_law_table
  exact (pss_cons (ps_if (PW.pt (pw_and (pt_cmpR op_gt (pv 2) pe_int (nomark _)) (pw_and1 (pt_cmpR op_eq (pe_c claw_any hr (by decide) rfl (pa_cons (pv 0) (pa_cons pe_int pa_nil))) pe_int (nomark _))))) (pss_cons (ps_set (i := 3) sc_law_table.nd rfl (Or.inl rfl) (pe_lst (pa_cons (pe_tup (pa_cons pe_int (pa_cons pe_int pa_nil))) (pa_cons (pe_tup (pa_cons pe_int (pa_cons pe_int pa_nil))) (pa_cons (pe_tup (pa_cons pe_int (pa_cons pe_int pa_nil))) (pa_cons (pe_tup (pa_cons pe_int (pa_cons pe_int pa_nil))) (pa_cons (pe_tup (pa_cons pe_int (pa_cons pe_int pa_nil))) (pa_cons (pe_tup (pa_cons pe_int (pa_cons pe_int pa_nil))) (pa_cons (pe_tup (pa_cons pe_int (pa_cons pe_int pa_nil))) (pa_cons (pe_tup (pa_cons pe_int (pa_cons pe_int pa_nil))) (pa_cons (pe_tup (pa_cons pe_int (pa_cons pe_int pa_nil))) (pa_cons (pe_tup (pa_cons pe_int (pa_cons pe_int pa_nil))) (pa_cons (pe_tup (pa_cons pe_int (pa_cons pe_int pa_nil))) (pa_cons (pe_tup (pa_cons pe_int (pa_cons pe_int pa_nil))) pa_nil))))))))))))))
  (pss_cons (ps_set (i := 4) sc_law_table.nd rfl (Or.inl rfl) (pe_lst pa_nil))
  (pss_cons (ps_for PassesOwn.never rfl (pi_list (pv 3)) (pg_tup rfl (pgs_cons (pg_name (i := 5) sc_law_table.nd rfl (Or.inl rfl)) (pgs_cons (pg_name (i := 6) sc_law_table.nd rfl (Or.inl rfl)) pgs_nil)))
    (pss_one (ps_if (PW.pt (pw_and (pt_cmpR op_le (pe_op op_fdivW (pe_op op_sub (pe_c claw_power hr (by decide) rfl (pa_cons (pe_op op_add (pv 6) pe_int) (pa_cons (pv 5) pa_nil))) pe_int) (pv 6)) (pv 2) (nomark _)) (pw_and1 (pt_cmpR op_eq (pe_c claw_divisor hr (by decide) rfl (pa_cons (pv 6) (pa_cons (pv 1) pa_nil))) pe_int (nomark _))))) (pss_one (ps_expr (pe_bm PySem.F.plainAttrs_list PySem.F.slot_list_append PySem.F.type_list_append mt_append (pv 4) (pa_cons (pe_tup (pa_cons (pv 5) (pa_cons (pv 6) pa_nil))) pa_nil)))) pss_nil)))
  (pss_cons (ps_asg (pe_c claw_of hr (by decide) rfl (pa_cons (pv 0) (pa_cons (pv 4) pa_nil))) (pg_tup rfl (pgs_cons (pg_name (i := 5) sc_law_table.nd rfl (Or.inl rfl)) (pgs_cons (pg_name (i := 6) sc_law_table.nd rfl (Or.inl rfl)) pgs_nil))))
  (pss_cons (ps_set (i := 7) sc_law_table.nd rfl (Or.inl rfl) (pe_c claw_standard hr (by decide) rfl (pa_cons (pv 1) (pa_cons (pv 5) (pa_cons (pv 6) pa_nil)))))
  (pss_one (ps_ret (pe_tup (pa_cons (pe_ix ix_tup (pv 7) pe_int (fun _ _ => rfl)) (pa_cons (pe_ix ix_tup (pv 7) pe_int (fun _ _ => rfl)) pa_nil)))))))))) pss_nil)
  (pss_cons (ps_set (i := 8) sc_law_table.nd rfl (Or.inl rfl) (pe_c claw_form hr (by decide) rfl (pa_cons (pv 0) (pa_cons (pv 1) (pa_cons (pv 2) pa_nil)))))
  (pss_one (ps_ret (pe_tup (pa_cons (pe_callB call_len_seq rfl T.blen boot_len (pa_cons (pe_ix ix_tup (pv 8) pe_int (fun _ _ => rfl)) pa_nil)) (pa_cons (pe_c claw_results hr (by decide) rfl (pa_cons (pv 1) (pa_cons (pv 8) pa_nil))) pa_nil)))))))

/-! ### law_spoilt -/
abbrev n_law_spoilt : List Str := ["_law_deal", "_law_labels", "_law_results_here", "_law_at"]
abbrev p_law_spoilt : List Str := ["_law_deal", "_law_labels", "_law_results_here"]
theorem sc_law_spoilt : FnScope n_law_spoilt p_law_spoilt (defScope s_law_spoilt) := ⟨rfl, rfl, rfl, by decide +kernel, rfl, by decide +kernel, by decide +kernel⟩
def t_law_spoilt (K : PySem.W.Frag) : TS := (tSeq (tAsg (tCall (sp_law_any K) [] E0 (tCons (tVar 0) (tCons (tCB (rLen K) (tCons (tVar 2) tNil)) tNil))) (gName 3))
  (tRet (tOp rCat (tOp rCat (tSl (rSlL K) (tVar 2) tNoPart (tPart (tVar 3))) (tLst (tCons (tOp rModI (tCB rInt1 (tCons (tOp rAddI (tOp rAddI (tOp (rIxL K) (tVar 2) (tVar 3)) (tC (.int 1))) (tCall (sp_law_any K) [] E0 (tCons (tVar 0) (tCons (tOp rSubI (tVar 1) (tC (.int 1))) tNil)))) tNil)) (tVar 1)) tNil))) (tSl (rSlL K) (tVar 2) (tPart (tOp rAddI (tVar 3) (tC (.int 1)))) tNoPart))))
theorem dv_law_spoilt {P : Program} {w : World} {K : PySem.W.Frag} {mg : Str → Option Value} {base : Heap} (T : Txt K mg) (claw_any : Cal P w K mg base 1 "_law_any" (sp_law_any K)) (f : Addr) (cdv : Value) (A : Around) (outer : List Env) (s : Shared) (H : Hp) (E : XK) (hr : Room 1 (A.deeper (envOfC "_law_spoilt" (defScope s_law_spoilt) s.heap.objs.size f cdv))) :
    PSs (cxOf CX0 P w K mg base n_law_spoilt "_law_spoilt" (defScope s_law_spoilt) f cdv A outer s H E).nox (defBody s_law_spoilt) (t_law_spoilt K) := by
  unfold t_law_spoilt
  exact (pss_cons (ps_set (i := 3) sc_law_spoilt.nd rfl (Or.inl rfl) (pe_c claw_any hr (by decide) rfl (pa_cons (pv 0) (pa_cons (pe_callB call_len_seq rfl T.blen boot_len (pa_cons (pv 2) pa_nil)) pa_nil))))
  (pss_one (ps_ret (pe_op op_cat (pe_op op_cat (pe_slice sl_list (pv 2) po_none (po_some (pv 3))) (pe_lst (pa_cons (pe_op op_mod (pe_callTy call_int1 rfl T.bint boot_int (pa_cons (pe_op op_add (pe_op op_add (pe_ix ix_list (pv 2) (pv 3) (fun _ _ => rfl)) pe_int) (pe_c claw_any hr (by decide) rfl (pa_cons (pv 0) (pa_cons (pe_op op_sub (pv 1) pe_int) pa_nil)))) pa_nil)) (pv 1)) pa_nil))) (pe_slice sl_list (pv 2) (po_some (pe_op op_add (pv 3) pe_int)) po_none)))))

/-! ### law_random -/
abbrev n_law_random : List Str := ["_law_deal", "_law_k", "_law_labels", "_law_keeps", "_law_even", "_law_found", "_law_seen", "_law_row", "_law_key"]
abbrev p_law_random : List Str := ["_law_deal", "_law_k", "_law_labels"]
theorem sc_law_random : FnScope n_law_random p_law_random (defScope s_law_random) := ⟨rfl, rfl, rfl, by decide +kernel, rfl, by decide +kernel, by decide +kernel⟩
def t_law_random (K : PySem.W.Frag) : TS := (tSeq (tAsg (tTup (tCons (tCall (sp_law_any K) [] E0 (tCons (tVar 0) (tCons (tC (.int 3)) tNil))) (tCons (tCall (sp_law_any K) [] E0 (tCons (tVar 0) (tCons (tC (.int 3)) tNil))) (tCons (tLst tNil) (tCons tDNewT tNil))))) (gTup K 4 (gCons (gName 3) (gCons (gName 4) (gCons (gName 5) (gCons (gName 6) gNil))))))
  (tSeq (tFor (iList K (tCall (sp_law_tuples K) [] E0 (tCons (tVar 1) (tCons (tVar 2) tNil)))) (gName 7)
    (tSeq (tAsg (tCB (rTupOf K) (tCons (tIf (tTest (tOp rEq (tVar 4) (tC (.int 0)))) (tCB (rSorted K) (tCons (tVar 7) tNil)) (tVar 7)) tNil)) (gName 8))
  (tSeq (tIfS (tB (tDNotIn (tVar 8) (tVar 6))) (sDPut (tVar 6) (tVar 8) (tIf (tAnd (tTest (tOp rGtI (tVar 3) (tC (.int 0)))) (tTest (tOp rEq (tCB (rMinT K) (tCons (tVar 8) tNil)) (tCB (rMinT K) (tCons (tVar 8) tNil))))) (tOp (rIxT K) (tVar 8) (tC (.int 0))) (tCall (sp_law_any K) [] E0 (tCons (tVar 0) (tCons (tVar 2) tNil))))) tNext)
  (tDrop (tBM K "list" rAppend (tVar 5) (tCons (tDGet (tVar 6) (tVar 8)) tNil))))))
  (tRet (tVar 5))))
theorem dv_law_random {P : Program} {w : World} {K : PySem.W.Frag} {mg : Str → Option Value} {base : Heap} (T : Txt K mg) (claw_any : Cal P w K mg base 1 "_law_any" (sp_law_any K)) (claw_tuples : Cal P w K mg base 1 "_law_tuples" (sp_law_tuples K)) (f : Addr) (cdv : Value) (A : Around) (outer : List Env) (s : Shared) (H : Hp) (E : XK) (hr : Room 1 (A.deeper (envOfC "_law_random" (defScope s_law_random) s.heap.objs.size f cdv))) :
    PSs (cxOf CX0 P w K mg base n_law_random "_law_random" (defScope s_law_random) f cdv A outer s H E).nox (defBody s_law_random) (t_law_random K) := by
  unfold t_law_random
  exact (pss_cons (ps_asg (pe_tup (pa_cons (pe_c claw_any hr (by decide) rfl (pa_cons (pv 0) (pa_cons pe_int pa_nil))) (pa_cons (pe_c claw_any hr (by decide) rfl (pa_cons (pv 0) (pa_cons pe_int pa_nil))) (pa_cons (pe_lst pa_nil) (pa_cons pe_dnewT pa_nil))))) (pg_tup rfl (pgs_cons (pg_name (i := 3) sc_law_random.nd rfl (Or.inl rfl)) (pgs_cons (pg_name (i := 4) sc_law_random.nd rfl (Or.inl rfl)) (pgs_cons (pg_name (i := 5) sc_law_random.nd rfl (Or.inl rfl)) (pgs_cons (pg_name (i := 6) sc_law_random.nd rfl (Or.inl rfl)) pgs_nil))))))
  (pss_cons (ps_for PassesOwn.never rfl (pi_list (pe_c claw_tuples hr (by decide) rfl (pa_cons (pv 1) (pa_cons (pv 2) pa_nil)))) (pg_name (i := 7) sc_law_random.nd rfl (Or.inl rfl))
    (pss_cons (ps_set (i := 8) sc_law_random.nd rfl (Or.inl rfl) (pe_callTy call_tuple_of rfl T.btuple boot_tuple (pa_cons (pe_ifExp (pt_cmpR op_eq (pv 4) pe_int (nomark _)) (pe_callB cr_sorted rfl T.bsorted boot_sorted (pa_cons (pv 7) pa_nil)) (pv 7)) pa_nil)))
  (pss_cons (ps_if (pt_cmp (pc_dnotin (hu_of hr) (pv 8) (pv 6))) (pss_one (ps_dput (hu_of hr) (pv 6) (pv 8) (pe_ifExp (PW.pt (pw_and (pt_cmpR op_gt (pv 3) pe_int (nomark _)) (pw_and1 (pt_cmpR op_eq (pe_callB (cr_minT rfl hr) rfl T.bmin boot_min (pa_cons (pv 8) pa_nil)) (pe_callB (cr_maxT rfl hr) rfl T.bmax boot_max (pa_cons (pv 8) pa_nil)) (nomark _))))) (pe_ix ix_tup (pv 8) pe_int (fun _ _ => rfl)) (pe_c claw_any hr (by decide) rfl (pa_cons (pv 0) (pa_cons (pv 2) pa_nil)))) rfl)) pss_nil)
  (pss_one (ps_expr (pe_bm PySem.F.plainAttrs_list PySem.F.slot_list_append PySem.F.type_list_append mt_append (pv 5) (pa_cons (pe_dget (hu_of hr) (pv 6) (pv 8) (fun _ _ => rfl)) pa_nil)))))))
  (pss_one (ps_ret (pv 5)))))

end Mix
set_option maxHeartbeats 2000000
namespace Mix
open PySem PySem.Spec PyProof.Rows L2
theorem vN_append (a b : List Nat) : vN (a ++ b) = vN a ++ vN b := by
  unfold vN
  rw [List.map_append]
theorem vN_cut (ps : List Nat) (j : Nat) : vN (ps.take j) = (vN ps).take j ∧ vN (ps.drop j) = (vN ps).drop j := by
  unfold vN
  exact ⟨List.map_take, List.map_drop⟩
theorem pure_law_spoilt {K : PySem.W.Frag} (vs : List V) (H : Hp) (Q : VK) (E : XK) (h : sp_law_spoilt K vs H Q E) : t_law_spoilt K { nx := fun _ H' => Q .non H', rt := Q } (start n_law_spoilt vs) H := by
  obtain ⟨d, c, r, W, rfl, dl, hr, r1, r2, ok, h2, k⟩ := h
  have k3 := ok.k3
  have l4 := ok.l4
  have hlen := ok.len
  have h64 : W.L ^ W.k ≤ 64 := pow_small l4 k3.2
  have hpos : 0 < W.L ^ W.k := Nat.pow_pos (by omega)
  refine ⟨_, rfl, _, rfl, r, _, rfl, .inl (SqL.of hr), d, c, (vN W.res).length, rfl, dl, by rw [vN_len]; omega, by rw [vN_len]; omega, ?_⟩
  rintro v H1 s1 d1 ⟨at_, rfl, hat⟩
  have hr1 := s1 _ _ r1 r2 hr
  have hat' : at_ < W.res.length := by rw [vN_len] at hat; exact hat
  refine ⟨_, rfl, _, rfl, _, rfl, r, _, rfl, SqL.of hr1, fun p1 hp1 => ?_⟩
  rw [cut_take _ (by omega)]
  have s2 := Same.new (o := .lst ((vN W.res).take at_)) hp1
  have f1 := d1.fresh hp1
  have d2 := d1.same s2
  have hx : W.res[at_] < W.L := ok.lt _ (List.getElem_mem hat')
  have hix : (vN W.res)[at_]? = some (.int (W.res[at_] : Int)) := vN_get (List.getElem?_eq_getElem hat')
  generalize W.res[at_] = x at hx hix
  refine ⟨_, rfl, _, rfl, r, _, _, _, rfl, rfl, SqL.of (s2 _ _ hr1), atI_nat hix, _, _, rfl, rfl, _, rfl, _, rfl, _, _, rfl, rfl, d, c, W.L - 1, ?_, d2, by omega, by omega, ?_⟩
  · show [_, V.int ((W.L : Int) - 1)] = _
    rw [show (W.L : Int) - 1 = ((W.L - 1 : Nat) : Int) by omega]
  rintro v H3 s3 d3 ⟨q, rfl, hq⟩
  obtain ⟨y, hy, hyl⟩ := modN ((x : Int) + 1 + (q : Int)) (b := W.L) (by omega)
  refine ⟨_, _, rfl, rfl, .inl ⟨_, rfl, _, rfl, _, _, rfl, rfl, by omega, ?_⟩⟩
  refine ⟨by show 1 ≤ sizeLine; decide, fun p2 hp2 => ?_⟩
  have s4 := Same.new (o := .lst [V.int (((x : Int) + 1 + (q : Int)) % (W.L : Int))]) hp2
  have hp13 := s3 _ _ f1.1 f1.2 (upd_same (H := H1) (a := p1) (o := .lst ((vN W.res).take at_)))
  have hr3 := s3 _ _ r1 r2 (s2 _ _ hr1)
  refine ⟨p1, p2, _, _, rfl, rfl, s4 _ _ hp13, upd_same, sz0 (by rw [List.length_take]; simp; omega), fun p3 hp3 => ?_⟩
  have s5 := Same.new (o := .lst ((vN W.res).take at_ ++ [V.int (((x : Int) + 1 + (q : Int)) % (W.L : Int))])) hp3
  have s45 := s4.trans s5
  refine ⟨_, rfl, _, rfl, _, _, rfl, rfl, _, rfl, r, _, rfl, SqL.of (s45 _ _ hr3), fun p4 hp4 => ?_⟩
  rw [show ((at_ : Int) + 1) = ((at_ + 1 : Nat) : Int) by omega, cut_drop _ (by omega)]
  have s6 := Same.new (o := .lst ((vN W.res).drop (at_ + 1))) hp4
  refine ⟨p3, p4, _, _, rfl, rfl, s6 _ _ upd_same, upd_same, sz0 (by rw [List.length_append, List.length_take, List.length_drop, vN_len]; simp; omega), fun p5 hp5 => ?_⟩
  have s46 := s45.trans s6
  have d6 := d3.same s46
  refine k _ _ ((((s1.trans (s2.x (d := d) (c := c))).trans s3).trans (s46.x (d := d) (c := c))).trans (SameX.new hp5)) (d6.new hp5) ⟨p5, W.res.take at_ ++ [y] ++ W.res.drop (at_ + 1), rfl, ?_, (d6.fresh hp5).1, (d6.fresh hp5).2, ⟨ok.pos, ok.small, ?_, fun i hi => ?_⟩⟩
  · rw [upd_same]
    show some (HO.lst ((vN W.res).take at_ ++ [V.int (((x : Int) + 1 + (q : Int)) % (W.L : Int))] ++ (vN W.res).drop (at_ + 1))) = _
    rw [hy, vN_append, vN_snoc, (vN_cut W.res at_).1, (vN_cut W.res (at_ + 1)).2]
  · simp only [List.length_append, List.length_take, List.length_drop, List.length_cons, List.length_nil]
    rw [← ok.len]
    omega
  · rcases List.mem_append.mp hi with hi | hi
    · rcases List.mem_append.mp hi with hi | hi
      · exact ok.lt i (List.mem_of_mem_take hi)
      · rw [List.mem_singleton.mp hi]
        exact hyl
    · exact ok.lt i (List.mem_of_mem_drop hi)
theorem first_at {α : Type} [DecidableEq α] {q : α} : ∀ {l : List α}, q ∈ l → ∃ j : Nat, l[j]? = some q ∧ ∀ (m : Nat) (z : α), m < j → l[m]? = some z → z ≠ q
  | [], h => by cases h
  | a :: r, h => by
    by_cases e : a = q
    · exact ⟨0, by rw [← e]; rfl, fun m z hm => absurd hm (by omega)⟩
    · have h1 : q ∈ r := by
        rcases List.mem_cons.mp h with h | h
        · exact absurd h.symm e
        · exact h
      obtain ⟨j, h2, h3⟩ := first_at h1
      refine ⟨j + 1, by simpa using h2, fun m z hm hz => ?_⟩
      cases m with
      | zero =>
        have : a = z := by simpa using hz
        rw [← this]
        exact e
      | succ m => exact h3 m z (by omega) (by simpa using hz)
theorem KM.k {k most : Nat} (h : KM k most) : (k = 2 ∨ k = 3) ∧ 2 ≤ k ∧ k ≤ 3 ∧ most ≤ 4 ∧ 1 ≤ most := by rcases h with ⟨rfl, rfl⟩ | ⟨rfl, rfl⟩ <;> simp
theorem pure_law_results {K : PySem.W.Frag} (vs : List V) (H : Hp) (Q : VK) (E : XK) (h : sp_law_results K vs H Q E) : t_law_results K { nx := fun _ H' => Q .non H', rt := Q } (start n_law_results vs) H := by
  obtain ⟨fv, F, kk, most, rfl, hkm, hF, ok, k⟩ := h
  obtain ⟨a, b, m, n, ms, ns, ⟨pf, rfl, hpf⟩, ha, hb, hm, hms, hn, hns⟩ := id hF
  obtain ⟨hk23, hk2, hk3, hm4, hm1⟩ := hkm.k
  have hL : F.nm.length ≤ 4 := Nat.le_trans ok.many hm4
  obtain ⟨s0, hs0⟩ : ∃ s0, F.sz[0]? = some s0 := ⟨_, List.getElem?_eq_getElem ok.pos⟩
  have hnm0 : (0, 0) ∈ F.nm := (ok.nmok 0 0).mpr ⟨s0, hs0, (ok.szok _ (List.mem_of_getElem? hs0)).1⟩
  have hL1 : 1 ≤ F.nm.length := List.length_pos_of_mem hnm0
  refine ⟨_, rfl, pf, _, rfl, hpf, rfl, _, _, rfl, _, _, rfl, _, _, rfl, _, _, rfl, rfl, ?_⟩
  refine ⟨_, rfl, a, rfl, ⟨_, ha⟩, ?_⟩
  refine lc_flat walk_list (fun i => some (.int (((F.sz.map (invN kk)).getD i 0 : Nat) : Int))) (by rw [vN_len]; have := ok.lsz; omega) (fun H' s => s.seq ha) ?_ ?_
  · rintro i y H1 H2 Kp Ks hi s1 ⟨rfl, hy⟩ kp ks
    obtain ⟨s, hs, rfl⟩ := vN_get' hy
    obtain ⟨h1, h2, h3⟩ := ok.szok _ (List.mem_of_getElem? hs)
    refine ⟨rfl, _, rfl, _, rfl, kk, s, rfl, hk23, h1, by omega, h3, ?_⟩
    rintro v H3 s3 rfl
    refine kp _ _ s3 ?_
    rw [List.getD_eq_getElem?_getD, List.getElem?_map, hs]
    rfl
  intro st H1 hst s1 e1
  rw [fm_vN (by rw [vN_len, List.length_map])] at e1
  refine ⟨by show 0 ≤ sizeLine; decide, fun fd hfd => ?_⟩
  have s2 := Same.new (o := .lst []) hfd
  have s12 := s1.trans s2
  have hfdH : H fd = none := none_of s1 hfd
  have est := s2 _ _ e1
  refine ⟨_, _, rfl, ?_⟩
  refine ⟨_, rfl, _, rfl, n, _, rfl, .inl (s12.seq hn), kk, ns.length, rfl, hk3, by rw [hns.len]; omega, by rw [hns.len]; exact pow_small hL hk3, ?_⟩
  rintro v H3 s3 ⟨us, ca, rfl, hca0, hca, hus⟩
  have s13 := s12.trans s3
  have hcfd : ca ≠ fd := fun e => by rw [e, upd_same] at hca0; cases hca0
  have hfd3 := s3 _ _ (upd_same (H := H1) (a := fd) (o := .lst []))
  have est3 := s3 _ _ est
  have nst : st ≠ fd := ne_of_none e1 hfd
  have hus4 : All2 (fun u cs => ∃ a, u = .ref a ∧ a ≠ fd ∧ H3 a = some (.lst (vN cs))) us (tuplesN ns.length kk) := hus.mono fun u cs z => by
    obtain ⟨a, rfl, h0, h⟩ := z
    exact ⟨a, rfl, fun e => (by rw [e, upd_same] at h0; cases h0), h⟩
  rw [hns.len] at hus4
  refine ⟨ca, rfl, ⟨_, SqL.of hca⟩, ?_⟩
  refine for_list (xs := us) (fun i σ H' => (∀ a u, a ≠ fd → H3 a = some u → H' a = some u) ∧ Same H H' ∧ ∃ (acc : List Nat) (o8 o9 o10 : Option V), σ = [some (.int (kk : Int)), some (.ref pf), some (.ref a), some (.ref b), some (.ref m), some (.ref n), some (.ref st), some (.ref fd), o8, o9, o10, none, none] ∧
    H' fd = some (.lst (vN acc)) ∧ acc.length = i ∧ ∀ r ∈ acc, r < F.nm.length) ⟨fun _ _ _ h => h, s13, [], none, none, none, rfl, hfd3, rfl, fun r h => by simp at h⟩ (fun i σ H' _ q => SqL.of (q.1 _ _ hcfd hca)) ?_ ?_
  · rintro i y σ H4 hy ⟨e4, s4, acc, o8, o9, o10, rfl, hac, hacl, hacc⟩
    obtain ⟨cs, hcs, ra, rfl, hran, hra⟩ := hus4.get hy
    obtain ⟨hcl, hcb⟩ := mem_tuplesN.mp (List.mem_of_getElem? hcs)
    have hra4 := e4 _ _ hran hra
    have hi64 : i < 64 := by
      have := (List.getElem?_eq_some_iff.mp hcs).1
      rw [tuplesN_len] at this
      have := pow_small hL hk3
      omega
    -- an element of a label of the row
    have el : ∀ {j cc : Nat}, cs[j]? = some cc → ∃ (w ii : Nat) (u : V) (s : Nat), F.nm[cc]? = some (w, ii) ∧ ns[cc]? = some u ∧ PairV K H u (w, ii) ∧ F.sz[w]? = some s ∧ ii < s := by
      intro j cc hj
      have hcc := hcb cc (List.mem_of_getElem? hj)
      have hq : F.nm[cc]? = some F.nm[cc] := List.getElem?_eq_getElem hcc
      obtain ⟨u, hu, pu⟩ := hns.get' hq
      obtain ⟨s, h1, h2⟩ := (ok.nmok F.nm[cc].1 F.nm[cc].2).mp (List.getElem_mem hcc)
      exact ⟨_, _, u, s, hq, hu, pu, h1, h2⟩
    have hcs0 : cs ≠ [] := by
      intro e
      rw [e] at hcl
      simp at hcl
      omega
    refine ⟨_, rfl, _, rfl, ra, rfl, ⟨_, SqL.of hra4⟩, ?_⟩
    refine lc_flat walk_list (fun j => some (.int (((cs.map fun cc => (F.nm.getD cc (0, 0)).1).getD j 0 : Nat) : Int))) (by rw [vN_len]; omega) (fun H' s => s.seq (SqL.of hra4)) ?_ ?_
    · rintro j y H5 H6 Kp Ks hj s5 ⟨rfl, hy⟩ kp ks
      obtain ⟨cc, hcc, rfl⟩ := vN_get' hy
      obtain ⟨w, ii, u, s, h1, h2, ⟨pu, rfl, hpu⟩, h4, h5⟩ := el hcc
      have s45 := s4.trans s5
      refine ⟨rfl, _, rfl, _, rfl, n, ns, _, _, rfl, rfl, s45.seq hn, atI_nat h2, pu, _, 0, _, rfl, rfl, s45.tup hpu, rfl, kp _ _ (Same.refl _) ?_⟩
      rw [List.getD_eq_getElem?_getD, List.getElem?_map, hcc, Option.map_some, List.getD_eq_getElem?_getD, h1]
      rfl
    intro D5 H5 hD5 s5 e5
    rw [fm_vN (by rw [vN_len, List.length_map])] at e5
    have s45 := s4.trans s5
    refine ⟨b, D5, F.up, _, rfl, s45.seq hb, SqL.of e5, ok.upok, by simpa using hcs0, fun w hw => ?_, ?_⟩
    · obtain ⟨cc, hcc, rfl⟩ := List.mem_map.mp hw
      obtain ⟨j, hj⟩ := List.mem_iff_getElem?.mp hcc
      obtain ⟨w, ii, u, s, h1, h2, h3, h4, h5⟩ := el hj
      rw [List.getD_eq_getElem?_getD, h1]
      show w < F.up.length
      rw [ok.lu]
      exact (List.getElem?_eq_some_iff.mp h4).1
    rintro v H6 s6 ⟨g, rfl, hg, hA⟩
    have s46 := s45.trans s6
    have e46 : ∀ a u, a ≠ fd → H3 a = some u → H6 a = some u := fun x u h1 h2 => s6 _ _ (s5 _ _ (e4 x u h1 h2))
    have hra6 := s6 _ _ (s5 _ _ hra4)
    refine ⟨_, rfl, ra, rfl, ⟨_, SqL.of hra6⟩, ?_⟩
    refine lc_all walk_list (fun D j y H => ∃ q : Nat, y = .int (q : Int) ∧ q ≤ 4) (by rw [vN_len]; omega) (fun H' s => s.seq (SqL.of hra6)) (fun _ _ _ _ _ _ _ _ _ _ h => h) (fun _ _ _ _ _ _ h => h) ?_ (fun x H2 P P' h q => h _ _ q) (fun σ2 H3 P P' h q => h _ _ q) ?_
    · rintro D j y H7 H8 l1 Kp hj hD s7 hD1 ⟨rfl, hy⟩ kp
      obtain ⟨cc, hcc, rfl⟩ := vN_get' hy
      obtain ⟨w, ii, u, s, h1, h2, h3, h4, h5⟩ := el hcc
      have s47 := s46.trans s7
      refine ⟨rfl, rfl, _, rfl, _, rfl, _, rfl, n, ns, _, u, rfl, rfl, s47.seq hn, atI_nat h2, _, rfl, .ref pf, u, F, kk, most, w, ii, g, s, rfl, ?_, ok, PairV.same h3 s47, h4, h5, hA w (List.mem_map.mpr ⟨cc, List.mem_of_getElem? hcc, by rw [List.getD_eq_getElem?_getD, h1]; rfl⟩), ?_⟩
      · exact ⟨a, b, m, n, ms, ns, ⟨pf, rfl, s47.tup hpf⟩, s47.seq ha, s47.seq hb, s47.seq hm, hms.mono fun _ _ z => PairV.same z s47, s47.seq hn, hns.mono fun _ _ z => PairV.same z s47⟩
      · rintro v H9 s9 ⟨q, rfl, hq⟩
        exact kp _ _ s9 ⟨q, rfl, hq⟩
    intro D7 H7 zs hD7 s7 e7 hz hR
    obtain ⟨qs, rfl, hq4⟩ : ∃ qs : List Int, zs = vI qs ∧ ∀ q ∈ qs, 0 ≤ q ∧ q ≤ 4 := by
      have go : ∀ zs : List V, (∀ (i : Nat) (y : V), zs[i]? = some y → ∃ q : Nat, y = .int (q : Int) ∧ q ≤ 4) → ∃ qs : List Int, zs = vI qs ∧ ∀ q ∈ qs, 0 ≤ q ∧ q ≤ 4 := by
        intro zs
        induction zs with
        | nil => exact fun _ => ⟨[], rfl, fun q h => by simp at h⟩
        | cons z r ih =>
          intro h
          obtain ⟨q, rfl, hq⟩ := h 0 z rfl
          obtain ⟨qs, rfl, h2⟩ := ih fun i y hy => h (i + 1) y (by simpa using hy)
          refine ⟨(q : Int) :: qs, rfl, fun q' h' => ?_⟩
          rcases List.mem_cons.mp h' with rfl | h'
          · omega
          · exact h2 q' h'
      exact go zs hR
    have hql : qs.length ≤ 3 := by
      rw [vI_len, vN_len] at hz
      omega
    have hsum : 0 ≤ qs.sum ∧ qs.sum ≤ 12 := by
      match qs, hql, hq4 with
      | [], _, _ => simp
      | [q1], _, h => have := h q1 (by simp); show 0 ≤ q1 + 0 ∧ q1 + 0 ≤ 12; omega
      | [q1, q2], _, h => have := h q1 (by simp); have := h q2 (by simp); show 0 ≤ q1 + (q2 + 0) ∧ q1 + (q2 + 0) ≤ 12; omega
      | [q1, q2, q3], _, h => have := h q1 (by simp); have := h q2 (by simp); have := h q3 (by simp); show 0 ≤ q1 + (q2 + (q3 + 0)) ∧ q1 + (q2 + (q3 + 0)) ≤ 12; omega
      | _ :: _ :: _ :: _ :: _, hl, _ => simp at hl
    have s47 := s46.trans s7
    have e47 : ∀ a u, a ≠ fd → H3 a = some u → H7 a = some u := fun x u h1 h2 => s7 _ _ (e46 x u h1 h2)
    refine ⟨D7, qs, rfl, SqL.of e7, ?_⟩
    have hac7 := s7 _ _ (s6 _ _ (s5 _ _ hac))
    have est7 := e47 _ _ nst est3
    have hgs : g < F.sz.length := by rw [← ok.lu]; exact hg
    obtain ⟨sg, hsg⟩ : ∃ sg, F.sz[g]? = some sg := ⟨_, List.getElem?_eq_getElem hgs⟩
    obtain ⟨g1, g2, g3⟩ := ok.szok _ (List.mem_of_getElem? hsg)
    have hinv : (vN (F.sz.map (invN kk)))[g]? = some (.int (invN kk sg : Int)) := vN_get (by rw [List.getElem?_map, hsg]; rfl)
    have hinvb : invN kk sg < 8 := by
      have dec : ∀ k ∈ [2, 3], ∀ m ∈ [1, 2, 3, 4], invN k m < 8 := by decide
      exact dec kk (by rcases hk23 with h | h <;> simp [h]) sg (by simp; omega)
    obtain ⟨y, hy, hyl⟩ := modN (qs.sum * (invN kk sg : Int)) g1
    refine ⟨_, rfl, tyL (SqL.of hac7), _, rfl, tyL (s47.seq hn), _, rfl, _, rfl, _, rfl, _, rfl, st, _, _, _, rfl, rfl, SqL.of est7, atI_nat hinv, _, _, rfl, rfl, cmul (n := 10) (m := 10) (by show Int.natAbs _ < 1024; omega) (by show Int.natAbs _ < 1024; omega) (by decide), .inl ⟨_, rfl, _, rfl, _, rfl, a, _, _, _, rfl, rfl, s47.seq ha, atI_nat (vN_get hsg), _, _, rfl, rfl, by omega, ?_⟩⟩
    refine ⟨by show 2 ≤ sizeLine; decide, fun q hq => ?_⟩
    have s8 := Same.new (o := .tup [V.int (g : Int), V.int ((qs.sum * (invN kk sg : Int)) % (sg : Int))]) hq
    have s48 := s47.trans s8
    obtain ⟨j, hj, hjm⟩ := first_at (q := (g, y)) ((ok.nmok g y).mpr ⟨sg, hsg, hyl⟩)
    have hpq : PairV K (upd H7 q (.tup [V.int (g : Int), V.int ((qs.sum * (invN kk sg : Int)) % (sg : Int))])) (.ref q) (g, y) := ⟨q, rfl, SqT.of (by rw [upd_same, hy])⟩
    refine ⟨n, _, pD (g, y), F.nm.map pD, j, pD (g, y), rfl, rfl, .lst (s48.seq hn) (dp_pairs (hns.mono fun _ _ z => PairV.same z s48)), dp_pair hpq, pDs_shaped _, pD_shaped _, by rw [List.getElem?_map, hj]; rfl, by rw [pD_eqv]; simp, fun mm z' h1 h2 => ?_, ?_⟩
    · rw [List.getElem?_map] at h2
      cases h3 : F.nm[mm]? with
      | none => rw [h3] at h2; cases h2
      | some q2 =>
        rw [h3] at h2
        cases h2
        rw [pD_eqv]
        exact decide_eq_false (hjm mm q2 h1 h3)
    · have hjl : j < F.nm.length := (List.getElem?_eq_some_iff.mp hj).1
      have hac8 := s8 _ _ hac7
      refine ⟨fd, _, _, rfl, rfl, hac8, sz1 (by rw [vN_len]; omega), fun x u h1 h2 => by rw [upd_ne h1]; exact s8 _ _ (e47 x u h1 h2), s48.mut hfdH, acc ++ [j], _, _, _, rfl, by rw [upd_same, vN_snoc], by simp [hacl], fun r hr => ?_⟩
      rcases List.mem_append.mp hr with hr | hr
      · exact hacc r hr
      · rw [List.mem_singleton.mp hr]
        exact hjl
  · rintro σ H4 ⟨e4, s4, acc, o8, o9, o10, rfl, hac, hacl, hacc⟩
    refine ⟨_, rfl, k _ _ s4 ⟨fd, acc, rfl, hfdH, hac, hL1, ?_, ?_, hacc⟩⟩
    · have := ok.many
      rcases hkm with ⟨rfl, rfl⟩ | ⟨rfl, rfl⟩
      · exact .inl ⟨rfl, this⟩
      · exact .inr ⟨rfl, this⟩
    · rw [hacl, hus4.len, tuplesN_len]
end Mix
namespace Mix
open PySem PySem.Spec PyProof.Rows L2
section
variable {α β : Type} {R : α → β → Prop}
theorem All2.cons {x : α} {y : β} {l : List α} {m : List β} (h : R x y) (a : All2 R l m) : All2 R (x :: l) (y :: m) := by
  refine ⟨by simp [a.len], fun i u v p q => ?_⟩
  cases i with
  | zero =>
    have e1 : x = u := by simpa using p
    have e2 : y = v := by simpa using q
    rw [← e1, ← e2]
    exact h
  | succ i => exact a.at_ i u v (by simpa using p) (by simpa using q)
theorem All2.tail {x : α} {l : List α} {m : List β} (a : All2 R (x :: l) m) : ∃ y m', m = y :: m' ∧ R x y ∧ All2 R l m' := by
  cases m with
  | nil => cases a.len
  | cons y m => exact ⟨y, m, rfl, a.at_ 0 x y rfl rfl, by simpa using a.len, fun i u v p q => a.at_ (i + 1) u v (by simpa using p) (by simpa using q)⟩
theorem All2.perm {xs ys : List α} (p : ys.Perm xs) : ∀ {qs : List β}, All2 R xs qs → ∃ qs', All2 R ys qs' ∧ qs'.Perm qs := by
  have key : ∀ {xs ys : List α}, xs.Perm ys → ∀ {qs : List β}, All2 R xs qs → ∃ qs', All2 R ys qs' ∧ qs'.Perm qs := by
    intro xs ys p
    induction p with
    | nil => exact fun a => ⟨_, a, List.Perm.refl _⟩
    | cons x _ ih =>
      intro qs a
      obtain ⟨y, m, rfl, h1, h2⟩ := a.tail
      obtain ⟨q, h3, h4⟩ := ih h2
      exact ⟨y :: q, h3.cons h1, h4.cons y⟩
    | swap x z l =>
      intro qs a
      obtain ⟨y, m, rfl, h1, h2⟩ := a.tail
      obtain ⟨y2, m2, rfl, h3, h4⟩ := h2.tail
      exact ⟨y2 :: y :: m2, (h4.cons h1).cons h3, List.Perm.swap _ _ _⟩
    | trans _ _ i1 i2 =>
      intro qs a
      obtain ⟨q1, h1, h2⟩ := i1 a
      obtain ⟨q2, h3, h4⟩ := i2 h1
      exact ⟨q2, h3, h4.trans h2⟩
  intro qs a
  exact key p.symm a
end
theorem fm_filter (xs : List Nat) (p : Nat → Bool) : ((List.range xs.length).filterMap fun i => (xs[i]?).bind fun x => if p x = true then some (V.int (x : Int)) else none) = vN (xs.filter p) := by
  have go : ∀ n, n ≤ xs.length → ((List.range n).filterMap fun i => (xs[i]?).bind fun x => if p x = true then some (V.int (x : Int)) else none) = vN ((xs.take n).filter p) := by
    intro n
    induction n with
    | zero => intro _; rfl
    | succ n ih =>
      intro hn
      have hx : xs[n]? = some xs[n] := List.getElem?_eq_getElem (by omega)
      rw [filterMap_more, ih (by omega), take_more hx, List.filter_append, hx, Option.bind_some]
      by_cases c : p xs[n] = true
      · rw [if_pos c, show List.filter p [xs[n]] = [xs[n]] by simp [c], vN_snoc]
      · rw [if_neg c, show List.filter p [xs[n]] = [] by simp [c]]
        simp
  have := go xs.length (Nat.le_refl _)
  rw [List.take_length] at this
  exact this
theorem sum_cast (l : List Nat) : (l.map fun (c : Nat) => (c : Int)).sum = (l.sum : Int) := by
  induction l with
  | nil => rfl
  | cons a r ih => rw [List.map_cons, List.sum_cons, List.sum_cons, ih]; push_cast; rfl
/-- the elements of the first wheels -/
def nmT (sz : List Nat) (j : Nat) : List (Nat × Nat) := (List.range j).flatMap fun w => (List.range (sz.getD w 0)).map fun i => (w, i)
theorem nmT_more (sz : List Nat) (j : Nat) : nmT sz (j + 1) = nmT sz j ++ (List.range (sz.getD j 0)).map fun i => (j, i) := by
  unfold nmT
  rw [List.range_succ, List.flatMap_append]
  simp
theorem nmT_len (sz : List Nat) : ∀ j, j ≤ sz.length → (nmT sz j).length = (sz.take j).sum
  | 0, _ => by simp [nmT]
  | j + 1, h => by
    have hx : sz[j]? = some (sz.getD j 0) := by
      rw [List.getD_eq_getElem?_getD, List.getElem?_eq_getElem (by omega)]
      rfl
    rw [nmT_more, List.length_append, nmT_len sz j (by omega), take_more hx, List.sum_append]
    simp
theorem nmT_mem (sz : List Nat) (j w i : Nat) : (w, i) ∈ nmT sz j ↔ w < j ∧ i < sz.getD w 0 := by
  unfold nmT
  rw [List.mem_flatMap]
  constructor
  · rintro ⟨v, hv, h⟩
    obtain ⟨i', hi, e⟩ := List.mem_map.mp h
    cases e
    exact ⟨List.mem_range.mp hv, List.mem_range.mp hi⟩
  · rintro ⟨h1, h2⟩
    exact ⟨w, List.mem_range.mpr h1, List.mem_map.mpr ⟨i, List.mem_range.mpr h2, rfl⟩⟩
/-- what is known of a form on the way -/
structure FrmF (kk most : Nat) (sz up : List Nat) (mp : List (Nat × Nat)) : Prop where
  lu : up.length = sz.length
  lm : mp.length = sz.length
  pos : 0 < sz.length
  sum : sz.sum ≤ most
  szok : ∀ s ∈ sz, 0 < s ∧ s ≤ 4 ∧ Nat.gcd s kk = 1
  upok : ∀ (i u : Nat), up[i]? = some u → u ≤ i - 1
  mpok : ∀ q ∈ mp, q.1 ≤ 10 ∧ q.2 ≤ 10
theorem len_le_sum : ∀ {sz : List Nat}, (∀ s ∈ sz, 0 < s) → sz.length ≤ sz.sum
  | [], _ => by simp
  | a :: r, h => by
    have h1 := h a (by simp)
    have h2 := len_le_sum (sz := r) fun s hs => h s (by simp [hs])
    simp
    omega
theorem FrmF.len {kk most : Nat} {sz up : List Nat} {mp : List (Nat × Nat)} (f : FrmF kk most sz up mp) (h4 : most ≤ 4) : sz.length ≤ 4 := by
  have := len_le_sum fun s hs => (f.szok s hs).1
  have := f.sum
  omega
theorem FrmF.add {kk most : Nat} {sz up : List Nat} {mp : List (Nat × Nat)} (f : FrmF kk most sz up mp) {s u q1 q2 : Nat} (h4 : most ≤ 4) (hs : 0 < s) (hg : Nat.gcd s kk = 1) (hsum : sz.sum + s ≤ most) (hu : u < sz.length) (h1 : q1 ≤ 10) (h2 : q2 ≤ 10) :
    FrmF kk most (sz ++ [s]) (up ++ [u]) (mp ++ [(q1, q2)]) := by
  refine ⟨by simp [f.lu], by simp [f.lm], by simp, by rw [List.sum_append]; simpa using hsum, fun x hx => ?_, fun i v hv => ?_, fun q hq => ?_⟩
  · rcases List.mem_append.mp hx with hx | hx
    · exact f.szok x hx
    · rw [List.mem_singleton.mp hx]
      exact ⟨hs, by omega, hg⟩
  · by_cases c : i < up.length
    · rw [List.getElem?_append_left c] at hv
      exact f.upok i v hv
    · have e : i = up.length := by
        have := (List.getElem?_eq_some_iff.mp hv).1
        simp at this
        omega
      subst e
      have : u = v := by simpa using hv
      have := f.lu
      omega
  · rcases List.mem_append.mp hq with hq | hq
    · exact f.mpok q hq
    · rw [List.mem_singleton.mp hq]
      exact ⟨h1, h2⟩
/-- the three lists of a form on the way, not of the source of draws -/
def FrmX (K : PySem.W.Frag) (d c : Addr) (H : Hp) (a b m : Addr) (sz up : List Nat) (mp : List (Nat × Nat)) : Prop :=
  ∃ ms, (H a = some (.lst (vN sz)) ∧ a ≠ d ∧ a ≠ c) ∧ (H b = some (.lst (vN up)) ∧ b ≠ d ∧ b ≠ c) ∧ (H m = some (.lst ms) ∧ m ≠ d ∧ m ≠ c) ∧ All2 (PairV K H) ms mp
theorem FrmX.x {K : PySem.W.Frag} {d c : Addr} {H H' : Hp} {a b m : Addr} {sz up : List Nat} {mp : List (Nat × Nat)} (h : FrmX K d c H a b m sz up mp) (dl : DealAt H d c) (e : SameX d c H H') : FrmX K d c H' a b m sz up mp := by
  obtain ⟨ms, ⟨h1, n1, n2⟩, ⟨h2, n3, n4⟩, ⟨h3, n5, n6⟩, h4⟩ := h
  exact ⟨ms, ⟨e _ _ n1 n2 h1, n1, n2⟩, ⟨e _ _ n3 n4 h2, n3, n4⟩, ⟨e _ _ n5 n6 h3, n5, n6⟩, h4.mono fun _ _ z => z.x dl e⟩
theorem pure_law_form {K : PySem.W.Frag} (vs : List V) (H : Hp) (Q : VK) (E : XK) (h : sp_law_form K vs H Q E) : t_law_form K { nx := fun _ H' => Q .non H', rt := Q } (start n_law_form vs) H := by
  obtain ⟨d, c, kk, most, rfl, dl, hkm, k⟩ := h
  have hkm : KM kk most := hkm
  obtain ⟨hk23, hk2, hk3, hm4, hm1⟩ := hkm.k
  refine ⟨_, rfl, _, _, rfl, rfl, _, _, rfl, ⟨by omega, by omega, by omega, by omega⟩, ?_⟩
  rw [show (((most : Nat) : Int) + 1 - 1).toNat = most by omega]
  refine lc_flat walk_range (fun i => (((List.range most).map fun i => 1 + i)[i]?).bind fun x => if (decide (Nat.gcd x kk = 1)) = true then some (V.int (x : Int)) else none) (by omega) (fun _ _ => trivial) ?_ ?_
  · rintro i y H1 H2 Kp Ks hi s1 ⟨rfl, hy⟩ kp ks
    have ey : y = .int ((1 + i : Nat) : Int) := by
      rw [hy]
      show V.int (1 + (i : Int)) = _
      congr 1
    clear hy
    subst ey
    have hx : ((List.range most).map fun i => 1 + i)[i]? = some (1 + i) := by rw [List.getElem?_map, List.getElem?_range hi]; rfl
    refine ⟨rfl, ?_⟩
    refine ⟨_, rfl, _, rfl, _, _, rfl, by omega, by omega, rfl, _, rfl, ?_⟩
    rw [Int.natAbs_natCast, Int.natAbs_natCast]
    by_cases h : Nat.gcd (1 + i) kk = 1
    · refine ift (by simp [h]) ?_
      exact ⟨_, rfl, kp _ _ (Same.refl _) (by rw [hx, Option.bind_some, if_pos (decide_eq_true h)])⟩
    · refine iff' (by simp; omega) ?_
      exact ks _ (Same.refl _) (by rw [hx, Option.bind_some, if_neg (by simp [h])])
  intro od H1 hod s1 e1
  obtain ⟨odd, eod, hodd, hone⟩ : ∃ odd : List Nat, H1 od = some (.lst (vN odd)) ∧ (∀ x ∈ odd, 0 < x ∧ x ≤ most ∧ Nat.gcd x kk = 1) ∧ odd ≠ [] ∧ odd.length ≤ 4 := by
    refine ⟨((List.range most).map fun i => 1 + i).filter fun x => decide (Nat.gcd x kk = 1), ?_, fun x hx => ?_, ?_, ?_⟩
    · rw [e1, ← fm_filter]
      simp
    · obtain ⟨h1, h2⟩ := List.mem_filter.mp hx
      obtain ⟨i, hi, rfl⟩ := List.mem_map.mp h1
      have := List.mem_range.mp hi
      exact ⟨by omega, by omega, of_decide_eq_true h2⟩
    · intro e
      have : (1 : Nat) ∈ ((List.range most).map fun i => 1 + i).filter fun x => decide (Nat.gcd x kk = 1) := List.mem_filter.mpr ⟨List.mem_map.mpr ⟨0, List.mem_range.mpr hm1, rfl⟩, by simp⟩
      rw [e] at this
      cases this
    · refine Nat.le_trans (List.length_filter_le _ _) ?_
      simp
      omega
  have d1 := dl.same s1
  have fod := dl.fresh hod
  refine ⟨_, rfl, _, rfl, d, c, od, vN odd, rfl, d1, eod, fod.1, fod.2, ?_, by rw [vN_len]; omega, ?_⟩
  · intro e
    exact hone.1 (List.map_eq_nil_iff.mp e)
  rintro v H2 s2 d2 hv
  obtain ⟨y0, hy0, rfl⟩ := List.mem_map.mp hv
  obtain ⟨z1, z2, z3⟩ := hodd y0 hy0
  have s02 : SameX d c H H2 := (s1.x (d := d) (c := c)).trans s2
  refine ⟨by show 1 ≤ sizeLine; decide, fun a ha => ⟨by show 1 ≤ sizeLine; decide, fun b hb => ⟨by show 2 ≤ sizeLine; decide, fun q hq => ⟨by show 1 ≤ sizeLine; decide, fun m hm => ⟨by show 3 ≤ sizeLine; decide, fun tt htt => ?_⟩⟩⟩⟩⟩
  have sa := Same.new (o := .lst [V.int (y0 : Int)]) ha
  have sb := Same.new (o := .lst [V.int 0]) hb
  have sq := Same.new (o := .tup [V.int 1, V.int 0]) hq
  have sm := Same.new (o := .lst [.ref q]) hm
  have st := Same.new (o := .tup [.ref a, .ref b, .ref m]) htt
  have sa5 := (((sb.trans sq).trans sm).trans st)
  have da := d2.same sa
  have db := da.same sb
  have dq := db.same sq
  have dm := dq.same sm
  have dt := dm.same st
  refine ⟨tt, _, rfl, SqT.of upd_same, rfl, _, _, rfl, _, _, rfl, _, _, rfl, rfl, ?_⟩
  have F0 : FrmX K d c (upd (upd (upd (upd (upd H2 a (.lst [V.int (y0 : Int)])) b (.lst [V.int 0])) q (.tup [V.int 1, V.int 0])) m (.lst [.ref q])) tt (.tup [.ref a, .ref b, .ref m])) a b m [y0] [0] [(1, 0)] :=
    ⟨[.ref q], ⟨sa5 _ _ upd_same, d2.fresh ha⟩, ⟨((sq.trans sm).trans st) _ _ upd_same, da.fresh hb⟩, ⟨st _ _ upd_same, dq.fresh hm⟩, All2.nil.cons ⟨q, rfl, (sm.trans st).tup (SqT.of upd_same)⟩⟩
  have FF0 : FrmF kk most [y0] [0] [(1, 0)] := ⟨rfl, rfl, by simp, by simpa using z2, fun s hs => by rw [List.mem_singleton.mp hs]; exact ⟨z1, by omega, z3⟩, fun i u hu => by
      cases i with
      | zero => have : 0 = u := by simpa using hu
                omega
      | succ i => simp at hu, fun q hq => by rw [List.mem_singleton.mp hq]; exact ⟨by decide, by decide⟩⟩
  have s0t : SameX d c H (upd (upd (upd (upd (upd H2 a (.lst [V.int (y0 : Int)])) b (.lst [V.int 0])) q (.tup [V.int 1, V.int 0])) m (.lst [.ref q])) tt (.tup [.ref a, .ref b, .ref m])) := s02.trans ((sa.trans sa5).x)
  have hodt : (upd (upd (upd (upd (upd H2 a (.lst [V.int (y0 : Int)])) b (.lst [V.int 0])) q (.tup [V.int 1, V.int 0])) m (.lst [.ref q])) tt (.tup [.ref a, .ref b, .ref m])) od = some (.lst (vN odd)) := (sa.trans sa5) _ _ (s2 _ _ fod.1 fod.2 eod)
  generalize (upd (upd (upd (upd (upd H2 a (.lst [V.int (y0 : Int)])) b (.lst [V.int 0])) q (.tup [V.int 1, V.int 0])) m (.lst [.ref q])) tt (.tup [.ref a, .ref b, .ref m])) = H3 at *
  refine ⟨_, rfl, _, rfl, d, c, most, rfl, dt, by omega, by omega, ?_⟩
  rintro v H4 s4 d4 ⟨tn, rfl, htn⟩
  refine ⟨_, rfl, by omega, by omega, ?_⟩
  rw [show ((tn : Nat) : Int).toNat = tn by omega]
  refine for_range (lo := 0) (n := tn) (fun i σ H' => SameX d c H H' ∧ DealAt H' d c ∧ H' od = some (.lst (vN odd)) ∧ ∃ (a b m : Addr) (sz up : List Nat) (mp : List (Nat × Nat)) (o7 o8 o9 o10 o11 : Option V),
    σ = [some (.ref d), some (.int (kk : Int)), some (.int (most : Int)), some (.ref od), some (.ref a), some (.ref b), some (.ref m), o7, o8, o9, o10, o11, none, none, none, none] ∧ FrmX K d c H' a b m sz up mp ∧ FrmF kk most sz up mp)
    ⟨s0t.trans s4, d4, s4 _ _ fod.1 fod.2 hodt, a, b, m, _, _, _, none, none, none, none, none, rfl, F0.x dt s4, FF0⟩ ?_ ?_
  · rintro i σ H5 hi ⟨s5, d5, hod5, a, b, m, sz, up, mp, o7, o8, o9, o10, o11, rfl, FX, FF⟩
    obtain ⟨ms, ⟨ha, a1, a2⟩, ⟨hb, b1, b2⟩, ⟨hm, m1, m2⟩, hms⟩ := id FX
    have hsl := FF.len hm4
    refine ⟨_, rfl, od, rfl, ⟨_, SqL.of hod5⟩, ?_⟩
    refine lc_flat walk_list (fun i => (odd[i]?).bind fun x => if (decide ((x : Int) ≤ (most : Int) - (sz.sum : Int))) = true then some (V.int (x : Int)) else none) (by rw [vN_len]; omega) (fun H' s => s.seq (SqL.of hod5)) ?_ ?_
    · rintro j y H6 H7 Kp Ks hj s6 ⟨rfl, hy⟩ kp kn
      obtain ⟨x, hx, rfl⟩ := vN_get' hy
      refine ⟨rfl, ?_⟩
      refine ⟨_, rfl, _, rfl, _, rfl, a, sz.map (fun (c : Nat) => (c : Int)), rfl, SqL.of (by rw [s6 _ _ ha, vN_vI]; rfl), _, _, rfl, rfl, _, _, rfl, rfl, _, rfl, ?_⟩
      rw [sum_cast]
      by_cases hle : (x : Int) ≤ (most : Int) - (sz.sum : Int)
      · refine ift (decide_eq_true hle) ?_
        exact ⟨_, rfl, kp _ _ (Same.refl _) (by rw [hx, Option.bind_some, if_pos (decide_eq_true hle)])⟩
      · refine iff' (decide_eq_false hle) ?_
        exact kn _ (Same.refl _) (by rw [hx, Option.bind_some, if_neg (by simp; omega)])
    intro so H6 hso s6 e6
    rw [vN_len, fm_filter] at e6
    have fso := d5.fresh hso
    have d6 := d5.same s6
    have hslo : ∀ x ∈ odd.filter (fun (x : Nat) => decide ((x : Int) ≤ (most : Int) - (sz.sum : Int))), 0 < x ∧ Nat.gcd x kk = 1 ∧ sz.sum + x ≤ most := fun x hx => by
      obtain ⟨h1, h2⟩ := List.mem_filter.mp hx
      obtain ⟨h3, h4, h5⟩ := hodd x h1
      have := of_decide_eq_true h2
      exact ⟨h3, h5, by omega⟩
    have hsll : (odd.filter (fun (x : Nat) => decide ((x : Int) ≤ (most : Int) - (sz.sum : Int)))).length ≤ 4 := Nat.le_trans (List.length_filter_le _ _) hone.2
    generalize odd.filter (fun (x : Nat) => decide ((x : Int) ≤ (most : Int) - (sz.sum : Int))) = sl at *
    refine ⟨_, rfl, by show 0 ≤ sizeLine; decide, fun p hp => ?_⟩
    have s7 := Same.new (o := .lst []) hp
    have s67 := s6.trans s7
    have d7 := d5.same s67
    have FX7 := FX.x d5 (s67.x (d := d) (c := c))
    have s07 := s5.trans (s67.x (d := d) (c := c))
    have hod7 := s67 _ _ hod5
    have hso7 := s7 _ _ e6
    refine ⟨.list ((sl.map fun (c : Nat) => (c : Int)).map PyData.int), .list [], .lst (SqL.of hso7) (by rw [vN_vI]; exact dp_vI _), .lst (SqL.of upd_same) .nil, shaped_l _, shaped_nil, _, rfl, ?_⟩
    rw [eqv_list, eqvAll_nil]
    by_cases hsn : sl = []
    · subst hsn
      refine iff' (by simp) ?_
      exact ⟨s07, d7, hod7, a, b, m, sz, up, mp, _, _, _, _, _, rfl, FX7, FF⟩
    refine ift (by simp [hsn]) ?_
    have hslp : 0 < sl.length := List.length_pos_iff.mpr hsn
    refine ⟨_, rfl, _, rfl, _, rfl, so, _, rfl, SqL.of hso7, fun p1 hp1 => ?_⟩
    rw [show cutV (vN sl) none (some 1) = (vN sl).take 1 from cut_take (j := 1) _ (by rw [vN_len]; omega)]
    have s8 := Same.new (o := .lst ((vN sl).take 1)) hp1
    refine ⟨_, rfl, p1, so, _, _, rfl, rfl, upd_same, s8 _ _ hso7, sz0 (by rw [List.length_take, vN_len]; omega), fun p2 hp2 => ?_⟩
    have s9 := Same.new (o := .lst ((vN sl).take 1 ++ vN sl)) hp2
    have s89 := s8.trans s9
    have d8 := d7.same s8
    have d9 := d7.same s89
    have fp2 := d8.fresh hp2
    refine ⟨d, c, p2, _, rfl, d9, upd_same, fp2.1, fp2.2, ?_, by rw [List.length_append, List.length_take, vN_len]; omega, ?_⟩
    · intro e
      have := List.append_eq_nil_iff.mp e
      exact hsn (List.map_eq_nil_iff.mp this.2)
    rintro v H10 s10 d10 hv
    obtain ⟨s, hs, rfl⟩ : ∃ s, s ∈ sl ∧ v = .int (s : Int) := by
      have h1 : v ∈ vN sl := by
        rcases List.mem_append.mp hv with h | h
        · exact List.mem_of_mem_take h
        · exact h
      obtain ⟨s, h2, h3⟩ := List.mem_map.mp h1
      exact ⟨s, h2, h3.symm⟩
    obtain ⟨sp1, sp2, sp3⟩ := hslo s hs
    have s710 : SameX d c _ H10 := (s89.x (d := d) (c := c)).trans s10
    have FX10 := FX7.x d7 s710
    obtain ⟨ms10, ⟨ha10, _, _⟩, _⟩ := id FX10
    refine ⟨_, rfl, _, rfl, a, vN sz, rfl, .inl (SqL.of ha10), d, c, (vN sz).length, rfl, d10, by rw [vN_len]; exact FF.pos, by rw [vN_len]; omega, ?_⟩
    rintro v H11 s11 d11 ⟨u, rfl, hu⟩
    rw [vN_len] at hu
    have FX11 := FX10.x d10 s11
    obtain ⟨ms11, ⟨ha11, _, _⟩, ⟨hb11, _, _⟩, _, _⟩ := id FX11
    refine ⟨_, _, rfl, ?_⟩
    obtain ⟨su, hsu⟩ : ∃ su, sz[u]? = some su := ⟨_, List.getElem?_eq_getElem hu⟩
    obtain ⟨su1, su2, su3⟩ := FF.szok _ (List.mem_of_getElem? hsu)
    have hat : atI (vN sz) (u : Int) = some (.int (su : Int)) := atI_nat (vN_get hsu)
    refine ⟨_, rfl, _, rfl, a, _, _, _, rfl, rfl, SqL.of ha11, hat, _, rfl, _, rfl, a, _, _, _, rfl, rfl, SqL.of ha11, hat, _, rfl, _, _, rfl, by omega, by omega, ?_⟩
    rw [Int.natAbs_natCast, Int.natAbs_natCast]
    have hgp : 0 < Nat.gcd su s := Nat.gcd_pos_of_pos_left _ su1
    have hgl : Nat.gcd su s ≤ su := Nat.gcd_le_left _ su1
    refine ⟨_, _, rfl, rfl, cdiv (n := 10) (by omega) (by show Int.natAbs _ < 1024; omega) (by decide), ?_⟩
    have hst0 : 0 ≤ (su : Int) / ((Nat.gcd su s : Nat) : Int) := Int.ediv_nonneg (by omega) (by omega)
    have hst1 : (su : Int) / ((Nat.gcd su s : Nat) : Int) ≤ (su : Int) := Int.ediv_le_self _ (by omega)
    -- the longer lists
    refine ⟨_, rfl, _, rfl, by show 1 ≤ sizeLine; decide, fun p3 hp3 => ?_⟩
    have t1 := Same.new (o := .lst [V.int (s : Int)]) hp3
    refine ⟨a, p3, _, _, rfl, rfl, t1 _ _ ha11, upd_same, sz0 (by rw [vN_len]; simp; omega), fun a' ha' => ?_⟩
    have t2 := Same.new (o := .lst (vN sz ++ [V.int (s : Int)])) ha'
    have fa' := (d11.same t1).fresh ha'
    have t12 := t1.trans t2
    refine ⟨_, rfl, _, rfl, by show 1 ≤ sizeLine; decide, fun p4 hp4 => ?_⟩
    have t3 := Same.new (o := .lst [V.int (u : Int)]) hp4
    have t13 := t12.trans t3
    refine ⟨b, p4, _, _, rfl, rfl, t13 _ _ hb11, upd_same, sz0 (by rw [vN_len]; simp [FF.lu]; omega), fun b' hb' => ?_⟩
    have t4 := Same.new (o := .lst (vN up ++ [V.int (u : Int)])) hb'
    have fb' := (d11.same t13).fresh hb'
    refine ⟨by show 2 ≤ sizeLine; decide, fun q hq => ?_⟩
    have t5 := Same.new (o := .tup [.ref a', .ref b']) hq
    refine ⟨q, _, rfl, SqT.of upd_same, rfl, _, _, rfl, _, _, rfl, rfl, ?_⟩
    have t45 := t4.trans t5
    have t15 := t13.trans t45
    have d12 := d11.same t15
    have FX12 := FX11.x d11 (t15.x (d := d) (c := c))
    have ha'12 := (t3.trans t45) _ _ (upd_same (H := (upd H11 p3 (.lst [V.int (s : Int)]))) (a := a') (o := .lst (vN sz ++ [V.int (s : Int)])))
    have hb'12 := t5 _ _ (upd_same (H := (upd (upd (upd H11 p3 (.lst [V.int (s : Int)])) a' (.lst (vN sz ++ [V.int (s : Int)]))) p4 (.lst [V.int (u : Int)]))) (a := b') (o := .lst (vN up ++ [V.int (u : Int)])))
    have s012 := ((((s07.trans s710).trans s11).trans (t15.x (d := d) (c := c))))
    have hod12 : (upd (upd (upd (upd (upd H11 p3 (.lst [V.int (s : Int)])) a' (.lst (vN sz ++ [V.int (s : Int)]))) p4 (.lst [V.int (u : Int)])) b' (.lst (vN up ++ [V.int (u : Int)]))) q (.tup [.ref a', .ref b'])) od = some (.lst (vN odd)) := t15 _ _ (s11 _ _ fod.1 fod.2 (s710 _ _ fod.1 fod.2 hod7))
    generalize (upd (upd (upd (upd (upd H11 p3 (.lst [V.int (s : Int)])) a' (.lst (vN sz ++ [V.int (s : Int)]))) p4 (.lst [V.int (u : Int)])) b' (.lst (vN up ++ [V.int (u : Int)]))) q (.tup [.ref a', .ref b'])) = H12 at *
    refine ⟨_, rfl, _, rfl, _, rfl, d, c, 8, rfl, d12, by decide, by decide, ?_⟩
    rintro v H13 s13 d13 ⟨x8, rfl, hx8⟩
    have ha'13 := s13 _ _ fa'.1 fa'.2 ha'12
    have hat' : atI (vN sz ++ [V.int (s : Int)]) (u : Int) = some (.int (su : Int)) := atI_nat (by rw [List.getElem?_append_left (by rw [vN_len]; exact hu)]; exact vN_get hsu)
    obtain ⟨q1, hq1, hq1l⟩ := modN (((su : Int) / ((Nat.gcd su s : Nat) : Int)) * (x8 : Int)) su1
    refine ⟨_, _, rfl, rfl, cmul (n := 10) (m := 10) (by show Int.natAbs _ < 1024; omega) (by show Int.natAbs _ < 1024; omega) (by decide), .inl ⟨_, rfl, _, rfl, _, rfl, a', _, _, _, rfl, rfl, SqL.of ha'13, hat', _, _, rfl, rfl, by omega, ?_⟩⟩
    refine ⟨_, rfl, _, rfl, _, rfl, a', _, _, _, rfl, rfl, SqL.of ha'13, hat', d, c, su, rfl, d13, su1, by omega, ?_⟩
    rintro v H14 s14 d14 ⟨y2, rfl, hy2⟩
    refine ⟨by show 2 ≤ sizeLine; decide, fun q2 hq2 => ⟨by show 1 ≤ sizeLine; decide, fun p5 hp5 => ?_⟩⟩
    have u1 := Same.new (o := .tup [V.int ((((su : Int) / ((Nat.gcd su s : Nat) : Int)) * (x8 : Int)) % (su : Int)), V.int (y2 : Int)]) hq2
    have u2 := Same.new (o := .lst [.ref q2]) hp5
    have u12 := u1.trans u2
    have FX14 := (FX12.x d12 s13).x d13 s14
    obtain ⟨ms14, _, _, ⟨hm14, _, _⟩, hms14⟩ := FX14
    refine ⟨m, p5, _, _, rfl, rfl, u12 _ _ hm14, upd_same, sz0 (by rw [hms14.len]; simp [FF.lm]; omega), fun m' hm' => ?_⟩
    have u3 := Same.new (o := .lst (ms14 ++ [.ref q2])) hm'
    have u13 := u12.trans u3
    have fm' := (d14.same u12).fresh hm'
    have s1214 := s13.trans s14
    have s1215 := s1214.trans (u13.x (d := d) (c := c))
    refine ⟨s012.trans s1215, d14.same u13, s1215 _ _ fod.1 fod.2 hod12, a', b', m', sz ++ [s], up ++ [u], mp ++ [(q1, y2)], _, _, _, _, _, rfl, ⟨ms14 ++ [.ref q2], ⟨by rw [s1215 _ _ fa'.1 fa'.2 ha'12, vN_snoc], fa'⟩, ⟨by rw [s1215 _ _ fb'.1 fb'.2 hb'12, vN_snoc], fb'⟩, ⟨upd_same, fm'⟩, (hms14.mono fun _ _ z => z.same u13).snoc ?_⟩, FF.add hm4 sp1 sp2 sp3 hu (by omega) (by omega)⟩
    refine ⟨q2, rfl, (u2.trans u3).tup (SqT.of ?_)⟩
    rw [upd_same]
    show some (HO.tup [V.int ((((su : Int) / ((Nat.gcd su s : Nat) : Int)) * (x8 : Int)) % (su : Int)), V.int (y2 : Int)]) = _
    rw [hq1]
  · rintro σ H5 ⟨s5, d5, hod5, a, b, m, sz, up, mp, o7, o8, o9, o10, o11, rfl, FX, FF⟩
    have hsl := FF.len hm4
    refine ⟨by show 0 ≤ sizeLine; decide, fun n0 hn0 => ?_⟩
    have t1 := Same.new (o := .lst []) hn0
    have d6 := d5.same t1
    have FX6 := FX.x d5 (t1.x (d := d) (c := c))
    have fn0 := d5.fresh hn0
    have s06 := s5.trans (t1.x (d := d) (c := c))
    have hn06 : (upd H5 n0 (.lst [])) n0 = some (.lst []) := upd_same
    generalize upd H5 n0 (.lst []) = H6 at *
    obtain ⟨ms, ⟨ha, a1, a2⟩, ⟨hb, b1, b2⟩, ⟨hm, m1, m2⟩, hms⟩ := id FX6
    refine ⟨_, rfl, a, _, rfl, SqL.of ha, ?_⟩
    refine for_it walk_enum (fun j σ H' => Same H6 H' ∧ ∃ (na : Addr) (ns : List V) (o13 o9 : Option V), σ = [some (.ref d), some (.int (kk : Int)), some (.int (most : Int)), some (.ref od), some (.ref a), some (.ref b), some (.ref m), o7, o8, o9, o10, o11, some (.ref na), o13, none, none] ∧
      H' na = some (.lst ns) ∧ na ≠ d ∧ na ≠ c ∧ All2 (PairV K H') ns (nmT sz j)) ⟨Same.refl _, n0, [], none, o9, rfl, hn06, fn0.1, fn0.2, All2.nil⟩ (fun j σ H' _ q => q.1.seq (SqL.of ha)) ?_ ?_
    · rintro j y σ H7 H8 hj ⟨s7, na, ns, o13, o9, rfl, hna, na1, na2, hal⟩ ⟨T1, x, z, rfl, hT, rfl, ex, ez⟩
      cases ex
      obtain ⟨s, hs, rfl⟩ := vN_get' ez
      have hsg : sz.getD j 0 = s := by rw [List.getD_eq_getElem?_getD, hs]; rfl
      have hs4 := (FF.szok _ (List.mem_of_getElem? hs)).2.1
      have sT := Same.new (o := .tup [V.int (j : Nat), V.int (s : Int)]) hT
      have hna8 := sT _ _ hna
      refine ⟨T1, _, rfl, SqT.of upd_same, rfl, _, _, rfl, _, _, rfl, rfl, ?_⟩
      refine ⟨_, rfl, _, rfl, _, rfl, by omega, by omega, ?_⟩
      rw [show ((s : Nat) : Int).toNat = s by omega]
      refine lc_all walk_range (fun D i y H => PairV K H y (j, i)) (by omega) (fun _ _ => trivial) ?_ ?_ ?_ (fun x H2 P P' h q => h _ _ q) (fun σ2 H3 P P' h q => h _ _ q) ?_
      · rintro D i y H9 H10 l1 l2 hD hD1 rfl h
        exact tupV_off hD1 h
      · rintro D i y H9 H10 s' h
        exact PairV.same h s'
      · rintro D i y H9 H10 l1 Kp hi hD s9 hD1 ⟨rfl, hy⟩ kp
        have ey : y = .int (i : Int) := by
          rw [hy]
          show V.int (0 + (i : Int)) = _
          rw [show (0 : Int) + (i : Int) = (i : Int) by omega]
        clear hy
        subst ey
        exact ⟨rfl, rfl, _, rfl, _, rfl, by show 2 ≤ sizeLine; decide, fun p hp => kp _ _ (Same.new hp) ⟨p, rfl, SqT.of upd_same⟩⟩
      · intro D H9 zs hD s9 eD hz hR
        have hna9 := s9 _ _ hna8
        have hnl : ns.length ≤ 100 := by
          rw [hal.len, nmT_len _ _ (by rw [vN_len] at hj; omega)]
          have : ∀ (l : List Nat) (n : Nat), (l.take n).sum ≤ l.sum := by
            intro l
            induction l with
            | nil => intro n; simp
            | cons a r ih =>
              intro n
              cases n with
              | zero => simp
              | succ n => have := ih n; simp; omega
          have := this sz j
          have := FF.sum
          omega
        refine ⟨na, D, ns, zs, rfl, rfl, hna9, eD, sz0 (by omega), fun p hp => ?_⟩
        have s10 := Same.new (o := .lst (ns ++ zs)) hp
        have d9 := ((d6.same s7).same sT).same s9
        have fp := d9.fresh hp
        refine ⟨((s7.trans sT).trans s9).trans s10, p, ns ++ zs, _, _, rfl, upd_same, fp.1, fp.2, ?_⟩
        rw [nmT_more, hsg]
        have h1 := hal.mono fun _ _ z => ((z.same sT).same s9).same s10
        have h2 : All2 (PairV K (upd H9 p (.lst (ns ++ zs)))) zs ((List.range s).map fun i => (j, i)) := by
          refine ⟨by rw [hz]; simp, fun i u q p1 p2 => ?_⟩
          have hi : i < s := by
            have := (List.getElem?_eq_some_iff.mp p1).1
            omega
          rw [List.getElem?_map, List.getElem?_range hi] at p2
          have := Option.some.inj p2
          subst this
          exact (hR i u p1).same s10
        refine ⟨by rw [List.length_append, List.length_append, h1.len, h2.len], fun i u cs p1 p2 => ?_⟩
        by_cases hi : i < ns.length
        · rw [List.getElem?_append_left hi] at p1
          rw [List.getElem?_append_left (by rw [← h1.len]; exact hi)] at p2
          exact h1.at_ _ _ _ p1 p2
        · rw [List.getElem?_append_right (by omega)] at p1
          rw [List.getElem?_append_right (by rw [← h1.len]; omega), ← h1.len] at p2
          exact h2.at_ _ _ _ p1 p2
    · rintro σ H7 ⟨s7, na, ns, o13, o9, rfl, hna, na1, na2, hal⟩
      rw [vN_len] at hal
      have hnl : (nmT sz sz.length).length ≤ most := by
        rw [nmT_len _ _ (Nat.le_refl _), List.take_length]
        exact FF.sum
      have d7 := d6.same s7
      refine ⟨_, rfl, _, rfl, _, rfl, _, rfl, _, rfl, d, c, .ref na, ns, nmT sz sz.length, rfl, d7, ⟨na, rfl, hna, na1, na2⟩, hal, by omega, ?_⟩
      rintro v H8 s8 d8 ⟨ys, ⟨ya, rfl, hya, y1, y2⟩, hperm⟩
      obtain ⟨nm', hal', hp'⟩ := All2.perm hperm (hal.mono fun _ _ z => z.x d7 s8)
      obtain ⟨ms8, ⟨ha8, _, _⟩, ⟨hb8, _, _⟩, ⟨hm8, _, _⟩, hms8⟩ := (FX6.x d6 (s7.x (d := d) (c := c))).x d7 s8
      refine ⟨by show 4 ≤ sizeLine; decide, fun t ht => ?_⟩
      have s9 := Same.new (o := .tup [.ref a, .ref b, .ref m, .ref ya]) ht
      refine k _ _ (((s06.trans (s7.x (d := d) (c := c))).trans s8).trans (s9.x (d := d) (c := c))) (d8.same s9) ⟨⟨sz, up, mp, nm'⟩, ⟨a, b, m, ya, ms8, ys, ⟨t, rfl, SqT.of upd_same⟩, SqL.of (s9 _ _ ha8), SqL.of (s9 _ _ hb8), SqL.of (s9 _ _ hm8), hms8.mono fun _ _ z => z.same s9, SqL.of (s9 _ _ hya), hal'.mono fun _ _ z => z.same s9⟩, ?_⟩
      refine ⟨FF.pos, FF.lu, FF.lm, by show sz.length ≤ 5; omega, by show nm'.length ≤ most; rw [hp'.length_eq]; exact hnl, FF.szok, FF.upok, FF.mpok, fun w i => ?_⟩
      rw [show ((w, i) ∈ nm') = ((w, i) ∈ nmT sz sz.length) from propext hp'.mem_iff, nmT_mem]
      constructor
      · rintro ⟨h1, h2⟩
        exact ⟨sz.getD w 0, by rw [List.getD_eq_getElem?_getD, List.getElem?_eq_getElem h1]; rfl, h2⟩
      · rintro ⟨s, h1, h2⟩
        have h1 : sz[w]? = some s := h1
        exact ⟨(List.getElem?_eq_some_iff.mp h1).1, by rw [List.getD_eq_getElem?_getD, h1]; exact h2⟩
end Mix
namespace Mix
open PySem PySem.Spec PyProof.Rows L2
theorem memT_putK {kvs : List (List Key × V)} {k : List Key} {v : V} {e : List Key × V} (h : e ∈ putK kvs k v) : e ∈ kvs ∨ e = (k, v) := by
  unfold putK at h
  split at h
  · obtain ⟨z, hz, rfl⟩ := List.mem_map.mp h
    by_cases c : z.1 = k
    · rw [if_pos c]
      exact .inr (by rw [c])
    · rw [if_neg c]
      exact .inl hz
  · rcases List.mem_append.mp h with h | h
    · exact .inl h
    · exact .inr (List.mem_singleton.mp h)
theorem valT_mem {kvs : List (List Key × V)} {k : List Key} {v : V} (h : valV kvs k = some v) : (k, v) ∈ kvs := by
  unfold valV at h
  cases e : kvs.find? fun kv => decide (kv.1 = k) with
  | none => rw [e] at h; cases h
  | some z =>
    rw [e] at h
    have h1 := List.find?_some e
    have h2 := List.mem_of_find?_eq_some e
    have h3 : z.1 = k := of_decide_eq_true h1
    have h4 : z.2 = v := Option.some.inj h
    rw [← h3, ← h4]
    exact h2
def kI (ks : List Int) : List Key := ks.map Sum.inl
theorem kI_V (ks : List Int) : (kI ks).map kV = vI ks := by
  unfold kI vI
  rw [List.map_map]
  rfl
def PvRnd (H3 : Hp) (d c fd sn : Addr) (kk L kp ev : Nat) (i : Nat) (σ : L2.St) (H' : Hp) : Prop :=
  (∀ a o, a ≠ d → a ≠ c → a ≠ fd → a ≠ sn → H3 a = some o → H' a = some o) ∧ DealAt H' d c ∧ ∃ (acc : List Nat) (kvs : List (List Key × V)) (o7 o8 : Option V), σ = [some (.ref d), some (.int (kk : Int)), some (.int (L : Int)), some (.int (kp : Int)), some (.int (ev : Int)), some (.ref fd), some (.ref sn), o7, o8] ∧
    H' fd = some (.lst (vN acc)) ∧ acc.length = i ∧ (∀ r ∈ acc, r < L) ∧ H' sn = some (.dT kvs) ∧ kvs.length ≤ i ∧ ∀ e ∈ kvs, ∃ r : Nat, e.2 = .int (r : Int) ∧ r < L
theorem pure_law_random {K : PySem.W.Frag} (vs : List V) (H : Hp) (Q : VK) (E : XK) (h : sp_law_random K vs H Q E) : t_law_random K { nx := fun _ H' => Q .non H', rt := Q } (start n_law_random vs) H := by
  obtain ⟨d, c, kk, most, L, rfl, dl, hkm, hl1, hlm, k⟩ := h
  obtain ⟨hk23, hk2, hk3, hm4, hm1⟩ := hkm.k
  refine ⟨_, rfl, d, c, 3, rfl, dl, by decide, by decide, ?_⟩
  rintro v H1 s1 d1 ⟨kp, rfl, hkp⟩
  refine ⟨_, rfl, d, c, 3, rfl, d1, by decide, by decide, ?_⟩
  rintro v H2 s2 d2 ⟨ev, rfl, hev⟩
  refine ⟨by show 0 ≤ sizeLine; decide, fun fd hfd => fun sn hsn => ⟨by show 4 ≤ sizeLine; decide, fun tt htt => ?_⟩⟩
  have t1 := Same.new (o := .lst []) hfd
  have t2 := Same.new (o := .dT []) hsn
  have t3 := Same.new (o := .tup [V.int (kp : Int), V.int (ev : Int), .ref fd, .ref sn]) htt
  have t13 := (t1.trans t2).trans t3
  refine ⟨tt, _, rfl, SqT.of upd_same, rfl, _, _, rfl, _, _, rfl, _, _, rfl, _, _, rfl, rfl, ?_⟩
  have ffd := d2.fresh hfd
  have fsn := (d2.same t1).fresh hsn
  have s02 := s1.trans s2
  have d3 := d2.same t13
  have hfd3 := (t2.trans t3) _ _ (upd_same (H := H2) (a := fd) (o := .lst []))
  have hsn3 := t3 _ _ (upd_same (H := upd H2 fd (.lst [])) (a := sn) (o := .dT []))
  have nfs : fd ≠ sn := ne_of hfd3 hsn3 (by intro z; cases z)
  have hfdH : ∀ a o, H a = some o → a ≠ d → a ≠ c → a ≠ fd := fun a o h h1 h2 => ne_of_none (s02 _ _ h1 h2 h) hfd
  have hsnH : ∀ a o, H a = some o → a ≠ d → a ≠ c → a ≠ sn := fun a o h h1 h2 => ne_of_none (t1 _ _ (s02 _ _ h1 h2 h)) hsn
  refine ⟨_, rfl, _, rfl, kk, L, rfl, hk3, by omega, pow_small (by omega) hk3, ?_⟩
  rintro v H3 s3 ⟨us, ca, rfl, hca0, hca, hus⟩
  have d4 := d3.same s3
  have cac := d3.fresh hca0
  have ca1 : ca ≠ fd := Ne.symm (ne_of_none hfd3 hca0)
  have ca2 : ca ≠ sn := Ne.symm (ne_of_none hsn3 hca0)
  have hus4 : All2 (fun u cs => ∃ a, u = .ref a ∧ (a ≠ d ∧ a ≠ c ∧ a ≠ fd ∧ a ≠ sn) ∧ H3 a = some (.lst (vN cs))) us (tuplesN L kk) := hus.mono fun u cs z => by
    obtain ⟨a, rfl, h0, h⟩ := z
    exact ⟨a, rfl, ⟨(d3.fresh h0).1, (d3.fresh h0).2, Ne.symm (ne_of_none hfd3 h0), Ne.symm (ne_of_none hsn3 h0)⟩, h⟩
  have s03 : SameX d c H H3 := s02.trans ((t13.trans s3).x)
  have tot : ∀ {H' : Hp}, (∀ a o, a ≠ d → a ≠ c → a ≠ fd → a ≠ sn → H3 a = some o → H' a = some o) → SameX d c H H' := fun e a o h1 h2 h => e a o h1 h2 (hfdH a o h h1 h2) (hsnH a o h h1 h2) (s03 a o h1 h2 h)
  refine ⟨ca, rfl, ⟨_, SqL.of hca⟩, ?_⟩
  refine for_list (xs := us) (PvRnd H3 d c fd sn kk L kp ev) ⟨fun _ _ _ _ _ _ h => h, d4, [], [], none, none, rfl, s3 _ _ hfd3, rfl, fun r h => by simp at h, s3 _ _ hsn3, by simp, fun e h => by simp at h⟩ (fun i σ H' _ q => SqL.of (q.1 _ _ cac.1 cac.2 ca1 ca2 hca)) ?_ ?_
  · rintro i y σ H4 hy ⟨e4, dl4, acc, kvs, o7, o8, rfl, hac, hacl, hacc, hkv, hkl, hkg⟩
    obtain ⟨cs, hcs, ra, rfl, ⟨ra1, ra2, ra3, ra4⟩, hra⟩ := hus4.get hy
    obtain ⟨hcl, hcb⟩ := mem_tuplesN.mp (List.mem_of_getElem? hcs)
    have hi64 : i < 64 := by
      have := (List.getElem?_eq_some_iff.mp hcs).1
      rw [tuplesN_len] at this
      have := pow_small (show L ≤ 4 by omega) hk3
      omega
    have hra4 := e4 _ _ ra1 ra2 ra3 ra4 hra
    -- the key, whatever way it was made
    have rest : ∀ (kt : Addr) (ks : List Int) (H5 : Hp), Same H4 H5 → H5 kt = some (.tup (vI ks)) → ks.length = kk → (∀ z ∈ ks, ∃ r : Nat, z = (r : Int) ∧ r < L) →
        (tSeq (tIfS (tB (tDNotIn (tVar 8) (tVar 6))) (sDPut (tVar 6) (tVar 8) (tIf (tAnd (tTest (tOp rGtI (tVar 3) (tC (.int 0)))) (tTest (tOp rEq (tCB (rMinT K) (tCons (tVar 8) tNil)) (tCB (rMinT K) (tCons (tVar 8) tNil))))) (tOp (rIxT K) (tVar 8) (tC (.int 0))) (tCall (sp_law_any K) [] E0 (tCons (tVar 0) (tCons (tVar 2) tNil))))) tNext)
  (tDrop (tBM K "list" rAppend (tVar 5) (tCons (tDGet (tVar 6) (tVar 8)) tNil)))) { nx := PvRnd H3 d c fd sn kk L kp ev (i + 1), rt := Q, bk := fun _ _ => True, ct := fun _ _ => True }
          [some (.ref d), some (.int (kk : Int)), some (.int (L : Int)), some (.int (kp : Int)), some (.int (ev : Int)), some (.ref fd), some (.ref sn), some (.ref ra), some (.ref kt)] H5 := by
      intro kt ks H5 s5 hkt hksl hks
      have hkt' : H5 kt = some (.tup ((kI ks).map kV)) := by rw [kI_V]; exact hkt
      have hkv5 := s5 _ _ hkv
      have hac5 := s5 _ _ hac
      have dl5 := dl4.same s5
      have ktd : kt ≠ sn := ne_of hkt hkv5 (by intro z; cases z)
      -- the append
      have app : ∀ (H6 : Hp) (kvs' : List (List Key × V)) (r : Nat), (∀ a o, a ≠ d → a ≠ c → a ≠ sn → H5 a = some o → H6 a = some o) → DealAt H6 d c → H6 sn = some (.dT kvs') → H6 kt = some (.tup ((kI ks).map kV)) → valV kvs' (kI ks) = some (.int (r : Int)) → r < L → kvs'.length ≤ i + 1 → (∀ e ∈ kvs', ∃ r : Nat, e.2 = .int (r : Int) ∧ r < L) →
          (tDrop (tBM K "list" rAppend (tVar 5) (tCons (tDGet (tVar 6) (tVar 8)) tNil))) { nx := PvRnd H3 d c fd sn kk L kp ev (i + 1), rt := Q, bk := fun _ _ => True, ct := fun _ _ => True }
          [some (.ref d), some (.int (kk : Int)), some (.int (L : Int)), some (.int (kp : Int)), some (.int (ev : Int)), some (.ref fd), some (.ref sn), some (.ref ra), some (.ref kt)] H6 := by
        intro H6 kvs' r e6 dl6 hs6 hk6 hv hr hl hg
        have hac6 := e6 _ _ ffd.1 ffd.2 nfs hac5
        refine ⟨_, rfl, tyL (SqL.of hac6), _, rfl, _, rfl, sn, .int (r : Int), rfl, by have := DGet.t hs6 hk6; rw [hv] at this; exact this, fd, _, _, rfl, rfl, hac6, sz1 (by rw [vN_len]; omega), fun a o h1 h2 h3 h4 h => ?_, ?_, acc ++ [r], kvs', _, _, rfl, by rw [upd_same, vN_snoc], by simp [hacl], fun q hq => ?_, by rw [upd_ne (Ne.symm nfs)]; exact hs6, hl, hg⟩
        · rw [upd_ne h3]
          exact e6 _ _ h1 h2 h4 (s5 _ _ (e4 _ _ h1 h2 h3 h4 h))
        · obtain ⟨ns, b, q1, q2, q3⟩ := dl6
          exact ⟨ns, b, by rw [upd_ne (Ne.symm ffd.1)]; exact q1, by rw [upd_ne (Ne.symm ffd.2)]; exact q2, q3⟩
        · rcases List.mem_append.mp hq with hq | hq
          · exact hacc q hq
          · rw [List.mem_singleton.mp hq]
            exact hr
      refine ⟨_, rfl, _, rfl, sn, valV kvs (kI ks), rfl, DGet.t hkv5 hkt', _, rfl, ?_⟩
      cases hv : valV kvs (kI ks) with
      | some v0 =>
        refine iff' rfl ?_
        obtain ⟨r, e, hr⟩ := hkg _ (valT_mem hv)
        have e' : v0 = .int (r : Int) := e
        subst e'
        exact app H5 kvs r (fun _ _ _ _ _ h => h) dl5 hkv5 hkt' hv hr (by omega) hkg
      | none =>
        refine ift rfl ?_
        -- the put
        have put : ∀ (r : Nat) (H6 : Hp), SameX d c H5 H6 → DealAt H6 d c → r < L → ∃ v, some (some (V.ref sn)) = some (some v) ∧ ∃ w, some (some (V.ref kt)) = some (some w) ∧ ∃ a H7, v = V.ref a ∧ DPut H6 a w (.int (r : Int)) H7 ∧
            (tDrop (tBM K "list" rAppend (tVar 5) (tCons (tDGet (tVar 6) (tVar 8)) tNil))) { nx := PvRnd H3 d c fd sn kk L kp ev (i + 1), rt := Q, bk := fun _ _ => True, ct := fun _ _ => True }
          [some (.ref d), some (.int (kk : Int)), some (.int (L : Int)), some (.int (kp : Int)), some (.int (ev : Int)), some (.ref fd), some (.ref sn), some (.ref ra), some (.ref kt)] H7 := by
          intro r H6 s6 dl6 hr
          have hsn6 := s6 _ _ fsn.1 fsn.2 hkv5
          have hkt6 : H6 kt = some (.tup ((kI ks).map kV)) := by
            obtain ⟨ns, b, q1, q2, _⟩ := dl5
            exact s6 _ _ (ne_of hkt q1 (by intro z; cases z)) (ne_of hkt q2 (by intro z; cases z)) hkt'
          refine ⟨_, rfl, _, rfl, sn, _, rfl, DPut.t hsn6 hkt6 (sz1 (by omega)), ?_⟩
          refine app _ (putK kvs (kI ks) (.int (r : Int))) r (fun a o h1 h2 h3 h => by rw [upd_ne h3]; exact s6 _ _ h1 h2 h) ?_ upd_same (by rw [upd_ne ktd]; exact hkt6) (by rw [valV_put, if_pos rfl]) hr (by have := length_putK kvs (kI ks) (.int (r : Int)); omega) fun e he => ?_
          · obtain ⟨ns, b, q1, q2, q3⟩ := dl6
            exact ⟨ns, b, by rw [upd_ne (Ne.symm fsn.1)]; exact q1, by rw [upd_ne (Ne.symm fsn.2)]; exact q2, q3⟩
          · rcases memT_putK he with he | he
            · exact hkg e he
            · rw [he]
              exact ⟨r, rfl, hr⟩
        have draw : ∃ w, some (some (V.ref d)) = some (some w) ∧ ∃ u, some (some (V.int (L : Int))) = some (some u) ∧ sp_law_any K [w, u] H5 (fun v H6 => ∃ x, some (some (V.ref sn)) = some (some x) ∧ ∃ w, some (some (V.ref kt)) = some (some w) ∧ ∃ a H7, x = V.ref a ∧ DPut H6 a w v H7 ∧
            (tDrop (tBM K "list" rAppend (tVar 5) (tCons (tDGet (tVar 6) (tVar 8)) tNil))) { nx := PvRnd H3 d c fd sn kk L kp ev (i + 1), rt := Q, bk := fun _ _ => True, ct := fun _ _ => True }
          [some (.ref d), some (.int (kk : Int)), some (.int (L : Int)), some (.int (kp : Int)), some (.int (ev : Int)), some (.ref fd), some (.ref sn), some (.ref ra), some (.ref kt)] H7) E0 := by
          refine ⟨_, rfl, _, rfl, d, c, L, rfl, dl5, by omega, by omega, ?_⟩
          rintro v H6 s6 dl6 ⟨r, rfl, hr⟩
          exact put r H6 s6 dl6 hr
        refine ⟨_, rfl, _, _, rfl, rfl, _, rfl, ?_⟩
        by_cases hk0 : (0 : Int) < (kp : Int)
        · refine ift (decide_eq_true hk0) ?_
          refine ⟨_, rfl, kt, ks, rfl, SqT.of hkt, by omega, fun m1 => ⟨_, rfl, kt, ks, rfl, SqT.of hkt, by omega, fun m2 => ⟨rfl, _, rfl, ?_⟩⟩⟩
          by_cases hmm : m1 = m2
          · refine ift (by simp [hmm]) ?_
            obtain ⟨z, zs, rfl⟩ := List.exists_cons_of_length_pos (show 0 < ks.length by omega)
            obtain ⟨r, rfl, hr⟩ := hks z (by simp)
            exact ⟨_, rfl, kt, _, 0, _, rfl, rfl, SqT.of hkt, atI_nat (j := 0) rfl, put r H5 SameX.refl dl5 hr⟩
          · refine iff' (by simp [hmm]) ?_
            exact draw
        · refine iff' (decide_eq_false hk0) ?_
          refine iff' rfl ?_
          exact draw
    have hmem : ∀ {zs : List Int}, (∀ z ∈ zs, z ∈ cs.map fun (c : Nat) => (c : Int)) → ∀ z ∈ zs, ∃ r : Nat, z = (r : Int) ∧ r < L := fun h z hz => by
      obtain ⟨r, hr, e⟩ := List.mem_map.mp (h z hz)
      exact ⟨r, e.symm, hcb r hr⟩
    refine ⟨_, rfl, rfl, _, rfl, ?_⟩
    by_cases hev0 : ev = 0
    · subst hev0
      refine ift (by simp) ?_
      refine ⟨_, rfl, ra, cs.map fun (c : Nat) => (c : Int), rfl, SqL.of (by rw [hra4, vN_vI]; rfl), by rw [List.length_map]; omega, fun ns' p hperm _ hp => ?_⟩
      have s5 := Same.new (o := .lst (ns'.map V.int)) hp
      refine ⟨p, _, rfl, .inl ⟨SqL.of upd_same, fun l hl => ?_⟩⟩
      exact rest l ns' _ (s5.trans (Same.new hl)) upd_same (by rw [hperm.length_eq, List.length_map, hcl]) (hmem fun z hz => hperm.mem_iff.mp hz)
    · refine iff' (by simp; omega) ?_
      refine ⟨_, rfl, ra, _, rfl, .inl ⟨SqL.of hra4, fun l hl => ?_⟩⟩
      exact rest l (cs.map fun (c : Nat) => (c : Int)) _ (Same.new hl) (by rw [upd_same, vN_vI]) (by rw [List.length_map, hcl]) (hmem fun z hz => hz)
  · rintro σ H4 ⟨e4, dl4, acc, kvs, o7, o8, rfl, hac, hacl, hacc, hkv, hkl, hkg⟩
    refine ⟨_, rfl, k _ _ (tot e4) dl4 ⟨fd, acc, rfl, hac, ffd.1, ffd.2, hl1, ?_, ?_, hacc⟩⟩
    · rcases hkm with ⟨rfl, rfl⟩ | ⟨rfl, rfl⟩
      · exact .inl ⟨rfl, hlm⟩
      · exact .inr ⟨rfl, hlm⟩
    · rw [hacl, hus4.len, tuplesN_len]
end Mix
namespace Mix
open PySem PySem.Spec PyProof.Rows L2
def tPairs : List (Nat × Nat) → TA
  | [] => tNil
  | q :: r => tCons (tTup (tCons (tC (.int (q.1 : Int))) (tCons (tC (.int (q.2 : Int))) tNil))) (tPairs r)
theorem tPairs_ok {K : PySem.W.Frag} {σ : L2.St} : ∀ {qs : List (Nat × Nat)} {H : Hp} {Q : List V → Hp → Prop}, (∀ xs H', Same H H' → All2 (PairV K H') xs qs → Q xs H') → tPairs qs σ H Q
  | [], H, Q, h => h [] H (Same.refl _) All2.nil
  | q :: r, H, Q, h => ⟨by show 2 ≤ sizeLine; decide, fun p hp => tPairs_ok (K := K) (qs := r) fun xs H' s a => h (.ref p :: xs) H' ((Same.new hp).trans s) (a.cons ⟨p, rfl, s.tup (SqT.of upd_same)⟩)⟩
def prsN : List (Nat × Nat) := [(1, 1), (2, 1), (3, 1), (1, 3), (2, 3), (2, 5), (1, 5), (1, 7), (2, 2), (1, 2), (1, 4), (2, 4)]
def fitN (k most : Nat) (q : Nat × Nat) : Bool := decide (((((q.2 + 1) ^ q.1 : Nat) : Int) - 1) / (q.2 : Int) ≤ (most : Int)) && decide (Nat.gcd q.2 k = 1)
theorem fit_ok {k most : Nat} (h : KM k most) : ∀ q ∈ prsN.filter (fitN k most), (k, q.1, q.2) ∈ stdOk := by
  rcases h with ⟨rfl, rfl⟩ | ⟨rfl, rfl⟩ <;> decide
theorem fit_one {k most : Nat} (h : KM k most) : prsN.filter (fitN k most) ≠ [] := by
  rcases h with ⟨rfl, rfl⟩ | ⟨rfl, rfl⟩ <;> decide
theorem prs_bd : ∀ q ∈ prsN, 1 ≤ q.1 ∧ q.1 ≤ 3 ∧ 1 ≤ q.2 ∧ q.2 ≤ 7 := by decide
theorem pure_law_table {K : PySem.W.Frag} (vs : List V) (H : Hp) (Q : VK) (E : XK) (h : sp_law_table K vs H Q E) : t_law_table K { nx := fun _ H' => Q .non H', rt := Q } (start n_law_table vs) H := by
  obtain ⟨d, c, kk, most, rfl, dl, hkm, k⟩ := h
  obtain ⟨hk23, hk2, hk3, hm4, hm1⟩ := hkm.k
  have hm2 : (2 : Int) < (most : Int) := by rcases hkm with ⟨_, rfl⟩ | ⟨_, rfl⟩ <;> decide
  refine ⟨_, rfl, _, _, rfl, rfl, _, rfl, ift (decide_eq_true hm2) ?_⟩
  refine ⟨_, rfl, d, c, 5, rfl, dl, by decide, by decide, ?_⟩
  rintro v H1 s1 d1 ⟨r, rfl, hr⟩
  refine ⟨rfl, _, rfl, ?_⟩
  by_cases hr0 : r = 0
  · subst hr0
    refine ift (by simp) ?_
    have start : (tSeq (tAsg (tLst (tPairs prsN)) (gName 3))
  (tSeq (tAsg (tLst tNil) (gName 4))
  (tSeq (tFor (iList K (tVar 3)) (gTup K 2 (gCons (gName 5) (gCons (gName 6) gNil)))
    (tIfS (tAnd (tTest (tOp rLeI (tOp rDivI (tOp rSubI (tCall (sp_law_power K) [] E0 (tCons (tOp rAddI (tVar 6) (tC (.int 1))) (tCons (tVar 5) tNil))) (tC (.int 1))) (tVar 6)) (tVar 2))) (tTest (tOp rEq (tCall (sp_law_divisor K) [] E0 (tCons (tVar 6) (tCons (tVar 1) tNil))) (tC (.int 1))))) (tDrop (tBM K "list" rAppend (tVar 4) (tCons (tTup (tCons (tVar 5) (tCons (tVar 6) tNil))) tNil))) tNext))
  (tSeq (tAsg (tCall (sp_law_of K) [] E0 (tCons (tVar 0) (tCons (tVar 4) tNil))) (gTup K 2 (gCons (gName 5) (gCons (gName 6) gNil))))
  (tSeq (tAsg (tCall (sp_law_standard K) [] E0 (tCons (tVar 1) (tCons (tVar 5) (tCons (tVar 6) tNil)))) (gName 7))
  (tRet (tTup (tCons (tOp (rIxT K) (tVar 7) (tC (.int 0))) (tCons (tOp (rIxT K) (tVar 7) (tC (.int 1))) tNil)))))))))
        { nx := fun _ _ => True, rt := Q } (start n_law_table [V.ref d, V.int (kk : Int), V.int (most : Int)]) H1 := by
      refine tPairs_ok (K := K) fun xs H2 s2 hal => ?_
      have hxl : xs.length = 12 := hal.len
      refine ⟨sz0 (by omega), fun la hla => ?_⟩
      have t1 := Same.new (o := .lst xs) hla
      refine ⟨by show 0 ≤ sizeLine; decide, fun fa hfa => ?_⟩
      have t2 := Same.new (o := .lst []) hfa
      have hla4 := t2 _ _ (upd_same (H := H2) (a := la) (o := .lst xs))
      have nlf : la ≠ fa := ne_of_none upd_same hfa
      have d2 := d1.same (s2.trans t1)
      have ffa := d2.fresh hfa
      have d4 := d2.same t2
      have hal4 := hal.mono fun _ _ z => (PairV.same z t1).same t2
      have s14 : SameX d c H _ := s1.trans (((s2.trans t1).trans t2).x)
      refine ⟨_, rfl, la, rfl, ⟨_, SqL.of hla4⟩, ?_⟩
      refine for_list (xs := xs) (fun i σ H' => SameX d c H H' ∧ DealAt H' d c ∧ H' la = some (.lst xs) ∧ All2 (PairV K H') xs prsN ∧ ∃ (fs : List V) (o5 o6 : Option V), σ = [some (.ref d), some (.int (kk : Int)), some (.int (most : Int)), some (.ref la), some (.ref fa), o5, o6, none, none] ∧
        H' fa = some (.lst fs) ∧ All2 (PairV K H') fs ((prsN.take i).filter (fitN kk most))) ⟨s14, d4, hla4, hal4, [], none, none, rfl, upd_same, All2.nil⟩ (fun i σ H' _ q => SqL.of q.2.2.1) ?_ ?_
      · rintro i y σ H5 hy ⟨s5, d5, hla5, hal5, fs, o5, o6, rfl, hfs, hfl⟩
        obtain ⟨⟨m, dd⟩, hq, ⟨pq, rfl, hpq⟩⟩ := hal5.get hy
        obtain ⟨m1, m3, dd1, dd7⟩ := prs_bd _ (List.mem_of_getElem? hq)
        have hi12 : i < 12 := by
          have := (List.getElem?_eq_some_iff.mp hy).1
          omega
        simp only at m1 m3 dd1 dd7
        refine ⟨pq, _, rfl, hpq, rfl, _, _, rfl, _, _, rfl, rfl, ?_⟩
        refine ⟨_, rfl, _, _, rfl, rfl, _, rfl, dd + 1, m, by show [V.int ((dd : Int) + 1), V.int (m : Int)] = _; rw [show ((dd : Int) + 1) = ((dd + 1 : Nat) : Int) by omega], by omega, m3, ?_⟩
        rintro v H6 s6 rfl
        have s06 := s5.trans (s6.x (d := d) (c := c))
        have hal6 := hal5.mono fun _ _ z => PairV.same z s6
        have hfl6 := hfl.mono fun _ _ z => PairV.same z s6
        have d6 := d5.same s6
        have more : ∀ (b : Bool), fitN kk most (m, dd) = b → (prsN.take (i + 1)).filter (fitN kk most) = (prsN.take i).filter (fitN kk most) ++ (if b = true then [(m, dd)] else []) := by
          intro b hb
          rw [take_more hq, List.filter_append]
          congr 1
          cases b with
          | true => simp [hb]
          | false => simp [hb]
        refine ⟨_, _, rfl, rfl, _, rfl, _, _, rfl, rfl, cdiv (n := 10) (by omega) (by show Int.natAbs _ < 1024; omega) (by decide), _, rfl, _, _, rfl, rfl, _, rfl, ?_⟩
        by_cases hle : (((dd + 1) ^ m : Nat) : Int) - 1 < 0 ∨ ((((dd + 1) ^ m : Nat) : Int) - 1) / (dd : Int) ≤ (most : Int)
        · have hle' : ((((dd + 1) ^ m : Nat) : Int) - 1) / (dd : Int) ≤ (most : Int) := by
            rcases hle with h | h
            · have : 0 < (dd + 1) ^ m := Nat.pow_pos (by omega)
              omega
            · exact h
          refine ift (decide_eq_true hle') ?_
          refine ⟨_, rfl, _, rfl, _, _, rfl, by omega, by omega, rfl, _, rfl, ?_⟩
          rw [Int.natAbs_natCast, Int.natAbs_natCast]
          by_cases hg : Nat.gcd dd kk = 1
          · refine ift (by simp [hg]) ?_
            have hfs6 := s6 _ _ hfs
            refine ⟨_, rfl, tyL (SqL.of hfs6), _, rfl, _, rfl, by show 2 ≤ sizeLine; decide, fun q hq2 => ?_⟩
            have u1 := Same.new (o := .tup [V.int (m : Int), V.int (dd : Int)]) hq2
            have hfs7 := u1 _ _ hfs6
            have fl : fs.length ≤ 12 := by
              rw [hfl.len]
              refine Nat.le_trans (List.length_filter_le _ _) ?_
              rw [List.length_take]
              omega
            refine ⟨fa, fs, _, rfl, rfl, hfs7, sz1 (by omega), ?_, ?_, ?_, ?_, fs ++ [.ref q], _, _, rfl, upd_same, ?_⟩
            · intro a o h1 h2 h
              have na : a ≠ fa := by
                intro e
                have h9 := s1 _ _ h1 h2 h
                have h10 := (s2.trans t1) _ _ h9
                rw [e, hfa] at h10
                cases h10
              rw [upd_ne na]
              exact u1 _ _ (s06 a o h1 h2 h)
            · obtain ⟨ns, b, q1, q2, q3⟩ := d6.same u1
              exact ⟨ns, b, by rw [upd_ne (Ne.symm ffa.1)]; exact q1, by rw [upd_ne (Ne.symm ffa.2)]; exact q2, q3⟩
            · rw [upd_ne nlf]
              exact u1 _ _ (s6 _ _ hla5)
            · exact hal6.mono fun _ _ z => tupV_off hfs7 (PairV.same z u1)
            · rw [more true (by unfold fitN; simp only [decide_eq_true hle', decide_eq_true hg]; rfl), if_pos rfl]
              exact (hfl6.mono fun _ _ z => tupV_off hfs7 (PairV.same z u1)).snoc (tupV_off hfs7 ⟨q, rfl, SqT.of upd_same⟩)
          · refine iff' (by simp; omega) ?_
            refine ⟨s06, d6, s6 _ _ hla5, hal6, fs, _, _, rfl, s6 _ _ hfs, ?_⟩
            rw [more false (by unfold fitN; simp only [decide_eq_false hg, Bool.and_false]), if_neg (by decide), List.append_nil]
            exact hfl6
        · have hle' : ¬ ((((dd + 1) ^ m : Nat) : Int) - 1) / (dd : Int) ≤ (most : Int) := fun h => hle (.inr h)
          refine iff' (decide_eq_false hle') ?_
          refine iff' rfl ?_
          refine ⟨s06, d6, s6 _ _ hla5, hal6, fs, _, _, rfl, s6 _ _ hfs, ?_⟩
          rw [more false (by unfold fitN; simp only [decide_eq_false hle', Bool.false_and]), if_neg (by decide), List.append_nil]
          exact hfl6
      · rintro σ H5 ⟨s5, d5, hla5, hal5, fs, o5, o6, rfl, hfs, hfl⟩
        rw [hxl, show prsN.take 12 = prsN from rfl] at hfl
        have hfs0 : fs ≠ [] := by
          intro e
          have := hfl.len
          rw [e] at this
          exact fit_one hkm (List.length_eq_zero_iff.mp this.symm)
        have fl : fs.length ≤ 12 := by
          rw [hfl.len]
          exact List.length_filter_le _ _
        refine ⟨_, rfl, _, rfl, d, c, fa, fs, rfl, d5, hfs, ffa.1, ffa.2, hfs0, by omega, ?_⟩
        rintro v H6 s6 d6 hv
        obtain ⟨j, hj⟩ := List.mem_iff_getElem?.mp hv
        obtain ⟨⟨m, dd⟩, hq, pq⟩ := hfl.get hj
        obtain ⟨pt, rfl, hpt⟩ := pq.x d5 s6
        refine ⟨pt, _, rfl, hpt, rfl, _, _, rfl, _, _, rfl, rfl, ?_⟩
        refine ⟨_, rfl, _, rfl, _, rfl, kk, m, dd, rfl, fit_ok hkm _ (List.mem_of_getElem? hq), ?_⟩
        rintro v H7 s7 ⟨rr, nv, L, res, ⟨pv, rfl, hpv⟩, hr0, hrr, okk⟩
        have d7 := d6.same s7
        have fr := d6.fresh hr0
        refine ⟨_, rfl, pv, _, 0, _, rfl, rfl, hpv, rfl, _, rfl, pv, _, 1, _, rfl, rfl, hpv, rfl, by show 2 ≤ sizeLine; decide, fun p hp => ?_⟩
        exact k _ _ ((s5.trans s6).trans ((s7.trans (Same.new hp)).x)) (d7.new hp) ⟨rr, L, res, ⟨p, rfl, SqT.of upd_same⟩, by rw [upd_ne (ne_of_none hrr hp)]; exact hrr, fr.1, fr.2, okk⟩
    exact start
  · refine iff' (by simp; omega) ?_
    refine ⟨_, rfl, _, rfl, _, rfl, d, c, kk, most, rfl, d1, hkm, ?_⟩
    rintro v H2 s2 d2 ⟨F, hF, ok⟩
    obtain ⟨a, b, m, n, ms, ns, ⟨pf, rfl, hpf⟩, ha, hb, hm, hms, hn, hns⟩ := id hF
    refine ⟨_, rfl, pf, _, 3, .ref n, rfl, rfl, hpf, rfl, n, ns, rfl, .inl hn, _, rfl, _, rfl, .ref pf, F, kk, most, rfl, hkm, hF, ok, ?_⟩
    rintro v H3 s3 ⟨rr, res, rfl, hr0, hrr, okk⟩
    have fr := d2.fresh hr0
    refine ⟨by show 2 ≤ sizeLine; decide, fun p hp => ?_⟩
    refine k _ _ ((s1.trans s2).trans ((s3.trans (Same.new hp)).x)) ((d2.same s3).new hp) ⟨rr, F.nm.length, res, ⟨p, rfl, SqT.of ?_⟩, by rw [upd_ne (ne_of_none hrr hp)]; exact hrr, fr.1, fr.2, okk⟩
    rw [upd_same, hns.len]
end Mix
namespace Mix
open PySem PySem.Spec PyProof.Rows L2
/-! ### the cases of a standard table, plain -/
abbrev Cs := List Nat × List Nat
def insN (m : Nat) (row : List Nat) : List Nat := (List.range m).filter fun i => decide (0 < row.getD i 0)
def resN (row : List Nat) : List Nat := row.map fun s => s - 1
def okC (m d : Nat) (row : List Nat) : Bool := (!decide (insN m row = [])) && decide ((((resN row).sum : Int) - 1) % (d : Int) = 0)
def casesN (m d : Nat) : List Cs := ((tuplesN (d + 1) m).filter (okC m d)).map fun row => (insN m row, resN row)
def combI (m : Nat) (e : List Cs) : List Nat := (List.range m).filter fun i => e.any fun p => decide (i ∈ p.1)
def combR (m d st : Nat) (e : List Cs) : List Nat := (List.range m).map fun i => ((e.map fun p => p.2.getD i 0).sum * st) % d
def nameC (m d i : Nat) : Cs := ([i], (List.range m).map fun j => if j = i then 1 % d else 0)
theorem std_dec : ∀ t ∈ stdOk, (∀ row ∈ tuplesN (casesN t.2.1 t.2.2).length t.1, (combI t.2.1 (row.map fun i => (casesN t.2.1 t.2.2).getD i ([], [])), combR t.2.1 t.2.2 (invN t.1 t.2.2) (row.map fun i => (casesN t.2.1 t.2.2).getD i ([], []))) ∈ casesN t.2.1 t.2.2) ∧
    (∀ i ∈ List.range t.2.1, nameC t.2.1 t.2.2 i ∈ casesN t.2.1 t.2.2) ∧ (casesN t.2.1 t.2.2).length ≤ 3 ∧ 1 ≤ (casesN t.2.1 t.2.2).length ∧ t.1 ≤ 3 ∧ 2 ≤ t.1 ∧ t.2.1 ≤ 2 ∧ 1 ≤ t.2.1 ∧ 1 ≤ t.2.2 ∧ t.2.2 ≤ 7 ∧ Nat.gcd t.2.2 t.1 = 1 ∧ (t.2.2 + 1) ^ t.2.1 ≤ 64 := by
  decide +kernel
theorem ex_row {α : Type} {xs : List α} (dflt : α) : ∀ {e : List α}, (∀ p ∈ e, p ∈ xs) → ∃ row : List Nat, row.length = e.length ∧ (∀ i ∈ row, i < xs.length) ∧ (row.map fun i => xs.getD i dflt) = e
  | [], _ => ⟨[], rfl, fun i h => by simp at h, rfl⟩
  | p :: r, h => by
    obtain ⟨row, h1, h2, h3⟩ := ex_row dflt (e := r) fun q hq => h q (List.mem_cons_of_mem _ hq)
    obtain ⟨i, hi⟩ := List.mem_iff_getElem?.mp (h p List.mem_cons_self)
    refine ⟨i :: row, by simp [h1], fun j hj => ?_, ?_⟩
    · rcases List.mem_cons.mp hj with rfl | hj
      · exact (List.getElem?_eq_some_iff.mp hi).1
      · exact h2 j hj
    · rw [List.map_cons, h3, List.getD_eq_getElem?_getD, hi]
      rfl
theorem std_comb {k m d : Nat} (h : (k, m, d) ∈ stdOk) {e : List Cs} (hl : e.length = k) (he : ∀ p ∈ e, p ∈ casesN m d) : (combI m e, combR m d (invN k d) e) ∈ casesN m d := by
  obtain ⟨row, h1, h2, h3⟩ := ex_row (([], []) : Cs) he
  have := (std_dec _ h).1 row (mem_tuplesN.mpr ⟨by rw [h1]; exact hl, h2⟩)
  rw [h3] at this
  exact this
/-! ### a case in the heap -/
def iN (a : List Nat) : List Int := a.map fun (c : Nat) => (c : Int)
theorem iN_vI (a : List Nat) : vI (iN a) = vN a := (vN_vI a).symm
def CaseV (K : PySem.W.Frag) (H : Hp) (v : V) (q : Cs) : Prop := ∃ pa pb, TupV K H v [.ref pa, .ref pb] ∧ SqT K H pa (vN q.1) ∧ SqT K H pb (vN q.2)
def caseD (q : Cs) : PyData := .tuple [.tuple ((iN q.1).map PyData.int), .tuple ((iN q.2).map PyData.int)]
section
variable {K : PySem.W.Frag} {H H' : Hp}
theorem CaseV.mono {v : V} {q : Cs} (h : CaseV K H v q) (e : Same H H') : CaseV K H' v q := by
  obtain ⟨pa, pb, h1, h2, h3⟩ := h
  exact ⟨pa, pb, h1.mono e, e.tup h2, e.tup h3⟩
theorem CaseV.off {v : V} {q : Cs} {D : Addr} {l l' : List V} (e : H D = some (.lst l)) (h : CaseV K H v q) : CaseV K (upd H D (.lst l')) v q := by
  obtain ⟨pa, pb, h1, h2, h3⟩ := h
  have f : ∀ {p : Addr} {xs : List V}, SqT K H p xs → SqT K (upd H D (.lst l')) p xs := fun h => by
    obtain ⟨p, ep, h⟩ := tupV_off (l' := l') e ⟨_, rfl, h⟩
    cases ep
    exact h
  exact ⟨pa, pb, tupV_off e h1, f h2, f h3⟩
theorem dp_vN (a : List Nat) : DpAll K H (vN a) ((iN a).map PyData.int) := by
  rw [← iN_vI]
  exact dp_vI _
theorem dp_case {v : V} {q : Cs} (h : CaseV K H v q) : Dp K H v (caseD q) := by
  obtain ⟨pa, pb, ⟨p, rfl, h1⟩, h2, h3⟩ := h
  exact .tup h1 (.cons (.tup h2 (dp_vN _)) (.cons (.tup h3 (dp_vN _)) .nil))
theorem dp_cases : ∀ {vs : List V} {qs : List Cs}, All2 (CaseV K H) vs qs → DpAll K H vs (qs.map caseD)
  | [], [], _ => .nil
  | [], q :: qs, h => by cases h.len
  | v :: vs, qs, h => by
    obtain ⟨q, qs', rfl, h1, h2⟩ := h.tail
    exact .cons (dp_case h1) (dp_cases h2)
end
theorem caseD_lay (q : Cs) : (caseD q).canLay0 = true := by simp [caseD, PyData.canLay0, PyData.canLayAll0, PySem.W.ke_canLayAll0]
theorem caseD_depth (q : Cs) : (caseD q).depth ≤ 2 := by simp [caseD, PyData.depth, PyData.depthAll, PySem.W.ke_depthAll]
theorem caseDs_lay : ∀ qs : List Cs, PyData.canLayAll0 (qs.map caseD) = true
  | [] => rfl
  | q :: qs => by simp [PyData.canLayAll0, caseD_lay q, caseDs_lay qs]
theorem caseDs_depth : ∀ qs : List Cs, PyData.depthAll (qs.map caseD) ≤ 2
  | [] => by simp [PyData.depthAll]
  | q :: qs => by
    have h1 := caseDs_depth qs
    have h2 := caseD_depth q
    simp only [List.map_cons, PyData.depthAll]
    omega
theorem caseD_shaped (q : Cs) : SeqAt.shaped (caseD q) = true := by
  have := caseD_depth q
  show ((caseD q).canLay0 && decide ((caseD q).depth ≤ 64)) = true
  rw [Bool.and_eq_true]
  exact ⟨caseD_lay q, decide_eq_true (by omega)⟩
theorem caseDs_shaped (qs : List Cs) : SeqAt.shaped (.list (qs.map caseD)) = true := by
  have h1 := caseDs_depth qs
  have h2 : PyData.depth (.list (qs.map caseD)) ≤ 64 := by
    simp only [PyData.depth]
    omega
  show (PyData.canLay0 (.list (qs.map caseD)) && decide (PyData.depth (.list (qs.map caseD)) ≤ 64)) = true
  rw [Bool.and_eq_true]
  exact ⟨by simp only [PyData.canLay0]; exact caseDs_lay qs, decide_eq_true h2⟩
theorem iN_inj' : ∀ {a b : List Nat}, iN a = iN b → a = b
  | [], [], _ => rfl
  | [], _ :: _, h => by cases h
  | _ :: _, [], h => by cases h
  | x :: r, y :: t, h => by
    have h1 : (x : Int) = (y : Int) := (List.cons.inj h).1
    have h2 := iN_inj' (List.cons.inj h).2
    rw [h2, show x = y by omega]
theorem iN_inj {a b : List Nat} : iN a = iN b ↔ a = b := ⟨iN_inj', fun h => by rw [h]⟩
theorem caseD_eqv (p q : Cs) : PyData.eqv (caseD p) (caseD q) = decide (p = q) := by
  obtain ⟨a, b⟩ := p
  obtain ⟨a', b'⟩ := q
  unfold caseD
  rw [eqv_tup]
  simp only [PyData.eqvAll, eqv_t, iN_inj, Bool.and_true]
  by_cases h1 : a = a' <;> by_cases h2 : b = b' <;> simp [h1, h2]
theorem caseD_alike (p q : Cs) : PySem.W.alike (caseD p) (caseD q) = true := by
  simp [caseD, PySem.W.alike, PySem.W.alikeAll, PySem.W.alike_ints]
theorem fm_flt (n : Nat) (p : Nat → Bool) : (List.range n).filterMap (fun i => if p i = true then some (V.int (i : Int)) else none) = vN ((List.range n).filter p) := by
  induction n with
  | zero => rfl
  | succ n ih =>
    rw [filterMap_more, ih, List.range_succ, List.filter_append]
    by_cases c : p n = true
    · rw [if_pos c, show List.filter p [n] = [n] by simp [c], vN_snoc]
    · rw [if_neg c, show List.filter p [n] = [] by simp [c]]
      simp
theorem fm_map (n : Nat) (f : Nat → Nat) : (List.range n).filterMap (fun i => some (V.int (f i : Int))) = vN ((List.range n).map f) := by
  rw [range_filterMap_some]
  unfold vN
  rw [List.map_map]
  rfl
theorem getD_get {α : Type} {l : List α} {i : Nat} {x y : α} (h : l[i]? = some x) : l.getD i y = x := by
  rw [List.getD_eq_getElem?_getD, h]
  rfl
theorem tupOf {K : PySem.W.Frag} {H : Hp} {D : Addr} {xs : List V} {Q : VK} (e : H D = some (.lst xs)) (k : ∀ p, H p = none → Q (.ref p) (upd H p (.tup xs))) : rTupOf K [.ref D] H Q := ⟨D, xs, rfl, .inl ⟨SqL.of e, k⟩⟩
/-- zip with data -/
theorem zip_fst {α β : Type} : ∀ {l : List α} {m : List β}, l.length = m.length → (l.zip m).map (·.1) = l ∧ (l.zip m).map (·.2) = m
  | [], [], _ => ⟨rfl, rfl⟩
  | [], _ :: _, h => by cases h
  | _ :: _, [], h => by cases h
  | a :: l, b :: m, h => by
    obtain ⟨h1, h2⟩ := zip_fst (l := l) (m := m) (by simpa using h)
    exact ⟨by simp [h1], by simp [h2]⟩
theorem zip_dp {K : PySem.W.Frag} {H : Hp} : ∀ {vs : List V} {qs : List Cs}, All2 (CaseV K H) vs qs → ∀ p ∈ vs.zip (qs.map caseD), Dp K H p.1 p.2 ∧ ∃ q, p.2 = caseD q
  | [], _, _, p, hp => by simp at hp
  | v :: vs, qs, h, p, hp => by
    obtain ⟨q, qs', rfl, h1, h2⟩ := h.tail
    rw [List.map_cons, List.zip_cons_cons] at hp
    rcases List.mem_cons.mp hp with rfl | hp
    · exact ⟨dp_case h1, q, rfl⟩
    · exact zip_dp h2 p hp
theorem ne_iN {X : List Nat} (h : ¬ X = []) : (!decide ((iN X).map PyData.int = [])) = true := by
  cases X with
  | nil => exact absurd rfl h
  | cons a r => rfl
theorem case_ok {m d : Nat} {q : Cs} (h : q ∈ casesN m d) : q.2.length = m ∧ ∀ x ∈ q.2, x ≤ d := by
  unfold casesN at h
  obtain ⟨row, hr, rfl⟩ := List.mem_map.mp h
  obtain ⟨h1, h2⟩ := mem_tuplesN.mp (List.mem_filter.mp hr).1
  refine ⟨by simp [resN, h1], fun x hx => ?_⟩
  obtain ⟨y, hy, rfl⟩ := List.mem_map.mp hx
  have := h2 y hy
  omega
theorem sum_le_of {b : Nat} : ∀ {l : List Nat}, (∀ x ∈ l, x ≤ b) → l.sum ≤ l.length * b
  | [], _ => by simp
  | a :: r, h => by
    have h1 := h a (by simp)
    have h2 := sum_le_of (l := r) fun x hx => h x (by simp [hx])
    rw [List.sum_cons, List.length_cons, Nat.add_mul]
    omega
theorem pure_law_standard {K : PySem.W.Frag} (vs : List V) (H : Hp) (Q : VK) (E : XK) (h : sp_law_standard K vs H Q E) : t_law_standard K { nx := fun _ H' => Q .non H', rt := Q } (start n_law_standard vs) H := by
  obtain ⟨kk, m, d, rfl, hst, k⟩ := h
  obtain ⟨_, hname, hL3, hL1, hk3, hk2, hm2, hm1, hd1, hd7, hgcd, h64⟩ := std_dec _ hst
  simp only at hname hL3 hL1 hk3 hk2 hm2 hm1 hd1 hd7 hgcd h64
  have hcomb := fun {e : List Cs} => std_comb hst (e := e)
  refine ⟨by show 0 ≤ sizeLine; decide, fun ca hca => ?_⟩
  have t1 := Same.new (o := .lst []) hca
  refine ⟨_, rfl, _, rfl, kk, d, rfl, by omega, hd1, hd7, hgcd, ?_⟩
  rintro v H1 s1 rfl
  refine ⟨by show 2 ≤ sizeLine; decide, fun tt htt => ?_⟩
  have t2 := Same.new (o := .tup [.ref ca, .int (invN kk d : Int)]) htt
  refine ⟨tt, _, rfl, SqT.of upd_same, rfl, _, _, rfl, _, _, rfl, rfl, ?_⟩
  have s02 := (t1.trans s1).trans t2
  have hca2 := (s1.trans t2) _ _ (upd_same (H := H) (a := ca) (o := .lst []))
  refine ⟨_, rfl, _, rfl, _, _, rfl, rfl, m, d + 1, by show [V.int (m : Int), V.int ((d : Int) + 1)] = _; rw [show ((d : Int) + 1) = ((d + 1 : Nat) : Int) by omega], by omega, by omega, h64, ?_⟩
  rintro v H3 s3 ⟨us, la, rfl, hla0, hla, hus⟩
  have s03 := s02.trans s3
  have hca3 := s3 _ _ hca2
  have nla : la ≠ ca := Ne.symm (ne_of_none hca2 hla0)
  have hus4 : All2 (fun u cs => ∃ a, u = .ref a ∧ a ≠ ca ∧ H3 a = some (.lst (vN cs))) us (tuplesN (d + 1) m) := hus.mono fun u cs z => by
    obtain ⟨a, rfl, h0, h⟩ := z
    exact ⟨a, rfl, Ne.symm (ne_of_none hca2 h0), h⟩
  refine ⟨la, rfl, ⟨_, SqL.of hla⟩, ?_⟩
  refine for_list (xs := us) (fun i σ H' => (∀ a o, a ≠ ca → H3 a = some o → H' a = some o) ∧ Same H H' ∧ ∃ (cs : List V) (o5 o6 o7 : Option V), σ = [some (.int (kk : Int)), some (.int (m : Int)), some (.int (d : Int)), some (.ref ca), some (.int (invN kk d : Int)), o5, o6, o7, none, none, none, none, none] ∧
    H' ca = some (.lst cs) ∧ All2 (CaseV K H') cs ((((tuplesN (d + 1) m).take i).filter (okC m d)).map fun row => (insN m row, resN row))) ⟨fun _ _ _ h => h, s03, [], none, none, none, rfl, hca3, All2.nil⟩ (fun i σ H' _ q => SqL.of (q.1 _ _ nla hla)) ?_ ?_
  · rintro i y σ H4 hy ⟨e4, s4, cs, o5, o6, o7, rfl, hcs, hal⟩
    obtain ⟨row, hrow, ra, rfl, nra, hra⟩ := hus4.get hy
    obtain ⟨hrl, hrb⟩ := mem_tuplesN.mp (List.mem_of_getElem? hrow)
    have hra4 := e4 _ _ nra hra
    have hi64 : i < 64 := by
      have := (List.getElem?_eq_some_iff.mp hrow).1
      rw [tuplesN_len] at this
      omega
    have hcl : cs.length ≤ 64 := by
      rw [hal.len, List.length_map]
      refine Nat.le_trans (List.length_filter_le _ _) ?_
      rw [List.length_take]
      omega
    -- inside
    refine ⟨_, rfl, _, rfl, by omega, by omega, ?_⟩
    rw [show ((m : Nat) : Int).toNat = m by omega]
    refine lc_flat walk_range (fun i => if (decide (0 < row.getD i 0)) = true then some (V.int (i : Int)) else none) (by omega) (fun _ _ => trivial) ?_ ?_
    · rintro j y H5 H6 Kp Ks hj s5 ⟨rfl, hy⟩ kp ks
      have ey : y = .int (j : Int) := by
        rw [hy]
        show V.int (0 + (j : Int)) = _
        rw [show (0 : Int) + (j : Int) = (j : Int) by omega]
      clear hy
      subst ey
      have hx : row[j]? = some (row.getD j 0) := by
        rw [List.getD_eq_getElem?_getD, List.getElem?_eq_getElem (by omega)]
        rfl
      refine ⟨rfl, ?_⟩
      refine ⟨_, rfl, _, rfl, ra, _, _, _, rfl, rfl, SqL.of (s5 _ _ hra4), atI_nat (vN_get hx), _, _, rfl, rfl, _, rfl, ?_⟩
      by_cases hc : 0 < row.getD j 0
      · refine ift (decide_eq_true (by omega)) ?_
        exact ⟨_, rfl, kp _ _ (Same.refl _) (by rw [if_pos (decide_eq_true hc)])⟩
      · refine iff' (decide_eq_false (by omega)) ?_
        exact ks _ (Same.refl _) (by rw [if_neg (by rw [decide_eq_false hc]; exact Bool.false_ne_true)])
    intro D5 H5 hD5 s5 e5
    rw [fm_flt m fun i => decide (0 < row.getD i 0)] at e5
    refine ⟨D5, _, rfl, .inl ⟨SqL.of e5, fun pa hpa => ?_⟩⟩
    have s6 := Same.new (o := .tup (vN ((List.range m).filter fun i => decide (0 < row.getD i 0)))) hpa
    have s46 := s5.trans s6
    have hpa6 : (upd H5 pa (.tup (vN ((List.range m).filter fun i => decide (0 < row.getD i 0))))) pa = some (.tup (vN (insN m row))) := upd_same
    generalize (upd H5 pa (.tup (vN ((List.range m).filter fun i => decide (0 < row.getD i 0))))) = H6 at *
    -- rest
    have hra6 := s46 _ _ hra4
    refine ⟨_, rfl, ra, rfl, ⟨_, SqL.of hra6⟩, ?_⟩
    refine lc_flat walk_list (fun i => some (.int ((((row.map fun s => s - 1).getD i 0 : Nat)) : Int))) (by rw [vN_len]; omega) (fun H' s => s.seq (SqL.of hra6)) ?_ ?_
    · rintro j y H7 H8 Kp Ks hj s7 ⟨rfl, hy⟩ kp ks
      obtain ⟨s, hs, rfl⟩ := vN_get' hy
      have e0 : (row.map fun s => s - 1).getD j 0 = s - 1 := getD_get (by rw [List.getElem?_map, hs]; rfl)
      refine ⟨rfl, ?_⟩
      refine ⟨_, rfl, rfl, _, rfl, ?_⟩
      by_cases h0 : s = 0
      · subst h0
        refine ift (by simp) ?_
        exact kp _ _ (Same.refl _) (by rw [e0]; rfl)
      · refine iff' (by simp; omega) ?_
        refine ⟨_, rfl, _, _, rfl, rfl, kp _ _ (Same.refl _) ?_⟩
        rw [e0]
        show some (V.int ((s - 1 : Nat) : Int)) = some (V.int ((s : Int) - 1))
        congr 2
        omega
    intro D7 H7 hD7 s7 e7
    rw [fm_vN (by rw [vN_len, List.length_map])] at e7
    refine ⟨D7, _, rfl, .inl ⟨SqL.of e7, fun pb hpb => ?_⟩⟩
    have s8 := Same.new (o := .tup (vN (row.map fun s => s - 1))) hpb
    have s48 := s46.trans (s7.trans s8)
    have hpa8 := (s7.trans s8) _ _ hpa6
    have hpb8 : (upd H7 pb (.tup (vN (row.map fun s => s - 1)))) pb = some (.tup (vN (resN row))) := upd_same
    generalize (upd H7 pb (.tup (vN (row.map fun s => s - 1)))) = H8 at *
    have hcs8 := s48 _ _ hcs
    -- the end of a turn
    have more : (((tuplesN (d + 1) m).take (i + 1)).filter (okC m d)).map (fun row => (insN m row, resN row)) = (((tuplesN (d + 1) m).take i).filter (okC m d)).map (fun row => (insN m row, resN row)) ++ (if okC m d row = true then [(insN m row, resN row)] else []) := by
      rw [take_more hrow, List.filter_append, List.map_append]
      congr 1
      by_cases c : okC m d row = true
      · rw [if_pos c, show List.filter (okC m d) [row] = [row] by simp [c]]
        rfl
      · rw [if_neg c, show List.filter (okC m d) [row] = [] by simp [c]]
        rfl
    have skip : ∀ (H9 : Hp), Same H8 H9 → ¬ okC m d row = true → (∀ a o, a ≠ ca → H3 a = some o → H9 a = some o) ∧ Same H H9 ∧ ∃ (cs : List V) (o5 o6 o7 : Option V), [some (V.int (kk : Int)), some (.int (m : Int)), some (.int (d : Int)), some (.ref ca), some (.int (invN kk d : Int)), some (.ref ra), some (.ref pa), some (.ref pb), none, none, none, none, none] = [some (.int (kk : Int)), some (.int (m : Int)), some (.int (d : Int)), some (.ref ca), some (.int (invN kk d : Int)), o5, o6, o7, none, none, none, none, none] ∧
        H9 ca = some (.lst cs) ∧ All2 (CaseV K H9) cs ((((tuplesN (d + 1) m).take (i + 1)).filter (okC m d)).map fun row => (insN m row, resN row)) := by
      intro H9 s9 hno
      refine ⟨fun a o h1 h2 => s9 _ _ (s48 _ _ (e4 a o h1 h2)), (s4.trans s48).trans s9, cs, _, _, _, rfl, s9 _ _ hcs8, ?_⟩
      rw [more, if_neg hno, List.append_nil]
      exact hal.mono fun _ _ z => (z.mono s48).mono s9
    refine ⟨_, rfl, by show 0 ≤ sizeLine; decide, fun q hq => ?_⟩
    have s9 := Same.new (o := .tup []) hq
    refine ⟨.tuple ((iN (insN m row)).map PyData.int), .tuple [], .tup (SqT.of (s9 _ _ hpa8)) (dp_vN _), .tup (SqT.of upd_same) .nil, shaped_t _, shaped_t [], _, rfl, ?_⟩
    rw [eqv_tup, eqvAll_nil]
    by_cases hin : insN m row = []
    · refine iff' (by simp [hin, iN]) ?_
      refine iff' rfl ?_
      exact skip _ s9 (by unfold okC; simp [hin])
    refine ift (by simp [iN, hin]) ?_
    have hpb9 := s9 _ _ hpb8
    refine ⟨_, rfl, pb, iN (resN row), rfl, SqT.of (by rw [hpb9, ← iN_vI]; rfl), _, _, rfl, rfl, .inl ⟨_, rfl, _, rfl, _, _, rfl, rfl, by omega, rfl, _, rfl, ?_⟩⟩
    rw [show (iN (resN row)).sum = ((resN row).sum : Int) from sum_cast _]
    by_cases hsm : (((resN row).sum : Int) - 1) % (d : Int) = 0
    · refine ift (by simp [hsm]) ?_
      have hok : okC m d row = true := by unfold okC; simp [hin, hsm]
      have hcs9 := s9 _ _ hcs8
      refine ⟨_, rfl, tyL (SqL.of hcs9), _, rfl, _, rfl, by show 2 ≤ sizeLine; decide, fun q2 hq2 => ?_⟩
      have s10 := Same.new (o := .tup [.ref pa, .ref pb]) hq2
      have s910 := s9.trans s10
      have hcs10 := s10 _ _ hcs9
      refine ⟨ca, cs, _, rfl, rfl, hcs10, sz1 (by omega), fun a o h1 h2 => by rw [upd_ne h1]; exact s910 _ _ (s48 _ _ (e4 a o h1 h2)), ((s4.trans s48).trans s910).mut hca, cs ++ [.ref q2], _, _, _, rfl, upd_same, ?_⟩
      rw [more, if_pos hok]
      exact (hal.mono fun _ _ z => CaseV.off hcs10 ((z.mono s48).mono s910)).snoc (CaseV.off hcs10 ⟨pa, pb, ⟨q2, rfl, SqT.of upd_same⟩, SqT.of (s910 _ _ hpa8), SqT.of (s910 _ _ hpb8)⟩)
    · refine iff' (by simp [hsm]) ?_
      exact skip _ s9 (by unfold okC; simp [hsm])
  rintro σ H4 ⟨e4, s4, cs, o5, o6, o7, rfl, hcs, hal⟩
  rw [hus4.len, List.take_length] at hal
  have hal' : All2 (CaseV K H4) cs (casesN m d) := hal
  -- sorted
  obtain ⟨z1, z2⟩ := zip_fst (l := cs) (m := (casesN m d).map caseD) (by rw [List.length_map]; exact hal'.len)
  have hzp := zip_dp hal'
  refine ⟨_, rfl, ca, cs.zip ((casesN m d).map caseD), rfl, SqL.of (by rw [z1]; exact hcs), fun p hp => (hzp p hp).1, ?_, ?_, ?_, fun p hp => ?_, fun so hso => ?_⟩
  · rw [z2]
    intro a ha b hb
    obtain ⟨p, _, rfl⟩ := List.mem_map.mp ha
    obtain ⟨q, _, rfl⟩ := List.mem_map.mp hb
    exact caseD_alike p q
  · rw [z2]
    refine .inl fun a ha => ?_
    obtain ⟨p, _, rfl⟩ := List.mem_map.mp ha
    exact ⟨_, _, rfl⟩
  · rw [List.length_zip, List.length_map]
    omega
  · obtain ⟨q, hq⟩ := (hzp p hp).2
    rw [hq]
    have := caseD_depth q
    omega
  have hperm : (((cs.zip ((casesN m d).map caseD)).mergeSort (PySem.W.dataLe false (·.2))).map (·.1)).Perm cs := by
    have h1 := (List.mergeSort_perm (cs.zip ((casesN m d).map caseD)) (PySem.W.dataLe false (·.2))).map (·.1)
    rw [z1] at h1
    exact h1
  generalize ((cs.zip ((casesN m d).map caseD)).mergeSort (PySem.W.dataLe false (·.2))).map (·.1) = xs at hperm
  have t5 := Same.new (o := .lst xs) hso
  obtain ⟨qs, hqs, hqp⟩ := All2.perm hperm (hal'.mono fun _ _ z => CaseV.mono z t5)
  refine ⟨by show 0 ≤ sizeLine; decide, fun fd hfd => ⟨by show 2 ≤ sizeLine; decide, fun tt2 htt2 => ?_⟩⟩
  have t6 := Same.new (o := .lst []) hfd
  have t7 := Same.new (o := .tup [.ref so, .ref fd]) htt2
  have t67 := t6.trans t7
  have s5 := (s4.trans t5).trans t67
  have hso5 := t67 _ _ (upd_same (H := H4) (a := so) (o := .lst xs))
  have hfd5 := t7 _ _ (upd_same (H := upd H4 so (.lst xs)) (a := fd) (o := .lst []))
  have hfdH : H fd = none := none_of (s4.trans t5) hfd
  have nso : so ≠ fd := ne_of_none upd_same hfd
  have hqs5 := hqs.mono fun _ _ z => CaseV.mono z t67
  refine ⟨tt2, _, rfl, SqT.of upd_same, rfl, _, _, rfl, _, _, rfl, rfl, ?_⟩
  have hxl : xs.length = (casesN m d).length := by rw [hqs.len, hqp.length_eq]
  generalize (upd (upd (upd H4 so (.lst xs)) fd (.lst [])) tt2 (.tup [.ref so, .ref fd])) = H5 at *
  refine ⟨_, rfl, _, rfl, so, xs, rfl, .inl (SqL.of hso5), kk, xs.length, rfl, hk3, by omega, by rw [hxl]; exact pow_small (by omega) hk3, ?_⟩
  rintro v H6 s6 ⟨us2, lb, rfl, hlb0, hlb, hus2⟩
  have s06 := s5.trans s6
  have hso6 := s6 _ _ hso5
  have hfd6 := s6 _ _ hfd5
  have nlb : lb ≠ fd := Ne.symm (ne_of_none hfd5 hlb0)
  have hus6 : All2 (fun u cs => ∃ a, u = .ref a ∧ a ≠ fd ∧ H6 a = some (.lst (vN cs))) us2 (tuplesN xs.length kk) := hus2.mono fun u cs z => by
    obtain ⟨a, rfl, h0, h⟩ := z
    exact ⟨a, rfl, Ne.symm (ne_of_none hfd5 h0), h⟩
  have hqs6 := hqs5.mono fun _ _ z => CaseV.mono z s6
  have htup : ∀ {H' : Hp} {p : Addr} {zs : List V}, (∀ a o, a ≠ fd → H6 a = some o → H' a = some o) → SqT K H6 p zs → SqT K H' p zs := by
    rintro H' p zs e ((h | ⟨u, h⟩) | h)
    · exact .inl (.inl (e _ _ (ne_of h hfd6 (by intro z; cases z)) h))
    · exact .inl (.inr ⟨u, e _ _ (ne_of h hfd6 (by intro z; cases z)) h⟩)
    · exact .inr h
  have hcase : ∀ {H' : Hp}, (∀ a o, a ≠ fd → H6 a = some o → H' a = some o) → All2 (CaseV K H') xs qs := fun e => hqs6.mono fun v q ⟨pa, pb, ⟨p, ep, h1⟩, h2, h3⟩ => ⟨pa, pb, ⟨p, ep, htup e h1⟩, htup e h2, htup e h3⟩
  have hqmem : ∀ q, q ∈ qs ↔ q ∈ casesN m d := fun q => hqp.mem_iff
  refine ⟨lb, rfl, ⟨_, SqL.of hlb⟩, ?_⟩
  refine for_list (xs := us2) (fun i σ H' => (∀ a o, a ≠ fd → H6 a = some o → H' a = some o) ∧ Same H H' ∧ ∃ (acc : List Nat) (o5 o6 o7 : Option V), σ = [some (.int (kk : Int)), some (.int (m : Int)), some (.int (d : Int)), some (.ref so), some (.int (invN kk d : Int)), o5, o6, o7, some (.ref fd), none, none, none, none] ∧
    H' fd = some (.lst (vN acc)) ∧ acc.length = i ∧ ∀ r ∈ acc, r < xs.length) ⟨fun _ _ _ h => h, s06, [], _, _, _, rfl, hfd6, rfl, fun r h => by simp at h⟩ (fun i σ H' _ q => SqL.of (q.1 _ _ nlb hlb)) ?_ ?_
  · rintro i y σ H7 hy ⟨e7, s7, acc, o5, o6, o7, rfl, hac, hacl, hacc⟩
    obtain ⟨cs2, hcs2, ra, rfl, nra, hra⟩ := hus6.get hy
    obtain ⟨hcl, hcb⟩ := mem_tuplesN.mp (List.mem_of_getElem? hcs2)
    have hra7 := e7 _ _ nra hra
    have hso7 := e7 _ _ nso hso6
    have hi64 : i < 64 := by
      have h1 := (List.getElem?_eq_some_iff.mp hcs2).1
      rw [tuplesN_len] at h1
      have := pow_small (show xs.length ≤ 4 by omega) hk3
      omega
    have hal7 := hcase e7
    -- an element of the row
    have el : ∀ {j cc : Nat}, cs2[j]? = some cc → ∃ (pu pa pb : Addr), xs[cc]? = some (.ref pu) ∧ SqT K H7 pu [.ref pa, .ref pb] ∧ SqT K H7 pa (vN (qs.getD cc ([], [])).1) ∧ SqT K H7 pb (vN (qs.getD cc ([], [])).2) ∧ qs.getD cc ([], []) ∈ qs := by
      intro j cc hj
      have hcc := hcb cc (List.mem_of_getElem? hj)
      have hu : xs[cc]? = some xs[cc] := List.getElem?_eq_getElem hcc
      obtain ⟨q, hq, pa, pb, ⟨pu, e, h1⟩, h2, h3⟩ := hal7.get hu
      rw [getD_get hq]
      exact ⟨pu, pa, pb, by rw [hu, e], h1, h2, h3, List.mem_of_getElem? hq⟩
    have hgq : ∀ p ∈ cs2.map (fun cc => qs.getD cc ([], [])), p ∈ casesN m d := by
      intro p hp
      obtain ⟨cc, hcc, rfl⟩ := List.mem_map.mp hp
      obtain ⟨j, hj⟩ := List.mem_iff_getElem?.mp hcc
      obtain ⟨_, _, _, _, _, _, _, h⟩ := el hj
      exact (hqmem _).mp h
    -- inside
    refine ⟨_, rfl, _, rfl, by omega, by omega, ?_⟩
    rw [show ((m : Nat) : Int).toNat = m by omega]
    refine lc_flat walk_range (fun i => if ((cs2.map fun cc => qs.getD cc ([], [])).any fun p => decide (i ∈ p.1)) = true then some (V.int (i : Int)) else none) (by omega) (fun _ _ => trivial) ?_ ?_
    · rintro j y H8 H9 Kp Ks hj s8 ⟨rfl, hy⟩ kp ks
      have ey : y = .int (j : Int) := by
        rw [hy]
        show V.int (0 + (j : Int)) = _
        rw [show (0 : Int) + (j : Int) = (j : Int) by omega]
      clear hy
      subst ey
      have hra9 := s8 _ _ hra7
      refine ⟨rfl, ?_⟩
      refine ⟨_, rfl, ra, rfl, ⟨_, SqL.of hra9⟩, ?_⟩
      refine lc_flat walk_list (fun l => (cs2[l]?).bind fun cc => if (decide (j ∈ (qs.getD cc ([], [])).1)) = true then some (V.int (cc : Int)) else none) (by rw [vN_len]; omega) (fun H' s => s.seq (SqL.of hra9)) ?_ ?_
      · rintro l z H10 H11 Kp2 Ks2 hl s10 ⟨rfl, hz⟩ kp2 ks2
        obtain ⟨cc, hcc, rfl⟩ := vN_get' hz
        obtain ⟨pu, pa, pb, h1, h2, h3, h4, h5⟩ := el hcc
        have s810 := s8.trans s10
        refine ⟨rfl, ?_⟩
        refine ⟨_, rfl, _, rfl, _, rfl, so, xs, _, _, rfl, rfl, SqL.of (s810 _ _ hso7), atI_nat h1, pu, _, 0, _, rfl, rfl, s810.tup h2, rfl, pa, _, rfl, .inr (s810.tup h3), rfl, flatAll_vN _, _, rfl, ?_⟩
        rw [if_neg (by decide), inV_vN]
        by_cases hc : j ∈ (qs.getD cc ([], [])).1
        · refine ift (decide_eq_true hc) ?_
          exact ⟨_, rfl, kp2 _ _ (Same.refl _) (by rw [hcc, Option.bind_some, if_pos (decide_eq_true hc)])⟩
        · refine iff' (decide_eq_false hc) ?_
          exact ks2 _ (Same.refl _) (by rw [hcc, Option.bind_some, if_neg (by rw [decide_eq_false hc]; exact Bool.false_ne_true)])
      · intro D10 H10 hD10 s10 e10
        rw [vN_len, fm_filter cs2 fun cc => decide (j ∈ (qs.getD cc ([], [])).1)] at e10
        refine ⟨by show 0 ≤ sizeLine; decide, fun p hp => ?_⟩
        have s11 := Same.new (o := .lst []) hp
        refine ⟨.list ((iN (cs2.filter fun cc => decide (j ∈ (qs.getD cc ([], [])).1))).map PyData.int), .list [], .lst (SqL.of (s11 _ _ e10)) (dp_vN _), .lst (SqL.of upd_same) .nil, shaped_l _, shaped_nil, _, rfl, ?_⟩
        rw [eqv_list, eqvAll_nil]
        have hiff : ((cs2.map fun cc => qs.getD cc ([], [])).any fun p => decide (j ∈ p.1)) = true ↔ ¬ (cs2.filter fun cc => decide (j ∈ (qs.getD cc ([], [])).1)) = [] := by
          rw [List.any_map, List.any_eq_true, List.filter_eq_nil_iff]
          constructor
          · rintro ⟨cc, h1, h2⟩ h3
            exact h3 cc h1 h2
          · intro h
            apply Classical.byContradiction
            intro h2
            exact h fun cc h3 h4 => h2 ⟨cc, h3, h4⟩
        by_cases hc : (cs2.filter fun cc => decide (j ∈ (qs.getD cc ([], [])).1)) = []
        · refine iff' (by rw [hc]; rfl) ?_
          exact ks _ (s10.trans s11) (by rw [if_neg fun h => hiff.mp h hc])
        · refine ift (ne_iN hc) ?_
          exact ⟨_, rfl, kp _ _ (s10.trans s11) (by rw [if_pos (hiff.mpr hc)])⟩
    intro D8 H8 hD8 s8 e8
    rw [fm_flt m fun i => (cs2.map fun cc => qs.getD cc ([], [])).any fun p => decide (i ∈ p.1)] at e8
    refine ⟨D8, _, rfl, .inl ⟨SqL.of e8, fun pa hpa => ?_⟩⟩
    have s9 := Same.new (o := .tup (vN ((List.range m).filter fun i => (cs2.map fun cc => qs.getD cc ([], [])).any fun p => decide (i ∈ p.1)))) hpa
    have s79 := s8.trans s9
    have hpa9 : (upd H8 pa (.tup (vN ((List.range m).filter fun i => (cs2.map fun cc => qs.getD cc ([], [])).any fun p => decide (i ∈ p.1))))) pa = some (.tup (vN (combI m (cs2.map fun cc => qs.getD cc ([], []))))) := upd_same
    generalize (upd H8 pa (.tup (vN ((List.range m).filter fun i => (cs2.map fun cc => qs.getD cc ([], [])).any fun p => decide (i ∈ p.1))))) = H9 at *
    -- rest
    have hinvb : invN kk d < 8 := by
      have dec : ∀ k ∈ [2, 3], ∀ m ∈ [1, 2, 3, 4, 5, 6, 7], invN k m < 8 := by decide
      exact dec kk (by simp; omega) d (by simp; omega)
    refine ⟨_, rfl, _, rfl, by omega, by omega, ?_⟩
    rw [show ((m : Nat) : Int).toNat = m by omega]
    refine lc_flat walk_range (fun i => some (V.int (((((cs2.map fun cc => qs.getD cc ([], [])).map fun p => p.2.getD i 0).sum * invN kk d) % d : Nat) : Int))) (by omega) (fun _ _ => trivial) ?_ ?_
    · rintro j y H10 H11 Kp Ks hj s10 ⟨rfl, hy⟩ kp ks
      have ey : y = .int (j : Int) := by
        rw [hy]
        show V.int (0 + (j : Int)) = _
        rw [show (0 : Int) + (j : Int) = (j : Int) by omega]
      clear hy
      subst ey
      have s710 := s79.trans s10
      have hra10 := s710 _ _ hra7
      refine ⟨rfl, ?_⟩
      refine ⟨_, rfl, ra, rfl, ⟨_, SqL.of hra10⟩, ?_⟩
      refine lc_flat walk_list (fun l => some (.int (((cs2.map fun cc => (qs.getD cc ([], [])).2.getD j 0).getD l 0 : Nat) : Int))) (by rw [vN_len]; omega) (fun H' s => s.seq (SqL.of hra10)) ?_ ?_
      · rintro l z H12 H13 Kp2 Ks2 hl s12 ⟨rfl, hz⟩ kp2 ks2
        obtain ⟨cc, hcc, rfl⟩ := vN_get' hz
        obtain ⟨pu, pa', pb, h1, h2, h3, h4, h5⟩ := el hcc
        have s712 := s710.trans s12
        have hql := (case_ok ((hqmem _).mp h5)).1
        have hqj : (qs.getD cc ([], [])).2[j]? = some ((qs.getD cc ([], [])).2.getD j 0) := by
          rw [List.getD_eq_getElem?_getD (l := (qs.getD cc ([], [])).2), List.getElem?_eq_getElem (by omega)]
          rfl
        refine ⟨rfl, ?_⟩
        refine ⟨_, rfl, _, rfl, so, xs, _, _, rfl, rfl, SqL.of (s712 _ _ hso7), atI_nat h1, pu, _, 1, _, rfl, rfl, s712.tup h2, rfl, _, rfl, pb, _, _, _, rfl, rfl, s712.tup h4, atI_nat (vN_get hqj), kp2 _ _ (Same.refl _) ?_⟩
        rw [getD_get (l := cs2.map fun cc => (qs.getD cc ([], [])).2.getD j 0) (by rw [List.getElem?_map, hcc]; rfl)]
      · intro D12 H12 hD12 s12 e12
        rw [fm_vN (by rw [vN_len, List.length_map])] at e12
        have hsb : (cs2.map fun cc => (qs.getD cc ([], [])).2.getD j 0).sum ≤ 21 := by
          refine Nat.le_trans (sum_le_of (b := 7) fun x hx => ?_) (by rw [List.length_map]; omega)
          obtain ⟨cc, hcc, rfl⟩ := List.mem_map.mp hx
          obtain ⟨l, hl⟩ := List.mem_iff_getElem?.mp hcc
          obtain ⟨_, _, _, _, _, _, _, h5⟩ := el hl
          obtain ⟨g1, g2⟩ := case_ok ((hqmem _).mp h5)
          have : (qs.getD cc ([], [])).2.getD j 0 ∈ (qs.getD cc ([], [])).2 := by
            rw [List.getD_eq_getElem?_getD (l := (qs.getD cc ([], [])).2), List.getElem?_eq_getElem (by omega)]
            exact List.getElem_mem _
          have := g2 _ this
          omega
        refine ⟨D12, iN (cs2.map fun cc => (qs.getD cc ([], [])).2.getD j 0), rfl, SqL.of (by rw [e12, ← iN_vI]; rfl), ?_⟩
        rw [show (iN (cs2.map fun cc => (qs.getD cc ([], [])).2.getD j 0)).sum = ((cs2.map fun cc => (qs.getD cc ([], [])).2.getD j 0).sum : Int) from sum_cast _]
        refine ⟨_, rfl, _, _, rfl, rfl, cmul (n := 10) (m := 10) (by show Int.natAbs _ < 1024; omega) (by show Int.natAbs _ < 1024; omega) (by decide), .inl ⟨_, rfl, _, rfl, _, _, rfl, rfl, by omega, kp _ _ s12 ?_⟩⟩
        rw [List.map_map]
        show some (V.int ((((cs2.map fun cc => (qs.getD cc ([], [])).2.getD j 0).sum * invN kk d % d : Nat)) : Int)) = some (V.int ((((cs2.map fun cc => (qs.getD cc ([], [])).2.getD j 0).sum : Nat) : Int) * (invN kk d : Int) % (d : Int)))
        push_cast
        rfl
    intro D10 H10 hD10 s10 e10
    rw [fm_map m fun i => (((cs2.map fun cc => qs.getD cc ([], [])).map fun p => p.2.getD i 0).sum * invN kk d) % d] at e10
    refine ⟨D10, _, rfl, .inl ⟨SqL.of e10, fun pb hpb => ?_⟩⟩
    have s11 := Same.new (o := .tup (vN ((List.range m).map fun i => (((cs2.map fun cc => qs.getD cc ([], [])).map fun p => p.2.getD i 0).sum * invN kk d) % d))) hpb
    have hpb11 : (upd H10 pb (.tup (vN ((List.range m).map fun i => (((cs2.map fun cc => qs.getD cc ([], [])).map fun p => p.2.getD i 0).sum * invN kk d) % d)))) pb = some (.tup (vN (combR m d (invN kk d) (cs2.map fun cc => qs.getD cc ([], []))))) := upd_same
    generalize (upd H10 pb (.tup (vN ((List.range m).map fun i => (((cs2.map fun cc => qs.getD cc ([], [])).map fun p => p.2.getD i 0).sum * invN kk d) % d)))) = H11 at *
    have s711 := s79.trans (s10.trans s11)
    have hpa11 := (s10.trans s11) _ _ hpa9
    have hac11 := s711 _ _ hac
    have hin := hcomb (e := cs2.map fun cc => qs.getD cc ([], [])) (by rw [List.length_map, hcl]) hgq
    obtain ⟨jx, hjx, hjm⟩ := first_at ((hqmem _).mpr hin)
    have hjl : jx < xs.length := by
      rw [hxl, ← hqp.length_eq]
      exact (List.getElem?_eq_some_iff.mp hjx).1
    refine ⟨_, rfl, tyL (SqL.of hac11), _, rfl, tyL (SqL.of (s711 _ _ hso7)), _, rfl, _, rfl, by show 2 ≤ sizeLine; decide, fun q hq => ?_⟩
    have s12 := Same.new (o := .tup [.ref pa, .ref pb]) hq
    have s712 := s711.trans s12
    have hcv : CaseV K (upd H11 q (.tup [.ref pa, .ref pb])) (.ref q) (combI m (cs2.map fun cc => qs.getD cc ([], [])), combR m d (invN kk d) (cs2.map fun cc => qs.getD cc ([], []))) := ⟨pa, pb, ⟨q, rfl, SqT.of upd_same⟩, SqT.of (s12 _ _ hpa11), SqT.of (s12 _ _ hpb11)⟩
    refine ⟨so, _, _, qs.map caseD, jx, _, rfl, rfl, .lst (SqL.of (s712 _ _ hso7)) (dp_cases (hal7.mono fun _ _ z => CaseV.mono z s712)), dp_case hcv, caseDs_shaped _, caseD_shaped _, by rw [List.getElem?_map, hjx]; rfl, by rw [caseD_eqv]; simp, fun mm z' h1 h2 => ?_, ?_⟩
    · rw [List.getElem?_map] at h2
      cases h3 : qs[mm]? with
      | none => rw [h3] at h2; cases h2
      | some q2 =>
        rw [h3] at h2
        cases h2
        rw [caseD_eqv]
        exact decide_eq_false (hjm mm q2 h1 h3)
    · have hac12 := s12 _ _ hac11
      refine ⟨fd, _, _, rfl, rfl, hac12, sz1 (by rw [vN_len]; omega), fun a o h1 h2 => by rw [upd_ne h1]; exact s712 _ _ (e7 a o h1 h2), (s7.trans s712).mut hfdH, acc ++ [jx], _, _, _, rfl, by rw [upd_same, vN_snoc], by simp [hacl], fun r hr => ?_⟩
      rcases List.mem_append.mp hr with hr | hr
      · exact hacc r hr
      · rw [List.mem_singleton.mp hr]
        exact hjl
  rintro σ H7 ⟨e7, s7, acc, o5, o6, o7, rfl, hac, hacl, hacc⟩
  have hso7 := e7 _ _ nso hso6
  have hal7 := hcase e7
  refine ⟨_, rfl, _, rfl, by omega, by omega, ?_⟩
  rw [show ((m : Nat) : Int).toNat = m by omega]
  refine lc_all walk_range (fun _ _ _ _ => True) (by omega) (fun _ _ => trivial) (fun _ _ _ _ _ _ _ _ _ _ h => h) (fun _ _ _ _ _ _ h => h) ?_ (fun x H2 P P' h q => h _ _ q) (fun σ2 H3 P P' h q => h _ _ q) ?_
  · rintro D j y H8 H9 l1 Kp hj hD s8 hD1 ⟨rfl, hy⟩ kp
    have ey : y = .int (j : Int) := by
      rw [hy]
      show V.int (0 + (j : Int)) = _
      rw [show (0 : Int) + (j : Int) = (j : Int) by omega]
    clear hy
    subst ey
    have hso9 := s8 _ _ hso7
    refine ⟨rfl, rfl, _, rfl, tyL (SqL.of hso9), _, rfl, by show 1 ≤ sizeLine; decide, fun pa hpa => ?_⟩
    have s9 := Same.new (o := .tup [.int (j : Int)]) hpa
    have hpa9 : (upd H9 pa (.tup [.int (j : Int)])) pa = some (.tup (vN [j])) := upd_same
    generalize upd H9 pa (.tup [.int (j : Int)]) = H10 at *
    refine ⟨_, rfl, _, rfl, by omega, by omega, ?_⟩
    rw [show ((m : Nat) : Int).toNat = m by omega]
    refine lc_flat walk_range (fun l => some (V.int ((if l = j then 1 % d else 0 : Nat) : Int))) (by omega) (fun _ _ => trivial) ?_ ?_
    · rintro l z H11 H12 Kp2 Ks2 hl s11 ⟨rfl, hz⟩ kp2 ks2
      have ez : z = .int (l : Int) := by
        rw [hz]
        show V.int (0 + (l : Int)) = _
        rw [show (0 : Int) + (l : Int) = (l : Int) by omega]
      clear hz
      subst ez
      refine ⟨rfl, _, rfl, _, rfl, rfl, _, rfl, ?_⟩
      by_cases hlj : l = j
      · subst hlj
        refine ift (by simp) ?_
        refine .inl ⟨_, rfl, _, rfl, _, _, rfl, rfl, by omega, kp2 _ _ (Same.refl _) ?_⟩
        rw [if_pos rfl]
        show some (V.int ((1 % d : Nat) : Int)) = some (V.int ((1 : Int) % (d : Int)))
        push_cast
        rfl
      · refine iff' (by simp; omega) ?_
        exact kp2 _ _ (Same.refl _) (by rw [if_neg hlj]; rfl)
    · intro D11 H11 hD11 s11 e11
      rw [fm_map m fun l => if l = j then 1 % d else 0] at e11
      refine ⟨D11, _, rfl, .inl ⟨SqL.of e11, fun pb hpb => ?_⟩⟩
      have s12 := Same.new (o := .tup (vN ((List.range m).map fun l => if l = j then 1 % d else 0))) hpb
      refine ⟨by show 2 ≤ sizeLine; decide, fun q hq => ?_⟩
      have s13 := Same.new (o := .tup [.ref pa, .ref pb]) hq
      have s813 := (s9.trans s11).trans (s12.trans s13)
      have hcv : CaseV K (upd (upd H11 pb (.tup (vN ((List.range m).map fun l => if l = j then 1 % d else 0)))) q (.tup [.ref pa, .ref pb])) (.ref q) (nameC m d j) := ⟨pa, pb, ⟨q, rfl, SqT.of upd_same⟩, SqT.of ((s11.trans (s12.trans s13)) _ _ hpa9), SqT.of (s13 _ _ upd_same)⟩
      obtain ⟨jx, hjx, hjm⟩ := first_at ((hqmem _).mpr (hname j (List.mem_range.mpr hj)))
      refine ⟨so, _, _, qs.map caseD, jx, _, rfl, rfl, .lst (SqL.of (s813 _ _ hso9)) (dp_cases ((hal7.mono fun _ _ z => CaseV.mono z s8).mono fun _ _ z => CaseV.mono z s813)), dp_case hcv, caseDs_shaped _, caseD_shaped _, by rw [List.getElem?_map, hjx]; rfl, by rw [caseD_eqv]; simp, fun mm z' h1 h2 => ?_, kp _ _ s813 trivial⟩
      rw [List.getElem?_map] at h2
      cases h3 : qs[mm]? with
      | none => rw [h3] at h2; cases h2
      | some q2 =>
        rw [h3] at h2
        cases h2
        rw [caseD_eqv]
        exact decide_eq_false (hjm mm q2 h1 h3)
  · intro D8 H8 zs hD8 s8 e8 hz hR
    have hso8 := s8 _ _ hso7
    have hac8 := s8 _ _ hac
    refine ⟨_, rfl, so, xs, rfl, .inl (SqL.of hso8), _, rfl, _, rfl, by show 3 ≤ sizeLine; decide, fun p hp => ?_⟩
    have s9 := Same.new (o := .tup [V.int (xs.length : Int), .ref fd, .ref D8]) hp
    refine k _ _ ((s7.trans s8).trans s9) ⟨fd, .ref D8, xs.length, acc, ⟨p, rfl, SqT.of upd_same⟩, hfdH, s9 _ _ hac8, by show 1 ≤ xs.length; omega, ?_, ?_, hacc⟩
    · have : kk = 2 ∨ kk = 3 := by omega
      rcases this with rfl | rfl
      · exact .inl ⟨rfl, by show xs.length ≤ 4; omega⟩
      · exact .inr ⟨rfl, by show xs.length ≤ 3; omega⟩
    · rw [hacl, hus6.len, tuplesN_len]
end Mix
namespace Mix
open PySem PySem.Spec PyProof.Rows L2
theorem pure_law_any {K : PySem.W.Frag} (vs : List V) (H : Hp) (Q : VK) (E : XK) (h : sp_law_any K vs H Q E) : t_law_any K { nx := fun _ H' => Q .non H', rt := Q } (start n_law_any vs) H := by
  obtain ⟨d, c, b, rfl, dl, h0, h5, k⟩ := h
  have ne := dl.ne
  obtain ⟨ns, bb, hd, hc, hn, hb0, hb1⟩ := dl
  refine ⟨fun m σ H' => ∃ ns : List Int, m = ns.length ∧ σ = [some (.ref d), some (.int (b : Int)), none] ∧ SameX d c H H' ∧ H' d = some (.lst [.ref c, .int bb]) ∧ H' c = some (.lst (vI ns)) ∧ ns.length ≤ 100,
    ⟨_, ns, rfl, rfl, SameX.refl, hd, hc, hn⟩, ?_⟩
  clear hd hc hn ns
  rintro m σ H1 ⟨ns, rfl, rfl, s1, hd, hc, hn⟩
  refine ⟨_, rfl, d, _, 0, .ref c, rfl, rfl, SqL.of hd, rfl, by show 0 ≤ sizeLine; decide, fun p hp => ?_⟩
  have s2 := Same.new (o := .lst []) hp
  have hd2 := s2 _ _ hd
  have hc2 := s2 _ _ hc
  refine ⟨.list (ns.map PyData.int), .list [], .lst (SqL.of hc2) (dp_vI ns), .lst (SqL.of upd_same) .nil, shaped_l ns, shaped_nil, _, rfl, ?_⟩
  rw [eqv_list, eqvAll_nil]
  have sx := s1.trans (s2.x (d := d) (c := c))
  rcases snoc_cases ns with rfl | ⟨ms, i, rfl⟩
  · refine iff' (by simp) ?_
    refine iff' rfl ?_
    refine ⟨_, rfl, d, _, 0, .ref c, rfl, rfl, SqL.of hd2, rfl, by show 0 ≤ sizeLine; decide, fun p2 hp2 => ?_⟩
    have s3 := Same.new (o := .lst []) hp2
    have hd3 := s3 _ _ hd2
    have hc3 := s3 _ _ hc2
    refine ⟨.list [], .list [], .lst (SqL.of hc3) .nil, .lst (SqL.of upd_same) .nil, shaped_nil, shaped_nil, _, rfl, ?_⟩
    rw [eqv_list, eqvAll_nil]
    refine iff' (by simp) ?_
    refine ⟨_, rfl, d, _, 1, .int bb, rfl, rfl, SqL.of hd3, rfl, _, _, rfl, rfl, cmul (n := 31) (m := 16) (by show Int.natAbs _ < 2147483648; omega) (bd_of (by decide)) (by decide), _, _, rfl, rfl, .inl ⟨_, rfl, _, _, rfl, rfl, (by decide : (0 : Int) < 2147483647), ?_⟩⟩
    obtain ⟨r, hr, hr2⟩ := modN (bb * 40693 + 71) (b := 2147483647) (by decide)
    refine ⟨_, rfl, d, _, 1, 1, rfl, rfl, hd3, rfl, ?_⟩
    refine ⟨_, rfl, d, _, 1, _, rfl, rfl, SqL.of upd_same, rfl, _, _, rfl, rfl, cdiv (n := 10) (by decide) (bd_of (by decide)) (by decide), .inl ⟨_, rfl, _, rfl, _, _, rfl, rfl, by omega, ?_⟩⟩
    refine k _ _ (sx.trans (s3.x (d := d) (c := c))).setd ⟨[], (bb * 40693 + 71) % 2147483647, upd_same, ?_, by simp, Int.emod_nonneg _ (by decide), Int.emod_lt_of_pos _ (by decide)⟩ ((modN _ h0).imp fun r h => ⟨congrArg V.int h.1, h.2⟩)
    rw [upd_ne (Ne.symm ne)]
    exact hc3
  · refine ift (by simp) ?_
    refine ⟨_, rfl, d, _, 0, .ref c, rfl, rfl, SqL.of hd2, rfl, _, rfl, c, _, -1, .int i, rfl, rfl, SqL.of hc2, by rw [vI_snoc]; exact atI_last _ _, rfl, _, rfl, ?_⟩
    have dr : (vI (ms ++ [i])).dropLast = vI ms := by rw [vI_snoc, List.dropLast_concat]
    have la : (vI (ms ++ [i]))[(vI (ms ++ [i])).length - 1]? = some (.int i) := by
      rw [vI_snoc]
      simp
    by_cases hi : i = 0
    · refine ift (by simp [hi]) ?_
      refine ⟨_, fun _ _ z => z, ?_⟩
      refine ⟨_, rfl, d, _, 0, .ref c, rfl, rfl, SqL.of hd2, rfl, tyL (SqL.of hc2), c, _, _, rfl, rfl, hc2, la, ?_⟩
      refine ⟨ms.length, by simp, ms, rfl, rfl, sx.setc, ?_, by rw [upd_same, dr], by simp at hn; omega⟩
      rw [upd_ne ne]
      exact hd2
    · refine iff' (by simp [hi]) ?_
      refine ⟨_, rfl, d, _, 0, .ref c, rfl, rfl, SqL.of hd2, rfl, by show 0 ≤ sizeLine; decide, fun p2 hp2 => ?_⟩
      have s3 := Same.new (o := .lst []) hp2
      have hd3 := s3 _ _ hd2
      have hc3 := s3 _ _ hc2
      refine ⟨.list ((ms ++ [i]).map PyData.int), .list [], .lst (SqL.of hc3) (dp_vI _), .lst (SqL.of upd_same) .nil, shaped_l _, shaped_nil, _, rfl, ?_⟩
      rw [eqv_list, eqvAll_nil]
      refine ift (by simp) ?_
      refine ⟨_, rfl, d, _, 0, .ref c, rfl, rfl, SqL.of hd3, rfl, tyL (SqL.of hc3), c, _, _, rfl, rfl, hc3, la, .inl ⟨_, rfl, ?_⟩⟩
      rw [dr]
      have hd4 : (upd (upd (upd H1 p (.lst [])) p2 (.lst [])) c (.lst (vI ms))) d = some (.lst [.ref c, .int bb]) := by
        rw [upd_ne ne]
        exact hd3
      refine ⟨_, rfl, d, _, 0, .ref c, rfl, rfl, SqL.of hd4, rfl, tyL (SqL.of upd_same), _, rfl, _, rfl, _, _, rfl, rfl, cdiv (n := 13) (by omega) (by show Int.natAbs _ < 8192; omega) (by decide), c, _, _, rfl, rfl, upd_same, ?_, ?_⟩
      · rw [vI_len]
        exact sz1 (by simp at hn; omega)
      · refine ⟨_, rfl, _, rfl, _, _, rfl, rfl, by omega, ?_⟩
        refine k _ _ (sx.trans (s3.x (d := d) (c := c))).setc.setc ⟨ms ++ [i / (b : Int)], bb, ?_, by rw [upd_same, vI_snoc], by simp at hn ⊢; omega, hb0, hb1⟩ ((modN _ h0).imp fun r h => ⟨congrArg V.int h.1, h.2⟩)
        rw [upd_ne ne]
        exact hd4
theorem pure_law_of {K : PySem.W.Frag} (vs : List V) (H : Hp) (Q : VK) (E : XK) (h : sp_law_of K vs H Q E) : t_law_of K { nx := fun _ H' => Q .non H', rt := Q } (start n_law_of vs) H := by
  obtain ⟨d, c, a, xs, rfl, dl, ha, a1, a2, hx, hl, k⟩ := h
  have hp : 0 < xs.length := List.length_pos_iff.mpr hx
  refine ⟨_, rfl, _, rfl, _, rfl, a, xs, rfl, .inl (SqL.of ha), d, c, xs.length, rfl, dl, hp, by omega, ?_⟩
  rintro v H1 s1 d1 ⟨r, rfl, hr⟩
  refine ⟨a, xs, _, xs[r], rfl, rfl, SqL.of (s1 _ _ a1 a2 ha), atI_nat (List.getElem?_eq_getElem hr), k _ _ s1 d1 (List.getElem_mem hr)⟩
theorem pure_law_power {K : PySem.W.Frag} (vs : List V) (H : Hp) (Q : VK) (E : XK) (h : sp_law_power K vs H Q E) : t_law_power K { nx := fun _ H' => Q .non H', rt := Q } (start n_law_power vs) H := by
  obtain ⟨b, m, rfl, hb, hm, k⟩ := h
  refine ⟨_, rfl, _, rfl, by omega, by omega, for_range (lo := 0) (n := m) (fun i σ H' => H' = H ∧ ∃ o, σ = [some (.int (b : Int)), some (.int (m : Int)), some (.int ((b ^ i : Nat) : Int)), o]) ⟨rfl, _, rfl⟩ ?_ ?_⟩
  · rintro i σ H' hi ⟨rfl, o, rfl⟩
    have hbi : b ^ i ≤ 1000 := Nat.le_trans (Nat.pow_le_pow_left hb i) (Nat.le_trans (Nat.pow_le_pow_right (by decide) (by omega : i ≤ 3)) (by decide))
    refine ⟨_, rfl, _, rfl, _, _, rfl, rfl, cmul (n := 10) (m := 10) (by show Int.natAbs _ < 1024; omega) (by show Int.natAbs _ < 1024; omega) (by decide), rfl, some (.int (0 + (i : Int))), ?_⟩
    rw [Nat.pow_succ]
    simp
  · rintro σ H' ⟨rfl, o, rfl⟩
    exact ⟨_, rfl, k _ _ (Same.refl _) rfl⟩
theorem gcd_step' (a b : Int) (ha : 0 ≤ a) (hb : 0 < b) : Nat.gcd b.natAbs (a % b).natAbs = Nat.gcd a.natAbs b.natAbs := by
  rw [Int.natAbs_emod_of_nonneg ha, Nat.gcd_comm a.natAbs, Nat.gcd_rec b.natAbs a.natAbs, Nat.gcd_comm]
theorem pure_law_divisor {K : PySem.W.Frag} (vs : List V) (H : Hp) (Q : VK) (E : XK) (h : sp_law_divisor K vs H Q E) : t_law_divisor K { nx := fun _ H' => Q .non H', rt := Q } (start n_law_divisor vs) H := by
  obtain ⟨a, b, rfl, ha, hb, k⟩ := h
  refine ⟨fun m σ H' => ∃ i j : Int, m = j.toNat ∧ 0 ≤ i ∧ 0 ≤ j ∧ σ = [some (.int i), some (.int j)] ∧ H' = H ∧ Nat.gcd i.natAbs j.natAbs = Nat.gcd a.natAbs b.natAbs, ⟨_, a, b, rfl, ha, hb, rfl, rfl, rfl⟩, ?_⟩
  rintro m σ H' ⟨i, j, rfl, hi, hj, rfl, rfl, hg⟩
  refine ⟨_, rfl, _, _, rfl, rfl, _, rfl, ?_⟩
  by_cases hj0 : j = 0
  · subst hj0
    refine iff' (by simp) ?_
    refine ⟨_, rfl, ?_⟩
    have e : i = ((Nat.gcd a.natAbs b.natAbs : Nat) : Int) := by
      rw [← hg]
      simp
      omega
    rw [e]
    exact k
  · have hj1 : 0 < j := by omega
    refine ift (by simp; omega) ?_
    refine ⟨_, fun _ _ z => z, ?_⟩
    have h1 := Int.emod_nonneg i hj0
    have h2 := Int.emod_lt_of_pos i hj1
    exact ⟨_, rfl, _, rfl, .inl ⟨_, rfl, _, rfl, _, _, rfl, rfl, hj1, _, _, rfl, _, by omega, _, _, rfl, hj, h1, rfl, rfl, by rw [gcd_step' i j hi hj1]; exact hg⟩⟩
end Mix
namespace Mix
open PySem PySem.Spec PyProof.Rows L2
/-- the defs as they stand behind the top -/
structure Defs (K : PySem.W.Frag) (mg : Str → Option Value) : Prop where
  law_standard : DefAt K mg "_law_standard" s_law_standard
  law_blend : DefAt K mg "_law_blend" s_law_blend
  law_world : DefAt K mg "_law_world" s_law_world
  law_shown : DefAt K mg "_law_shown" s_law_shown
  law_prices : DefAt K mg "_law_prices" s_law_prices
  law_told : DefAt K mg "_law_told" s_law_told
  law : DefAt K mg "law" s_law
  pivoted : DefAt K mg "pivoted" s_pivoted
  solved : DefAt K mg "solved" s_solved
  followed : DefAt K mg "followed" s_followed
  costs : DefAt K mg "costs" s_costs
  divisor : DefAt K mg "divisor" s_divisor
  made : DefAt K mg "made" s_made
  added : DefAt K mg "added" s_added
  times : DefAt K mg "times" s_times
  compared : DefAt K mg "compared" s_compared
  total : DefAt K mg "total" s_total
  Table_init : ∃ fd, FunD K "__init__" "Table.__init__" (defArgs s_Table_init) (defBody s_Table_init) (defScope s_Table_init) [] [] (He.ma K (tabC K) "__init__") fd
  Table_blend : ∃ fd, FunD K "blend" "Table.blend" (defArgs s_Table_blend) (defBody s_Table_blend) (defScope s_Table_blend) [] [] (He.ma K (tabC K) "blend") fd
  tuples_of : DefAt K mg "tuples_of" s_tuples_of
  checked_prices : DefAt K mg "checked_prices" s_checked_prices
  all_cups : DefAt K mg "all_cups" s_all_cups
  against : DefAt K mg "against" s_against
  law_draw : DefAt K mg "_law_draw" s_law_draw
  law_any : DefAt K mg "_law_any" s_law_any
  law_of : DefAt K mg "_law_of" s_law_of
  law_mixed : DefAt K mg "_law_mixed" s_law_mixed
  law_power : DefAt K mg "_law_power" s_law_power
  law_divisor : DefAt K mg "_law_divisor" s_law_divisor
  law_inverse : DefAt K mg "_law_inverse" s_law_inverse
  law_tuples : DefAt K mg "_law_tuples" s_law_tuples
  law_joint : DefAt K mg "_law_joint" s_law_joint
  law_risen : DefAt K mg "_law_risen" s_law_risen
  law_form : DefAt K mg "_law_form" s_law_form
  law_results : DefAt K mg "_law_results" s_law_results
  law_table : DefAt K mg "_law_table" s_law_table
  law_spoilt : DefAt K mg "_law_spoilt" s_law_spoilt
  law_random : DefAt K mg "_law_random" s_law_random
  law_label : DefAt K mg "_law_label" s_law_label
  law_bill : DefAt K mg "_law_bill" s_law_bill
  law_is_recipe : DefAt K mg "_law_is_recipe" s_law_is_recipe
  law_exact : DefAt K mg "_law_exact" s_law_exact
  law_all_right : DefAt K mg "_law_all_right" s_law_all_right
  cheapest_recipe : DefAt K mg "cheapest_recipe" s_cheapest_recipe
  law_made : DefAt K mg "_law_made" s_law_made
  law_plus : DefAt K mg "_law_plus" s_law_plus
  law_is_fraction : DefAt K mg "_law_is_fraction" s_law_is_fraction
  law_weighed : DefAt K mg "_law_weighed" s_law_weighed
  law_is_way : DefAt K mg "_law_is_way" s_law_is_way
  law_is_costs : DefAt K mg "_law_is_costs" s_law_is_costs
  is_integer : DefAt K mg "is_integer" s_is_integer
  is_bowl : DefAt K mg "is_bowl" s_is_bowl
  checked_bowl : DefAt K mg "checked_bowl" s_checked_bowl
  is_index : DefAt K mg "is_index" s_is_index
  is_row : DefAt K mg "is_row" s_is_row
  power : DefAt K mg "power" s_power
  fits : DefAt K mg "fits" s_fits
theorem cal_never {P : Program} {w : World} {K : PySem.W.Frag} {mg : Str → Option Value} {base : Heap} {x : Str} {st : Stmt} {ps : List Str} {k : Nat} (F : DefAt K mg x st)
    (hb : ∀ (kV doc pm : Value) (an : Option Addr) (cdv ct : Value) (us : List Value), us.length = ps.length → bindArgs (PySem.W.fnOf x x (defArgs st) (defBody st) (defScope st) .none kV doc pm an cdv ct) ⟨us, []⟩ = pure (ps.zip us)) : Cal P w K mg base k x (fun _ _ _ _ => False) := by
  obtain ⟨f, fd, F, hm⟩ := F.ex
  exact ⟨f, fd, ps, ⟨fun _ _ _ _ h => h.elim, fun _ _ _ _ _ _ _ _ _ _ _ _ _ h => h.elim⟩, hm, F.kp, F.bindsN hb⟩
section
variable {P : Program} {w : World} {K : PySem.W.Frag} {mg : Str → Option Value} {base : Heap}
theorem cal_law_draw (T : Txt K mg) (D : Defs K mg) : Cal P w K mg base 1 "_law_draw" (sp_law_draw K) :=
  cal_of D.law_draw sc_law_draw (fun _ _ _ _ _ _ us hl => match us, hl with | [_, _], _ => rfl) (fun vs H Q E h => by first | (obtain ⟨_, rfl, _⟩ := h; rfl) | (obtain ⟨_, _, rfl, _⟩ := h; rfl) | (obtain ⟨_, _, _, rfl, _⟩ := h; rfl) | (obtain ⟨_, _, _, _, rfl, _⟩ := h; rfl) | (obtain ⟨_, _, _, _, _, rfl, _⟩ := h; rfl) | (obtain ⟨_, _, _, _, _, _, rfl, _⟩ := h; rfl) | (obtain ⟨_, _, _, _, _, _, _, rfl, _⟩ := h; rfl) | (obtain ⟨_, _, _, _, _, _, _, _, rfl, _⟩ := h; rfl) | (obtain ⟨_, _, _, _, _, _, _, _, _, rfl, _⟩ := h; rfl) | (obtain ⟨_, _, _, _, _, _, _, _, _, _, rfl, _⟩ := h; rfl) | (obtain ⟨_, _, _, _, _, _, _, _, _, _, _, rfl, _⟩ := h; rfl) | (obtain ⟨_, _, _, _, _, _, _, _, _, _, _, _, rfl, _⟩ := h; rfl) | (obtain ⟨rfl, _⟩ := h; rfl)) (t_law_draw K) (fun f cdv A outer s H E hr => dv_law_draw T  f cdv A outer s H E hr) (pure_law_draw)
theorem cal_law_any (T : Txt K mg) (D : Defs K mg) : Cal P w K mg base 1 "_law_any" (sp_law_any K) :=
  cal_of D.law_any sc_law_any (fun _ _ _ _ _ _ us hl => match us, hl with | [_, _], _ => rfl) (fun vs H Q E h => by first | (obtain ⟨_, rfl, _⟩ := h; rfl) | (obtain ⟨_, _, rfl, _⟩ := h; rfl) | (obtain ⟨_, _, _, rfl, _⟩ := h; rfl) | (obtain ⟨_, _, _, _, rfl, _⟩ := h; rfl) | (obtain ⟨_, _, _, _, _, rfl, _⟩ := h; rfl) | (obtain ⟨_, _, _, _, _, _, rfl, _⟩ := h; rfl) | (obtain ⟨_, _, _, _, _, _, _, rfl, _⟩ := h; rfl) | (obtain ⟨_, _, _, _, _, _, _, _, rfl, _⟩ := h; rfl) | (obtain ⟨_, _, _, _, _, _, _, _, _, rfl, _⟩ := h; rfl) | (obtain ⟨_, _, _, _, _, _, _, _, _, _, rfl, _⟩ := h; rfl) | (obtain ⟨_, _, _, _, _, _, _, _, _, _, _, rfl, _⟩ := h; rfl) | (obtain ⟨_, _, _, _, _, _, _, _, _, _, _, _, rfl, _⟩ := h; rfl) | (obtain ⟨rfl, _⟩ := h; rfl)) (t_law_any K) (fun f cdv A outer s H E hr => dv_law_any T  f cdv A outer s H E hr) (pure_law_any)
theorem cal_law_of (T : Txt K mg) (D : Defs K mg) : Cal P w K mg base 2 "_law_of" (sp_law_of K) :=
  cal_of D.law_of sc_law_of (fun _ _ _ _ _ _ us hl => match us, hl with | [_, _], _ => rfl) (fun vs H Q E h => by first | (obtain ⟨_, rfl, _⟩ := h; rfl) | (obtain ⟨_, _, rfl, _⟩ := h; rfl) | (obtain ⟨_, _, _, rfl, _⟩ := h; rfl) | (obtain ⟨_, _, _, _, rfl, _⟩ := h; rfl) | (obtain ⟨_, _, _, _, _, rfl, _⟩ := h; rfl) | (obtain ⟨_, _, _, _, _, _, rfl, _⟩ := h; rfl) | (obtain ⟨_, _, _, _, _, _, _, rfl, _⟩ := h; rfl) | (obtain ⟨_, _, _, _, _, _, _, _, rfl, _⟩ := h; rfl) | (obtain ⟨_, _, _, _, _, _, _, _, _, rfl, _⟩ := h; rfl) | (obtain ⟨_, _, _, _, _, _, _, _, _, _, rfl, _⟩ := h; rfl) | (obtain ⟨_, _, _, _, _, _, _, _, _, _, _, rfl, _⟩ := h; rfl) | (obtain ⟨_, _, _, _, _, _, _, _, _, _, _, _, rfl, _⟩ := h; rfl) | (obtain ⟨rfl, _⟩ := h; rfl)) (t_law_of K) (fun f cdv A outer s H E hr => dv_law_of T (cal_law_any T D) f cdv A outer s H E hr) (pure_law_of)
theorem cal_law_power (T : Txt K mg) (D : Defs K mg) : Cal P w K mg base 1 "_law_power" (sp_law_power K) :=
  cal_of D.law_power sc_law_power (fun _ _ _ _ _ _ us hl => match us, hl with | [_, _], _ => rfl) (fun vs H Q E h => by first | (obtain ⟨_, rfl, _⟩ := h; rfl) | (obtain ⟨_, _, rfl, _⟩ := h; rfl) | (obtain ⟨_, _, _, rfl, _⟩ := h; rfl) | (obtain ⟨_, _, _, _, rfl, _⟩ := h; rfl) | (obtain ⟨_, _, _, _, _, rfl, _⟩ := h; rfl) | (obtain ⟨_, _, _, _, _, _, rfl, _⟩ := h; rfl) | (obtain ⟨_, _, _, _, _, _, _, rfl, _⟩ := h; rfl) | (obtain ⟨_, _, _, _, _, _, _, _, rfl, _⟩ := h; rfl) | (obtain ⟨_, _, _, _, _, _, _, _, _, rfl, _⟩ := h; rfl) | (obtain ⟨_, _, _, _, _, _, _, _, _, _, rfl, _⟩ := h; rfl) | (obtain ⟨_, _, _, _, _, _, _, _, _, _, _, rfl, _⟩ := h; rfl) | (obtain ⟨_, _, _, _, _, _, _, _, _, _, _, _, rfl, _⟩ := h; rfl) | (obtain ⟨rfl, _⟩ := h; rfl)) (t_law_power K) (fun f cdv A outer s H E hr => dv_law_power T  f cdv A outer s H E hr) (pure_law_power)
theorem cal_law_divisor (T : Txt K mg) (D : Defs K mg) : Cal P w K mg base 1 "_law_divisor" (sp_law_divisor K) :=
  cal_of D.law_divisor sc_law_divisor (fun _ _ _ _ _ _ us hl => match us, hl with | [_, _], _ => rfl) (fun vs H Q E h => by first | (obtain ⟨_, rfl, _⟩ := h; rfl) | (obtain ⟨_, _, rfl, _⟩ := h; rfl) | (obtain ⟨_, _, _, rfl, _⟩ := h; rfl) | (obtain ⟨_, _, _, _, rfl, _⟩ := h; rfl) | (obtain ⟨_, _, _, _, _, rfl, _⟩ := h; rfl) | (obtain ⟨_, _, _, _, _, _, rfl, _⟩ := h; rfl) | (obtain ⟨_, _, _, _, _, _, _, rfl, _⟩ := h; rfl) | (obtain ⟨_, _, _, _, _, _, _, _, rfl, _⟩ := h; rfl) | (obtain ⟨_, _, _, _, _, _, _, _, _, rfl, _⟩ := h; rfl) | (obtain ⟨_, _, _, _, _, _, _, _, _, _, rfl, _⟩ := h; rfl) | (obtain ⟨_, _, _, _, _, _, _, _, _, _, _, rfl, _⟩ := h; rfl) | (obtain ⟨_, _, _, _, _, _, _, _, _, _, _, _, rfl, _⟩ := h; rfl) | (obtain ⟨rfl, _⟩ := h; rfl)) (t_law_divisor K) (fun f cdv A outer s H E hr => dv_law_divisor T  f cdv A outer s H E hr) (pure_law_divisor)
theorem cal_law_inverse (T : Txt K mg) (D : Defs K mg) : Cal P w K mg base 1 "_law_inverse" (sp_law_inverse K) :=
  cal_of D.law_inverse sc_law_inverse (fun _ _ _ _ _ _ us hl => match us, hl with | [_, _], _ => rfl) (fun vs H Q E h => by first | (obtain ⟨_, rfl, _⟩ := h; rfl) | (obtain ⟨_, _, rfl, _⟩ := h; rfl) | (obtain ⟨_, _, _, rfl, _⟩ := h; rfl) | (obtain ⟨_, _, _, _, rfl, _⟩ := h; rfl) | (obtain ⟨_, _, _, _, _, rfl, _⟩ := h; rfl) | (obtain ⟨_, _, _, _, _, _, rfl, _⟩ := h; rfl) | (obtain ⟨_, _, _, _, _, _, _, rfl, _⟩ := h; rfl) | (obtain ⟨_, _, _, _, _, _, _, _, rfl, _⟩ := h; rfl) | (obtain ⟨_, _, _, _, _, _, _, _, _, rfl, _⟩ := h; rfl) | (obtain ⟨_, _, _, _, _, _, _, _, _, _, rfl, _⟩ := h; rfl) | (obtain ⟨_, _, _, _, _, _, _, _, _, _, _, rfl, _⟩ := h; rfl) | (obtain ⟨_, _, _, _, _, _, _, _, _, _, _, _, rfl, _⟩ := h; rfl) | (obtain ⟨rfl, _⟩ := h; rfl)) (t_law_inverse K) (fun f cdv A outer s H E hr => dv_law_inverse T  f cdv A outer s H E hr) (pure_law_inverse)
theorem cal_law_tuples (T : Txt K mg) (D : Defs K mg) : Cal P w K mg base 1 "_law_tuples" (sp_law_tuples K) :=
  cal_of D.law_tuples sc_law_tuples (fun _ _ _ _ _ _ us hl => match us, hl with | [_, _], _ => rfl) (fun vs H Q E h => by first | (obtain ⟨_, rfl, _⟩ := h; rfl) | (obtain ⟨_, _, rfl, _⟩ := h; rfl) | (obtain ⟨_, _, _, rfl, _⟩ := h; rfl) | (obtain ⟨_, _, _, _, rfl, _⟩ := h; rfl) | (obtain ⟨_, _, _, _, _, rfl, _⟩ := h; rfl) | (obtain ⟨_, _, _, _, _, _, rfl, _⟩ := h; rfl) | (obtain ⟨_, _, _, _, _, _, _, rfl, _⟩ := h; rfl) | (obtain ⟨_, _, _, _, _, _, _, _, rfl, _⟩ := h; rfl) | (obtain ⟨_, _, _, _, _, _, _, _, _, rfl, _⟩ := h; rfl) | (obtain ⟨_, _, _, _, _, _, _, _, _, _, rfl, _⟩ := h; rfl) | (obtain ⟨_, _, _, _, _, _, _, _, _, _, _, rfl, _⟩ := h; rfl) | (obtain ⟨_, _, _, _, _, _, _, _, _, _, _, _, rfl, _⟩ := h; rfl) | (obtain ⟨rfl, _⟩ := h; rfl)) (t_law_tuples K) (fun f cdv A outer s H E hr => dv_law_tuples T  f cdv A outer s H E hr) (pure_law_tuples)
theorem cal_law_standard (T : Txt K mg) (D : Defs K mg) : Cal P w K mg base 2 "_law_standard" (sp_law_standard K) :=
  cal_of D.law_standard sc_law_standard (fun _ _ _ _ _ _ us hl => match us, hl with | [_, _, _], _ => rfl) (fun vs H Q E h => by first | (obtain ⟨_, rfl, _⟩ := h; rfl) | (obtain ⟨_, _, rfl, _⟩ := h; rfl) | (obtain ⟨_, _, _, rfl, _⟩ := h; rfl) | (obtain ⟨_, _, _, _, rfl, _⟩ := h; rfl) | (obtain ⟨_, _, _, _, _, rfl, _⟩ := h; rfl) | (obtain ⟨_, _, _, _, _, _, rfl, _⟩ := h; rfl) | (obtain ⟨_, _, _, _, _, _, _, rfl, _⟩ := h; rfl) | (obtain ⟨_, _, _, _, _, _, _, _, rfl, _⟩ := h; rfl) | (obtain ⟨_, _, _, _, _, _, _, _, _, rfl, _⟩ := h; rfl) | (obtain ⟨_, _, _, _, _, _, _, _, _, _, rfl, _⟩ := h; rfl) | (obtain ⟨_, _, _, _, _, _, _, _, _, _, _, rfl, _⟩ := h; rfl) | (obtain ⟨_, _, _, _, _, _, _, _, _, _, _, _, rfl, _⟩ := h; rfl) | (obtain ⟨rfl, _⟩ := h; rfl)) (t_law_standard K) (fun f cdv A outer s H E hr => dv_law_standard T (cal_law_inverse T D) (cal_law_tuples T D) f cdv A outer s H E hr) (pure_law_standard)
theorem cal_law_mixed (T : Txt K mg) (D : Defs K mg) : Cal P w K mg base 2 "_law_mixed" (sp_law_mixed K) :=
  cal_of D.law_mixed sc_law_mixed (fun _ _ _ _ _ _ us hl => match us, hl with | [_, _], _ => rfl) (fun vs H Q E h => by first | (obtain ⟨_, rfl, _⟩ := h; rfl) | (obtain ⟨_, _, rfl, _⟩ := h; rfl) | (obtain ⟨_, _, _, rfl, _⟩ := h; rfl) | (obtain ⟨_, _, _, _, rfl, _⟩ := h; rfl) | (obtain ⟨_, _, _, _, _, rfl, _⟩ := h; rfl) | (obtain ⟨_, _, _, _, _, _, rfl, _⟩ := h; rfl) | (obtain ⟨_, _, _, _, _, _, _, rfl, _⟩ := h; rfl) | (obtain ⟨_, _, _, _, _, _, _, _, rfl, _⟩ := h; rfl) | (obtain ⟨_, _, _, _, _, _, _, _, _, rfl, _⟩ := h; rfl) | (obtain ⟨_, _, _, _, _, _, _, _, _, _, rfl, _⟩ := h; rfl) | (obtain ⟨_, _, _, _, _, _, _, _, _, _, _, rfl, _⟩ := h; rfl) | (obtain ⟨_, _, _, _, _, _, _, _, _, _, _, _, rfl, _⟩ := h; rfl) | (obtain ⟨rfl, _⟩ := h; rfl)) (t_law_mixed K) (fun f cdv A outer s H E hr => dv_law_mixed T (cal_law_any T D) f cdv A outer s H E hr) (pure_law_mixed)
theorem cal_law_form (T : Txt K mg) (D : Defs K mg) : Cal P w K mg base 3 "_law_form" (sp_law_form K) :=
  cal_of D.law_form sc_law_form (fun _ _ _ _ _ _ us hl => match us, hl with | [_, _, _], _ => rfl) (fun vs H Q E h => by first | (obtain ⟨_, rfl, _⟩ := h; rfl) | (obtain ⟨_, _, rfl, _⟩ := h; rfl) | (obtain ⟨_, _, _, rfl, _⟩ := h; rfl) | (obtain ⟨_, _, _, _, rfl, _⟩ := h; rfl) | (obtain ⟨_, _, _, _, _, rfl, _⟩ := h; rfl) | (obtain ⟨_, _, _, _, _, _, rfl, _⟩ := h; rfl) | (obtain ⟨_, _, _, _, _, _, _, rfl, _⟩ := h; rfl) | (obtain ⟨_, _, _, _, _, _, _, _, rfl, _⟩ := h; rfl) | (obtain ⟨_, _, _, _, _, _, _, _, _, rfl, _⟩ := h; rfl) | (obtain ⟨_, _, _, _, _, _, _, _, _, _, rfl, _⟩ := h; rfl) | (obtain ⟨_, _, _, _, _, _, _, _, _, _, _, rfl, _⟩ := h; rfl) | (obtain ⟨_, _, _, _, _, _, _, _, _, _, _, _, rfl, _⟩ := h; rfl) | (obtain ⟨rfl, _⟩ := h; rfl)) (t_law_form K) (fun f cdv A outer s H E hr => dv_law_form T (cal_law_divisor T D) (cal_law_of T D) (cal_law_any T D) (cal_law_mixed T D) f cdv A outer s H E hr) (pure_law_form)
theorem cal_law_joint (T : Txt K mg) (D : Defs K mg) : Cal P w K mg base 1 "_law_joint" (sp_law_joint K) :=
  cal_of D.law_joint sc_law_joint (fun _ _ _ _ _ _ us hl => match us, hl with | [_, _], _ => rfl) (fun vs H Q E h => by first | (obtain ⟨_, rfl, _⟩ := h; rfl) | (obtain ⟨_, _, rfl, _⟩ := h; rfl) | (obtain ⟨_, _, _, rfl, _⟩ := h; rfl) | (obtain ⟨_, _, _, _, rfl, _⟩ := h; rfl) | (obtain ⟨_, _, _, _, _, rfl, _⟩ := h; rfl) | (obtain ⟨_, _, _, _, _, _, rfl, _⟩ := h; rfl) | (obtain ⟨_, _, _, _, _, _, _, rfl, _⟩ := h; rfl) | (obtain ⟨_, _, _, _, _, _, _, _, rfl, _⟩ := h; rfl) | (obtain ⟨_, _, _, _, _, _, _, _, _, rfl, _⟩ := h; rfl) | (obtain ⟨_, _, _, _, _, _, _, _, _, _, rfl, _⟩ := h; rfl) | (obtain ⟨_, _, _, _, _, _, _, _, _, _, _, rfl, _⟩ := h; rfl) | (obtain ⟨_, _, _, _, _, _, _, _, _, _, _, _, rfl, _⟩ := h; rfl) | (obtain ⟨rfl, _⟩ := h; rfl)) (t_law_joint K) (fun f cdv A outer s H E hr => dv_law_joint T  f cdv A outer s H E hr) (pure_law_joint)
theorem cal_law_risen (T : Txt K mg) (D : Defs K mg) : Cal P w K mg base 1 "_law_risen" (sp_law_risen K) :=
  cal_of D.law_risen sc_law_risen (fun _ _ _ _ _ _ us hl => match us, hl with | [_, _, _], _ => rfl) (fun vs H Q E h => by first | (obtain ⟨_, rfl, _⟩ := h; rfl) | (obtain ⟨_, _, rfl, _⟩ := h; rfl) | (obtain ⟨_, _, _, rfl, _⟩ := h; rfl) | (obtain ⟨_, _, _, _, rfl, _⟩ := h; rfl) | (obtain ⟨_, _, _, _, _, rfl, _⟩ := h; rfl) | (obtain ⟨_, _, _, _, _, _, rfl, _⟩ := h; rfl) | (obtain ⟨_, _, _, _, _, _, _, rfl, _⟩ := h; rfl) | (obtain ⟨_, _, _, _, _, _, _, _, rfl, _⟩ := h; rfl) | (obtain ⟨_, _, _, _, _, _, _, _, _, rfl, _⟩ := h; rfl) | (obtain ⟨_, _, _, _, _, _, _, _, _, _, rfl, _⟩ := h; rfl) | (obtain ⟨_, _, _, _, _, _, _, _, _, _, _, rfl, _⟩ := h; rfl) | (obtain ⟨_, _, _, _, _, _, _, _, _, _, _, _, rfl, _⟩ := h; rfl) | (obtain ⟨rfl, _⟩ := h; rfl)) (t_law_risen K) (fun f cdv A outer s H E hr => dv_law_risen T  f cdv A outer s H E hr) (pure_law_risen)
theorem cal_law_results (T : Txt K mg) (D : Defs K mg) : Cal P w K mg base 2 "_law_results" (sp_law_results K) :=
  cal_of D.law_results sc_law_results (fun _ _ _ _ _ _ us hl => match us, hl with | [_, _], _ => rfl) (fun vs H Q E h => by first | (obtain ⟨_, rfl, _⟩ := h; rfl) | (obtain ⟨_, _, rfl, _⟩ := h; rfl) | (obtain ⟨_, _, _, rfl, _⟩ := h; rfl) | (obtain ⟨_, _, _, _, rfl, _⟩ := h; rfl) | (obtain ⟨_, _, _, _, _, rfl, _⟩ := h; rfl) | (obtain ⟨_, _, _, _, _, _, rfl, _⟩ := h; rfl) | (obtain ⟨_, _, _, _, _, _, _, rfl, _⟩ := h; rfl) | (obtain ⟨_, _, _, _, _, _, _, _, rfl, _⟩ := h; rfl) | (obtain ⟨_, _, _, _, _, _, _, _, _, rfl, _⟩ := h; rfl) | (obtain ⟨_, _, _, _, _, _, _, _, _, _, rfl, _⟩ := h; rfl) | (obtain ⟨_, _, _, _, _, _, _, _, _, _, _, rfl, _⟩ := h; rfl) | (obtain ⟨_, _, _, _, _, _, _, _, _, _, _, _, rfl, _⟩ := h; rfl) | (obtain ⟨rfl, _⟩ := h; rfl)) (t_law_results K) (fun f cdv A outer s H E hr => dv_law_results T (cal_law_inverse T D) (cal_law_tuples T D) (cal_law_joint T D) (cal_law_risen T D) f cdv A outer s H E hr) (pure_law_results)
theorem cal_law_table (T : Txt K mg) (D : Defs K mg) : Cal P w K mg base 4 "_law_table" (sp_law_table K) :=
  cal_of D.law_table sc_law_table (fun _ _ _ _ _ _ us hl => match us, hl with | [_, _, _], _ => rfl) (fun vs H Q E h => by first | (obtain ⟨_, rfl, _⟩ := h; rfl) | (obtain ⟨_, _, rfl, _⟩ := h; rfl) | (obtain ⟨_, _, _, rfl, _⟩ := h; rfl) | (obtain ⟨_, _, _, _, rfl, _⟩ := h; rfl) | (obtain ⟨_, _, _, _, _, rfl, _⟩ := h; rfl) | (obtain ⟨_, _, _, _, _, _, rfl, _⟩ := h; rfl) | (obtain ⟨_, _, _, _, _, _, _, rfl, _⟩ := h; rfl) | (obtain ⟨_, _, _, _, _, _, _, _, rfl, _⟩ := h; rfl) | (obtain ⟨_, _, _, _, _, _, _, _, _, rfl, _⟩ := h; rfl) | (obtain ⟨_, _, _, _, _, _, _, _, _, _, rfl, _⟩ := h; rfl) | (obtain ⟨_, _, _, _, _, _, _, _, _, _, _, rfl, _⟩ := h; rfl) | (obtain ⟨_, _, _, _, _, _, _, _, _, _, _, _, rfl, _⟩ := h; rfl) | (obtain ⟨rfl, _⟩ := h; rfl)) (t_law_table K) (fun f cdv A outer s H E hr => dv_law_table T (cal_law_any T D) (cal_law_power T D) (cal_law_divisor T D) (cal_law_of T D) (cal_law_standard T D) (cal_law_form T D) (cal_law_results T D) f cdv A outer s H E hr) (pure_law_table)
theorem cal_law_spoilt (T : Txt K mg) (D : Defs K mg) : Cal P w K mg base 2 "_law_spoilt" (sp_law_spoilt K) :=
  cal_of D.law_spoilt sc_law_spoilt (fun _ _ _ _ _ _ us hl => match us, hl with | [_, _, _], _ => rfl) (fun vs H Q E h => by first | (obtain ⟨_, rfl, _⟩ := h; rfl) | (obtain ⟨_, _, rfl, _⟩ := h; rfl) | (obtain ⟨_, _, _, rfl, _⟩ := h; rfl) | (obtain ⟨_, _, _, _, rfl, _⟩ := h; rfl) | (obtain ⟨_, _, _, _, _, rfl, _⟩ := h; rfl) | (obtain ⟨_, _, _, _, _, _, rfl, _⟩ := h; rfl) | (obtain ⟨_, _, _, _, _, _, _, rfl, _⟩ := h; rfl) | (obtain ⟨_, _, _, _, _, _, _, _, rfl, _⟩ := h; rfl) | (obtain ⟨_, _, _, _, _, _, _, _, _, rfl, _⟩ := h; rfl) | (obtain ⟨_, _, _, _, _, _, _, _, _, _, rfl, _⟩ := h; rfl) | (obtain ⟨_, _, _, _, _, _, _, _, _, _, _, rfl, _⟩ := h; rfl) | (obtain ⟨_, _, _, _, _, _, _, _, _, _, _, _, rfl, _⟩ := h; rfl) | (obtain ⟨rfl, _⟩ := h; rfl)) (t_law_spoilt K) (fun f cdv A outer s H E hr => dv_law_spoilt T (cal_law_any T D) f cdv A outer s H E hr) (pure_law_spoilt)
theorem cal_law_random (T : Txt K mg) (D : Defs K mg) : Cal P w K mg base 2 "_law_random" (sp_law_random K) :=
  cal_of D.law_random sc_law_random (fun _ _ _ _ _ _ us hl => match us, hl with | [_, _, _], _ => rfl) (fun vs H Q E h => by first | (obtain ⟨_, rfl, _⟩ := h; rfl) | (obtain ⟨_, _, rfl, _⟩ := h; rfl) | (obtain ⟨_, _, _, rfl, _⟩ := h; rfl) | (obtain ⟨_, _, _, _, rfl, _⟩ := h; rfl) | (obtain ⟨_, _, _, _, _, rfl, _⟩ := h; rfl) | (obtain ⟨_, _, _, _, _, _, rfl, _⟩ := h; rfl) | (obtain ⟨_, _, _, _, _, _, _, rfl, _⟩ := h; rfl) | (obtain ⟨_, _, _, _, _, _, _, _, rfl, _⟩ := h; rfl) | (obtain ⟨_, _, _, _, _, _, _, _, _, rfl, _⟩ := h; rfl) | (obtain ⟨_, _, _, _, _, _, _, _, _, _, rfl, _⟩ := h; rfl) | (obtain ⟨_, _, _, _, _, _, _, _, _, _, _, rfl, _⟩ := h; rfl) | (obtain ⟨_, _, _, _, _, _, _, _, _, _, _, _, rfl, _⟩ := h; rfl) | (obtain ⟨rfl, _⟩ := h; rfl)) (t_law_random K) (fun f cdv A outer s H E hr => dv_law_random T (cal_law_any T D) (cal_law_tuples T D) f cdv A outer s H E hr) (pure_law_random)
theorem cal_law_world (T : Txt K mg) (D : Defs K mg) : Cal P w K mg base 5 "_law_world" (sp_law_world K) :=
  cal_of D.law_world sc_law_world (fun _ _ _ _ _ _ us hl => match us, hl with | [_, _], _ => rfl) (fun vs H Q E h => by first | (obtain ⟨_, rfl, _⟩ := h; rfl) | (obtain ⟨_, _, rfl, _⟩ := h; rfl) | (obtain ⟨_, _, _, rfl, _⟩ := h; rfl) | (obtain ⟨_, _, _, _, rfl, _⟩ := h; rfl) | (obtain ⟨_, _, _, _, _, rfl, _⟩ := h; rfl) | (obtain ⟨_, _, _, _, _, _, rfl, _⟩ := h; rfl) | (obtain ⟨_, _, _, _, _, _, _, rfl, _⟩ := h; rfl) | (obtain ⟨_, _, _, _, _, _, _, _, rfl, _⟩ := h; rfl) | (obtain ⟨_, _, _, _, _, _, _, _, _, rfl, _⟩ := h; rfl) | (obtain ⟨_, _, _, _, _, _, _, _, _, _, rfl, _⟩ := h; rfl) | (obtain ⟨_, _, _, _, _, _, _, _, _, _, _, rfl, _⟩ := h; rfl) | (obtain ⟨_, _, _, _, _, _, _, _, _, _, _, _, rfl, _⟩ := h; rfl) | (obtain ⟨rfl, _⟩ := h; rfl)) (t_law_world K) (fun f cdv A outer s H E hr => dv_law_world T (cal_law_of T D) (cal_law_any T D) (cal_law_table T D) (cal_law_spoilt T D) (cal_law_random T D) f cdv A outer s H E hr) (pure_law_world)
theorem cal_law_shown (T : Txt K mg) (D : Defs K mg) : Cal P w K mg base 2 "_law_shown" (sp_law_shown K) :=
  cal_of D.law_shown sc_law_shown (fun _ _ _ _ _ _ us hl => match us, hl with | [_, _], _ => rfl) (fun vs H Q E h => by first | (obtain ⟨_, rfl, _⟩ := h; rfl) | (obtain ⟨_, _, rfl, _⟩ := h; rfl) | (obtain ⟨_, _, _, rfl, _⟩ := h; rfl) | (obtain ⟨_, _, _, _, rfl, _⟩ := h; rfl) | (obtain ⟨_, _, _, _, _, rfl, _⟩ := h; rfl) | (obtain ⟨_, _, _, _, _, _, rfl, _⟩ := h; rfl) | (obtain ⟨_, _, _, _, _, _, _, rfl, _⟩ := h; rfl) | (obtain ⟨_, _, _, _, _, _, _, _, rfl, _⟩ := h; rfl) | (obtain ⟨_, _, _, _, _, _, _, _, _, rfl, _⟩ := h; rfl) | (obtain ⟨_, _, _, _, _, _, _, _, _, _, rfl, _⟩ := h; rfl) | (obtain ⟨_, _, _, _, _, _, _, _, _, _, _, rfl, _⟩ := h; rfl) | (obtain ⟨_, _, _, _, _, _, _, _, _, _, _, _, rfl, _⟩ := h; rfl) | (obtain ⟨rfl, _⟩ := h; rfl)) (t_law_shown K) (fun f cdv A outer s H E hr => dv_law_shown T (cal_law_any T D) f cdv A outer s H E hr) (pure_law_shown)
theorem cal_law_prices (T : Txt K mg) (D : Defs K mg) : Cal P w K mg base 2 "_law_prices" (sp_law_prices K) :=
  cal_of D.law_prices sc_law_prices (fun _ _ _ _ _ _ us hl => match us, hl with | [_, _], _ => rfl) (fun vs H Q E h => by first | (obtain ⟨_, rfl, _⟩ := h; rfl) | (obtain ⟨_, _, rfl, _⟩ := h; rfl) | (obtain ⟨_, _, _, rfl, _⟩ := h; rfl) | (obtain ⟨_, _, _, _, rfl, _⟩ := h; rfl) | (obtain ⟨_, _, _, _, _, rfl, _⟩ := h; rfl) | (obtain ⟨_, _, _, _, _, _, rfl, _⟩ := h; rfl) | (obtain ⟨_, _, _, _, _, _, _, rfl, _⟩ := h; rfl) | (obtain ⟨_, _, _, _, _, _, _, _, rfl, _⟩ := h; rfl) | (obtain ⟨_, _, _, _, _, _, _, _, _, rfl, _⟩ := h; rfl) | (obtain ⟨_, _, _, _, _, _, _, _, _, _, rfl, _⟩ := h; rfl) | (obtain ⟨_, _, _, _, _, _, _, _, _, _, _, rfl, _⟩ := h; rfl) | (obtain ⟨_, _, _, _, _, _, _, _, _, _, _, _, rfl, _⟩ := h; rfl) | (obtain ⟨rfl, _⟩ := h; rfl)) (t_law_prices K) (fun f cdv A outer s H E hr => dv_law_prices T (cal_law_any T D) f cdv A outer s H E hr) (pure_law_prices)
theorem cal_is_row (T : Txt K mg) (D : Defs K mg) : Cal P w K mg base 1 "is_row" (sp_is_row K) :=
  cal_of D.is_row sc_is_row (fun _ _ _ _ _ _ us hl => match us, hl with | [_], _ => rfl) (fun vs H Q E h => by first | (obtain ⟨_, rfl, _⟩ := h; rfl) | (obtain ⟨_, _, rfl, _⟩ := h; rfl) | (obtain ⟨_, _, _, rfl, _⟩ := h; rfl) | (obtain ⟨_, _, _, _, rfl, _⟩ := h; rfl) | (obtain ⟨_, _, _, _, _, rfl, _⟩ := h; rfl) | (obtain ⟨_, _, _, _, _, _, rfl, _⟩ := h; rfl) | (obtain ⟨_, _, _, _, _, _, _, rfl, _⟩ := h; rfl) | (obtain ⟨_, _, _, _, _, _, _, _, rfl, _⟩ := h; rfl) | (obtain ⟨_, _, _, _, _, _, _, _, _, rfl, _⟩ := h; rfl) | (obtain ⟨_, _, _, _, _, _, _, _, _, _, rfl, _⟩ := h; rfl) | (obtain ⟨_, _, _, _, _, _, _, _, _, _, _, rfl, _⟩ := h; rfl) | (obtain ⟨_, _, _, _, _, _, _, _, _, _, _, _, rfl, _⟩ := h; rfl) | (obtain ⟨rfl, _⟩ := h; rfl)) (t_is_row K) (fun f cdv A outer s H E hr => dv_is_row T  f cdv A outer s H E hr) (pure_is_row)
theorem cal_is_integer (T : Txt K mg) (D : Defs K mg) : Cal P w K mg base 1 "is_integer" (sp_is_integer K) :=
  cal_of D.is_integer sc_is_integer (fun _ _ _ _ _ _ us hl => match us, hl with | [_], _ => rfl) (fun vs H Q E h => by first | (obtain ⟨_, rfl, _⟩ := h; rfl) | (obtain ⟨_, _, rfl, _⟩ := h; rfl) | (obtain ⟨_, _, _, rfl, _⟩ := h; rfl) | (obtain ⟨_, _, _, _, rfl, _⟩ := h; rfl) | (obtain ⟨_, _, _, _, _, rfl, _⟩ := h; rfl) | (obtain ⟨_, _, _, _, _, _, rfl, _⟩ := h; rfl) | (obtain ⟨_, _, _, _, _, _, _, rfl, _⟩ := h; rfl) | (obtain ⟨_, _, _, _, _, _, _, _, rfl, _⟩ := h; rfl) | (obtain ⟨_, _, _, _, _, _, _, _, _, rfl, _⟩ := h; rfl) | (obtain ⟨_, _, _, _, _, _, _, _, _, _, rfl, _⟩ := h; rfl) | (obtain ⟨_, _, _, _, _, _, _, _, _, _, _, rfl, _⟩ := h; rfl) | (obtain ⟨_, _, _, _, _, _, _, _, _, _, _, _, rfl, _⟩ := h; rfl) | (obtain ⟨rfl, _⟩ := h; rfl)) (t_is_integer K) (fun f cdv A outer s H E hr => dv_is_integer T  f cdv A outer s H E hr) (pure_is_integer)
theorem cal_checked_prices (T : Txt K mg) (D : Defs K mg) : Cal P w K mg base 2 "checked_prices" (sp_checked_prices K) :=
  cal_of D.checked_prices sc_checked_prices (fun _ _ _ _ _ _ us hl => match us, hl with | [_, _], _ => rfl) (fun vs H Q E h => by first | (obtain ⟨_, rfl, _⟩ := h; rfl) | (obtain ⟨_, _, rfl, _⟩ := h; rfl) | (obtain ⟨_, _, _, rfl, _⟩ := h; rfl) | (obtain ⟨_, _, _, _, rfl, _⟩ := h; rfl) | (obtain ⟨_, _, _, _, _, rfl, _⟩ := h; rfl) | (obtain ⟨_, _, _, _, _, _, rfl, _⟩ := h; rfl) | (obtain ⟨_, _, _, _, _, _, _, rfl, _⟩ := h; rfl) | (obtain ⟨_, _, _, _, _, _, _, _, rfl, _⟩ := h; rfl) | (obtain ⟨_, _, _, _, _, _, _, _, _, rfl, _⟩ := h; rfl) | (obtain ⟨_, _, _, _, _, _, _, _, _, _, rfl, _⟩ := h; rfl) | (obtain ⟨_, _, _, _, _, _, _, _, _, _, _, rfl, _⟩ := h; rfl) | (obtain ⟨_, _, _, _, _, _, _, _, _, _, _, _, rfl, _⟩ := h; rfl) | (obtain ⟨rfl, _⟩ := h; rfl)) (t_checked_prices K) (fun f cdv A outer s H E hr => dv_checked_prices T (cal_is_row T D) (cal_is_integer T D) f cdv A outer s H E hr) (pure_checked_prices T)
theorem cal_pivoted (T : Txt K mg) (D : Defs K mg) : Cal P w K mg base 1 "pivoted" (sp_pivoted K) :=
  cal_of D.pivoted sc_pivoted (fun _ _ _ _ _ _ us hl => match us, hl with | [_, _, _, _], _ => rfl) (fun vs H Q E h => by first | (obtain ⟨_, rfl, _⟩ := h; rfl) | (obtain ⟨_, _, rfl, _⟩ := h; rfl) | (obtain ⟨_, _, _, rfl, _⟩ := h; rfl) | (obtain ⟨_, _, _, _, rfl, _⟩ := h; rfl) | (obtain ⟨_, _, _, _, _, rfl, _⟩ := h; rfl) | (obtain ⟨_, _, _, _, _, _, rfl, _⟩ := h; rfl) | (obtain ⟨_, _, _, _, _, _, _, rfl, _⟩ := h; rfl) | (obtain ⟨_, _, _, _, _, _, _, _, rfl, _⟩ := h; rfl) | (obtain ⟨_, _, _, _, _, _, _, _, _, rfl, _⟩ := h; rfl) | (obtain ⟨_, _, _, _, _, _, _, _, _, _, rfl, _⟩ := h; rfl) | (obtain ⟨_, _, _, _, _, _, _, _, _, _, _, rfl, _⟩ := h; rfl) | (obtain ⟨_, _, _, _, _, _, _, _, _, _, _, _, rfl, _⟩ := h; rfl) | (obtain ⟨rfl, _⟩ := h; rfl)) (t_pivoted K) (fun f cdv A outer s H E hr => dv_pivoted T  f cdv A outer s H E hr) (pure_pivoted)
theorem cal_solved (T : Txt K mg) (D : Defs K mg) : Cal P w K mg base 2 "solved" (sp_solved K) :=
  cal_of D.solved sc_solved (fun _ _ _ _ _ _ us hl => match us, hl with | [_], _ => rfl) (fun vs H Q E h => by first | (obtain ⟨_, rfl, _⟩ := h; rfl) | (obtain ⟨_, _, rfl, _⟩ := h; rfl) | (obtain ⟨_, _, _, rfl, _⟩ := h; rfl) | (obtain ⟨_, _, _, _, rfl, _⟩ := h; rfl) | (obtain ⟨_, _, _, _, _, rfl, _⟩ := h; rfl) | (obtain ⟨_, _, _, _, _, _, rfl, _⟩ := h; rfl) | (obtain ⟨_, _, _, _, _, _, _, rfl, _⟩ := h; rfl) | (obtain ⟨_, _, _, _, _, _, _, _, rfl, _⟩ := h; rfl) | (obtain ⟨_, _, _, _, _, _, _, _, _, rfl, _⟩ := h; rfl) | (obtain ⟨_, _, _, _, _, _, _, _, _, _, rfl, _⟩ := h; rfl) | (obtain ⟨_, _, _, _, _, _, _, _, _, _, _, rfl, _⟩ := h; rfl) | (obtain ⟨_, _, _, _, _, _, _, _, _, _, _, _, rfl, _⟩ := h; rfl) | (obtain ⟨rfl, _⟩ := h; rfl)) (t_solved K) (fun f cdv A outer s H E hr => dv_solved T (cal_pivoted T D) f cdv A outer s H E hr) (pure_solved)
theorem cal_divisor (T : Txt K mg) (D : Defs K mg) : Cal P w K mg base 1 "divisor" (sp_divisor K) :=
  cal_of D.divisor sc_divisor (fun _ _ _ _ _ _ us hl => match us, hl with | [_, _], _ => rfl) (fun vs H Q E h => by first | (obtain ⟨_, rfl, _⟩ := h; rfl) | (obtain ⟨_, _, rfl, _⟩ := h; rfl) | (obtain ⟨_, _, _, rfl, _⟩ := h; rfl) | (obtain ⟨_, _, _, _, rfl, _⟩ := h; rfl) | (obtain ⟨_, _, _, _, _, rfl, _⟩ := h; rfl) | (obtain ⟨_, _, _, _, _, _, rfl, _⟩ := h; rfl) | (obtain ⟨_, _, _, _, _, _, _, rfl, _⟩ := h; rfl) | (obtain ⟨_, _, _, _, _, _, _, _, rfl, _⟩ := h; rfl) | (obtain ⟨_, _, _, _, _, _, _, _, _, rfl, _⟩ := h; rfl) | (obtain ⟨_, _, _, _, _, _, _, _, _, _, rfl, _⟩ := h; rfl) | (obtain ⟨_, _, _, _, _, _, _, _, _, _, _, rfl, _⟩ := h; rfl) | (obtain ⟨_, _, _, _, _, _, _, _, _, _, _, _, rfl, _⟩ := h; rfl) | (obtain ⟨rfl, _⟩ := h; rfl)) (t_divisor K) (fun f cdv A outer s H E hr => dv_divisor T  f cdv A outer s H E hr) (pure_divisor)
theorem cal_made (T : Txt K mg) (D : Defs K mg) : Cal P w K mg base 2 "made" (sp_made K) :=
  cal_of D.made sc_made (fun _ _ _ _ _ _ us hl => match us, hl with | [_, _], _ => rfl) (fun vs H Q E h => by first | (obtain ⟨_, rfl, _⟩ := h; rfl) | (obtain ⟨_, _, rfl, _⟩ := h; rfl) | (obtain ⟨_, _, _, rfl, _⟩ := h; rfl) | (obtain ⟨_, _, _, _, rfl, _⟩ := h; rfl) | (obtain ⟨_, _, _, _, _, rfl, _⟩ := h; rfl) | (obtain ⟨_, _, _, _, _, _, rfl, _⟩ := h; rfl) | (obtain ⟨_, _, _, _, _, _, _, rfl, _⟩ := h; rfl) | (obtain ⟨_, _, _, _, _, _, _, _, rfl, _⟩ := h; rfl) | (obtain ⟨_, _, _, _, _, _, _, _, _, rfl, _⟩ := h; rfl) | (obtain ⟨_, _, _, _, _, _, _, _, _, _, rfl, _⟩ := h; rfl) | (obtain ⟨_, _, _, _, _, _, _, _, _, _, _, rfl, _⟩ := h; rfl) | (obtain ⟨_, _, _, _, _, _, _, _, _, _, _, _, rfl, _⟩ := h; rfl) | (obtain ⟨rfl, _⟩ := h; rfl)) (t_made K) (fun f cdv A outer s H E hr => dv_made T (cal_divisor T D) f cdv A outer s H E hr) (pure_made)
theorem cal_followed (T : Txt K mg) (D : Defs K mg) : Cal P w K mg base 3 "followed" (sp_followed K) :=
  cal_of D.followed sc_followed (fun _ _ _ _ _ _ us hl => match us, hl with | [_, _, _], _ => rfl) (fun vs H Q E h => by first | (obtain ⟨_, rfl, _⟩ := h; rfl) | (obtain ⟨_, _, rfl, _⟩ := h; rfl) | (obtain ⟨_, _, _, rfl, _⟩ := h; rfl) | (obtain ⟨_, _, _, _, rfl, _⟩ := h; rfl) | (obtain ⟨_, _, _, _, _, rfl, _⟩ := h; rfl) | (obtain ⟨_, _, _, _, _, _, rfl, _⟩ := h; rfl) | (obtain ⟨_, _, _, _, _, _, _, rfl, _⟩ := h; rfl) | (obtain ⟨_, _, _, _, _, _, _, _, rfl, _⟩ := h; rfl) | (obtain ⟨_, _, _, _, _, _, _, _, _, rfl, _⟩ := h; rfl) | (obtain ⟨_, _, _, _, _, _, _, _, _, _, rfl, _⟩ := h; rfl) | (obtain ⟨_, _, _, _, _, _, _, _, _, _, _, rfl, _⟩ := h; rfl) | (obtain ⟨_, _, _, _, _, _, _, _, _, _, _, _, rfl, _⟩ := h; rfl) | (obtain ⟨rfl, _⟩ := h; rfl)) (t_followed K) (fun f cdv A outer s H E hr => dv_followed T (cal_solved T D) (cal_made T D) f cdv A outer s H E hr) (pure_followed T)
theorem cal_tuples_of (T : Txt K mg) (D : Defs K mg) : Cal P w K mg base 1 "tuples_of" (sp_tuples_of K) :=
  cal_of D.tuples_of sc_tuples_of (fun _ _ _ _ _ _ us hl => match us, hl with | [_, _], _ => rfl) (fun vs H Q E h => by first | (obtain ⟨_, rfl, _⟩ := h; rfl) | (obtain ⟨_, _, rfl, _⟩ := h; rfl) | (obtain ⟨_, _, _, rfl, _⟩ := h; rfl) | (obtain ⟨_, _, _, _, rfl, _⟩ := h; rfl) | (obtain ⟨_, _, _, _, _, rfl, _⟩ := h; rfl) | (obtain ⟨_, _, _, _, _, _, rfl, _⟩ := h; rfl) | (obtain ⟨_, _, _, _, _, _, _, rfl, _⟩ := h; rfl) | (obtain ⟨_, _, _, _, _, _, _, _, rfl, _⟩ := h; rfl) | (obtain ⟨_, _, _, _, _, _, _, _, _, rfl, _⟩ := h; rfl) | (obtain ⟨_, _, _, _, _, _, _, _, _, _, rfl, _⟩ := h; rfl) | (obtain ⟨_, _, _, _, _, _, _, _, _, _, _, rfl, _⟩ := h; rfl) | (obtain ⟨_, _, _, _, _, _, _, _, _, _, _, _, rfl, _⟩ := h; rfl) | (obtain ⟨rfl, _⟩ := h; rfl)) (t_tuples_of K) (fun f cdv A outer s H E hr => dv_tuples_of T  f cdv A outer s H E hr) (pure_tuples_of)
theorem cal_all_cups (T : Txt K mg) (D : Defs K mg) : Cal P w K mg base 2 "all_cups" (sp_all_cups K) :=
  cal_of D.all_cups sc_all_cups (fun _ _ _ _ _ _ us hl => match us, hl with | [_], _ => rfl) (fun vs H Q E h => by first | (obtain ⟨_, rfl, _⟩ := h; rfl) | (obtain ⟨_, _, rfl, _⟩ := h; rfl) | (obtain ⟨_, _, _, rfl, _⟩ := h; rfl) | (obtain ⟨_, _, _, _, rfl, _⟩ := h; rfl) | (obtain ⟨_, _, _, _, _, rfl, _⟩ := h; rfl) | (obtain ⟨_, _, _, _, _, _, rfl, _⟩ := h; rfl) | (obtain ⟨_, _, _, _, _, _, _, rfl, _⟩ := h; rfl) | (obtain ⟨_, _, _, _, _, _, _, _, rfl, _⟩ := h; rfl) | (obtain ⟨_, _, _, _, _, _, _, _, _, rfl, _⟩ := h; rfl) | (obtain ⟨_, _, _, _, _, _, _, _, _, _, rfl, _⟩ := h; rfl) | (obtain ⟨_, _, _, _, _, _, _, _, _, _, _, rfl, _⟩ := h; rfl) | (obtain ⟨_, _, _, _, _, _, _, _, _, _, _, _, rfl, _⟩ := h; rfl) | (obtain ⟨rfl, _⟩ := h; rfl)) (t_all_cups K) (fun f cdv A outer s H E hr => dv_all_cups T (cal_tuples_of T D) f cdv A outer s H E hr) (pure_all_cups T)
theorem cal_is_index (T : Txt K mg) (D : Defs K mg) : Cal P w K mg base 1 "is_index" (sp_is_index K) :=
  cal_of D.is_index sc_is_index (fun _ _ _ _ _ _ us hl => match us, hl with | [_, _], _ => rfl) (fun vs H Q E h => by first | (obtain ⟨_, rfl, _⟩ := h; rfl) | (obtain ⟨_, _, rfl, _⟩ := h; rfl) | (obtain ⟨_, _, _, rfl, _⟩ := h; rfl) | (obtain ⟨_, _, _, _, rfl, _⟩ := h; rfl) | (obtain ⟨_, _, _, _, _, rfl, _⟩ := h; rfl) | (obtain ⟨_, _, _, _, _, _, rfl, _⟩ := h; rfl) | (obtain ⟨_, _, _, _, _, _, _, rfl, _⟩ := h; rfl) | (obtain ⟨_, _, _, _, _, _, _, _, rfl, _⟩ := h; rfl) | (obtain ⟨_, _, _, _, _, _, _, _, _, rfl, _⟩ := h; rfl) | (obtain ⟨_, _, _, _, _, _, _, _, _, _, rfl, _⟩ := h; rfl) | (obtain ⟨_, _, _, _, _, _, _, _, _, _, _, rfl, _⟩ := h; rfl) | (obtain ⟨_, _, _, _, _, _, _, _, _, _, _, _, rfl, _⟩ := h; rfl) | (obtain ⟨rfl, _⟩ := h; rfl)) (t_is_index K) (fun f cdv A outer s H E hr => dv_is_index T  f cdv A outer s H E hr) (pure_is_index)
theorem met_Table_blend (T : Txt K mg) (D : Defs K mg) : MetB P w K mg base 2 (sp_Table_blend K) := by
  obtain ⟨fd, F⟩ := D.Table_blend
  exact ⟨fd, p_Table_blend, F.ok sc_Table_blend (fun vs H Q E h => by first | (obtain ⟨_, rfl, _⟩ := h; rfl) | (obtain ⟨_, _, rfl, _⟩ := h; rfl) | (obtain ⟨_, _, _, rfl, _⟩ := h; rfl) | (obtain ⟨_, _, _, _, rfl, _⟩ := h; rfl) | (obtain ⟨_, _, _, _, _, rfl, _⟩ := h; rfl) | (obtain ⟨_, _, _, _, _, _, rfl, _⟩ := h; rfl) | (obtain ⟨_, _, _, _, _, _, _, rfl, _⟩ := h; rfl) | (obtain ⟨_, _, _, _, _, _, _, _, rfl, _⟩ := h; rfl) | (obtain ⟨_, _, _, _, _, _, _, _, _, rfl, _⟩ := h; rfl) | (obtain ⟨_, _, _, _, _, _, _, _, _, _, rfl, _⟩ := h; rfl) | (obtain ⟨_, _, _, _, _, _, _, _, _, _, _, rfl, _⟩ := h; rfl) | (obtain ⟨_, _, _, _, _, _, _, _, _, _, _, _, rfl, _⟩ := h; rfl) | (obtain ⟨rfl, _⟩ := h; rfl)) fun cdv A outer s H vs Q E hr h => ⟨t_Table_blend K, (dv_Table_blend T (cal_is_row T D) (cal_is_index T D) _ cdv A outer s H E hr).nox, pure_Table_blend T vs H Q E h⟩, F.bindsN (fun _ _ _ _ _ _ us hl => match us, hl with | [_, _], _ => rfl)⟩
theorem cal_compared (T : Txt K mg) (D : Defs K mg) : Cal P w K mg base 1 "compared" (sp_compared K) :=
  cal_of D.compared sc_compared (fun _ _ _ _ _ _ us hl => match us, hl with | [_, _], _ => rfl) (fun vs H Q E h => by first | (obtain ⟨_, rfl, _⟩ := h; rfl) | (obtain ⟨_, _, rfl, _⟩ := h; rfl) | (obtain ⟨_, _, _, rfl, _⟩ := h; rfl) | (obtain ⟨_, _, _, _, rfl, _⟩ := h; rfl) | (obtain ⟨_, _, _, _, _, rfl, _⟩ := h; rfl) | (obtain ⟨_, _, _, _, _, _, rfl, _⟩ := h; rfl) | (obtain ⟨_, _, _, _, _, _, _, rfl, _⟩ := h; rfl) | (obtain ⟨_, _, _, _, _, _, _, _, rfl, _⟩ := h; rfl) | (obtain ⟨_, _, _, _, _, _, _, _, _, rfl, _⟩ := h; rfl) | (obtain ⟨_, _, _, _, _, _, _, _, _, _, rfl, _⟩ := h; rfl) | (obtain ⟨_, _, _, _, _, _, _, _, _, _, _, rfl, _⟩ := h; rfl) | (obtain ⟨_, _, _, _, _, _, _, _, _, _, _, _, rfl, _⟩ := h; rfl) | (obtain ⟨rfl, _⟩ := h; rfl)) (t_compared K) (fun f cdv A outer s H E hr => dv_compared T  f cdv A outer s H E hr) (pure_compared)
theorem cal_times (T : Txt K mg) (D : Defs K mg) : Cal P w K mg base 3 "times" (sp_times K) :=
  cal_of D.times sc_times (fun _ _ _ _ _ _ us hl => match us, hl with | [_, _], _ => rfl) (fun vs H Q E h => by first | (obtain ⟨_, rfl, _⟩ := h; rfl) | (obtain ⟨_, _, rfl, _⟩ := h; rfl) | (obtain ⟨_, _, _, rfl, _⟩ := h; rfl) | (obtain ⟨_, _, _, _, rfl, _⟩ := h; rfl) | (obtain ⟨_, _, _, _, _, rfl, _⟩ := h; rfl) | (obtain ⟨_, _, _, _, _, _, rfl, _⟩ := h; rfl) | (obtain ⟨_, _, _, _, _, _, _, rfl, _⟩ := h; rfl) | (obtain ⟨_, _, _, _, _, _, _, _, rfl, _⟩ := h; rfl) | (obtain ⟨_, _, _, _, _, _, _, _, _, rfl, _⟩ := h; rfl) | (obtain ⟨_, _, _, _, _, _, _, _, _, _, rfl, _⟩ := h; rfl) | (obtain ⟨_, _, _, _, _, _, _, _, _, _, _, rfl, _⟩ := h; rfl) | (obtain ⟨_, _, _, _, _, _, _, _, _, _, _, _, rfl, _⟩ := h; rfl) | (obtain ⟨rfl, _⟩ := h; rfl)) (t_times K) (fun f cdv A outer s H E hr => dv_times T (cal_made T D) f cdv A outer s H E hr) (pure_times)
theorem cal_added (T : Txt K mg) (D : Defs K mg) : Cal P w K mg base 3 "added" (sp_added K) :=
  cal_of D.added sc_added (fun _ _ _ _ _ _ us hl => match us, hl with | [_, _], _ => rfl) (fun vs H Q E h => by first | (obtain ⟨_, rfl, _⟩ := h; rfl) | (obtain ⟨_, _, rfl, _⟩ := h; rfl) | (obtain ⟨_, _, _, rfl, _⟩ := h; rfl) | (obtain ⟨_, _, _, _, rfl, _⟩ := h; rfl) | (obtain ⟨_, _, _, _, _, rfl, _⟩ := h; rfl) | (obtain ⟨_, _, _, _, _, _, rfl, _⟩ := h; rfl) | (obtain ⟨_, _, _, _, _, _, _, rfl, _⟩ := h; rfl) | (obtain ⟨_, _, _, _, _, _, _, _, rfl, _⟩ := h; rfl) | (obtain ⟨_, _, _, _, _, _, _, _, _, rfl, _⟩ := h; rfl) | (obtain ⟨_, _, _, _, _, _, _, _, _, _, rfl, _⟩ := h; rfl) | (obtain ⟨_, _, _, _, _, _, _, _, _, _, _, rfl, _⟩ := h; rfl) | (obtain ⟨_, _, _, _, _, _, _, _, _, _, _, _, rfl, _⟩ := h; rfl) | (obtain ⟨rfl, _⟩ := h; rfl)) (t_added K) (fun f cdv A outer s H E hr => dv_added T (cal_made T D) f cdv A outer s H E hr) (pure_added)
theorem cal_total (T : Txt K mg) (D : Defs K mg) : Cal P w K mg base 4 "total" (sp_total K) :=
  cal_of D.total sc_total (fun _ _ _ _ _ _ us hl => match us, hl with | [_], _ => rfl) (fun vs H Q E h => by first | (obtain ⟨_, rfl, _⟩ := h; rfl) | (obtain ⟨_, _, rfl, _⟩ := h; rfl) | (obtain ⟨_, _, _, rfl, _⟩ := h; rfl) | (obtain ⟨_, _, _, _, rfl, _⟩ := h; rfl) | (obtain ⟨_, _, _, _, _, rfl, _⟩ := h; rfl) | (obtain ⟨_, _, _, _, _, _, rfl, _⟩ := h; rfl) | (obtain ⟨_, _, _, _, _, _, _, rfl, _⟩ := h; rfl) | (obtain ⟨_, _, _, _, _, _, _, _, rfl, _⟩ := h; rfl) | (obtain ⟨_, _, _, _, _, _, _, _, _, rfl, _⟩ := h; rfl) | (obtain ⟨_, _, _, _, _, _, _, _, _, _, rfl, _⟩ := h; rfl) | (obtain ⟨_, _, _, _, _, _, _, _, _, _, _, rfl, _⟩ := h; rfl) | (obtain ⟨_, _, _, _, _, _, _, _, _, _, _, _, rfl, _⟩ := h; rfl) | (obtain ⟨rfl, _⟩ := h; rfl)) (t_total K) (fun f cdv A outer s H E hr => dv_total T (cal_added T D) f cdv A outer s H E hr) (pure_total)
theorem cal_against (T : Txt K mg) (D : Defs K mg) : Cal P w K mg base 5 "against" (sp_against K) :=
  cal_of D.against sc_against (fun _ _ _ _ _ _ us hl => match us, hl with | [_, _, _], _ => rfl) (fun vs H Q E h => by first | (obtain ⟨_, rfl, _⟩ := h; rfl) | (obtain ⟨_, _, rfl, _⟩ := h; rfl) | (obtain ⟨_, _, _, rfl, _⟩ := h; rfl) | (obtain ⟨_, _, _, _, rfl, _⟩ := h; rfl) | (obtain ⟨_, _, _, _, _, rfl, _⟩ := h; rfl) | (obtain ⟨_, _, _, _, _, _, rfl, _⟩ := h; rfl) | (obtain ⟨_, _, _, _, _, _, _, rfl, _⟩ := h; rfl) | (obtain ⟨_, _, _, _, _, _, _, _, rfl, _⟩ := h; rfl) | (obtain ⟨_, _, _, _, _, _, _, _, _, rfl, _⟩ := h; rfl) | (obtain ⟨_, _, _, _, _, _, _, _, _, _, rfl, _⟩ := h; rfl) | (obtain ⟨_, _, _, _, _, _, _, _, _, _, _, rfl, _⟩ := h; rfl) | (obtain ⟨_, _, _, _, _, _, _, _, _, _, _, _, rfl, _⟩ := h; rfl) | (obtain ⟨rfl, _⟩ := h; rfl)) (t_against K) (fun f cdv A outer s H E hr => dv_against T (cal_compared T D) (cal_times T D) (met_Table_blend T D) (cal_total T D) f cdv A outer s H E hr) (pure_against T)
theorem cal_costs (T : Txt K mg) (D : Defs K mg) : Cal P w K mg base 6 "costs" (sp_costs K) :=
  cal_of D.costs sc_costs (fun _ _ _ _ _ _ us hl => match us, hl with | [_, _], _ => rfl) (fun vs H Q E h => by first | (obtain ⟨_, rfl, _⟩ := h; rfl) | (obtain ⟨_, _, rfl, _⟩ := h; rfl) | (obtain ⟨_, _, _, rfl, _⟩ := h; rfl) | (obtain ⟨_, _, _, _, rfl, _⟩ := h; rfl) | (obtain ⟨_, _, _, _, _, rfl, _⟩ := h; rfl) | (obtain ⟨_, _, _, _, _, _, rfl, _⟩ := h; rfl) | (obtain ⟨_, _, _, _, _, _, _, rfl, _⟩ := h; rfl) | (obtain ⟨_, _, _, _, _, _, _, _, rfl, _⟩ := h; rfl) | (obtain ⟨_, _, _, _, _, _, _, _, _, rfl, _⟩ := h; rfl) | (obtain ⟨_, _, _, _, _, _, _, _, _, _, rfl, _⟩ := h; rfl) | (obtain ⟨_, _, _, _, _, _, _, _, _, _, _, rfl, _⟩ := h; rfl) | (obtain ⟨_, _, _, _, _, _, _, _, _, _, _, _, rfl, _⟩ := h; rfl) | (obtain ⟨rfl, _⟩ := h; rfl)) (t_costs K) (fun f cdv A outer s H E hr => dv_costs T (cal_checked_prices T D) (cal_followed T D) (cal_all_cups T D) (met_Table_blend T D) (cal_against T D) (cal_total T D) (cal_compared T D) f cdv A outer s H E hr) (pure_costs T)
theorem cal_law_is_fraction (T : Txt K mg) (D : Defs K mg) : Cal P w K mg base 2 "_law_is_fraction" (sp_law_is_fraction K) :=
  cal_of D.law_is_fraction sc_law_is_fraction (fun _ _ _ _ _ _ us hl => match us, hl with | [_], _ => rfl) (fun vs H Q E h => by first | (obtain ⟨_, rfl, _⟩ := h; rfl) | (obtain ⟨_, _, rfl, _⟩ := h; rfl) | (obtain ⟨_, _, _, rfl, _⟩ := h; rfl) | (obtain ⟨_, _, _, _, rfl, _⟩ := h; rfl) | (obtain ⟨_, _, _, _, _, rfl, _⟩ := h; rfl) | (obtain ⟨_, _, _, _, _, _, rfl, _⟩ := h; rfl) | (obtain ⟨_, _, _, _, _, _, _, rfl, _⟩ := h; rfl) | (obtain ⟨_, _, _, _, _, _, _, _, rfl, _⟩ := h; rfl) | (obtain ⟨_, _, _, _, _, _, _, _, _, rfl, _⟩ := h; rfl) | (obtain ⟨_, _, _, _, _, _, _, _, _, _, rfl, _⟩ := h; rfl) | (obtain ⟨_, _, _, _, _, _, _, _, _, _, _, rfl, _⟩ := h; rfl) | (obtain ⟨_, _, _, _, _, _, _, _, _, _, _, _, rfl, _⟩ := h; rfl) | (obtain ⟨rfl, _⟩ := h; rfl)) (t_law_is_fraction K) (fun f cdv A outer s H E hr => dv_law_is_fraction T (cal_law_divisor T D) f cdv A outer s H E hr) (pure_law_is_fraction)
theorem cal_law_blend (T : Txt K mg) (D : Defs K mg) : Cal P w K mg base 1 "_law_blend" (sp_law_blend K) :=
  cal_of D.law_blend sc_law_blend (fun _ _ _ _ _ _ us hl => match us, hl with | [_, _, _], _ => rfl) (fun vs H Q E h => by first | (obtain ⟨_, rfl, _⟩ := h; rfl) | (obtain ⟨_, _, rfl, _⟩ := h; rfl) | (obtain ⟨_, _, _, rfl, _⟩ := h; rfl) | (obtain ⟨_, _, _, _, rfl, _⟩ := h; rfl) | (obtain ⟨_, _, _, _, _, rfl, _⟩ := h; rfl) | (obtain ⟨_, _, _, _, _, _, rfl, _⟩ := h; rfl) | (obtain ⟨_, _, _, _, _, _, _, rfl, _⟩ := h; rfl) | (obtain ⟨_, _, _, _, _, _, _, _, rfl, _⟩ := h; rfl) | (obtain ⟨_, _, _, _, _, _, _, _, _, rfl, _⟩ := h; rfl) | (obtain ⟨_, _, _, _, _, _, _, _, _, _, rfl, _⟩ := h; rfl) | (obtain ⟨_, _, _, _, _, _, _, _, _, _, _, rfl, _⟩ := h; rfl) | (obtain ⟨_, _, _, _, _, _, _, _, _, _, _, _, rfl, _⟩ := h; rfl) | (obtain ⟨rfl, _⟩ := h; rfl)) (t_law_blend K) (fun f cdv A outer s H E hr => dv_law_blend T  f cdv A outer s H E hr) (pure_law_blend)
theorem cal_law_is_way (T : Txt K mg) (D : Defs K mg) : Cal P w K mg base 2 "_law_is_way" (sp_law_is_way K) :=
  cal_of D.law_is_way sc_law_is_way (fun _ _ _ _ _ _ us hl => match us, hl with | [_, _, _], _ => rfl) (fun vs H Q E h => by first | (obtain ⟨_, rfl, _⟩ := h; rfl) | (obtain ⟨_, _, rfl, _⟩ := h; rfl) | (obtain ⟨_, _, _, rfl, _⟩ := h; rfl) | (obtain ⟨_, _, _, _, rfl, _⟩ := h; rfl) | (obtain ⟨_, _, _, _, _, rfl, _⟩ := h; rfl) | (obtain ⟨_, _, _, _, _, _, rfl, _⟩ := h; rfl) | (obtain ⟨_, _, _, _, _, _, _, rfl, _⟩ := h; rfl) | (obtain ⟨_, _, _, _, _, _, _, _, rfl, _⟩ := h; rfl) | (obtain ⟨_, _, _, _, _, _, _, _, _, rfl, _⟩ := h; rfl) | (obtain ⟨_, _, _, _, _, _, _, _, _, _, rfl, _⟩ := h; rfl) | (obtain ⟨_, _, _, _, _, _, _, _, _, _, _, rfl, _⟩ := h; rfl) | (obtain ⟨_, _, _, _, _, _, _, _, _, _, _, _, rfl, _⟩ := h; rfl) | (obtain ⟨rfl, _⟩ := h; rfl)) (t_law_is_way K) (fun f cdv A outer s H E hr => dv_law_is_way T (cal_law_blend T D) f cdv A outer s H E hr) (pure_law_is_way)
theorem cal_law_made (T : Txt K mg) (D : Defs K mg) : Cal P w K mg base 2 "_law_made" (sp_law_made K) :=
  cal_of D.law_made sc_law_made (fun _ _ _ _ _ _ us hl => match us, hl with | [_, _], _ => rfl) (fun vs H Q E h => by first | (obtain ⟨_, rfl, _⟩ := h; rfl) | (obtain ⟨_, _, rfl, _⟩ := h; rfl) | (obtain ⟨_, _, _, rfl, _⟩ := h; rfl) | (obtain ⟨_, _, _, _, rfl, _⟩ := h; rfl) | (obtain ⟨_, _, _, _, _, rfl, _⟩ := h; rfl) | (obtain ⟨_, _, _, _, _, _, rfl, _⟩ := h; rfl) | (obtain ⟨_, _, _, _, _, _, _, rfl, _⟩ := h; rfl) | (obtain ⟨_, _, _, _, _, _, _, _, rfl, _⟩ := h; rfl) | (obtain ⟨_, _, _, _, _, _, _, _, _, rfl, _⟩ := h; rfl) | (obtain ⟨_, _, _, _, _, _, _, _, _, _, rfl, _⟩ := h; rfl) | (obtain ⟨_, _, _, _, _, _, _, _, _, _, _, rfl, _⟩ := h; rfl) | (obtain ⟨_, _, _, _, _, _, _, _, _, _, _, _, rfl, _⟩ := h; rfl) | (obtain ⟨rfl, _⟩ := h; rfl)) (t_law_made K) (fun f cdv A outer s H E hr => dv_law_made T (cal_law_divisor T D) f cdv A outer s H E hr) (pure_law_made)
theorem cal_law_plus (T : Txt K mg) (D : Defs K mg) : Cal P w K mg base 3 "_law_plus" (sp_law_plus K) :=
  cal_of D.law_plus sc_law_plus (fun _ _ _ _ _ _ us hl => match us, hl with | [_, _, _], _ => rfl) (fun vs H Q E h => by first | (obtain ⟨_, rfl, _⟩ := h; rfl) | (obtain ⟨_, _, rfl, _⟩ := h; rfl) | (obtain ⟨_, _, _, rfl, _⟩ := h; rfl) | (obtain ⟨_, _, _, _, rfl, _⟩ := h; rfl) | (obtain ⟨_, _, _, _, _, rfl, _⟩ := h; rfl) | (obtain ⟨_, _, _, _, _, _, rfl, _⟩ := h; rfl) | (obtain ⟨_, _, _, _, _, _, _, rfl, _⟩ := h; rfl) | (obtain ⟨_, _, _, _, _, _, _, _, rfl, _⟩ := h; rfl) | (obtain ⟨_, _, _, _, _, _, _, _, _, rfl, _⟩ := h; rfl) | (obtain ⟨_, _, _, _, _, _, _, _, _, _, rfl, _⟩ := h; rfl) | (obtain ⟨_, _, _, _, _, _, _, _, _, _, _, rfl, _⟩ := h; rfl) | (obtain ⟨_, _, _, _, _, _, _, _, _, _, _, _, rfl, _⟩ := h; rfl) | (obtain ⟨rfl, _⟩ := h; rfl)) (t_law_plus K) (fun f cdv A outer s H E hr => dv_law_plus T (cal_law_made T D) f cdv A outer s H E hr) (pure_law_plus)
theorem cal_law_weighed (T : Txt K mg) (D : Defs K mg) : Cal P w K mg base 4 "_law_weighed" (sp_law_weighed K) :=
  cal_of D.law_weighed sc_law_weighed (fun _ _ _ _ _ _ us hl => match us, hl with | [_, _, _], _ => rfl) (fun vs H Q E h => by first | (obtain ⟨_, rfl, _⟩ := h; rfl) | (obtain ⟨_, _, rfl, _⟩ := h; rfl) | (obtain ⟨_, _, _, rfl, _⟩ := h; rfl) | (obtain ⟨_, _, _, _, rfl, _⟩ := h; rfl) | (obtain ⟨_, _, _, _, _, rfl, _⟩ := h; rfl) | (obtain ⟨_, _, _, _, _, _, rfl, _⟩ := h; rfl) | (obtain ⟨_, _, _, _, _, _, _, rfl, _⟩ := h; rfl) | (obtain ⟨_, _, _, _, _, _, _, _, rfl, _⟩ := h; rfl) | (obtain ⟨_, _, _, _, _, _, _, _, _, rfl, _⟩ := h; rfl) | (obtain ⟨_, _, _, _, _, _, _, _, _, _, rfl, _⟩ := h; rfl) | (obtain ⟨_, _, _, _, _, _, _, _, _, _, _, rfl, _⟩ := h; rfl) | (obtain ⟨_, _, _, _, _, _, _, _, _, _, _, _, rfl, _⟩ := h; rfl) | (obtain ⟨rfl, _⟩ := h; rfl)) (t_law_weighed K) (fun f cdv A outer s H E hr => dv_law_weighed T (cal_law_made T D) (cal_law_blend T D) (cal_law_plus T D) f cdv A outer s H E hr) (pure_law_weighed)
theorem cal_law_is_costs (T : Txt K mg) (D : Defs K mg) : Cal P w K mg base 5 "_law_is_costs" (sp_law_is_costs K) :=
  cal_of D.law_is_costs sc_law_is_costs (fun _ _ _ _ _ _ us hl => match us, hl with | [_, _, _], _ => rfl) (fun vs H Q E h => by first | (obtain ⟨_, rfl, _⟩ := h; rfl) | (obtain ⟨_, _, rfl, _⟩ := h; rfl) | (obtain ⟨_, _, _, rfl, _⟩ := h; rfl) | (obtain ⟨_, _, _, _, rfl, _⟩ := h; rfl) | (obtain ⟨_, _, _, _, _, rfl, _⟩ := h; rfl) | (obtain ⟨_, _, _, _, _, _, rfl, _⟩ := h; rfl) | (obtain ⟨_, _, _, _, _, _, _, rfl, _⟩ := h; rfl) | (obtain ⟨_, _, _, _, _, _, _, _, rfl, _⟩ := h; rfl) | (obtain ⟨_, _, _, _, _, _, _, _, _, rfl, _⟩ := h; rfl) | (obtain ⟨_, _, _, _, _, _, _, _, _, _, rfl, _⟩ := h; rfl) | (obtain ⟨_, _, _, _, _, _, _, _, _, _, _, rfl, _⟩ := h; rfl) | (obtain ⟨_, _, _, _, _, _, _, _, _, _, _, _, rfl, _⟩ := h; rfl) | (obtain ⟨rfl, _⟩ := h; rfl)) (t_law_is_costs K) (fun f cdv A outer s H E hr => dv_law_is_costs T (cal_law_is_fraction T D) (cal_law_is_way T D) (cal_law_weighed T D) (cal_law_tuples T D) f cdv A outer s H E hr) (pure_law_is_costs)
theorem cal_law_exact (T : Txt K mg) (D : Defs K mg) : Cal P w K mg base 5 "_law_exact" (sp_law_exact K) :=
  cal_of D.law_exact sc_law_exact (fun _ _ _ _ _ _ us hl => match us, hl with | [_, _, _], _ => rfl) (fun vs H Q E h => by first | (obtain ⟨_, rfl, _⟩ := h; rfl) | (obtain ⟨_, _, rfl, _⟩ := h; rfl) | (obtain ⟨_, _, _, rfl, _⟩ := h; rfl) | (obtain ⟨_, _, _, _, rfl, _⟩ := h; rfl) | (obtain ⟨_, _, _, _, _, rfl, _⟩ := h; rfl) | (obtain ⟨_, _, _, _, _, _, rfl, _⟩ := h; rfl) | (obtain ⟨_, _, _, _, _, _, _, rfl, _⟩ := h; rfl) | (obtain ⟨_, _, _, _, _, _, _, _, rfl, _⟩ := h; rfl) | (obtain ⟨_, _, _, _, _, _, _, _, _, rfl, _⟩ := h; rfl) | (obtain ⟨_, _, _, _, _, _, _, _, _, _, rfl, _⟩ := h; rfl) | (obtain ⟨_, _, _, _, _, _, _, _, _, _, _, rfl, _⟩ := h; rfl) | (obtain ⟨_, _, _, _, _, _, _, _, _, _, _, _, rfl, _⟩ := h; rfl) | (obtain ⟨rfl, _⟩ := h; rfl)) (t_law_exact K) (fun f cdv A outer s H E hr => dv_law_exact T (cal_law_tuples T D) (cal_law_weighed T D) (cal_law_blend T D) f cdv A outer s H E hr) (pure_law_exact)
theorem cal_cheapest_recipe (T : Txt K mg) (D : Defs K mg) {fI cc cda : Addr} (R : PySem.RefX.RefTxt P K mg (refC K) fI cc cda) : CalX P w K mg base 7 "cheapest_recipe" (sp_cheapest_recipe K) := by
  obtain ⟨f, fd, F, hm⟩ := D.cheapest_recipe.ex
  exact ⟨f, fd, p_cheapest_recipe, F.ok sc_cheapest_recipe (fun vs H Q E h => by first | (obtain ⟨_, rfl, _⟩ := h; rfl) | (obtain ⟨_, _, rfl, _⟩ := h; rfl) | (obtain ⟨_, _, _, rfl, _⟩ := h; rfl) | (obtain ⟨_, _, _, _, rfl, _⟩ := h; rfl) | (obtain ⟨_, _, _, _, _, rfl, _⟩ := h; rfl) | (obtain ⟨_, _, _, _, _, _, rfl, _⟩ := h; rfl) | (obtain ⟨_, _, _, _, _, _, _, rfl, _⟩ := h; rfl) | (obtain ⟨_, _, _, _, _, _, _, _, rfl, _⟩ := h; rfl) | (obtain ⟨_, _, _, _, _, _, _, _, _, rfl, _⟩ := h; rfl) | (obtain ⟨_, _, _, _, _, _, _, _, _, _, rfl, _⟩ := h; rfl) | (obtain ⟨_, _, _, _, _, _, _, _, _, _, _, rfl, _⟩ := h; rfl) | (obtain ⟨_, _, _, _, _, _, _, _, _, _, _, _, rfl, _⟩ := h; rfl) | (obtain ⟨rfl, _⟩ := h; rfl)) fun cdv A outer s H vs Q E hr h => ⟨t_cheapest_recipe K E, dv_cheapest_recipe T R (cal_checked_prices T D) (cal_costs T D) (cal_all_cups T D) (cal_against T D) (met_Table_blend T D) f cdv A outer s H E hr, pure_cheapest_recipe T vs H Q E h⟩, hm, F.kp, F.bindsN (fun _ _ _ _ _ _ us hl => match us, hl with | [_, _, _], _ => rfl)⟩
theorem cal_law_told (T : Txt K mg) (D : Defs K mg) {fI cc cda : Addr} (R : PySem.RefX.RefTxt P K mg (refC K) fI cc cda) : Cal P w K mg base 8 "_law_told" (sp_law_told K) :=
  cal_of D.law_told sc_law_told (fun _ _ _ _ _ _ us hl => match us, hl with | [_, _, _], _ => rfl) (fun vs H Q E h => by first | (obtain ⟨_, rfl, _⟩ := h; rfl) | (obtain ⟨_, _, rfl, _⟩ := h; rfl) | (obtain ⟨_, _, _, rfl, _⟩ := h; rfl) | (obtain ⟨_, _, _, _, rfl, _⟩ := h; rfl) | (obtain ⟨_, _, _, _, _, rfl, _⟩ := h; rfl) | (obtain ⟨_, _, _, _, _, _, rfl, _⟩ := h; rfl) | (obtain ⟨_, _, _, _, _, _, _, rfl, _⟩ := h; rfl) | (obtain ⟨_, _, _, _, _, _, _, _, rfl, _⟩ := h; rfl) | (obtain ⟨_, _, _, _, _, _, _, _, _, rfl, _⟩ := h; rfl) | (obtain ⟨_, _, _, _, _, _, _, _, _, _, rfl, _⟩ := h; rfl) | (obtain ⟨_, _, _, _, _, _, _, _, _, _, _, rfl, _⟩ := h; rfl) | (obtain ⟨_, _, _, _, _, _, _, _, _, _, _, _, rfl, _⟩ := h; rfl) | (obtain ⟨rfl, _⟩ := h; rfl)) (t_law_told K) (fun f cdv A outer s H E hr => dv_law_told R (cal_cheapest_recipe T D R) f cdv A outer s H E hr) (pure_law_told R.te)
theorem cal_law_is_recipe (T : Txt K mg) (D : Defs K mg) : ∀ dp : Nat, Cal P w K mg base (1 + dp) "_law_is_recipe" (sp_law_is_recipe K dp)
  | 0 => cal_of (k := 0) D.law_is_recipe sc_law_is_recipe (fun _ _ _ _ _ _ us hl => match us, hl with | [_, _, _], _ => rfl) (fun vs H Q E h => by first | (obtain ⟨_, rfl, _⟩ := h; rfl) | (obtain ⟨_, _, rfl, _⟩ := h; rfl) | (obtain ⟨_, _, _, rfl, _⟩ := h; rfl) | (obtain ⟨_, _, _, _, rfl, _⟩ := h; rfl) | (obtain ⟨_, _, _, _, _, rfl, _⟩ := h; rfl) | (obtain ⟨_, _, _, _, _, _, rfl, _⟩ := h; rfl) | (obtain ⟨_, _, _, _, _, _, _, rfl, _⟩ := h; rfl) | (obtain ⟨_, _, _, _, _, _, _, _, rfl, _⟩ := h; rfl) | (obtain ⟨_, _, _, _, _, _, _, _, _, rfl, _⟩ := h; rfl) | (obtain ⟨_, _, _, _, _, _, _, _, _, _, rfl, _⟩ := h; rfl) | (obtain ⟨_, _, _, _, _, _, _, _, _, _, _, rfl, _⟩ := h; rfl) | (obtain ⟨_, _, _, _, _, _, _, _, _, _, _, _, rfl, _⟩ := h; rfl) | (obtain ⟨rfl, _⟩ := h; rfl)) (t_law_is_recipe K (fun _ _ _ _ => False)) (fun f cdv A outer s H E hr => dv_law_is_recipe T  (j := 0) (by omega) (cal_never (k := 0) (ps := p_law_is_recipe) D.law_is_recipe (fun _ _ _ _ _ _ us hl => match us, hl with | [_, _, _], _ => rfl)) f cdv A outer s H E hr) (pure_law_is_recipe (0) (fun d h => absurd h (by omega)))
  | dp + 1 => cal_of (k := 1 + dp) D.law_is_recipe sc_law_is_recipe (fun _ _ _ _ _ _ us hl => match us, hl with | [_, _, _], _ => rfl) (fun vs H Q E h => by first | (obtain ⟨_, rfl, _⟩ := h; rfl) | (obtain ⟨_, _, rfl, _⟩ := h; rfl) | (obtain ⟨_, _, _, rfl, _⟩ := h; rfl) | (obtain ⟨_, _, _, _, rfl, _⟩ := h; rfl) | (obtain ⟨_, _, _, _, _, rfl, _⟩ := h; rfl) | (obtain ⟨_, _, _, _, _, _, rfl, _⟩ := h; rfl) | (obtain ⟨_, _, _, _, _, _, _, rfl, _⟩ := h; rfl) | (obtain ⟨_, _, _, _, _, _, _, _, rfl, _⟩ := h; rfl) | (obtain ⟨_, _, _, _, _, _, _, _, _, rfl, _⟩ := h; rfl) | (obtain ⟨_, _, _, _, _, _, _, _, _, _, rfl, _⟩ := h; rfl) | (obtain ⟨_, _, _, _, _, _, _, _, _, _, _, rfl, _⟩ := h; rfl) | (obtain ⟨_, _, _, _, _, _, _, _, _, _, _, _, rfl, _⟩ := h; rfl) | (obtain ⟨rfl, _⟩ := h; rfl)) (t_law_is_recipe K (sp_law_is_recipe K dp)) (fun f cdv A outer s H E hr => dv_law_is_recipe T  (j := 1 + dp) (by omega) (cal_law_is_recipe T D dp) f cdv A outer s H E hr) (pure_law_is_recipe (dp + 1) (fun d h => by cases h; rfl))
theorem cal_law_label (T : Txt K mg) (D : Defs K mg) : ∀ dp : Nat, Cal P w K mg base (2 + dp) "_law_label" (sp_law_label K dp)
  | 0 => cal_of (k := 1) D.law_label sc_law_label (fun _ _ _ _ _ _ us hl => match us, hl with | [_, _, _, _], _ => rfl) (fun vs H Q E h => by first | (obtain ⟨_, rfl, _⟩ := h; rfl) | (obtain ⟨_, _, rfl, _⟩ := h; rfl) | (obtain ⟨_, _, _, rfl, _⟩ := h; rfl) | (obtain ⟨_, _, _, _, rfl, _⟩ := h; rfl) | (obtain ⟨_, _, _, _, _, rfl, _⟩ := h; rfl) | (obtain ⟨_, _, _, _, _, _, rfl, _⟩ := h; rfl) | (obtain ⟨_, _, _, _, _, _, _, rfl, _⟩ := h; rfl) | (obtain ⟨_, _, _, _, _, _, _, _, rfl, _⟩ := h; rfl) | (obtain ⟨_, _, _, _, _, _, _, _, _, rfl, _⟩ := h; rfl) | (obtain ⟨_, _, _, _, _, _, _, _, _, _, rfl, _⟩ := h; rfl) | (obtain ⟨_, _, _, _, _, _, _, _, _, _, _, rfl, _⟩ := h; rfl) | (obtain ⟨_, _, _, _, _, _, _, _, _, _, _, _, rfl, _⟩ := h; rfl) | (obtain ⟨rfl, _⟩ := h; rfl)) (t_law_label K (fun _ _ _ _ => False)) (fun f cdv A outer s H E hr => dv_law_label T (cal_law_blend T D) (j := 1) (by omega) (cal_never (k := 1) (ps := p_law_label) D.law_label (fun _ _ _ _ _ _ us hl => match us, hl with | [_, _, _, _], _ => rfl)) f cdv A outer s H E hr) (pure_law_label (0) (fun d h => absurd h (by omega)))
  | dp + 1 => cal_of (k := 2 + dp) D.law_label sc_law_label (fun _ _ _ _ _ _ us hl => match us, hl with | [_, _, _, _], _ => rfl) (fun vs H Q E h => by first | (obtain ⟨_, rfl, _⟩ := h; rfl) | (obtain ⟨_, _, rfl, _⟩ := h; rfl) | (obtain ⟨_, _, _, rfl, _⟩ := h; rfl) | (obtain ⟨_, _, _, _, rfl, _⟩ := h; rfl) | (obtain ⟨_, _, _, _, _, rfl, _⟩ := h; rfl) | (obtain ⟨_, _, _, _, _, _, rfl, _⟩ := h; rfl) | (obtain ⟨_, _, _, _, _, _, _, rfl, _⟩ := h; rfl) | (obtain ⟨_, _, _, _, _, _, _, _, rfl, _⟩ := h; rfl) | (obtain ⟨_, _, _, _, _, _, _, _, _, rfl, _⟩ := h; rfl) | (obtain ⟨_, _, _, _, _, _, _, _, _, _, rfl, _⟩ := h; rfl) | (obtain ⟨_, _, _, _, _, _, _, _, _, _, _, rfl, _⟩ := h; rfl) | (obtain ⟨_, _, _, _, _, _, _, _, _, _, _, _, rfl, _⟩ := h; rfl) | (obtain ⟨rfl, _⟩ := h; rfl)) (t_law_label K (sp_law_label K dp)) (fun f cdv A outer s H E hr => dv_law_label T (cal_law_blend T D) (j := 2 + dp) (by omega) (cal_law_label T D dp) f cdv A outer s H E hr) (pure_law_label (dp + 1) (fun d h => by cases h; rfl))
theorem cal_law_bill (T : Txt K mg) (D : Defs K mg) : ∀ dp : Nat, Cal P w K mg base (4 + dp) "_law_bill" (sp_law_bill K dp)
  | 0 => cal_of (k := 3) D.law_bill sc_law_bill (fun _ _ _ _ _ _ us hl => match us, hl with | [_, _, _], _ => rfl) (fun vs H Q E h => by first | (obtain ⟨_, rfl, _⟩ := h; rfl) | (obtain ⟨_, _, rfl, _⟩ := h; rfl) | (obtain ⟨_, _, _, rfl, _⟩ := h; rfl) | (obtain ⟨_, _, _, _, rfl, _⟩ := h; rfl) | (obtain ⟨_, _, _, _, _, rfl, _⟩ := h; rfl) | (obtain ⟨_, _, _, _, _, _, rfl, _⟩ := h; rfl) | (obtain ⟨_, _, _, _, _, _, _, rfl, _⟩ := h; rfl) | (obtain ⟨_, _, _, _, _, _, _, _, rfl, _⟩ := h; rfl) | (obtain ⟨_, _, _, _, _, _, _, _, _, rfl, _⟩ := h; rfl) | (obtain ⟨_, _, _, _, _, _, _, _, _, _, rfl, _⟩ := h; rfl) | (obtain ⟨_, _, _, _, _, _, _, _, _, _, _, rfl, _⟩ := h; rfl) | (obtain ⟨_, _, _, _, _, _, _, _, _, _, _, _, rfl, _⟩ := h; rfl) | (obtain ⟨rfl, _⟩ := h; rfl)) (t_law_bill K (fun _ _ _ _ => False)) (fun f cdv A outer s H E hr => dv_law_bill T (cal_law_plus T D) (cal_law_made T D) (j := 3) (by omega) (cal_never (k := 3) (ps := p_law_bill) D.law_bill (fun _ _ _ _ _ _ us hl => match us, hl with | [_, _, _], _ => rfl)) f cdv A outer s H E hr) (pure_law_bill (0) (fun d h => absurd h (by omega)))
  | dp + 1 => cal_of (k := 4 + dp) D.law_bill sc_law_bill (fun _ _ _ _ _ _ us hl => match us, hl with | [_, _, _], _ => rfl) (fun vs H Q E h => by first | (obtain ⟨_, rfl, _⟩ := h; rfl) | (obtain ⟨_, _, rfl, _⟩ := h; rfl) | (obtain ⟨_, _, _, rfl, _⟩ := h; rfl) | (obtain ⟨_, _, _, _, rfl, _⟩ := h; rfl) | (obtain ⟨_, _, _, _, _, rfl, _⟩ := h; rfl) | (obtain ⟨_, _, _, _, _, _, rfl, _⟩ := h; rfl) | (obtain ⟨_, _, _, _, _, _, _, rfl, _⟩ := h; rfl) | (obtain ⟨_, _, _, _, _, _, _, _, rfl, _⟩ := h; rfl) | (obtain ⟨_, _, _, _, _, _, _, _, _, rfl, _⟩ := h; rfl) | (obtain ⟨_, _, _, _, _, _, _, _, _, _, rfl, _⟩ := h; rfl) | (obtain ⟨_, _, _, _, _, _, _, _, _, _, _, rfl, _⟩ := h; rfl) | (obtain ⟨_, _, _, _, _, _, _, _, _, _, _, _, rfl, _⟩ := h; rfl) | (obtain ⟨rfl, _⟩ := h; rfl)) (t_law_bill K (sp_law_bill K dp)) (fun f cdv A outer s H E hr => dv_law_bill T (cal_law_plus T D) (cal_law_made T D) (j := 4 + dp) (by omega) (cal_law_bill T D dp) f cdv A outer s H E hr) (pure_law_bill (dp + 1) (fun d h => by cases h; rfl))
theorem cal_law_all_right (T : Txt K mg) (D : Defs K mg) {fI cc cda : Addr} (R : PySem.RefX.RefTxt P K mg (refC K) fI cc cda) : Cal P w K mg base 11 "_law_all_right" (sp_law_all_right K) :=
  cal_of D.law_all_right sc_law_all_right (fun _ _ _ _ _ _ us hl => match us, hl with | [_, _, _, _], _ => rfl) (fun vs H Q E h => by first | (obtain ⟨_, rfl, _⟩ := h; rfl) | (obtain ⟨_, _, rfl, _⟩ := h; rfl) | (obtain ⟨_, _, _, rfl, _⟩ := h; rfl) | (obtain ⟨_, _, _, _, rfl, _⟩ := h; rfl) | (obtain ⟨_, _, _, _, _, rfl, _⟩ := h; rfl) | (obtain ⟨_, _, _, _, _, _, rfl, _⟩ := h; rfl) | (obtain ⟨_, _, _, _, _, _, _, rfl, _⟩ := h; rfl) | (obtain ⟨_, _, _, _, _, _, _, _, rfl, _⟩ := h; rfl) | (obtain ⟨_, _, _, _, _, _, _, _, _, rfl, _⟩ := h; rfl) | (obtain ⟨_, _, _, _, _, _, _, _, _, _, rfl, _⟩ := h; rfl) | (obtain ⟨_, _, _, _, _, _, _, _, _, _, _, rfl, _⟩ := h; rfl) | (obtain ⟨_, _, _, _, _, _, _, _, _, _, _, _, rfl, _⟩ := h; rfl) | (obtain ⟨rfl, _⟩ := h; rfl)) (t_law_all_right K) (fun f cdv A outer s H E hr => dv_law_all_right T (cal_costs T D) (cal_law_is_costs T D) (cal_law_exact T D) (cal_law_told T D R) (cal_law_shown T D) ((cal_law_is_recipe T D 4).mono (by decide)) ((cal_law_label T D 4).mono (by decide)) ((cal_law_bill T D 4).mono (by decide)) f cdv A outer s H E hr) (pure_law_all_right)
theorem cal_is_bowl (T : Txt K mg) (D : Defs K mg) : Cal P w K mg base 2 "is_bowl" (sp_is_bowl K) :=
  cal_of D.is_bowl sc_is_bowl (fun _ _ _ _ _ _ us hl => match us, hl with | [_], _ => rfl) (fun vs H Q E h => by first | (obtain ⟨_, rfl, _⟩ := h; rfl) | (obtain ⟨_, _, rfl, _⟩ := h; rfl) | (obtain ⟨_, _, _, rfl, _⟩ := h; rfl) | (obtain ⟨_, _, _, _, rfl, _⟩ := h; rfl) | (obtain ⟨_, _, _, _, _, rfl, _⟩ := h; rfl) | (obtain ⟨_, _, _, _, _, _, rfl, _⟩ := h; rfl) | (obtain ⟨_, _, _, _, _, _, _, rfl, _⟩ := h; rfl) | (obtain ⟨_, _, _, _, _, _, _, _, rfl, _⟩ := h; rfl) | (obtain ⟨_, _, _, _, _, _, _, _, _, rfl, _⟩ := h; rfl) | (obtain ⟨_, _, _, _, _, _, _, _, _, _, rfl, _⟩ := h; rfl) | (obtain ⟨_, _, _, _, _, _, _, _, _, _, _, rfl, _⟩ := h; rfl) | (obtain ⟨_, _, _, _, _, _, _, _, _, _, _, _, rfl, _⟩ := h; rfl) | (obtain ⟨rfl, _⟩ := h; rfl)) (t_is_bowl K) (fun f cdv A outer s H E hr => dv_is_bowl T (cal_is_integer T D) f cdv A outer s H E hr) (pure_is_bowl)
theorem cal_checked_bowl (T : Txt K mg) (D : Defs K mg) : Cal P w K mg base 3 "checked_bowl" (sp_checked_bowl K) :=
  cal_of D.checked_bowl sc_checked_bowl (fun _ _ _ _ _ _ us hl => match us, hl with | [_], _ => rfl) (fun vs H Q E h => by first | (obtain ⟨_, rfl, _⟩ := h; rfl) | (obtain ⟨_, _, rfl, _⟩ := h; rfl) | (obtain ⟨_, _, _, rfl, _⟩ := h; rfl) | (obtain ⟨_, _, _, _, rfl, _⟩ := h; rfl) | (obtain ⟨_, _, _, _, _, rfl, _⟩ := h; rfl) | (obtain ⟨_, _, _, _, _, _, rfl, _⟩ := h; rfl) | (obtain ⟨_, _, _, _, _, _, _, rfl, _⟩ := h; rfl) | (obtain ⟨_, _, _, _, _, _, _, _, rfl, _⟩ := h; rfl) | (obtain ⟨_, _, _, _, _, _, _, _, _, rfl, _⟩ := h; rfl) | (obtain ⟨_, _, _, _, _, _, _, _, _, _, rfl, _⟩ := h; rfl) | (obtain ⟨_, _, _, _, _, _, _, _, _, _, _, rfl, _⟩ := h; rfl) | (obtain ⟨_, _, _, _, _, _, _, _, _, _, _, _, rfl, _⟩ := h; rfl) | (obtain ⟨rfl, _⟩ := h; rfl)) (t_checked_bowl K) (fun f cdv A outer s H E hr => dv_checked_bowl T (cal_is_bowl T D) f cdv A outer s H E hr) (pure_checked_bowl)
theorem cal_power (T : Txt K mg) (D : Defs K mg) : Cal P w K mg base 1 "power" (sp_power K) :=
  cal_of D.power sc_power (fun _ _ _ _ _ _ us hl => match us, hl with | [_, _], _ => rfl) (fun vs H Q E h => by first | (obtain ⟨_, rfl, _⟩ := h; rfl) | (obtain ⟨_, _, rfl, _⟩ := h; rfl) | (obtain ⟨_, _, _, rfl, _⟩ := h; rfl) | (obtain ⟨_, _, _, _, rfl, _⟩ := h; rfl) | (obtain ⟨_, _, _, _, _, rfl, _⟩ := h; rfl) | (obtain ⟨_, _, _, _, _, _, rfl, _⟩ := h; rfl) | (obtain ⟨_, _, _, _, _, _, _, rfl, _⟩ := h; rfl) | (obtain ⟨_, _, _, _, _, _, _, _, rfl, _⟩ := h; rfl) | (obtain ⟨_, _, _, _, _, _, _, _, _, rfl, _⟩ := h; rfl) | (obtain ⟨_, _, _, _, _, _, _, _, _, _, rfl, _⟩ := h; rfl) | (obtain ⟨_, _, _, _, _, _, _, _, _, _, _, rfl, _⟩ := h; rfl) | (obtain ⟨_, _, _, _, _, _, _, _, _, _, _, _, rfl, _⟩ := h; rfl) | (obtain ⟨rfl, _⟩ := h; rfl)) (t_power K) (fun f cdv A outer s H E hr => dv_power T  f cdv A outer s H E hr) (pure_power)
theorem cal_fits (T : Txt K mg) (D : Defs K mg) : Cal P w K mg base 2 "fits" (sp_fits K) :=
  cal_of D.fits sc_fits (fun _ _ _ _ _ _ us hl => match us, hl with | [_, _], _ => rfl) (fun vs H Q E h => by first | (obtain ⟨_, rfl, _⟩ := h; rfl) | (obtain ⟨_, _, rfl, _⟩ := h; rfl) | (obtain ⟨_, _, _, rfl, _⟩ := h; rfl) | (obtain ⟨_, _, _, _, rfl, _⟩ := h; rfl) | (obtain ⟨_, _, _, _, _, rfl, _⟩ := h; rfl) | (obtain ⟨_, _, _, _, _, _, rfl, _⟩ := h; rfl) | (obtain ⟨_, _, _, _, _, _, _, rfl, _⟩ := h; rfl) | (obtain ⟨_, _, _, _, _, _, _, _, rfl, _⟩ := h; rfl) | (obtain ⟨_, _, _, _, _, _, _, _, _, rfl, _⟩ := h; rfl) | (obtain ⟨_, _, _, _, _, _, _, _, _, _, rfl, _⟩ := h; rfl) | (obtain ⟨_, _, _, _, _, _, _, _, _, _, _, rfl, _⟩ := h; rfl) | (obtain ⟨_, _, _, _, _, _, _, _, _, _, _, _, rfl, _⟩ := h; rfl) | (obtain ⟨rfl, _⟩ := h; rfl)) (t_fits K) (fun f cdv A outer s H E hr => dv_fits T (cal_power T D) f cdv A outer s H E hr) (pure_fits)
theorem mk_Table_init (T : Txt K mg) (D : Defs K mg) : MkT P w K mg base 4 (sp_Table_init K) := by
  obtain ⟨fd, F⟩ := D.Table_init
  exact ⟨fd, p_Table_init, F.ok sc_Table_init (fun vs H Q E h => by first | (obtain ⟨_, rfl, _⟩ := h; rfl) | (obtain ⟨_, _, rfl, _⟩ := h; rfl) | (obtain ⟨_, _, _, rfl, _⟩ := h; rfl) | (obtain ⟨_, _, _, _, rfl, _⟩ := h; rfl) | (obtain ⟨_, _, _, _, _, rfl, _⟩ := h; rfl) | (obtain ⟨_, _, _, _, _, _, rfl, _⟩ := h; rfl) | (obtain ⟨_, _, _, _, _, _, _, rfl, _⟩ := h; rfl) | (obtain ⟨_, _, _, _, _, _, _, _, rfl, _⟩ := h; rfl) | (obtain ⟨_, _, _, _, _, _, _, _, _, rfl, _⟩ := h; rfl) | (obtain ⟨_, _, _, _, _, _, _, _, _, _, rfl, _⟩ := h; rfl) | (obtain ⟨_, _, _, _, _, _, _, _, _, _, _, rfl, _⟩ := h; rfl) | (obtain ⟨_, _, _, _, _, _, _, _, _, _, _, _, rfl, _⟩ := h; rfl) | (obtain ⟨rfl, _⟩ := h; rfl)) fun cdv A outer s H vs Q E hr h => ⟨t_Table_init K, (dv_Table_init T (cal_checked_bowl T D) (cal_is_index T D) (cal_fits T D) (cal_power T D) (cal_is_row T D) _ cdv A outer s H E hr).nox, pure_Table_init T vs H Q E h⟩, F.bindsN (fun _ _ _ _ _ _ us hl => match us, hl with | [_, _, _, _], _ => rfl)⟩
theorem ok_law {f : Addr} {fd : FuncData} (F : FnP K "law" s_law f fd) (T : Txt K mg) (D : Defs K mg) {fI cc cda : Addr} (R : PySem.RefX.RefTxt P K mg (refC K) fI cc cda) : FnOk P w K mg base CX0 12 f fd p_law (sp_law K) :=
  F.ok sc_law (fun vs H Q E h => by first | (obtain ⟨_, rfl, _⟩ := h; rfl) | (obtain ⟨_, _, rfl, _⟩ := h; rfl) | (obtain ⟨_, _, _, rfl, _⟩ := h; rfl) | (obtain ⟨_, _, _, _, rfl, _⟩ := h; rfl) | (obtain ⟨_, _, _, _, _, rfl, _⟩ := h; rfl) | (obtain ⟨_, _, _, _, _, _, rfl, _⟩ := h; rfl) | (obtain ⟨_, _, _, _, _, _, _, rfl, _⟩ := h; rfl) | (obtain ⟨_, _, _, _, _, _, _, _, rfl, _⟩ := h; rfl) | (obtain ⟨_, _, _, _, _, _, _, _, _, rfl, _⟩ := h; rfl) | (obtain ⟨_, _, _, _, _, _, _, _, _, _, rfl, _⟩ := h; rfl) | (obtain ⟨_, _, _, _, _, _, _, _, _, _, _, rfl, _⟩ := h; rfl) | (obtain ⟨_, _, _, _, _, _, _, _, _, _, _, _, rfl, _⟩ := h; rfl) | (obtain ⟨rfl, _⟩ := h; rfl)) fun cdv A outer s H vs Q E hr h => ⟨t_law K, (dv_law T (cal_law_draw T D) (cal_law_world T D) (cal_law_shown T D) (cal_law_prices T D) (cal_law_all_right T D R) (mk_Table_init T D) f cdv A outer s H E hr).nox, pure_law vs H Q E h⟩
end
end Mix
namespace MixHead
open PySem PySem.Spec PyProof.Rows L2 Mix
section
variable {K : PySem.W.Frag} {h : Heap} {mg : Str → Option Value}
theorem txt_of (X : K.In h) (G : h.Ns mainGlobals mg) (c : SaysR K) : Txt K mg where
  bint := He.free_ok X G (c.d.fact 58 (f := .free "int") rfl)
  bbool := He.free_ok X G (c.d.fact 59 (f := .free "bool") rfl)
  bisinstance := He.free_ok X G (c.d.fact 60 (f := .free "isinstance") rfl)
  blist := He.free_ok X G (c.d.fact 61 (f := .free "list") rfl)
  btuple := He.free_ok X G (c.d.fact 62 (f := .free "tuple") rfl)
  brange := He.free_ok X G (c.d.fact 63 (f := .free "range") rfl)
  blen := He.free_ok X G (c.d.fact 64 (f := .free "len") rfl)
  benumerate := He.free_ok X G (c.d.fact 65 (f := .free "enumerate") rfl)
  bzip := He.free_ok X G (c.d.fact 66 (f := .free "zip") rfl)
  babs := He.free_ok X G (c.d.fact 67 (f := .free "abs") rfl)
  ball := He.free_ok X G (c.d.fact 68 (f := .free "all") rfl)
  bany := He.free_ok X G (c.d.fact 69 (f := .free "any") rfl)
  bsum := He.free_ok X G (c.d.fact 70 (f := .free "sum") rfl)
  bsorted := He.free_ok X G (c.d.fact 71 (f := .free "sorted") rfl)
  bmin := He.free_ok X G (c.d.fact 72 (f := .free "min") rfl)
  bmax := He.free_ok X G (c.d.fact 73 (f := .free "max") rfl)
  mlabels := He.int_ok X G (c.d.fact 75 (f := .int "MOST_LABELS" 12) rfl)
  mtuples := He.int_ok X G (c.d.fact 76 (f := .int "MOST_TUPLES" 729) rfl)
  cl := He.cls_ok (c.d.fact 77 (f := .cls "Table") rfl)
  nk := He.noat_ok (c.d.fact 78 (f := .noat "Table" "k") rfl)
  nl := He.noat_ok (c.d.fact 79 (f := .noat "Table" "labels") rfl)
  nr := He.noat_ok (c.d.fact 80 (f := .noat "Table" "results") rfl)
  mkr := He.mkr_ok (c.d.fact 82 (f := .mkr "Table") rfl)
  bl := He.meth_ok (c.d.fact 81 (f := .meth "Table" "blend") rfl)
  gT := He.glo_ok X G (c.d.fact 11 (f := .glo "Table") rfl)
theorem defs_of (X : K.In h) (G : h.Ns mainGlobals mg) (c : SaysR K) : Defs K mg where
  law_standard := ⟨by obtain ⟨fd, F⟩ := c.d.def_ 36 (d := d_law_standard) rfl; exact ⟨_, fd, F, He.glo_ok X G (c.d.fact 37 (f := .glo "_law_standard") rfl)⟩⟩
  law_blend := ⟨by obtain ⟨fd, F⟩ := c.d.def_ 40 (d := d_law_blend) rfl; exact ⟨_, fd, F, He.glo_ok X G (c.d.fact 41 (f := .glo "_law_blend") rfl)⟩⟩
  law_world := ⟨by obtain ⟨fd, F⟩ := c.d.def_ 41 (d := d_law_world) rfl; exact ⟨_, fd, F, He.glo_ok X G (c.d.fact 42 (f := .glo "_law_world") rfl)⟩⟩
  law_shown := ⟨by obtain ⟨fd, F⟩ := c.d.def_ 42 (d := d_law_shown) rfl; exact ⟨_, fd, F, He.glo_ok X G (c.d.fact 43 (f := .glo "_law_shown") rfl)⟩⟩
  law_prices := ⟨by obtain ⟨fd, F⟩ := c.d.def_ 43 (d := d_law_prices) rfl; exact ⟨_, fd, F, He.glo_ok X G (c.d.fact 44 (f := .glo "_law_prices") rfl)⟩⟩
  law_told := ⟨by obtain ⟨fd, F⟩ := c.d.def_ 54 (d := d_law_told) rfl; exact ⟨_, fd, F, He.glo_ok X G (c.d.fact 55 (f := .glo "_law_told") rfl)⟩⟩
  law := ⟨by obtain ⟨fd, F⟩ := c.d.def_ 56 (d := d_law) rfl; exact ⟨_, fd, F, He.glo_ok X G (c.d.fact 57 (f := .glo "law") rfl)⟩⟩
  pivoted := ⟨by obtain ⟨fd, F⟩ := c.d.def_ 0 (d := d_pivoted) rfl; exact ⟨_, fd, F, He.glo_ok X G (c.d.fact 2 (f := .glo "pivoted") rfl)⟩⟩
  solved := ⟨by obtain ⟨fd, F⟩ := c.d.def_ 1 (d := d_solved) rfl; exact ⟨_, fd, F, He.glo_ok X G (c.d.fact 3 (f := .glo "solved") rfl)⟩⟩
  followed := ⟨by obtain ⟨fd, F⟩ := c.d.def_ 21 (d := d_followed) rfl; exact ⟨_, fd, F, He.glo_ok X G (c.d.fact 22 (f := .glo "followed") rfl)⟩⟩
  costs := ⟨by obtain ⟨fd, F⟩ := c.d.def_ 22 (d := d_costs) rfl; exact ⟨_, fd, F, He.glo_ok X G (c.d.fact 23 (f := .glo "costs") rfl)⟩⟩
  divisor := ⟨by obtain ⟨fd, F⟩ := c.d.def_ 13 (d := d_divisor) rfl; exact ⟨_, fd, F, He.glo_ok X G (c.d.fact 14 (f := .glo "divisor") rfl)⟩⟩
  made := ⟨by obtain ⟨fd, F⟩ := c.d.def_ 14 (d := d_made) rfl; exact ⟨_, fd, F, He.glo_ok X G (c.d.fact 15 (f := .glo "made") rfl)⟩⟩
  added := ⟨by obtain ⟨fd, F⟩ := c.d.def_ 15 (d := d_added) rfl; exact ⟨_, fd, F, He.glo_ok X G (c.d.fact 16 (f := .glo "added") rfl)⟩⟩
  times := ⟨by obtain ⟨fd, F⟩ := c.d.def_ 16 (d := d_times) rfl; exact ⟨_, fd, F, He.glo_ok X G (c.d.fact 17 (f := .glo "times") rfl)⟩⟩
  compared := ⟨by obtain ⟨fd, F⟩ := c.d.def_ 17 (d := d_compared) rfl; exact ⟨_, fd, F, He.glo_ok X G (c.d.fact 18 (f := .glo "compared") rfl)⟩⟩
  total := ⟨by obtain ⟨fd, F⟩ := c.d.def_ 18 (d := d_total) rfl; exact ⟨_, fd, F, He.glo_ok X G (c.d.fact 19 (f := .glo "total") rfl)⟩⟩
  Table_init := c.d.def_ 9 (d := d_Table_init) rfl
  Table_blend := c.d.def_ 10 (d := d_Table_blend) rfl
  tuples_of := ⟨by obtain ⟨fd, F⟩ := c.d.def_ 11 (d := d_tuples_of) rfl; exact ⟨_, fd, F, He.glo_ok X G (c.d.fact 12 (f := .glo "tuples_of") rfl)⟩⟩
  checked_prices := ⟨by obtain ⟨fd, F⟩ := c.d.def_ 12 (d := d_checked_prices) rfl; exact ⟨_, fd, F, He.glo_ok X G (c.d.fact 13 (f := .glo "checked_prices") rfl)⟩⟩
  all_cups := ⟨by obtain ⟨fd, F⟩ := c.d.def_ 20 (d := d_all_cups) rfl; exact ⟨_, fd, F, He.glo_ok X G (c.d.fact 21 (f := .glo "all_cups") rfl)⟩⟩
  against := ⟨by obtain ⟨fd, F⟩ := c.d.def_ 19 (d := d_against) rfl; exact ⟨_, fd, F, He.glo_ok X G (c.d.fact 20 (f := .glo "against") rfl)⟩⟩
  law_draw := ⟨by obtain ⟨fd, F⟩ := c.d.def_ 24 (d := d_law_draw) rfl; exact ⟨_, fd, F, He.glo_ok X G (c.d.fact 25 (f := .glo "_law_draw") rfl)⟩⟩
  law_any := ⟨by obtain ⟨fd, F⟩ := c.d.def_ 25 (d := d_law_any) rfl; exact ⟨_, fd, F, He.glo_ok X G (c.d.fact 26 (f := .glo "_law_any") rfl)⟩⟩
  law_of := ⟨by obtain ⟨fd, F⟩ := c.d.def_ 26 (d := d_law_of) rfl; exact ⟨_, fd, F, He.glo_ok X G (c.d.fact 27 (f := .glo "_law_of") rfl)⟩⟩
  law_mixed := ⟨by obtain ⟨fd, F⟩ := c.d.def_ 27 (d := d_law_mixed) rfl; exact ⟨_, fd, F, He.glo_ok X G (c.d.fact 28 (f := .glo "_law_mixed") rfl)⟩⟩
  law_power := ⟨by obtain ⟨fd, F⟩ := c.d.def_ 28 (d := d_law_power) rfl; exact ⟨_, fd, F, He.glo_ok X G (c.d.fact 29 (f := .glo "_law_power") rfl)⟩⟩
  law_divisor := ⟨by obtain ⟨fd, F⟩ := c.d.def_ 29 (d := d_law_divisor) rfl; exact ⟨_, fd, F, He.glo_ok X G (c.d.fact 30 (f := .glo "_law_divisor") rfl)⟩⟩
  law_inverse := ⟨by obtain ⟨fd, F⟩ := c.d.def_ 30 (d := d_law_inverse) rfl; exact ⟨_, fd, F, He.glo_ok X G (c.d.fact 31 (f := .glo "_law_inverse") rfl)⟩⟩
  law_tuples := ⟨by obtain ⟨fd, F⟩ := c.d.def_ 31 (d := d_law_tuples) rfl; exact ⟨_, fd, F, He.glo_ok X G (c.d.fact 32 (f := .glo "_law_tuples") rfl)⟩⟩
  law_joint := ⟨by obtain ⟨fd, F⟩ := c.d.def_ 33 (d := d_law_joint) rfl; exact ⟨_, fd, F, He.glo_ok X G (c.d.fact 34 (f := .glo "_law_joint") rfl)⟩⟩
  law_risen := ⟨by obtain ⟨fd, F⟩ := c.d.def_ 34 (d := d_law_risen) rfl; exact ⟨_, fd, F, He.glo_ok X G (c.d.fact 35 (f := .glo "_law_risen") rfl)⟩⟩
  law_form := ⟨by obtain ⟨fd, F⟩ := c.d.def_ 32 (d := d_law_form) rfl; exact ⟨_, fd, F, He.glo_ok X G (c.d.fact 33 (f := .glo "_law_form") rfl)⟩⟩
  law_results := ⟨by obtain ⟨fd, F⟩ := c.d.def_ 35 (d := d_law_results) rfl; exact ⟨_, fd, F, He.glo_ok X G (c.d.fact 36 (f := .glo "_law_results") rfl)⟩⟩
  law_table := ⟨by obtain ⟨fd, F⟩ := c.d.def_ 37 (d := d_law_table) rfl; exact ⟨_, fd, F, He.glo_ok X G (c.d.fact 38 (f := .glo "_law_table") rfl)⟩⟩
  law_spoilt := ⟨by obtain ⟨fd, F⟩ := c.d.def_ 38 (d := d_law_spoilt) rfl; exact ⟨_, fd, F, He.glo_ok X G (c.d.fact 39 (f := .glo "_law_spoilt") rfl)⟩⟩
  law_random := ⟨by obtain ⟨fd, F⟩ := c.d.def_ 39 (d := d_law_random) rfl; exact ⟨_, fd, F, He.glo_ok X G (c.d.fact 40 (f := .glo "_law_random") rfl)⟩⟩
  law_label := ⟨by obtain ⟨fd, F⟩ := c.d.def_ 50 (d := d_law_label) rfl; exact ⟨_, fd, F, He.glo_ok X G (c.d.fact 51 (f := .glo "_law_label") rfl)⟩⟩
  law_bill := ⟨by obtain ⟨fd, F⟩ := c.d.def_ 51 (d := d_law_bill) rfl; exact ⟨_, fd, F, He.glo_ok X G (c.d.fact 52 (f := .glo "_law_bill") rfl)⟩⟩
  law_is_recipe := ⟨by obtain ⟨fd, F⟩ := c.d.def_ 52 (d := d_law_is_recipe) rfl; exact ⟨_, fd, F, He.glo_ok X G (c.d.fact 53 (f := .glo "_law_is_recipe") rfl)⟩⟩
  law_exact := ⟨by obtain ⟨fd, F⟩ := c.d.def_ 53 (d := d_law_exact) rfl; exact ⟨_, fd, F, He.glo_ok X G (c.d.fact 54 (f := .glo "_law_exact") rfl)⟩⟩
  law_all_right := ⟨by obtain ⟨fd, F⟩ := c.d.def_ 55 (d := d_law_all_right) rfl; exact ⟨_, fd, F, He.glo_ok X G (c.d.fact 56 (f := .glo "_law_all_right") rfl)⟩⟩
  cheapest_recipe := ⟨by obtain ⟨fd, F⟩ := c.d.def_ 23 (d := d_cheapest_recipe) rfl; exact ⟨_, fd, F, He.glo_ok X G (c.d.fact 24 (f := .glo "cheapest_recipe") rfl)⟩⟩
  law_made := ⟨by obtain ⟨fd, F⟩ := c.d.def_ 44 (d := d_law_made) rfl; exact ⟨_, fd, F, He.glo_ok X G (c.d.fact 45 (f := .glo "_law_made") rfl)⟩⟩
  law_plus := ⟨by obtain ⟨fd, F⟩ := c.d.def_ 45 (d := d_law_plus) rfl; exact ⟨_, fd, F, He.glo_ok X G (c.d.fact 46 (f := .glo "_law_plus") rfl)⟩⟩
  law_is_fraction := ⟨by obtain ⟨fd, F⟩ := c.d.def_ 46 (d := d_law_is_fraction) rfl; exact ⟨_, fd, F, He.glo_ok X G (c.d.fact 47 (f := .glo "_law_is_fraction") rfl)⟩⟩
  law_weighed := ⟨by obtain ⟨fd, F⟩ := c.d.def_ 47 (d := d_law_weighed) rfl; exact ⟨_, fd, F, He.glo_ok X G (c.d.fact 48 (f := .glo "_law_weighed") rfl)⟩⟩
  law_is_way := ⟨by obtain ⟨fd, F⟩ := c.d.def_ 48 (d := d_law_is_way) rfl; exact ⟨_, fd, F, He.glo_ok X G (c.d.fact 49 (f := .glo "_law_is_way") rfl)⟩⟩
  law_is_costs := ⟨by obtain ⟨fd, F⟩ := c.d.def_ 49 (d := d_law_is_costs) rfl; exact ⟨_, fd, F, He.glo_ok X G (c.d.fact 50 (f := .glo "_law_is_costs") rfl)⟩⟩
  is_integer := ⟨by obtain ⟨fd, F⟩ := c.d.def_ 2 (d := d_is_integer) rfl; exact ⟨_, fd, F, He.glo_ok X G (c.d.fact 4 (f := .glo "is_integer") rfl)⟩⟩
  is_bowl := ⟨by obtain ⟨fd, F⟩ := c.d.def_ 3 (d := d_is_bowl) rfl; exact ⟨_, fd, F, He.glo_ok X G (c.d.fact 5 (f := .glo "is_bowl") rfl)⟩⟩
  checked_bowl := ⟨by obtain ⟨fd, F⟩ := c.d.def_ 4 (d := d_checked_bowl) rfl; exact ⟨_, fd, F, He.glo_ok X G (c.d.fact 6 (f := .glo "checked_bowl") rfl)⟩⟩
  is_index := ⟨by obtain ⟨fd, F⟩ := c.d.def_ 5 (d := d_is_index) rfl; exact ⟨_, fd, F, He.glo_ok X G (c.d.fact 7 (f := .glo "is_index") rfl)⟩⟩
  is_row := ⟨by obtain ⟨fd, F⟩ := c.d.def_ 6 (d := d_is_row) rfl; exact ⟨_, fd, F, He.glo_ok X G (c.d.fact 8 (f := .glo "is_row") rfl)⟩⟩
  power := ⟨by obtain ⟨fd, F⟩ := c.d.def_ 7 (d := d_power) rfl; exact ⟨_, fd, F, He.glo_ok X G (c.d.fact 9 (f := .glo "power") rfl)⟩⟩
  fits := ⟨by obtain ⟨fd, F⟩ := c.d.def_ 8 (d := d_fits) rfl; exact ⟨_, fd, F, He.glo_ok X G (c.d.fact 10 (f := .glo "fits") rfl)⟩⟩
theorem rcls_of {C : Addr} (q : rCls K C = true) : ∃ nm q N bs bm sn sub ab col dd k0 k1 k2 k3 k5, K.lookup C = some (excClassObj nm q C N bs bm true sn sub ab col dd k0 k1 k2 k3 k5 "ValueError.__new__") ∧ PySem.HandSPX.refsVE bm = true := by
  unfold rCls at q
  cases e : K.lookup C with
  | none => rw [e] at q; cases q
  | some o =>
    obtain ⟨oc, od, dt, sl⟩ := o
    rw [e] at q
    cases oc with
    | type t =>
      cases dt with
      | cls cd =>
        obtain ⟨q1, q2⟩ := He.ba (show (t == "type" && _) = true from q)
        split at q2
        · rename_i C' bm k0 k1 k2 k3 n k5 hm hs
          simp only [Bool.and_eq_true, beq_iff_eq, Bool.not_eq_true'] at q2 q1
          obtain ⟨rfl, rfl, hdel, hdict, hv⟩ := q2
          subst q1
          obtain ⟨nm, bs, mro, ns, qn, hd, sn, sub, ab, col, del⟩ := cd
          dsimp only at hm hdel hdict
          subst hm hdel hdict
          obtain ⟨l⟩ := sl
          simp only at hs
          subst hs
          exact ⟨_, _, _, _, bm, _, _, _, _, _, k0, k1, k2, k3, k5, rfl, hv⟩
        · cases q2
      | _ => cases q
    | _ => cases dt <;> cases q
theorem rfn_of (q : rFun K = true) (e : fnR K = valR) : ∃ (oc : Value) (od : Option Addr) (kV doc pm : Value) (an : Option Addr) (ct : Value) (osl : Array (Option Value)),
    K.lookup (He.fAd K atR) = some ⟨oc, od, .func (PySem.W.ksFn "__init__" "Refused.__init__" (defArgs s_Refused_init) (defBody s_Refused_init) (defScope s_Refused_init) .none kV doc pm an (.ref (rCode K)) ct (rCell K)), osl⟩ ∧ PySem.W.codeIn K (.ref (rCode K)) "Refused.__init__" = true := by
  unfold rFun at q
  unfold fnR at e
  unfold rCode rCell
  cases l : K.lookup (He.fAd K atR) with
  | none => rw [l] at q; cases q
  | some o =>
    obtain ⟨oc, od, dt, osl⟩ := o
    rw [l] at q e
    cases dt with
    | func fd =>
      obtain ⟨n1, n2, n3, n4, n5, n6, n7, n8, n9, n10, n11, n12, n13, n14, n15⟩ := fd
      have e2 : (some (n1, n2, n3, n4, n5, n6, n7.map (·.1), n15) : FnR) = (some ("__init__", "Refused.__init__", defArgs s_Refused_init, .stmts (defBody s_Refused_init), defScope s_Refused_init, mainGlobals, ["__class__"], builtinsNs) : FnR) := e
      simp only [Option.some.injEq, Prod.mk.injEq] at e2
      obtain ⟨h1, h2, h3, h4, h5, h6, h7, h8⟩ := e2
      subst h1 h2 h3 h4 h5 h6 h8
      obtain ⟨q1, q⟩ := He.ba q
      obtain ⟨q2, q⟩ := He.ba q
      obtain ⟨q3, q4⟩ := He.ba q
      match n7, h7 with
      | [(y, cc)], h7 =>
        have hy : y = "__class__" := by simpa using h7
        subst hy
        cases n13 with
        | ref cda =>
          cases n8 with
          | none => exact ⟨oc, od, n9, n10, n11, n12, n14, osl, rfl, q4⟩
          | _ => cases q3
        | _ => cases q2
      | [], h7 => cases h7
      | _ :: _ :: _, h7 => simp at h7
    | _ => cases q
theorem ref_of (X : K.In h) (G : h.Ns mainGlobals mg) (c : SaysR K) : PySem.RefX.RefTxt (PySem.Challenge.rw_mixlabels_k60_whole_cheapest_recipes_of).prog K mg (refC K) (He.fAd K atR) (rCell K) (rCode K) := by
  have r := c.r
  unfold refB at r
  simp only [Bool.and_eq_true] at r
  obtain ⟨a1, a2, a3, a4, a5, a6, a7, a8, a9, a10, a11, a12, a13, a14, a15, a16, a17, a18, a19⟩ := r
  refine ⟨He.glo_ok X G (c.d.fact 1 (f := .glo "Refused") rfl), rcls_of a2, He.eqO_ok a5, He.eqO_ok a6, He.eqO_ok a7, He.eqO_ok a8, He.eqO_ok a9, of_decide_eq_true a10, a11, of_decide_eq_true a12, of_decide_eq_true a13, a14, of_decide_eq_true a15, rfn_of a1 c.f, ?_, ?_, He.free_ok X G (c.d.fact 74 (f := .free "super") rfl), ?_, He.eqO_ok a16, He.eqO_ok a17, of_decide_eq_true a18, of_decide_eq_true a19⟩
  · unfold rCellB at a3
    split at a3
    · rename_i c0 d0 cl s0 e
      have ec : cl = refC K := beq_iff_eq.mp a3
      rw [ec] at e
      exact ⟨_, _, _, e⟩
    · cases a3
  · unfold rCodeB at a4
    split at a4
    · rename_i c0 d0 vs s0 e
      split at a4
      · rename_i f t hv
        exact ⟨_, _, _, _, f, t, e, hv, a4⟩
      · cases a4
    · cases a4
  · kernel_rfl
theorem facts {w : World} {f : Addr} (X : K.In h) (G : h.Ns mainGlobals mg) (hfa : mg ("law" : Str) = some (.ref f)) (c : SaysR K) :
    ∃ fd : FuncData, (∀ (s : Shared) (v : Value), BindsTo s fd ⟨[v], []⟩ [("_law_script", v)]) ∧ ∀ base : Heap, K.In base → base.Ns mainGlobals mg → FnOk (PySem.Challenge.rw_mixlabels_k60_whole_cheapest_recipes_of).prog w K mg base CX0 12 f fd ["_law_script"] (sp_law K) := by
  have D := defs_of X G c
  obtain ⟨fd, F⟩ := c.d.def_ 56 (d := d_law) rfl
  have hg := He.glo_ok X G (c.d.fact 57 (f := .glo "law") rfl)
  have e := hfa.symm.trans hg
  cases e
  have b := FunD.bindsA (ps := p_law) F fun _ _ _ _ _ _ us hl => match us, hl with | [_], _ => rfl
  refine ⟨fd, fun s v => b s [v] rfl, fun base _ _ => ?_⟩
  exact ok_law F (txt_of X G c) D (ref_of X G c)
end
end MixHead
open PySem PySem.W PySem.Calls PyProof.Rows
theorem PySem.Challenge.cw_mixlabels_k60_whole_cheapest_recipes_of_holds : PySem.Challenge.rw_mixlabels_k60_whole_cheapest_recipes_of.Holds := by
  w_on; o_law
  refine HandSHeadRun.head_any (r := OpenLaw.row PySem.Challenge.rw_mixlabels_k60_whole_cheapest_recipes_of) (q := view (OpenLaw.row PySem.Challenge.rw_mixlabels_k60_whole_cheapest_recipes_of).prog [72]) (H := MixHead.hk) (ob := MixHead.ob) (M := 6000) (loose := MixHead.loose) (d := HandSHeadRun.topDef (OpenLaw.row PySem.Challenge.rw_mixlabels_k60_whole_cheapest_recipes_of).prog 72) (kwd := []) MixHead.ob_eq
    (by kernel_rfl) (fun s => by kernel_rfl) MixHead.run (by kernel_rfl) (by kernel_rfl) (by kernel_rfl) (by rfl) (by first | assumption | decide +kernel) (by decide +kernel) ⟨rfl, rfl, rfl, rfl, rfl, by decide +kernel⟩ ?hw ?hc
  case hw => w_witness2
  case hc =>
    refine L2.walk_ofE (l := PySem.Challenge.rw_mixlabels_k60_whole_cheapest_recipes_of) (n := 63) (k := 12) (x := "_law_script") (CX := L2.CX0) rfl (by decide) (by kernel_rfl) ⟨rfl, by decide, by decide⟩ ?F (fun _ _ _ _ z => z)
    intro w mg fa h Y G hmg0
    obtain ⟨K, KX, c⟩ := Y
    have hmg : mg ("law" : PySem.Str) = some (.ref fa) := by
      have e : (HandSHeadRun.topDef (OpenLaw.row PySem.Challenge.rw_mixlabels_k60_whole_cheapest_recipes_of).prog 72).name = ("law" : PySem.Str) := by kernel_rfl
      rw [← e]
      exact hmg0
    obtain ⟨fd, hb, hF⟩ := MixHead.facts (w := w) KX G hmg c
    exact ⟨K, fd, Mix.sp_law K, KX, hb, fun H a ns hl _ hS => ⟨a, ns, rfl, hS, hl, fun _ _ _ e => e⟩, hF⟩
