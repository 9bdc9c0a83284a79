import PyProof.Rows.All
import HandS.ForExc
import KE.KExcSuper
import HandS.ForMost
import HandS.ExcValue
import HandS.Wide
import HandS.WideBits
import HandS.TupAny
import HandS.IsInst
import HandS.Text
import KE.KExcIs
import HandS.Flow
import HandS.Style
import HandS.Conv
import HandS.Dict
import HandS.Iter
import HandS.Comp
import HandS.HeadEnd
import HandS.HeadHook2
import HandS.Head2
import HandS.Codes
import PySem.Challenge.RW_keptborders_k00_errors_and_what_they_kee
set_option linter.all false
set_option maxRecDepth 100000
set_option maxHeartbeats 1000000
/-! E0: the tree of a method's call, its arguments plain, on one line. -/
namespace Mi
open PySem
def plainE : Expr → Bool
  | .Starred _ _ => false
  | _ => true
theorem star_cons {e : Expr} {es : List Expr} {env : Env} (h : plainE e = true) : starEach (e :: es) env = (false, eval e env) :: starEach es env := by
  cases e <;> first | rfl | cases h
theorem star_len {env : Env} : ∀ es : List Expr, (starEach es env).length = es.length
  | [] => rfl
  | e :: es => by
    cases e <;> (show (_ :: starEach es env).length = _; rw [List.length_cons, star_len es]; rfl)
theorem star_plain {env : Env} : ∀ es : List Expr, es.all plainE = true → (starEach es env).all (!·.1) = true
  | [], _ => rfl
  | e :: es, h => by
    rw [List.all_cons, Bool.and_eq_true] at h
    rw [star_cons h.1, List.all_cons, star_plain es h.2]
    rfl
theorem back_all {pos : Pos} (ts : List (Bool × Sem Value)) : (backTo pos ts).all (!·.1) = ts.all (!·.1) := by
  cases ts with
  | nil => rfl
  | cons t r =>
    unfold backTo
    simp [List.all_map, Function.comp_def]
theorem meth_tree {o : Expr} {name : Str} {apos pos : Pos} {args : List Expr} {env : Env} (hl : (apos.endLine == pos.line) = true) (ha : args.all plainE = true) (hn : args.length < 30) :
    eval (.Call (.Attribute o name apos) args [] pos) env = (do
      let ov ← attributeBase o name env (eval o env)
      standAt apos.atName
      let (f, first) ← holding [ov] (getMethod ov name (do return (← importBound o env).getD true))
      callWith pos f first (backTo pos (starEach args env)) (backToKw pos (keywordEach [] env))) := by
  have hf : methodCallForm (args.length + ([] : List Keyword).length) (backTo pos (starEach args env)) (backToKw pos (keywordEach [] env)) = true := by
    unfold methodCallForm
    rw [back_all, star_plain args ha]
    have e : backToKw pos (keywordEach [] env) = [] := rfl
    rw [e]
    simp
    exact hn
  show (do
    let ov ← attributeBase o name env (eval o env)
    standAt apos.atName
    methodCall o name apos pos env ov (args.length + ([] : List Keyword).length) (backTo pos (starEach args env)) (backToKw pos (keywordEach [] env))) = _
  unfold methodCall
  rw [hf]
  unfold calleeOf methodCallPos
  simp only [if_true, hl, Bool.not_true, Bool.false_or, pure_bind]
end Mi
set_option linter.all false
set_option maxRecDepth 100000
set_option maxHeartbeats 1000000
/-! E1: an error of the text's own, over ValueError, whose __init__ says super().__init__(value) and keeps the value. -/
namespace PySem
namespace Ber
open PySem.W PySem.Calls PyProof.Rows PySem.HandSPX
/-- the body of that __init__ -/
def iBody (p0 p1 p2 p3 p4 p5 p6 p7 p8 p9 : Pos) : List Stmt :=
  [.Expr (.Call (.Attribute (.Call (.Name "super" p0) [] [] p1) "__init__" p2) [.Name "value" p3] [] p4) p5,
   .Assign [.Attribute (.Name "self" p6) "value" p7] (.Name "value" p8) p9]
def iArgs (p1 p2 : Pos) : Arguments := { posonlyargs := [], args := [{ arg := "self", annotation := none, pos := p1 }, { arg := "value", annotation := none, pos := p2 }], vararg := none, kwonlyargs := [], kw_defaults := [], kwarg := none, defaults := [] }
def iScope : Scope := { kind := .function, names := [("self", .local), ("value", .local), ("__class__", .free), ("super", .globalImplicit)], isGenerator := false, isCoroutine := false, more := [] }
/-- the def itself -/
structure InitTxt (P : Program) (K : Frag) (D fI : Addr) : Prop where
  fn : ∃ (oc : Value) (od : Option Addr) (nm qual : Str) (pa1 pa2 p0 p1 p2 p3 p4 p5 p6 p7 p8 p9 : Pos) (dV kV doc pm : Value) (an : Option Addr) (cda cc : Addr) (ct : Value) (osl : Array (Option Value)),
    K.lookup fI = some ⟨oc, od, .func (ksFn nm qual (iArgs pa1 pa2) (iBody p0 p1 p2 p3 p4 p5 p6 p7 p8 p9) iScope .none kV doc pm an (.ref cda) ct cc), osl⟩ ∧ codeIn K (.ref cda) qual = true ∧ (p2.endLine == p4.line) = true ∧
    (∃ (ccl : Value) (cdd : Option Addr) (vs : Array Value) (ccs : Array (Option Value)) (file : Str) (tf : Tok), K.lookup cda = some ⟨ccl, cdd, .fields vs, ccs⟩ ∧ vs[2]? = some (.str file tf) ∧ ((P.main.file : Str) == file) = true) ∧
    (∃ (cl : Value) (cld : Option Addr) (csl : Array (Option Value)), K.lookup cc = some ⟨cl, cld, .cell (some (.ref D)), csl⟩)
  top : (P.main.scope.names.lookup ("super" : Str)).isSome = false
/-- a class of the errors -/
structure ClsTxt (K : Frag) (C D fI : Addr) : Prop where
  cls : ∃ nm q N bs bm sn sub ab col dd k0 k1 k2 k3 k5, K.lookup C = some (excClassObj nm q C N bs bm true sn sub ab col dd k0 k1 k2 k3 k5 "ValueError.__new__") ∧ refsVE bm = true ∧
    alongIn K "__init__" (((Value.ref C :: bm).dropWhile (· != .ref D)).drop 1) = some (some (.builtin "ValueError.__init__"))
  clD : (clsIn K D).isSome = true
  sub : mroIn K C (.ref D) = some true
  sve : subIn K (.ref C) (.type "ValueError") = some true
  sa : findIn K (.ref C) "__setattr__" = some (some (.builtin "object.__setattr__"))
  noN : findIn K (.ref C) "value" = some none
  iC : findIn K (.ref C) "__init__" = some (some (.ref fI))
  tI : typeIn K (.ref fI) = some (.type "function")
  opq : nsIn K cStatics "thirdparty.any" = some none
/-- what __init__ leaves of the fresh error at x -/
structure InitEnd (h h' : Heap) (x C dx t1 : Addr) (v : Value) : Prop where
  keep : ∀ b o, b ≠ x → h.get? b = some o → h'.get? b = some o
  obj : h'.get? x = some { cls := .ref C, dict := some dx, data := .fields #[.ref t1, .none, .none, .none, .bool false, .none] }
  dbig : h.objs.size ≤ dx
  dne : dx ≠ x
  ns : h'.Ns1 dx (fun y => if y = "value" then some v else none)
section
variable {prog : Program} {w : World} {A : Around} {E : Value → Shared → Prop} {R : Result → Shared → Prop} {s : Shared} {K : Frag} {mg : Str → Option Value} {C D fI : Addr}
theorem one_size (v : Value) : [v].length ≤ sizeLine := by
  rw [sizeLine_eq]
  exact (by decide : 1 ≤ 16777216)
/-- ValueError.__init__, bound to x, called -/
theorem bound_init {u x t0 : Addr} {v : Value} {Q : Value → Shared → Prop} {h : Heap} {g : Array GenState} {d : Drawn} {t : Nat} {os : OsState} {nm q : Str} {N : Addr} {bs bm : List Value} {hdct : Bool} {sn : List Str} {sub : List Value} {ab : Bool} {col : Option Bool} {dd : Option Addr} {k0 k1 k2 k3 k5 : Option Value}
    (hC : h.get? C = some (excClassObj nm q C N bs bm hdct sn sub ab col dd k0 k1 k2 k3 k5 "ValueError.__new__")) (he : h.get? x = some (excO C t0)) (hu : h.get? u = some (kxs_mw "ValueError.__init__" x))
    (hq : ∀ h' t1, (∀ b o, b ≠ x → h.get? b = some o → h'.get? b = some o) → h'.get? x = some (excO C t1) → Q .none ⟨h', g, d, t, os⟩) :
    wpAny (model prog w) A (call (.ref u) [v]) Q E ⟨h, g, d, t, os⟩ := by
  refine wpAny_call (codeAny_of_tree ?_)
  show wpAny _ A.in1 (callAny (.ref u) ⟨[v], []⟩) _ _ _
  simp only [callAny]
  refine wpAny_bind (wpAny_load hu ?_)
  have isM : (Value.type "method-wrapper" == Value.type "method" || Value.type "method-wrapper" == Value.type "builtin_function_or_method" || Value.type "method-wrapper" == Value.type "method-wrapper") = true := by decide
  simp only [kxs_mw, isM, if_true]
  refine W.KFB.if_so (by decide) (wpAny_bind (check_bound_init F.excCall_ValueError hC he rfl (wpAny_bind (wpAny_pure (wpAny_pure ?_)))))
  refine ⟨Code.quiet_builtin _ (by decide +kernel), codeAny_builtin F.excBase_ValueError.initEntry ?_⟩
  rw [Around.under_plainId F.excBase_ValueError.init.plain _]
  wp_walk
  exact hq _ h.objs.size (fun b o hb ho => (Heap.get?_update_other _ _ (Ne.symm hb)).trans (Heap.get?_push_of_some _ ho)) (by rw [Heap.get?_update_self _ (Heap.get?_push_of_some _ he) rfl]; rfl)
theorem init_ok {x t0 : Addr} {v : Value} (T : InitTxt prog K D fI) (Y : ClsTxt K C D fI) (X : K.In s.heap) (hg : s.heap.Ns mainGlobals mg) (hsup : mg "super" = none)
    (hb : ∃ mb, s.heap.Ns builtinsNs mb ∧ ∀ x : Str, x ≠ "__name__" → mb x = bootBuiltins x) (hlim : s.heap.NoLimit) (hx : s.heap.get? x = some (excO C t0)) (hnx : K.lookup x = none) (hroom : A.depth < recursionLimit)
    (hq : ∀ h' tk dx t1, InitEnd s.heap h' x C dx t1 v → R (.ok (.ret .none)) { s with heap := h', toks := tk }) :
    codeAny (model prog w) A (.call (.ref fI) ⟨[.ref x, v], []⟩) R s := by
  obtain ⟨oc, od, nm, qual, pa1, pa2, p0, p1, p2, p3, p4, p5, p6, p7, p8, p9, dV, kV, doc, pm, an, cda, cc, ct, osl, hf, hcd, hln, ⟨ccl, cdd, vs, ccs, file, tf, hcode, hvs, hfile⟩, ⟨cl, cld, csl, hcell⟩⟩ := T.fn
  obtain ⟨cn, cq, N, bs, bm, sn, sub, ab, col, dd, k0, k1, k2, k3, k5, hC, hbm, hal⟩ := Y.cls
  obtain ⟨mb, hb1, hb2⟩ := hb
  refine ks_codeAny_call_defAt (fd := ksFn nm qual (iArgs pa1 pa2) (iBody p0 p1 p2 p3 p4 p5 p6 p7 p8 p9) iScope .none kV doc pm an (.ref cda) ct cc) (binds := [("self", .ref x), ("value", v)]) hroom (X _ _ hf) rfl hlim (codeRec_of X hcd) rfl ?_ ?_ ?_ (fun h₁ hns hk => ?_)
  · exact BindsTo.of_eq (by first | rfl | with_unfolding_all rfl)
  · exact (by decide +kernel : ∀ x ∈ iScope.names, x.2 ≠ .cell)
  · intro y hy
    simp only [List.mem_cons, List.not_mem_nil, or_false] at hy
    rcases hy with rfl | rfl <;> rfl
  · have X₁ : K.In h₁ := X.keeps hk
    have hx₁ := hk _ _ hx
    have hC₁ := X₁ _ _ hC
    have nx : x ≠ s.heap.objs.size := Nat.ne_of_lt (Heap.lt_size hx)
    generalize hsz : s.heap.objs.size = L at hns nx ⊢
    have mself : ([(("self" : Str), Value.ref x), ("value", v)].reverse.lookup ("self" : Str)) = some (.ref x) := rfl
    have mvn : ([(("self" : Str), Value.ref x), ("value", v)].reverse.lookup ("value" : Str)) = some v := rfl
    show wpAt _ _ (.func (iBody p0 p1 p2 p3 p4 p5 p6 p7 p8 p9) (ksEnv qual iScope L fI (.ref cda) cc)) (execs (iBody p0 p1 p2 p3 p4 p5 p6 p7 p8 p9) (ksEnv qual iScope L fI (.ref cda) cc)) _ _ _
    refine ks_wpAt_execs_cons (ks_wpAt_Expr_any (ks_wpAt_MethodCall ?_ (Mi.meth_tree hln rfl (show 1 < 30 by decide))) (by rfl) (by rfl))
    · -- super()
      have hD1 : ∃ oD cdD, h₁.get? D = some oD ∧ oD.data = .cls cdD := by
        obtain ⟨cdD, hD⟩ := Option.isSome_iff_exists.mp Y.clD
        unfold clsIn at hD
        split at hD
        · rename_i ho
          cases hD
          exact ⟨_, _, X₁ _ _ ho, rfl⟩
        · cases hD
      obtain ⟨oD, cdD, hD1, hD2⟩ := hD1
      refine ks_wpAt_super_base (env := ksEnv qual iScope L fI (.ref cda) cc) rfl rfl (by decide +kernel) rfl (X₁ _ _ hf) rfl rfl rfl (X₁ _ _ hcode) rfl hvs hfile T.top ?_
      refine ks_loadName_global rfl rfl (loadGlobal_builtin (env := ksEnv qual iScope L fI (.ref cda) cc) (hg.keeps hk) hsup (hb1.keeps hk) ((hb2 _ (by decide +kernel)).trans (by decide +kernel : bootBuiltins "super" = some (.type "super"))) ⟨rfl, ?_⟩)
      refine wpAny_loadName_free rfl rfl rfl ⟨_, X₁ _ _ hcell, rfl⟩ ?_
      refine wpAny_loadName_local rfl rfl hns mself ?_
      refine ks_wpAny_isType_cls hD1 hD2 ⟨rfl, ?_⟩
      refine ks_wpAny_call_super hD1 hD2 hx₁ rfl (fun c e => nomatch e) (looks_mroIn X₁ Y.sub) (fun h₂ e₂ kk₂ => ?_)
      -- .__init__
      have X₂ : K.In h₂ := X₁.keeps kk₂
      have hx₂ := kk₂ _ _ hx₁
      have I₂ : InstAt h₂ x (excO C t0) C none := ⟨hx₂, rfl, rfl, trivial⟩
      have hcl : clsIn K C = some { name := cn, bases := bs, mro := .ref C :: bm, ns := N, qualname := cq, hasDict := true, slotNames := sn, subclasses := sub, abstract := ab, collection := col, hasDel := false } := by unfold clsIn; rw [hC] <;> rfl
      have neC : x ≠ C := fun z => by
        have q := X _ _ hC
        rw [← z, hx] at q
        cases q
      refine kxs_getMethod kxs_ValueError (l₀ := .ref C :: bm) e₂ (looks_opaque X₂ Y.opq) ?_ rfl X₂ hal (I₂.type.andThen (looks_subIn X₂ Y.sve)) neC (by decide +kernel) ?_
      · exact fun A Q E s k q => wpAny_bind ((looks_clsIn X₂ hcl) A _ E s k (wpAny_pure q))
      -- (value)
      have hu : (h₂.push (kxs_mw "ValueError.__init__" x)).get? h₂.objs.size = some (kxs_mw "ValueError.__init__" x) := Heap.get?_push_at rfl rfl
      have k₃ : ∀ b o, h₂.get? b = some o → (h₂.push (kxs_mw "ValueError.__init__" x)).get? b = some o := fun b o e => Heap.get?_push_of_some _ e
      have hns₃ := (hns.keeps kk₂).keeps k₃
      refine kxs_callWith (i := "ValueError.__init__") (x := x) rfl (evalArgs_plain (Calls.spliced_cons (wpAny_Name (wpAny_loadName_local rfl rfl hns₃ mvn (Calls.spliced_nil ⟨hu, ?_⟩)) (by decide +kernel))))
      refine bound_init (X₂.keeps k₃ _ _ hC) (k₃ _ _ hx₂) hu fun h₄ t1 k₄ hx₄ => ?_
      show wpAt _ _ _ (execs [_] _) _ _ _
      have all₄ : ∀ b o, b ≠ x → h₁.get? b = some o → h₄.get? b = some o := fun b o hb e => k₄ b o hb (k₃ _ _ (kk₂ _ _ e))
      have X₄ : K.In h₄ := fun b o e => all₄ b o (fun z => by rw [z, hnx] at e; cases e) (X₁ b o e)
      have hns₄ : h₄.Ns L (fun y => [(("self" : Str), Value.ref x), ("value", v)].reverse.lookup y) := by
        obtain ⟨oL, es, ep, hL, r⟩ := hns
        exact ⟨oL, es, ep, all₄ _ _ (Ne.symm nx) hL, r⟩
      refine ks_wpAt_execs_cons (ks_wpAt_Assign_Attr ?_ (by rfl))
      refine wpAt_of_wpAny (wpAny_Name (wpAny_loadName_local rfl rfl hns₄ mvn ?_) (by decide +kernel))
      refine wpAny_Name (wpAny_loadName_local rfl rfl hns₄ mself ?_) (by decide +kernel)
      refine set_plain X₄ (ox := excO C t1) (od := none) ⟨hx₄, rfl, rfl, trivial⟩ Y.sa ?_
      refine exc_osa X₄ hx₄ hcl (show refsVE (.ref C :: bm) = true from hbm) rfl Y.noN (fun h₅ tk₅ dx k₅ dn dne hx₅ hn₅ => ?_)
      show wpAt _ _ _ (execs [] _) _ _ _
      have z : L < h₁.objs.size := hns.lt
      have z4 : L < h₄.objs.size := hns₄.lt
      refine wpAt_of_wpAny (wpAny_execs_nil (hq h₅ tk₅ dx t1 ⟨fun b o hb e => k₅ b o hb (all₄ b o hb (hk b o e)), hx₅, ?_, dne, hn₅⟩))
      rw [hsz]
      exact Nat.le_of_lt (Nat.lt_of_lt_of_le z4 dn)
/-- an error that was made: its place e, its dict d -/
structure Made (h h' : Heap) (e C d : Addr) (v : Value) : Prop where
  keep : ∀ b o, h.get? b = some o → h'.get? b = some o
  new : h.objs.size ≤ e
  obj : ∃ oe vs, h'.get? e = some oe ∧ oe.cls = .ref C ∧ oe.dict = some d ∧ oe.data = .fields vs ∧ vs[1]? = some .none
  dbig : h.objs.size ≤ d
  dne : d ≠ e
  ns : h'.Ns1 d (fun y => if y = "value" then some v else none)
theorem made {v : Value} (T : InitTxt prog K D fI) (Y : ClsTxt K C D fI) (X : K.In s.heap) (hg : s.heap.Ns mainGlobals mg) (hsup : mg "super" = none)
    (hb : ∃ mb, s.heap.Ns builtinsNs mb ∧ ∀ x : Str, x ≠ "__name__" → mb x = bootBuiltins x) (hlim : s.heap.NoLimit) (hroom : A.depth + 1 < recursionLimit)
    (hq : ∀ h' tk e d, Made s.heap h' e C d v → R (.ok (.ret (.ref e))) { s with heap := h', toks := tk }) :
    codeAny (model prog w) A (.call (.ref C) ⟨[v], []⟩) R s := by
  obtain ⟨cn, cq, N, bs, bm, sn, sub, ab, col, dd, k0, k1, k2, k3, k5, hC, hbm, hal⟩ := Y.cls
  obtain ⟨hp, g, dr, tk, os⟩ := s
  have k : ∀ b o, hp.get? b = some o → ((hp.push (kdv_tup [v])).push (excO C hp.objs.size)).get? b = some o := fun b o e => Heap.get?_push_of_some _ (Heap.get?_push_of_some _ e)
  have hget : ((hp.push (kdv_tup [v])).push (excO C hp.objs.size)).get? (hp.objs.size + 1) = some (excO C hp.objs.size) := by heap_get
  have hnx : K.lookup (hp.objs.size + 1) = none := by
    cases e : K.lookup (hp.objs.size + 1) with
    | none => rfl
    | some o =>
      have z : hp.get? (hp.objs.size + 1) = some o := X _ _ e
      exact absurd (Nat.lt_of_succ_lt (Heap.lt_size z)) (Nat.lt_irrefl _)
  obtain ⟨mb, hb1, hb2⟩ := hb
  refine call_own F.excBase_ValueError (fun X => refsVE_contains X bm hbm) (X _ _ hC) (looks_findIn X Y.iC) (fun self => bind_fn X self Y.tI) (one_size v) ?_
  refine init_ok (s := ⟨(hp.push (kdv_tup [v])).push (excO C hp.objs.size), g, dr, tk, os⟩) T Y (X.keeps k) (hg.keeps k) hsup ⟨mb, hb1.keeps k, hb2⟩ (hlim.keeps k) hget hnx hroom fun h' tk' dx t1 ⟨k', hx, dn, dne, hns⟩ => ?_
  have old : ∀ b o, hp.get? b = some o → h'.get? b = some o := fun b o e => k' b o (Nat.ne_of_lt (Nat.lt_succ_of_lt (Heap.lt_size e))) (k b o e)
  have z : hp.objs.size + 1 + 1 ≤ dx := by
    have q := dn
    rw [Heap.size_push, Heap.size_push] at q
    exact q
  exact ⟨rfl, hq h' tk' (hp.objs.size + 1) dx ⟨old, Nat.le_succ _, ⟨_, _, hx, rfl, rfl, rfl, rfl⟩, Nat.le_trans (Nat.le_trans (Nat.le_succ _) (Nat.le_succ _)) z, dne, hns⟩⟩
end
end Ber
end PySem
/-! MiA: a small language of immutable data, own lists and boxes; its evaluation. Plain Lean. -/
namespace Mi

inductive D where
  | und | non | bl (b : Bool) | int (i : Int) | str (s : List Nat)
  | tup (xs : List D) | lst (xs : List D) | dct (ks vs : List D)
  | obj (c : Nat) (fs : List D) | exc (c : Nat) (d : D) | ref (i : Nat)
  | scr (xs : List Int)     -- the script
  deriving Inhabited

/-- a slot: a value, or a container that this frame alone holds -/
inductive Sl where
  | v (d : D) | own (d : D)
abbrev Env := List (Option Sl)
abbrev Store := List D
/-- what an expression hands on: a value; a new container that nobody holds yet; the container of a slot -/
inductive R where
  | v (d : D) | fr (d : D) | bor (i : Nat)

inductive Res (α : Type) where
  | ok (a : α) (e : Env) (s : Store)
  | exc (c : Nat) (d : D) (e : Env) (s : Store)
  | bad
/-- the end of a call -/
inductive RC where
  | ok (d : D) (s : Store)
  | exc (c : Nat) (d : D) (s : Store)
  | bad

abbrev M (α : Type) := Env → Store → Res α
def M.ret {α : Type} (a : α) : M α := fun e s => .ok a e s
def M.bad {α : Type} : M α := fun _ _ => .bad
def Res.bind {α β : Type} (r : Res α) (f : α → M β) : Res β := match r with
  | .ok a e s => f a e s
  | .exc c d e s => .exc c d e s
  | .bad => .bad
@[simp] theorem Res.bind_ok {α β : Type} {a : α} {e : Env} {s : Store} {f : α → M β} : (Res.ok a e s).bind f = f a e s := rfl
@[simp] theorem Res.bind_exc {α β : Type} {c : Nat} {d : D} {e : Env} {s : Store} {f : α → M β} : (Res.exc c d e s : Res α).bind f = .exc c d e s := rfl
@[simp] theorem Res.bind_bad {α β : Type} {f : α → M β} : (Res.bad : Res α).bind f = .bad := rfl
def M.bind {α β : Type} (m : M α) (f : α → M β) : M β := fun e s => (m e s).bind f
def M.opt {α : Type} : Option α → M α
  | some a => .ret a
  | none => .bad

def SZ : Nat := 16777216
/-- a text that can lie in the heap -/
def sok (s : List Nat) : Bool := decide (s.length ≤ SZ) && s.all fun c => decide (c < 1114112)

/-! ### one-place and two-place operations on data -/
inductive P1 where
  | len | tuple | list | sorted | sset | lenset | all | any | sum | int | abs | repr | str | neg | inv | not | max | min | rev
  deriving DecidableEq
inductive P2 where
  | add | sub | mul | fdiv | mod | pow | shl | shr | band | bor | bxor
  | eq | ne | lt | le | gt | ge | isin | notin | is | isnt | max2 | min2
  deriving DecidableEq

def D.truth : D → Option Bool
  | .non => some false
  | .bl b => some b
  | .int i => some (i != 0)
  | .str s => some (!s.isEmpty)
  | .tup xs => some (!xs.isEmpty)
  | .lst xs => some (!xs.isEmpty)
  | .dct ks _ => some (!ks.isEmpty)
  | _ => none

def b2i (b : Bool) : Int := if b then 1 else 0

mutual
/-- == of data (no objects): None, bools, ints, texts, tuples, lists -/
def D.eqv : D → D → Bool
  | .non, .non => true
  | .bl a, .bl b => a == b
  | .bl a, .int j => decide (b2i a = j)
  | .int i, .bl b => decide (i = b2i b)
  | .int i, .int j => decide (i = j)
  | .str a, .str b => decide (a = b)
  | .tup xs, .tup ys => eqvs xs ys
  | .lst xs, .lst ys => eqvs xs ys
  | _, _ => false
def eqvs : List D → List D → Bool
  | [], [] => true
  | x :: xs, y :: ys => x.eqv y && eqvs xs ys
  | _, _ => false
end
mutual
/-- data that == can look at, of a depth -/
def D.plain : Nat → D → Bool
  | _, .non => true
  | _, .bl _ => true
  | _, .int _ => true
  | _, .str _ => true
  | n + 1, .tup xs => plains n xs
  | n + 1, .lst xs => plains n xs
  | _, _ => false
def plains : Nat → List D → Bool
  | _, [] => true
  | n, x :: xs => x.plain n && plains n xs
end

end Mi
/-! MiB: the operations, the syntax, the evaluation. -/
namespace Mi

def two64 : Int := 18446744073709551616
/-- an int that operations may take without a look at its size -/
def sm (i : Int) : Bool := decide (i.natAbs < 2 ^ 4000)
def fresh (xs : List D) : Option R := if xs.length ≤ SZ then some (.fr (.lst xs)) else none
def newTup (xs : List D) : Option R := if xs.length ≤ SZ then some (.v (.tup xs)) else none
def vint (i : Int) : Option R := some (.v (.int i))
def vbl (b : Bool) : Option R := some (.v (.bl b))

/-! bits of ints that are not negative -/
def D.ints : List D → Option (List Int)
  | [] => some []
  | .int i :: r => (D.ints r).map (i :: ·)
  | _ :: _ => none
def D.bls : List D → Option (List Bool)
  | [] => some []
  | .bl i :: r => (D.bls r).map (i :: ·)
  | _ :: _ => none
def D.strs : List D → Option (List (List Nat))
  | [] => some []
  | .str i :: r => (D.strs r).map (i :: ·)
  | _ :: _ => none

/-! place in a sequence, slices -/
def ixN (n : Nat) (i : Int) : Option Nat := if 0 ≤ i then (if i < n then some i.toNat else none) else if -(n : Int) ≤ i then some (i + n).toNat else none
def atI {α : Type} (xs : List α) (i : Int) : Option α := (ixN xs.length i).bind fun j => xs[j]?
/-- where a slice's end lies -/
def cutAt (n : Nat) (i : Int) : Nat := if 0 ≤ i then min i.toNat n else (i + n).toNat
def loAt (n : Nat) : Option Int → Nat
  | some i => cutAt n i
  | none => 0
def hiAt (n : Nat) : Option Int → Nat
  | some i => cutAt n i
  | none => n
def cut {α : Type} (xs : List α) (lo hi : Option Int) : List α := (xs.drop (loAt xs.length lo)).take (hiAt xs.length hi - loAt xs.length lo)

/-- the places of which kind a value is -/
inductive Cl where
  | int | str | tuple | list | bool | dict | valueError | own (c : Nat)
  deriving DecidableEq

/-- what the text's classes are: above c tells the classes above c (and c), exc whether it is an error's -/
structure ClsG where
  above : Nat → List Nat
  isExc : Nat → Bool

def Cl.ok (g : ClsG) : Cl → Bool
  | .own c => g.isExc c
  | _ => true
def D.ok (g : ClsG) : D → Bool
  | .exc c _ => g.isExc c
  | _ => true
def D.isi0 (g : ClsG) : D → Cl → Option Bool
  | .und, _ => none
  | .scr _, _ => none
  | .ref _, _ => none
  | .non, _ => some false
  | .bl _, .int => some true
  | .bl _, .bool => some true
  | .bl _, _ => some false
  | .int _, .int => some true
  | .int _, _ => some false
  | .str _, .str => some true
  | .str _, _ => some false
  | .tup _, .tuple => some true
  | .tup _, _ => some false
  | .lst _, .list => some true
  | .lst _, _ => some false
  | .dct _ _, .dict => some true
  | .dct _ _, _ => some false
  | .obj c _, .own k => some ((g.above c).contains k)
  | .obj _ _, _ => some false
  | .exc c _, .own k => some ((g.above c).contains k)
  | .exc _ _, .valueError => some true
  | .exc _ _, _ => some false
def D.isi (g : ClsG) (d : D) (c : Cl) : Option Bool := if c.ok g && d.ok g then d.isi0 g c else none

def natBit (f : Nat → Nat → Nat) (i j : Int) : Option R := if 0 ≤ i ∧ 0 ≤ j then vint (f i.toNat j.toNat : Nat) else none

/-- a text's sign in upper case, of the signs below 128 -/
def up1 (c : Nat) : Nat := if 97 ≤ c ∧ c ≤ 122 then c - 32 else c

/-- texts in ascending order -/
def insS (x : List Nat) : List (List Nat) → List (List Nat)
  | [] => [x]
  | y :: r => if decide (y < x) then y :: insS x r else x :: y :: r
def sortS (xs : List (List Nat)) : List (List Nat) := xs.foldr insS []

end Mi
/-! MiC: syntax and evaluation. -/
namespace Mi

inductive M0 where
  | upper | bitlen
  deriving DecidableEq
inductive M1 where
  | append | extend | join | index | startswith | split | pop | get | update | count
  deriving DecidableEq

/-- targets of a for, of an assignment of several -/
inductive Tg where
  | nm (i : Nat)
  | tp (ts : List Tg)

mutual
inductive Ex where
  | omit                              -- what is left out (an end of a slice, a comprehension's if)
  | lit (d : D)
  | var (i : Nat)
  | gl (k : Nat)                      -- a constant of the module
  | p1 (p : P1) (a : Ex)
  | p2 (p : P2) (a b : Ex)
  | chain (p q : P2) (a b c : Ex)
  | and (a b : Ex) | or (a b : Ex)
  | ite (c a b : Ex)
  | tup (es : List Ex) | lst (es : List Ex) | box (es : List Ex) | dct (ks : List D) (vs : List Ex)   -- a dict's keys are written
  | call (f : Nat) (es : List Ex)
  | mk (c : Nat) (es : List Ex)       -- an own class
  | isi (a : Ex) (cs : List Cl)
  | ix (a i : Ex)
  | sl (a lo hi : Ex)
  | m0 (m : M0) (a : Ex) | m1 (m : M1) (a b : Ex) | m2 (m : M1) (a b c : Ex)
  | mt (m : Nat) (a : Ex) (es : List Ex)   -- a method of an own class
  | at (a : Ex) (n : Nat)             -- an attribute
  | lc (t : Tg) (it : It) (c e : Ex)
  | list (it : It)                    -- list(range(..)), ..
  | tuple (it : It)
inductive It where
  | seq (e : Ex)
  | rng1 (a : Ex) | rng2 (a b : Ex) | rng3 (a b c : Ex)
  | enum (e : Ex) | zip (a b : Ex)
end

inductive Sm where
  | set (i : Nat) (e : Ex)
  | tgt (t : Tg) (e : Ex)              -- a, b = e
  | par (is : List Nat) (es : List Ex) -- a, b = x, y
  | setIx (o i e : Ex)
  | setAt (i : Nat) (n : Nat) (e : Ex) -- self.n = e
  | exp (e : Ex)
  | ret (e : Ex)
  | ite (c : Ex) (a b : List Sm)
  | whl (c : Ex) (b : List Sm)
  | for (t : Tg) (it : It) (b : List Sm)
  | raise (c : Nat) (e : Ex)
  | try1 (b : List Sm) (c : Nat) (as : Option Nat) (h : List Sm)
  | pass

inductive Flow where
  | next | ret (d : D)

structure Fn where
  np : Nat
  ns : Nat
  body : List Sm

/-- an attribute of a class: a slot, a property -/
inductive Ak where
  | slot (k : Nat) | prop (f : Nat)
/-- what a class has for an operation -/
inductive Sp where
  | eq | len | has | and | or | inv
/-- a program: its defs, constants, classes -/
structure Pr extends ClsG where
  fn : Nat → Option Fn
  con : Nat → Option D
  init : Nat → Option Nat
  slots : Nat → Nat
  attr : Nat → Nat → Option Ak
  meth : Nat → Nat → Option Nat
  spec : Nat → Sp → Option Nat
  val : Nat          -- the attribute of errors
  rep : D → Option (List Nat)

/-! ### operations on data -/
def op1 (P : Pr) : P1 → D → Option R
  | .len, .str s => vint s.length
  | .len, .tup xs => vint xs.length
  | .len, .lst xs => vint xs.length
  | .len, .dct ks _ => vint ks.length
  | .len, .scr xs => vint xs.length
  | .tuple, .lst xs => some (.v (.tup xs))
  | .tuple, .tup xs => some (.v (.tup xs))
  | .list, .lst xs => some (.fr (.lst xs))
  | .list, .tup xs => some (.fr (.lst xs))
  | .sorted, .lst xs => if xs.length < 64 then (D.strs xs).map fun ss => .fr (.lst ((sortS ss).map .str)) else none
  | .all, .lst xs => (D.bls xs).map fun bs => .v (.bl (bs.all id))
  | .any, .lst xs => (D.bls xs).map fun bs => .v (.bl (bs.any id))
  | .sum, .lst xs => (D.ints xs).map fun is => .v (.int is.sum)
  | .int, .int i => vint i
  | .int, .bl b => vint (b2i b)
  | .abs, .int i => vint (if i < 0 then -i else i)
  | .repr, d => (P.rep d).map fun s => .v (.str s)
  | .neg, .int i => vint (-i)
  | .not, d => d.truth.map fun b => .v (.bl (!b))
  | .rev, .lst xs => some (.fr (.lst xs.reverse))
  | .rev, .tup xs => some (.v (.tup xs.reverse))
  | _, _ => none

def op2 : P2 → D → D → Option R
  | .add, .int i, .int j => vint (i + j)
  | .add, .str a, .str b => if a.length + b.length ≤ SZ then some (.v (.str (a ++ b))) else none
  | .add, .tup a, .tup b => newTup (a ++ b)
  | .add, .lst a, .lst b => fresh (a ++ b)
  | .sub, .int i, .int j => vint (i - j)
  | .mul, .int i, .int j => if sm i && sm j then vint (i * j) else none
  | .fdiv, .int i, .int j => if 0 < j ∧ j < 1073741824 then vint (i / j) else none
  | .mod, .int i, .int j => if 0 < j then vint (i % j) else none
  | .pow, .int i, .int j => if 0 ≤ j ∧ j ≤ 100 ∧ i.natAbs < 2 ^ 1000 then vint (i ^ j.toNat) else none
  | .shl, .int i, .int j => if 0 ≤ j ∧ j ≤ 1000000 ∧ i.natAbs < 2 ^ 64 then vint (i * 2 ^ j.toNat) else none
  | .shr, .int i, .int j => if 0 ≤ j then vint (i / 2 ^ j.toNat) else none
  | .band, .int i, .int j => natBit Nat.land i j
  | .bor, .int i, .int j => natBit Nat.lor i j
  | .bxor, .int i, .int j => natBit Nat.xor i j
  | .eq, a, b => if a.plain 60 && b.plain 60 then vbl (a.eqv b) else none
  | .ne, a, b => if a.plain 60 && b.plain 60 then vbl (!a.eqv b) else none
  | .lt, .int i, .int j => vbl (decide (i < j))
  | .le, .int i, .int j => vbl (decide (i ≤ j))
  | .gt, .int i, .int j => vbl (decide (j < i))
  | .ge, .int i, .int j => vbl (decide (j ≤ i))
  | .lt, .str a, .str b => vbl (decide (a < b))
  | .is, d, .non => vbl (match d with | .non => true | _ => false)
  | .isnt, d, .non => vbl (match d with | .non => false | _ => true)
  | .max2, .int i, .int j => vint (if j > i then j else i)
  | .min2, .int i, .int j => vint (if j < i then j else i)
  | .isin, d, .tup xs => if d.plain 60 && plains 60 xs then vbl (xs.any fun x => x.eqv d) else none
  | .notin, d, .tup xs => if d.plain 60 && plains 60 xs then vbl (!xs.any fun x => x.eqv d) else none
  | .isin, d, .lst xs => if d.plain 60 && plains 60 xs then vbl (xs.any fun x => x.eqv d) else none
  | .notin, d, .lst xs => if d.plain 60 && plains 60 xs then vbl (!xs.any fun x => x.eqv d) else none
  | _, _, _ => none

def opIx : D → D → Option R
  | .lst xs, .int i => (atI xs i).map .v
  | .tup xs, .int i => (atI xs i).map .v
  | .scr xs, .int i => (atI xs i).map fun z => .v (.int z)
  | .str s, .int i => (atI s i).map fun c => .v (.str [c])
  | _, _ => none

def bnd : Option D → Option (Option Int)
  | none => some none
  | some (.int i) => some (some i)
  | _ => none
def opSl (d : D) (lo hi : Option D) : Option R := match bnd lo, bnd hi with
  | some a, some b => (match d with
    | .lst xs => some (.fr (.lst (cut xs a b)))
    | .tup xs => some (.v (.tup (cut xs a b)))
    | .str s => some (.v (.str (cut s a b)))
    | _ => none)
  | _, _ => none
def opM0 : M0 → D → Option R
  | .upper, .str s => if s.length ≤ 5592405 ∧ s.all (fun c => decide (c < 128)) then some (.v (.str (s.map up1))) else none
  | _, _ => none
/-- a dict of written keys: at most fifteen, texts or ints, no two alike -/
def opDct (ks vs : List D) : Option R := if decide (ks.length ≤ 15) && (decide (ks.length = vs.length) && (match D.strs ks with | some ss => decide ss.Nodup | none => false)) then some (.fr (.dct ks vs)) else none

/-! ### the state -/
def deref : R → M D
  | .v (.ref i) => fun e s => match s[i]? with | some d => .ok d e s | none => .bad
  | .v d => .ret d
  | .fr d => .ret d
  | .bor i => fun e s => match e[i]? with | some (some (.own d)) => .ok d e s | _ => .bad
def esc : R → M D
  | .v d => .ret d
  | .fr d => .ret d
  | .bor i => fun e s => match e[i]? with | some (some (.own d)) => .ok d (e.set i (some (.v d))) s | _ => .bad
def getVar (i : Nat) : M R := fun e s => match e[i]? with
  | some (some (.v d)) => .ok (.v d) e s
  | some (some (.own _)) => .ok (.bor i) e s
  | _ => .bad
def putVar (i : Nat) : R → M Unit
  | .v d => fun e s => if i < e.length then .ok () (e.set i (some (.v d))) s else .bad
  | .fr d => fun e s => if i < e.length then .ok () (e.set i (some (.own d))) s else .bad
  | .bor j => M.bind (esc (.bor j)) fun d e s => if i < e.length then .ok () (e.set i (some (.v d))) s else .bad
/-- a box of new contents -/
def alloc (d : D) : M R := fun e s => .ok (.v (.ref s.length)) e (s ++ [d])
/-- the container's contents exchanged -/
def store : R → D → M Unit
  | .v (.ref i), d => fun e s => if i < s.length then .ok () e (s.set i d) else .bad
  | .bor i, d => fun e s => match e[i]? with | some (some (.own _)) => .ok () (e.set i (some (.own d))) s | _ => .bad
  | _, _ => .bad
def truthM (d : D) : M Bool := .opt d.truth

mutual
def Tg.slots : Tg → List Nat
  | .nm i => [i]
  | .tp ts => slotsL ts
def slotsL : List Tg → List Nat
  | [] => []
  | t :: ts => t.slots ++ slotsL ts
end
mutual
def bindT : Tg → D → M Unit
  | .nm i, d => putVar i (.v d)
  | .tp ts, .tup ds => bindTs ts ds
  | .tp _, _ => .bad
def bindTs : List Tg → List D → M Unit
  | [], [] => .ret ()
  | t :: ts, d :: ds => M.bind (bindT t d) fun _ => bindTs ts ds
  | _, _ => .bad
end
def wipeE (e : Env) : List Nat → Env
  | [] => e
  | v :: vs => (wipeE e vs).set v none
/-- the slots as they were -/
def restE (e0 e : Env) : List Nat → Env
  | [] => e
  | v :: vs => (restE e0 e vs).set v (e0[v]?.join)
def noExc {α : Type} (m : M α) : M α := fun e s => match m e s with
  | .ok a e s => .ok a e s
  | _ => .bad
def lcLoop (vs : List Nat) (bd : D → M Unit) (cond : M Bool) (elt : M D) : List D → M (List D)
  | [] => .ret []
  | x :: xs => M.bind (bd x) fun _ => M.bind cond fun b => match b with
    | true => M.bind elt fun d => M.bind (fun e s => lcLoop vs bd cond elt xs (wipeE e vs) s) fun ds => .ret (d :: ds)
    | false => fun e s => lcLoop vs bd cond elt xs (wipeE e vs) s
def lcRun (vs : List Nat) (bd : D → M Unit) (cond : M Bool) (elt : M D) (xs : List D) : M R := fun e s =>
  if xs.length < SZ then (match lcLoop vs bd cond elt xs (wipeE e vs) s with
    | .ok ds e' s' => .ok (.fr (.lst ds)) (restE e e' vs) s'
    | _ => .bad) else .bad

def pairs : Nat → List D → List D
  | _, [] => []
  | n, x :: xs => .tup [.int n, x] :: pairs (n + 1) xs
def rangeL (lo : Int) : Nat → List D
  | 0 => []
  | n + 1 => .int lo :: rangeL (lo + 1) n
def seqOf : D → Option (List D)
  | .lst xs => some xs
  | .tup xs => some xs
  | .str s => some (s.map fun c => .str [c])
  | _ => none
def zipL : List D → List D → List D
  | x :: xs, y :: ys => .tup [x, y] :: zipL xs ys
  | _, _ => []
def two62 : Int := 4611686018427387904

abbrev Cal := Nat → List D → Store → RC
def calM (Φ : Cal) (f : Nat) (ds : List D) : M R := fun e s => match Φ f ds s with
  | .ok d s' => .ok (.v d) e s'
  | .exc c d s' => .exc c d e s'
  | .bad => .bad


section
variable (P : Pr) (Φ : Cal)
def isiL (P : Pr) (d : D) : List Cl → Option Bool
  | [] => some false
  | c :: cs => match d.isi P.toClsG c with
    | some true => some true
    | some false => isiL P d cs
    | none => none
/-- an operation whose operand is of an own class -/
def spec1 (c : Nat) (p : Sp) (ds : List D) : M R := match P.spec c p with
  | some f => calM Φ f ds
  | none => .bad
def negR : R → Option R
  | .v (.bl b) => some (.v (.bl (!b)))
  | _ => none
def un1 (p : P1) (d : D) : M R := match p, d with
  | .len, .obj c fs => spec1 P Φ c .len [.obj c fs]
  | .inv, .obj c fs => spec1 P Φ c .inv [.obj c fs]
  | p, d => .opt (op1 P p d)
def bin2 (p : P2) (a b : D) : M R := match p, a, b with
  | .eq, .obj c fs, b => spec1 P Φ c .eq [.obj c fs, b]
  | .ne, .obj c fs, b => M.bind (spec1 P Φ c .eq [.obj c fs, b]) fun r => .opt (negR r)
  | .isin, a, .obj c fs => spec1 P Φ c .has [.obj c fs, a]
  | .notin, a, .obj c fs => M.bind (spec1 P Φ c .has [.obj c fs, a]) fun r => .opt (negR r)
  | .band, .obj c fs, b => spec1 P Φ c .and [.obj c fs, b]
  | .bor, .obj c fs, b => spec1 P Φ c .or [.obj c fs, b]
  | p, a, b => .opt (op2 p a b)
/-- a class is called -/
def make (c : Nat) (ds : List D) : M R := if P.isExc c then (match ds with
    | [d] => .ret (.v (.exc c d))
    | _ => .bad)
  else (match P.init c with
    | some f => calM Φ f ds
    | none => .bad)
def attrM (n : Nat) (d : D) : M R := match d with
  | .exc c d => if n = P.val ∧ P.isExc c = true then .ret (.v d) else .bad
  | .obj c fs => (match P.attr c n with
    | some (.slot k) => (match fs[k]? with
      | some .und => .bad
      | some d => .ret (.v d)
      | none => .bad)
    | some (.prop f) => calM Φ f [.obj c fs]
    | none => .bad)
  | _ => .bad
def methM (m : Nat) (d : D) (ds : List D) : M R := match d with
  | .obj c fs => (match P.meth c m with
    | some f => calM Φ f (.obj c fs :: ds)
    | none => .bad)
  | _ => .bad
/-- a method with one argument of a built-in's value -/
def meth1 (m : M1) (r : R) (d b : D) (br : R) : M R := match m, d, b with
  | .append, .lst xs, _ => if xs.length < SZ then M.bind (esc br) fun x => M.bind (store r (.lst (xs ++ [x]))) fun _ => .ret (.v .non) else .bad
  | .extend, .lst xs, .lst ys => if xs.length + ys.length ≤ SZ then M.bind (store r (.lst (xs ++ ys))) fun _ => .ret (.v .non) else .bad
  | .pop, .lst xs, .int i => (match ixN xs.length i with
    | some k => (match xs[k]? with
      | some x => M.bind (store r (.lst (xs.eraseIdx k))) fun _ => .ret (.v x)
      | none => .bad)
    | none => .bad)
  | _, _, _ => .bad

def Ex.isOmit : Ex → Bool
  | .omit => true
  | _ => false
def optO (o : Bool) (m : M R) : M (Option D) := match o with
  | true => .ret none
  | false => M.bind m fun r => M.bind (deref r) fun d => match d with
    | .int i => .ret (some (.int i))
    | _ => .bad
def optC (o : Bool) (m : M R) : M Bool := match o with
  | true => .ret true
  | false => M.bind m fun r => M.bind (deref r) truthM
mutual
def ev : Ex → M R
  | .omit => .bad
  | .lit d => .ret (.v d)
  | .var i => getVar i
  | .gl k => M.bind (.opt (P.con k)) fun d => .ret (.v d)
  | .p1 p a => M.bind (ev a) fun r => M.bind (deref r) fun d => un1 P Φ p d
  | .p2 p a b => M.bind (ev a) fun r => M.bind (ev b) fun q => M.bind (deref r) fun x => M.bind (deref q) fun y => bin2 P Φ p x y
  | .chain p q a b c => M.bind (ev a) fun r => M.bind (deref r) fun x => M.bind (ev b) fun r => M.bind (deref r) fun y => M.bind (.opt (op2 p x y)) fun z => match z with
    | .v (.bl true) => M.bind (ev c) fun r => M.bind (deref r) fun z => .opt (op2 q y z)
    | .v (.bl false) => .ret (.v (.bl false))
    | _ => .bad
  | .and a b => M.bind (ev a) fun r => M.bind (deref r) fun x => match x with
    | .bl true => ev b
    | .bl false => .ret (.v (.bl false))
    | _ => .bad
  | .or a b => M.bind (ev a) fun r => M.bind (deref r) fun x => match x with
    | .bl true => .ret (.v (.bl true))
    | .bl false => ev b
    | _ => .bad
  | .ite c a b => M.bind (ev c) fun r => M.bind (deref r) fun x => M.bind (truthM x) fun t => match t with
    | true => ev a
    | false => ev b
  | .tup es => M.bind (evs es) fun ds => .opt (newTup ds)
  | .lst es => M.bind (evs es) fun ds => .opt (fresh ds)
  | .box es => M.bind (evs es) fun ds => if ds.length ≤ SZ then alloc (.lst ds) else .bad
  | .dct ks vs => M.bind (evs vs) fun vd => .opt (opDct ks vd)
  | .call f es => M.bind (evs es) fun ds => calM Φ f ds
  | .mk c es => M.bind (evs es) fun ds => make P Φ c ds
  | .isi a cs => M.bind (ev a) fun r => M.bind (deref r) fun d => M.bind (.opt (isiL P d cs)) fun b => .ret (.v (.bl b))
  | .ix a i => M.bind (ev a) fun r => M.bind (ev i) fun q => M.bind (deref r) fun x => M.bind (deref q) fun y => .opt (opIx x y)
  | .sl a lo hi => M.bind (ev a) fun r => M.bind (optO lo.isOmit (ev lo)) fun l => M.bind (optO hi.isOmit (ev hi)) fun h => M.bind (deref r) fun x => .opt (opSl x l h)
  | .m0 m a => M.bind (ev a) fun r => M.bind (deref r) fun d => .opt (opM0 m d)
  | .m1 m a b => M.bind (ev a) fun r => M.bind (ev b) fun q => M.bind (deref r) fun d => M.bind (deref q) fun x => meth1 m r d x q
  | .m2 _ _ _ _ => .bad
  | .mt m a es => M.bind (ev a) fun r => M.bind (esc r) fun d => M.bind (evs es) fun ds => methM P Φ m d ds
  | .at a n => M.bind (ev a) fun r => M.bind (deref r) fun d => attrM P Φ n d
  | .lc t it c e => M.bind (evIt it) fun xs => lcRun t.slots (bindT t) (optC c.isOmit (ev c)) (M.bind (ev e) esc) xs
  | .list it => M.bind (evIt it) fun xs => .opt (fresh xs)
  | .tuple it => M.bind (evIt it) fun xs => .opt (newTup xs)
def evs : List Ex → M (List D)
  | [] => .ret []
  | e :: es => M.bind (ev e) fun r => M.bind (esc r) fun d => M.bind (evs es) fun ds => .ret (d :: ds)
def evIt : It → M (List D)
  | .seq e => M.bind (ev e) fun r => M.bind (esc r) fun d => .opt (seqOf d)
  | .rng1 a => M.bind (ev a) fun r => M.bind (deref r) fun d => match d with
    | .int n => if -two62 ≤ n ∧ n < two62 then .ret (rangeL 0 n.toNat) else .bad
    | _ => .bad
  | .rng2 a b => M.bind (ev a) fun r => M.bind (deref r) fun x => M.bind (ev b) fun r => M.bind (deref r) fun y => match x, y with
    | .int m, .int n => if -two62 ≤ m ∧ m < two62 ∧ -two62 ≤ n ∧ n < two62 then .ret (rangeL m (n - m).toNat) else .bad
    | _, _ => .bad
  | .rng3 _ _ _ => .bad
  | .enum e => M.bind (ev e) fun r => M.bind (esc r) fun d => match d with
    | .lst xs => .ret (pairs 0 xs)
    | _ => .bad
  | .zip a b => M.bind (ev a) fun r => M.bind (esc r) fun x => M.bind (ev b) fun r => M.bind (esc r) fun y => M.bind (.opt (seqOf x)) fun xs => M.bind (.opt (seqOf y)) fun ys => .ret (zipL xs ys)
end
def evO (e : Ex) : M (Option D) := optO e.isOmit (ev P Φ e)
def evC (e : Ex) : M Bool := optC e.isOmit (ev P Φ e)
theorem ev_sl (a lo hi : Ex) : ev P Φ (.sl a lo hi) = M.bind (ev P Φ a) fun r => M.bind (evO P Φ lo) fun l => M.bind (evO P Φ hi) fun h => M.bind (deref r) fun x => .opt (opSl x l h) := by rw [ev]; rfl
theorem ev_lc (t : Tg) (it : It) (c e : Ex) : ev P Φ (.lc t it c e) = M.bind (evIt P Φ it) fun xs => lcRun t.slots (bindT t) (evC P Φ c) (M.bind (ev P Φ e) esc) xs := by rw [ev]; rfl
def forLoop (bd : D → M Unit) (body : M Flow) : List D → M Flow
  | [] => .ret .next
  | x :: xs => M.bind (bd x) fun _ => M.bind body fun f => match f with
    | .next => forLoop bd body xs
    | .ret d => .ret (.ret d)
def whileLoop (c : M Bool) (body : M Flow) : Nat → M Flow
  | 0 => .bad
  | n + 1 => M.bind c fun b => match b with
    | true => M.bind body fun f => match f with
      | .next => whileLoop c body n
      | .ret d => .ret (.ret d)
    | false => .ret .next
def putAll : List Nat → List D → M Unit
  | [], [] => .ret ()
  | i :: is, d :: ds => M.bind (putVar i (.v d)) fun _ => putAll is ds
  | _, _ => .bad
def catch1 (body : M Flow) (c : Nat) (h : Nat → D → M Flow) : M Flow := fun e s => match body e s with
  | .exc k d e' s' => if (P.above k).contains c then h k d e' s' else .exc k d e' s'
  | r => r
mutual
def evS : Sm → M Flow
  | .set i e => M.bind (ev P Φ e) fun r => M.bind (putVar i r) fun _ => .ret .next
  | .tgt t e => M.bind (ev P Φ e) fun r => M.bind (esc r) fun d => M.bind (bindT t d) fun _ => .ret .next
  | .par is es => M.bind (evs P Φ es) fun ds => M.bind (putAll is ds) fun _ => .ret .next
  | .setIx o i e => M.bind (ev P Φ e) fun r => M.bind (esc r) fun x => M.bind (ev P Φ o) fun r => M.bind (ev P Φ i) fun q => M.bind (deref r) fun d => M.bind (deref q) fun k => match d, k with
    | .lst xs, .int j => (match ixN xs.length j with
      | some m => M.bind (store r (.lst (xs.set m x))) fun _ => .ret .next
      | none => .bad)
    | _, _ => .bad
  | .setAt i n e => M.bind (ev P Φ e) fun r => M.bind (esc r) fun x => fun en s => match en[i]? with
    | some (some (.own (.obj c fs))) => (match P.attr c n with
      | some (.slot k) => if k < fs.length then .ok .next (en.set i (some (.own (.obj c (fs.set k x))))) s else .bad
      | _ => .bad)
    | _ => .bad
  | .exp e => M.bind (ev P Φ e) fun _ => .ret .next
  | .ret e => M.bind (ev P Φ e) fun r => M.bind (esc r) fun d => .ret (.ret d)
  | .ite c a b => M.bind (ev P Φ c) fun r => M.bind (deref r) fun x => M.bind (truthM x) fun t => match t with
    | true => evB a
    | false => evB b
  | .whl c b => whileLoop (M.bind (ev P Φ c) fun r => M.bind (deref r) truthM) (evB b) 1000000
  | .for t it b => M.bind (evIt P Φ it) fun xs => forLoop (bindT t) (evB b) xs
  | .raise c e => M.bind (ev P Φ e) fun r => M.bind (esc r) fun d => fun e s => .exc c d e s
  | .try1 b c as h => catch1 P (evB b) c fun k d => match as with
    | some i => M.bind (putVar i (.v (.exc k d))) fun _ => M.bind (evB h) fun f => fun e s => .ok f (e.set i none) s
    | none => evB h
  | .pass => .ret .next
def evB : List Sm → M Flow
  | [] => .ret .next
  | s :: ss => M.bind (evS s) fun f => match f with
    | .next => evB ss
    | .ret d => .ret (.ret d)
end
/-- a def is run: its arguments, and nothing else -/
def entry (n : Nat) (ds : List D) : Env := ds.map (fun d => some (.v d)) ++ List.replicate (n - ds.length) none
def runFn (fn : Fn) (ds : List D) (s : Store) : RC := if ds.length = fn.np then (match evB P Φ fn.body (entry fn.ns ds) s with
    | .ok (.ret d) _ s' => .ok d s'
    | .ok .next _ s' => .ok .non s'
    | .exc c d _ s' => .exc c d s'
    | .bad => .bad) else .bad
end
def run (P : Pr) : Nat → Cal
  | 0 => fun _ _ _ => .bad
  | n + 1 => fun f ds s => match P.fn f with
    | some fn => runFn P (run P n) fn ds s
    | none => .bad

end Mi
set_option linter.all false
set_option maxRecDepth 100000
set_option maxHeartbeats 4000000
/-! S1: how the data of the small language lie in the abstract heap. -/
namespace Mi
open PySem PySem.Spec PyProof.Rows L2

/-- a text of codes -/
def cs (s : List Nat) : Str := ⟨s.toArray⟩
theorem cs_inj {a b : List Nat} (h : cs a = cs b) : a = b := by
  have := congrArg (fun z : Str => z.cps.toList) h
  simpa [cs] using this
theorem cs_len (a : List Nat) : (cs a).length = a.length := by simp [cs, Str.length]
theorem cs_list (a : List Nat) : (cs a).cps.toList = a := by simp [cs]

/-- the names of defs, classes, constants, attributes -/
structure Nm where
  fnm : Nat → Str
  cnm : Nat → Str
  knm : Nat → Str
  anm : Nat → Str
  exB : Nat → Bool
/-- what is known of the text: its parts' addresses and names -/
structure Gx where
  P : Program
  w : World
  K : PySem.W.Frag
  mg : Str → Option Value
  base : Heap
  pr : Pr
  fad : Nat → Addr
  cad : Nat → Addr
  nm : Nm

/-- the boxes' places, and what stands for ever -/
structure Wd where
  mu : List Addr
  pe : Hp

/-- an error that is held as a value: its class, its own dict -/
def XcO (cls : Value) (dd a : Addr) : HO := .ext fun h => ∃ (oe : Obj) (vs : Array Value), h.get? a = some oe ∧ Zc cls (some dd) oe ∧ oe.data = .fields vs

/-- a dict's keys -/
def keyOf : D → Option Key
  | .int i => some (.inl i)
  | .str s => some (.inr (cs s))
  | _ => none
def keysOf : List D → Option (List Key)
  | [] => some []
  | k :: ks => match keyOf k, keysOf ks with
    | some a, some r => some (a :: r)
    | _, _ => none
mutual
/-- a value bears data, for ever -/
def Rep (G : Gx) (w : Wd) : D → V → Prop
  | .und, _ => False
  | .non, v => v = .non
  | .bl b, v => v = .bl b
  | .int i, v => v = .int i
  | .str s, v => v = .str (cs s) ∧ sok s = true
  | .tup xs, v => ∃ a vs, v = .ref a ∧ SqT G.K w.pe a vs ∧ Reps G w xs vs
  | .lst xs, v => ∃ a vs, v = .ref a ∧ w.pe a = some (.lst vs) ∧ Reps G w xs vs
  | .dct ks ds, v => ∃ a kvs, v = .ref a ∧ w.pe a = some (.dK kvs) ∧ keysOf ks = some (kvs.map (·.1)) ∧ Reps G w ds (kvs.map (·.2))
  | .obj _ _, _ => False
  | .exc c d, v => ∃ a dd x, v = .ref a ∧ w.pe a = some (XcO (.ref (G.cad c)) dd a) ∧ w.pe dd = some (.xd [(G.nm.anm G.pr.val, x)]) ∧ Rep G w d x
  | .ref i, v => ∃ a, v = .ref a ∧ w.mu[i]? = some a
  | .scr xs, v => ∃ a, v = .ref a ∧ SqL G.K w.pe a (xs.map V.int)
def Reps (G : Gx) (w : Wd) : List D → List V → Prop
  | [], vs => vs = []
  | d :: ds, vs => ∃ v r, vs = v :: r ∧ Rep G w d v ∧ Reps G w ds r
end
def KReps (G : Gx) (w : Wd) (ks ds : List D) (kvs : List (Key × V)) : Prop := keysOf ks = some (kvs.map (·.1)) ∧ Reps G w ds (kvs.map (·.2))

/-- the world grows -/
structure WLe (w w' : Wd) : Prop where
  mu : ∃ r, w'.mu = w.mu ++ r
  pe : ∀ a o, w.pe a = some o → w'.pe a = some o
theorem WLe.refl (w : Wd) : WLe w w := ⟨⟨[], by simp⟩, fun _ _ h => h⟩
theorem WLe.trans {a b c : Wd} (x : WLe a b) (y : WLe b c) : WLe a c := by
  obtain ⟨r, e⟩ := x.mu
  obtain ⟨q, f⟩ := y.mu
  exact ⟨⟨r ++ q, by rw [f, e, List.append_assoc]⟩, fun i o h => y.pe i o (x.pe i o h)⟩
theorem WLe.get {w w' : Wd} (x : WLe w w') {i : Nat} {a : Addr} (h : w.mu[i]? = some a) : w'.mu[i]? = some a := by
  obtain ⟨r, e⟩ := x.mu
  rw [e, List.getElem?_append_left (List.getElem?_eq_some_iff.mp h).1]
  exact h

theorem rd_up {H H' : Hp} {a : Addr} {u : HO} (k : ∀ a o, H a = some o → H' a = some o) (h : Rd H a u) : Rd H' a u := by
  rcases h with h | ⟨o, h⟩
  · exact .inl (k _ _ h)
  · exact .inr ⟨o, k _ _ h⟩
theorem sqT_up {K : PySem.W.Frag} {H H' : Hp} {a : Addr} {vs : List V} (k : ∀ a o, H a = some o → H' a = some o) (h : SqT K H a vs) : SqT K H' a vs := by
  rcases h with h | h
  · exact .inl (rd_up k h)
  · exact .inr h
theorem sqL_up {K : PySem.W.Frag} {H H' : Hp} {a : Addr} {vs : List V} (k : ∀ a o, H a = some o → H' a = some o) (h : SqL K H a vs) : SqL K H' a vs := by
  rcases h with h | h
  · exact .inl (rd_up k h)
  · exact .inr h

mutual
theorem Rep.mono {G : Gx} {w w' : Wd} (l : WLe w w') : ∀ (d : D) (v : V), Rep G w d v → Rep G w' d v
  | .und, _, h => by simp [Rep] at h
  | .non, _, h => by simpa [Rep] using h
  | .bl _, _, h => by simpa [Rep] using h
  | .int _, _, h => by simpa [Rep] using h
  | .str _, _, h => by simpa [Rep] using h
  | .tup xs, v, h => by
    simp only [Rep] at h ⊢
    obtain ⟨a, vs, e, q, r⟩ := h
    exact ⟨a, vs, e, sqT_up l.pe q, Reps.mono l xs vs r⟩
  | .lst xs, v, h => by
    simp only [Rep] at h ⊢
    obtain ⟨a, vs, e, q, r⟩ := h
    exact ⟨a, vs, e, l.pe _ _ q, Reps.mono l xs vs r⟩
  | .dct ks ds, v, h => by
    simp only [Rep] at h ⊢
    obtain ⟨a, kvs, e, q, r1, r2⟩ := h
    exact ⟨a, kvs, e, l.pe _ _ q, r1, Reps.mono l ds _ r2⟩
  | .obj _ _, _, h => by simp [Rep] at h
  | .exc c d, v, h => by
    simp only [Rep] at h ⊢
    obtain ⟨a, dd, x, e, q, q2, r⟩ := h
    exact ⟨a, dd, x, e, l.pe _ _ q, l.pe _ _ q2, Rep.mono l d x r⟩
  | .ref i, v, h => by
    simp only [Rep] at h ⊢
    obtain ⟨a, e, q⟩ := h
    exact ⟨a, e, l.get q⟩
  | .scr xs, v, h => by
    simp only [Rep] at h ⊢
    obtain ⟨a, e, q⟩ := h
    exact ⟨a, e, sqL_up l.pe q⟩
theorem Reps.mono {G : Gx} {w w' : Wd} (l : WLe w w') : ∀ (ds : List D) (vs : List V), Reps G w ds vs → Reps G w' ds vs
  | [], _, h => by simpa [Reps] using h
  | d :: ds, vs, h => by
    simp only [Reps] at h ⊢
    obtain ⟨v, r, e, h1, h2⟩ := h
    exact ⟨v, r, e, Rep.mono l d v h1, Reps.mono l ds r h2⟩
end
theorem KReps.mono {G : Gx} {w w' : Wd} (l : WLe w w') (ks ds : List D) (kvs : List (Key × V)) (h : KReps G w ks ds kvs) : KReps G w' ks ds kvs := ⟨h.1, Reps.mono l _ _ h.2⟩
theorem Reps.length {G : Gx} {w : Wd} : ∀ {ds : List D} {vs : List V}, Reps G w ds vs → vs.length = ds.length
  | [], _, h => by simp only [Reps] at h; rw [h]; rfl
  | d :: ds, vs, h => by
    simp only [Reps] at h
    obtain ⟨v, r, e, _, h2⟩ := h
    rw [e, List.length_cons, List.length_cons, Reps.length h2]

/-- what lies at a place now -/
def Holds (G : Gx) (w : Wd) (H : Hp) (a : Addr) : D → Prop
  | .lst xs => ∃ vs, H a = some (.lst vs) ∧ Reps G w xs vs
  | .dct ks ds => ∃ kvs, H a = some (.dK kvs) ∧ KReps G w ks ds kvs
  | _ => False
theorem Holds.mono {G : Gx} {w w' : Wd} {H H' : Hp} {a : Addr} {d : D} (l : WLe w w') (k : ∀ o, H a = some o → H' a = some o) (h : Holds G w H a d) : Holds G w' H' a d := by
  cases d with
  | lst xs =>
    obtain ⟨vs, h1, h2⟩ := h
    exact ⟨vs, k _ h1, Reps.mono l _ _ h2⟩
  | dct ks ds =>
    obtain ⟨vs, h1, h2⟩ := h
    exact ⟨vs, k _ h1, KReps.mono l _ _ _ h2⟩
  | _ => exact h.elim
theorem Holds.some {G : Gx} {w : Wd} {H : Hp} {a : Addr} {d : D} (h : Holds G w H a d) : ∃ o, H a = some o := by
  cases d with
  | lst xs => exact ⟨_, h.choose_spec.1⟩
  | dct ks ds => exact ⟨_, h.choose_spec.1⟩
  | _ => exact h.elim

/-- data that can be read off a value now -/
def Red (G : Gx) (w : Wd) (H : Hp) : D → V → Prop
  | .lst xs, v => ∃ a vs, v = .ref a ∧ H a = some (.lst vs) ∧ Reps G w xs vs
  | .dct ks ds, v => ∃ a kvs, v = .ref a ∧ H a = some (.dK kvs) ∧ KReps G w ks ds kvs
  | d, v => Rep G w d v
theorem Rep.red {G : Gx} {w : Wd} {H : Hp} {d : D} {v : V} (k : ∀ a o, w.pe a = some o → H a = some o) (h : Rep G w d v) : Red G w H d v := by
  cases d with
  | lst xs =>
    simp only [Rep] at h
    obtain ⟨a, vs, e, q, r⟩ := h
    exact ⟨a, vs, e, k _ _ q, r⟩
  | dct ks ds =>
    simp only [Rep] at h
    obtain ⟨a, vs, e, q, r⟩ := h
    exact ⟨a, vs, e, k _ _ q, r⟩
  | _ => exact h
theorem Holds.red {G : Gx} {w : Wd} {H : Hp} {d : D} {a : Addr} (h : Holds G w H a d) : Red G w H d (.ref a) := by
  cases d with
  | lst xs =>
    obtain ⟨vs, h1, h2⟩ := h
    exact ⟨a, vs, rfl, h1, h2⟩
  | dct ks ds =>
    obtain ⟨vs, h1, h2⟩ := h
    exact ⟨a, vs, rfl, h1, h2⟩
  | _ => exact h.elim

/-- the place of a slot's own container -/
def Own (e : Env) (σ : L2.St) (a : Addr) : Prop := ∃ (i : Nat) (d : D), e[i]? = some (some (.own d)) ∧ σ[i]? = some (some (.ref a))
structure Rel (G : Gx) (w : Wd) (e : Env) (s : Store) (σ : L2.St) (H : Hp) : Prop where
  len : e.length = σ.length
  pe : ∀ a o, w.pe a = some o → H a = some o
  val : ∀ (i : Nat) (d : D), e[i]? = some (some (.v d)) → ∃ v, σ[i]? = some (some v) ∧ Rep G w d v
  own : ∀ (i : Nat) (d : D), e[i]? = some (some (.own d)) → ∃ a, σ[i]? = some (some (.ref a)) ∧ Holds G w H a d ∧ w.pe a = none ∧ a ∉ w.mu
  dis : ∀ (i j : Nat) (d d' : D) (a : Addr), e[i]? = some (some (.own d)) → e[j]? = some (some (.own d')) → σ[i]? = some (some (.ref a)) → σ[j]? = some (some (.ref a)) → i = j
  bl : w.mu.length = s.length
  bx : ∀ (i : Nat) (d : D), s[i]? = some d → ∃ a, w.mu[i]? = some a ∧ Holds G w H a d ∧ w.pe a = none
  nd : w.mu.Nodup
theorem Rel.tracked {G : Gx} {w : Wd} {e : Env} {s : Store} {σ : L2.St} {H : Hp} (r : Rel G w e s σ H) {a : Addr} (h : Own e σ a ∨ a ∈ w.mu) : ∃ o, H a = some o := by
  rcases h with ⟨i, d, h1, h2⟩ | h
  · obtain ⟨b, e1, e2, _⟩ := r.own i d h1
    rw [h2] at e1
    cases e1
    exact e2.some
  · obtain ⟨i, hi, e1⟩ := List.getElem_of_mem h
    obtain ⟨b, e2, e3, _⟩ := r.bx i (s[i]'(by rw [← r.bl]; exact hi)) (by simp)
    rw [List.getElem?_eq_getElem hi] at e2
    cases e2
    rw [← e1]
    exact e3.some

/-- from one state to a later one: what stays -/
structure Ext (w : Wd) (e : Env) (σ : L2.St) (H : Hp) (w' : Wd) (e' : Env) (σ' : L2.St) (H' : Hp) : Prop where
  le : WLe w w'
  keep : ∀ a o, H a = some o → ¬ Own e σ a → a ∉ w.mu → H' a = some o
  cap : ∀ a o, H a = some o → ¬ Own e σ a → w.pe a = none → w'.pe a = none
  capm : ∀ a o, H a = some o → a ∉ w.mu → a ∉ w'.mu
  own : ∀ a, Own e' σ' a → Own e σ a ∨ H a = none
  tk : ∀ a o, H a = some o → ∃ o', H' a = some o'
theorem Ext.refl {w : Wd} {e : Env} {σ : L2.St} {H : Hp} : Ext w e σ H w e σ H := ⟨WLe.refl w, fun _ _ h _ _ => h, fun _ _ _ _ h => h, fun _ _ _ h => h, fun _ h => .inl h, fun _ o h => ⟨o, h⟩⟩
theorem Ext.trans {w w1 w2 : Wd} {e e1 e2 : Env} {σ σ1 σ2 : L2.St} {H H1 H2 : Hp} (x : Ext w e σ H w1 e1 σ1 H1) (y : Ext w1 e1 σ1 H1 w2 e2 σ2 H2) : Ext w e σ H w2 e2 σ2 H2 := by
  have no1 : ∀ a o, H a = some o → ¬ Own e σ a → ¬ Own e1 σ1 a := fun a o h n q => by
    rcases x.own a q with z | z
    · exact n z
    · rw [h] at z; cases z
  refine ⟨x.le.trans y.le, fun a o h n m => y.keep a o (x.keep a o h n m) (no1 a o h n) (x.capm a o h m), fun a o h n p => ?_, fun a o h m => ?_, fun a q => ?_, fun a o h => ?_⟩
  · obtain ⟨o', h'⟩ := x.tk a o h
    exact y.cap a o' h' (no1 a o h n) (x.cap a o h n p)
  · obtain ⟨o', h'⟩ := x.tk a o h
    exact y.capm a o' h' (x.capm a o h m)
  · rcases y.own a q with z | z
    · exact x.own a z
    · refine .inr ?_
      cases q : H a with
      | none => rfl
      | some o =>
        obtain ⟨o', h'⟩ := x.tk a o q
        rw [z] at h'; cases h'
  · obtain ⟨o', h'⟩ := x.tk a o h
    exact y.tk a o' h'
/-- an expression's value bears its result -/
def RepR (G : Gx) (H0 : Hp) (w : Wd) (e : Env) (σ : L2.St) (H : Hp) : R → V → Prop
  | .v d, v => Rep G w d v
  | .fr d, v => ∃ a, v = .ref a ∧ Holds G w H a d ∧ w.pe a = none ∧ ¬ Own e σ a ∧ a ∉ w.mu ∧ H0 a = none
  | .bor i, v => σ[i]? = some (some v)
theorem RepR.ext {G : Gx} {w w' : Wd} {e e' : Env} {σ : L2.St} {H H' : Hp} {r : R} {v : V} {H0 : Hp} (h : RepR G H0 w e σ H r v) (x : Ext w e σ H w' e' σ H') : RepR G H0 w' e' σ H' r v := by
  cases r with
  | v d => exact Rep.mono x.le d v h
  | fr d =>
    obtain ⟨a, e1, h1, h2, h3, h4, h5⟩ := h
    obtain ⟨o, ho⟩ := h1.some
    refine ⟨a, e1, h1.mono x.le fun o q => x.keep a o q h3 h4, x.cap a o ho h3 h2, fun q => ?_, x.capm a o ho h4, h5⟩
    rcases x.own a q with z | z
    · exact h3 z
    · rw [ho] at z; cases z
  | bor i => exact h

/-- the heap has grown, and so has what stands for ever: by new objects alone -/
structure Gro (w : Wd) (H : Hp) (w' : Wd) (H' : Hp) : Prop where
  h : ∀ a o, H a = some o → H' a = some o
  pe : ∀ a o, w.pe a = some o → w'.pe a = some o
  inn : ∀ a o, w'.pe a = some o → H' a = some o
  cap : ∀ a o, H a = some o → w.pe a = none → w'.pe a = none
  mu : w'.mu = w.mu
theorem Gro.refl {w : Wd} {H : Hp} (k : ∀ a o, w.pe a = some o → H a = some o) : Gro w H w H := ⟨fun _ _ h => h, fun _ _ h => h, k, fun _ _ _ h => h, rfl⟩
theorem Gro.le {w w' : Wd} {H H' : Hp} (g : Gro w H w' H') : WLe w w' := ⟨⟨[], by rw [g.mu]; simp⟩, g.pe⟩
/-- a new object that is not to stay as it is -/
theorem Gro.new {w : Wd} {H : Hp} {p : Addr} {o : HO} (k : ∀ a o, w.pe a = some o → H a = some o) (hp : H p = none) : Gro w H w (upd H p o) :=
  have u : ∀ a o', H a = some o' → upd H p o a = some o' := fun a o' h => by rw [upd_ne (ne_of_none h hp)]; exact h
  ⟨u, fun _ _ h => h, fun a o' h => u a o' (k a o' h), fun _ _ _ h => h, rfl⟩
/-- a new object that stands for ever -/
theorem Gro.newP {w : Wd} {H : Hp} {p : Addr} {o : HO} (k : ∀ a o, w.pe a = some o → H a = some o) (hp : H p = none) : Gro w H ⟨w.mu, upd w.pe p o⟩ (upd H p o) := by
  have wp : w.pe p = none := by
    cases q : w.pe p with
    | none => rfl
    | some o' =>
      rw [k p o' q] at hp
      cases hp
  refine ⟨fun a o' h => by rw [upd_ne (ne_of_none h hp)]; exact h, fun a o' h => ?_, fun a o' h => ?_, fun a o' h q => ?_, rfl⟩
  · show upd w.pe p o a = some o'
    rw [upd_ne (ne_of_none h wp)]; exact h
  · by_cases e : a = p
    · subst e
      have h' : upd w.pe a o a = some o' := h
      rw [upd_same] at h' ⊢
      exact h'
    · have h' : upd w.pe p o a = some o' := h
      rw [upd_ne e] at h' ⊢
      exact k a o' h'
  · show upd w.pe p o a = none
    rw [upd_ne (ne_of_none h hp)]; exact q
theorem Gro.ext {G : Gx} {w w' : Wd} {e : Env} {s : Store} {σ : L2.St} {H H' : Hp} (g : Gro w H w' H') : Ext w e σ H w' e σ H' :=
  ⟨g.le, fun a o h _ _ => g.h a o h, fun a o h _ p => g.cap a o h p, fun a o _ m => by rw [g.mu]; exact m, fun a h => .inl h, fun a o h => ⟨o, g.h a o h⟩⟩
theorem Rel.gro {G : Gx} {w w' : Wd} {e : Env} {s : Store} {σ : L2.St} {H H' : Hp} (r : Rel G w e s σ H) (g : Gro w H w' H') : Rel G w' e s σ H' := by
  refine ⟨r.len, g.inn, fun i d h => ?_, fun i d h => ?_, r.dis, by rw [g.mu]; exact r.bl, fun i d h => ?_, by rw [g.mu]; exact r.nd⟩
  · obtain ⟨v, h1, h2⟩ := r.val i d h
    exact ⟨v, h1, Rep.mono g.le d v h2⟩
  · obtain ⟨a, h1, h2, h3, h4⟩ := r.own i d h
    obtain ⟨o, ho⟩ := h2.some
    exact ⟨a, h1, h2.mono g.le fun o q => g.h a o q, g.cap a o ho h3, by rw [g.mu]; exact h4⟩
  · obtain ⟨a, h1, h2, h3⟩ := r.bx i d h
    obtain ⟨o, ho⟩ := h2.some
    exact ⟨a, by rw [g.mu]; exact h1, h2.mono g.le fun o q => g.h a o q, g.cap a o ho h3⟩
/-- what an operation hands on -/
def NewR (G : Gx) (H : Hp) (w' : Wd) (H' : Hp) : R → V → Prop
  | .v d, v => Rep G w' d v
  | .fr d, v => ∃ a, v = .ref a ∧ Holds G w' H' a d ∧ H a = none ∧ w'.pe a = none
  | .bor _, _ => False
theorem NewR.rep {G : Gx} {w w' : Wd} {e : Env} {s : Store} {σ : L2.St} {H H' : Hp} {x : R} {v : V} (r : Rel G w e s σ H) (g : Gro w H w' H') (n : NewR G H w' H' x v) : RepR G H w' e σ H' x v := by
  cases x with
  | v d => exact n
  | fr d =>
    obtain ⟨a, e1, h1, h2, h3⟩ := n
    refine ⟨a, e1, h1, h3, fun q => ?_, fun q => ?_, h2⟩
    · obtain ⟨o, ho⟩ := r.tracked (.inl q)
      rw [h2] at ho; cases ho
    · rw [g.mu] at q
      obtain ⟨o, ho⟩ := r.tracked (.inr q)
      rw [h2] at ho; cases ho
  | bor i => exact n.elim
end Mi
set_option linter.all false
set_option maxRecDepth 100000
set_option maxHeartbeats 4000000
/-! S2: the evaluation as a reading. -/
namespace Mi
open PySem PySem.Spec PyProof.Rows L2

/-- how what comes out of an evaluation lies in the heap -/
abbrev RelF (α β : Type) := Hp → Wd → Env → L2.St → Hp → α → β → Prop
/-- of an elder heap, too -/
def RelM {α β : Type} (rel : RelF α β) : Prop := ∀ (H H1 : Hp) (w : Wd) (e : Env) (σ : L2.St) (H2 : Hp) (a : α) (b : β), (∀ c o, H c = some o → ∃ o', H1 c = some o') → rel H1 w e σ H2 a b → rel H w e σ H2 a b
/-- an error's data: its dict stands for ever -/
def ExD (G : Gx) (w : Wd) (d : D) (dd : Addr) : Prop := ∃ x, w.pe dd = some (.xd [(G.nm.anm G.pr.val, x)]) ∧ Rep G w d x
/-- what an evaluation from a state promises -/
def TMat {α β : Type} (G : Gx) (W : WX) (rel : RelF α β) (w : Wd) (e : Env) (s : Store) (m : M α) (σ : L2.St) (H : Hp) (Q : β → Hp → Prop) : Prop :=
  match m e s with
  | .ok a e' s' => ∀ w' H' b, Ext w e σ H w' e' σ H' → Rel G w' e' s' σ H' → rel H w' e' σ H' a b → Q b H'
  | .exc c d e' s' => ∀ w' H' dd, Ext w e σ H w' e' σ H' → Rel G w' e' s' σ H' → ExD G w' d dd → W (.ref (G.cad c)) (some dd) σ H'
  | .bad => False
def TM {α β : Type} (G : Gx) (W : WX) (rel : RelF α β) (m : M α) : L2.St → Hp → (β → Hp → Prop) → Prop := fun σ H Q => ∃ w e s, Rel G w e s σ H ∧ TMat G W rel w e s m σ H Q
section
variable {α β γ δ : Type} {G : Gx} {W : WX} {w : Wd} {e : Env} {s : Store} {σ : L2.St} {H : Hp}

theorem TMat.ok {rel : RelF α β} {m : M α} {Q : β → Hp → Prop} {a : α} {e' : Env} {s' : Store} (h : TMat G W rel w e s m σ H Q) (q : m e s = .ok a e' s') :
    ∀ w' H' b, Ext w e σ H w' e' σ H' → Rel G w' e' s' σ H' → rel H w' e' σ H' a b → Q b H' := by
  unfold TMat at h
  rw [q] at h
  exact h
theorem TMat.bind {rel1 : RelF α β} {rel2 : RelF γ δ} {m : M α} {f : α → M γ} {Q : δ → Hp → Prop} (hm : RelM rel2) (h : TMat G W rel2 w e s (M.bind m f) σ H Q) :
    TMat G W rel1 w e s m σ H (fun b H1 => ∃ a w1 e1 s1, Rel G w1 e1 s1 σ H1 ∧ rel1 H w1 e1 σ H1 a b ∧ Ext w e σ H w1 e1 σ H1 ∧ TMat G W rel2 w1 e1 s1 (f a) σ H1 Q) := by
  unfold TMat at h ⊢
  unfold M.bind at h
  cases q : m e s with
  | bad => rw [q] at h; exact h
  | exc c d e' s' => rw [q] at h; exact h
  | ok a e' s' =>
    rw [q, Res.bind_ok] at h
    refine fun w1 H1 b x1 r1 l1 => ⟨a, w1, e', s', r1, l1, x1, ?_⟩
    cases q2 : f a e' s' with
    | bad => rw [q2] at h; exact h
    | exc c d e2 s2 =>
      rw [q2] at h
      exact fun w2 H2 dd x2 r2 z => h w2 H2 dd (x1.trans x2) r2 z
    | ok a2 e2 s2 =>
      rw [q2] at h
      exact fun w2 H2 b2 x2 r2 l2 => h w2 H2 b2 (x1.trans x2) r2 (hm _ _ _ _ _ _ _ _ x1.tk l2)
theorem TM.bind {rel1 : RelF α β} {rel2 : RelF γ δ} {m : M α} {f : α → M γ} {Q : δ → Hp → Prop} (hm : RelM rel2) (r : Rel G w e s σ H) (h : TMat G W rel2 w e s (M.bind m f) σ H Q) :
    TM G W rel1 m σ H (fun b H1 => ∃ a w1 e1 s1, Rel G w1 e1 s1 σ H1 ∧ rel1 H w1 e1 σ H1 a b ∧ Ext w e σ H w1 e1 σ H1 ∧ TMat G W rel2 w1 e1 s1 (f a) σ H1 Q) := ⟨w, e, s, r, h.bind hm⟩
/-- a step that changes nothing -/
theorem TMat.pure {rel2 : RelF γ δ} {m : M α} {f : α → M γ} {Q : δ → Hp → Prop} (h : TMat G W rel2 w e s (M.bind m f) σ H Q) {a : α} (q : m e s = .ok a e s) : TMat G W rel2 w e s (f a) σ H Q := by
  unfold TMat at h ⊢
  unfold M.bind at h
  rw [q, Res.bind_ok] at h
  exact h
theorem TMat.opt {rel2 : RelF γ δ} {x : Option α} {f : α → M γ} {Q : δ → Hp → Prop} (h : TMat G W rel2 w e s (M.bind (.opt x) f) σ H Q) : ∃ a, x = some a ∧ TMat G W rel2 w e s (f a) σ H Q := by
  cases x with
  | none => exact (show False from h).elim
  | some a => exact ⟨a, rfl, TMat.pure h rfl⟩
theorem TMat.opt1 {rel : RelF α β} {x : Option α} {Q : β → Hp → Prop} (h : TMat G W rel w e s (.opt x) σ H Q) : ∃ a, x = some a ∧ ∀ w' H' b, Ext w e σ H w' e σ H' → Rel G w' e s σ H' → rel H w' e σ H' a b → Q b H' := by
  cases x with
  | none => exact (show False from h).elim
  | some a => exact ⟨a, rfl, h⟩
theorem TMat.ret {rel : RelF α β} {a : α} {Q : β → Hp → Prop} (h : TMat G W rel w e s (.ret a) σ H Q) : ∀ w' H' b, Ext w e σ H w' e σ H' → Rel G w' e s σ H' → rel H w' e σ H' a b → Q b H' := h
/-- by new objects alone -/
theorem fin_gro {rel : RelF R V} (r : Rel G w e s σ H) {x : R} {Q : V → Hp → Prop} (h : ∀ w' H' b, Ext w e σ H w' e σ H' → Rel G w' e s σ H' → RepR G H w' e σ H' x b → Q b H') :
    ∀ w' H' v, Gro w H w' H' → NewR G H w' H' x v → Q v H' := fun w' H' v g n => h w' H' v (g.ext (G := G) (s := s)) (r.gro g) (n.rep r g)

/-! ### reading off -/
theorem deref_red {r : R} {d : D} {e' : Env} {s' : Store} {v : V} (rl : Rel G w e s σ H) {H0 : Hp} (h : RepR G H0 w e σ H r v) (q : deref r e s = .ok d e' s') : e' = e ∧ s' = s ∧ Red G w H d v := by
  cases r with
  | v x =>
    by_cases hx : ∃ i, x = .ref i
    · obtain ⟨i, rfl⟩ := hx
      unfold deref at q
      dsimp only at q
      cases z : s[i]? with
      | none => rw [z] at q; cases q
      | some d' =>
        rw [z] at q
        cases q
        obtain ⟨a, h1, h2, _⟩ := rl.bx i _ z
        obtain ⟨b, rfl, h3⟩ : ∃ b, v = .ref b ∧ w.mu[i]? = some b := by simpa [RepR, Rep] using h
        rw [h1] at h3
        cases h3
        exact ⟨rfl, rfl, h2.red⟩
    · have q' : (Res.ok x e s : Res D) = .ok d e' s' := by
        cases x with
        | ref i => exact absurd ⟨i, rfl⟩ hx
        | _ => exact q
      cases q'
      exact ⟨rfl, rfl, Rep.red rl.pe h⟩
  | fr x =>
    have q' : (Res.ok x e s : Res D) = .ok d e' s' := q
    cases q'
    obtain ⟨a, rfl, h1, _⟩ := h
    exact ⟨rfl, rfl, h1.red⟩
  | bor i =>
    unfold deref at q
    dsimp only at q
    cases z : e[i]? with
    | none => rw [z] at q; cases q
    | some o =>
      rw [z] at q
      cases o with
      | none => cases q
      | some sl =>
        cases sl with
        | v d' => cases q
        | own d' =>
          cases q
          obtain ⟨a, h1, h2, _⟩ := rl.own i _ z
          have h' : σ[i]? = some (some v) := h
          rw [h1] at h'
          cases h'
          exact ⟨rfl, rfl, h2.red⟩
theorem TMat.deref {rel2 : RelF γ δ} {r : R} {f : D → M γ} {Q : δ → Hp → Prop} {v : V} (rl : Rel G w e s σ H) {H0 : Hp} (hr : RepR G H0 w e σ H r v) (h : TMat G W rel2 w e s (M.bind (Mi.deref r) f) σ H Q) :
    ∃ d, Mi.deref r e s = .ok d e s ∧ Red G w H d v ∧ TMat G W rel2 w e s (f d) σ H Q := by
  cases q : Mi.deref r e s with
  | bad =>
    unfold TMat at h
    unfold M.bind at h
    rw [q] at h
    exact h.elim
  | exc c d e' s' =>
    exfalso
    cases r with
    | v x =>
      cases x with
      | ref i =>
        unfold Mi.deref at q
        dsimp only at q
        split at q <;> cases q
      | _ => cases q
    | fr x => cases q
    | bor i =>
      unfold Mi.deref at q
      dsimp only at q
      split at q <;> cases q
  | ok d e' s' =>
    obtain ⟨rfl, rfl, hd⟩ := deref_red rl hr q
    exact ⟨d, rfl, hd, h.pure q⟩

/-! ### handing on for ever -/
/-- a container that is known now, and from now on for ever -/
theorem holds_rep {H : Hp} {a : Addr} {d : D} (h : Holds G w H a d) : ∃ o, H a = some o ∧ ∀ w' : Wd, WLe w w' → w'.pe a = some o → Rep G w' d (.ref a) := by
  cases d with
  | lst xs =>
    obtain ⟨vs, h1, h2⟩ := h
    exact ⟨_, h1, fun w' l p => by simp only [Rep]; exact ⟨a, vs, rfl, p, Reps.mono l _ _ h2⟩⟩
  | dct ks ds =>
    obtain ⟨kvs, h1, h2⟩ := h
    exact ⟨_, h1, fun w' l p => by simp only [Rep]; exact ⟨a, kvs, rfl, p, h2.1, Reps.mono l _ _ h2.2⟩⟩
  | _ => exact h.elim
theorem pe_le {a : Addr} {o : HO} (h : w.pe a = none) : WLe w ⟨w.mu, upd w.pe a o⟩ := ⟨⟨[], by simp⟩, fun b q z => by
  show upd w.pe a o b = some q
  rw [upd_ne (ne_of_none z h)]; exact z⟩
/-- a container that nobody else holds (e', the slots without it) is let stand for ever -/
theorem Rel.fix {a : Addr} {o : HO} {e' : Env} (rl : Rel G w e s σ H) (ha : H a = some o) (hp : w.pe a = none) (hm : a ∉ w.mu) (hl : e'.length = e.length)
    (hv : ∀ (i : Nat) (d : D), e'[i]? = some (some (.v d)) → e[i]? = some (some (.v d)) ∨ ∃ v, σ[i]? = some (some v) ∧ Rep G ⟨w.mu, upd w.pe a o⟩ d v)
    (ho : ∀ (i : Nat) (d : D), e'[i]? = some (some (.own d)) → e[i]? = some (some (.own d)) ∧ σ[i]? ≠ some (some (.ref a))) : Rel G ⟨w.mu, upd w.pe a o⟩ e' s σ H := by
  have l := pe_le (o := o) hp
  refine ⟨hl.trans rl.len, fun b q z => ?_, fun i d h => ?_, fun i d h => ?_, fun i j d d' b h1 h2 h3 h4 => rl.dis i j d d' b (ho i d h1).1 (ho j d' h2).1 h3 h4, rl.bl, fun i d h => ?_, rl.nd⟩
  · by_cases hb : b = a
    · subst hb
      have z' : upd w.pe b o b = some q := z
      rw [upd_same] at z'
      cases z'
      exact ha
    · have z' : upd w.pe a o b = some q := z
      rw [upd_ne hb] at z'
      exact rl.pe b q z'
  · rcases hv i d h with h | h
    · obtain ⟨v, h1, h2⟩ := rl.val i d h
      exact ⟨v, h1, Rep.mono l d v h2⟩
    · exact h
  · obtain ⟨h, hne⟩ := ho i d h
    obtain ⟨b, h1, h2, h3, h4⟩ := rl.own i d h
    refine ⟨b, h1, h2.mono l fun o q => q, ?_, h4⟩
    show upd w.pe a o b = none
    rw [upd_ne (fun z => hne (by rw [← z]; exact h1))]
    exact h3
  · obtain ⟨b, h1, h2, h3⟩ := rl.bx i d h
    refine ⟨b, h1, h2.mono l fun o q => q, ?_⟩
    show upd w.pe a o b = none
    rw [upd_ne (fun z => hm (by rw [← z]; exact List.mem_of_getElem? h1))]
    exact h3
/-- what a value bears that is to be kept -/
def RepD : Gx → RelF D V := fun G _ w _ _ _ d v => Rep G w d v
/-- from what an expression hands on to what is kept of it: fresh containers, and slots' own, are let stand -/
theorem esc_of {m : M R} {Q : V → Hp → Prop} (rl : Rel G w e s σ H) (h : TMat G W (RepD G) w e s (M.bind m esc) σ H Q) : TMat G W (RepR G) w e s m σ H Q := by
  unfold TMat at h ⊢
  unfold M.bind at h
  cases q : m e s with
  | bad => rw [q] at h; exact h
  | exc c d e' s' => rw [q] at h; exact h
  | ok r e' s' =>
    rw [q, Res.bind_ok] at h
    refine fun w1 H1 v x1 r1 l1 => ?_
    cases r with
    | v d => exact h w1 H1 v x1 r1 l1
    | fr d =>
      obtain ⟨a, rfl, h1, h2, h3, h4, h5⟩ := l1
      obtain ⟨o, ho, hr⟩ := holds_rep h1
      have r2 := r1.fix (e' := e') ho h2 h4 rfl (fun i d z => .inl z) (fun i d z => ⟨z, fun y => h3 ⟨i, d, z, y⟩⟩)
      refine h ⟨w1.mu, upd w1.pe a o⟩ H1 (.ref a) ?_ r2 (hr _ (pe_le h2) upd_same)
      refine ⟨x1.le.trans (pe_le h2), x1.keep, fun b ob hb n p => ?_, x1.capm, x1.own, x1.tk⟩
      show upd w1.pe a o b = none
      rw [upd_ne (ne_of_none hb h5)]
      exact x1.cap b ob hb n p
    | bor i =>
      unfold esc at h
      dsimp only at h
      cases z : e'[i]? with
      | none => rw [z] at h; exact h.elim
      | some o =>
        rw [z] at h
        cases o with
        | none => exact h.elim
        | some sl =>
          cases sl with
          | v d' => exact h.elim
          | own d' =>
            obtain ⟨a, g1, g2, g3, g4⟩ := r1.own i _ z
            have l' : σ[i]? = some (some v) := l1
            rw [g1] at l'
            cases l'
            obtain ⟨o, ho, hr⟩ := holds_rep g2
            have hi : i < e'.length := (List.getElem?_eq_some_iff.mp z).1
            have r2 : Rel G ⟨w1.mu, upd w1.pe a o⟩ (e'.set i (some (.v d'))) s' σ H1 := by
              refine r1.fix ho g3 g4 (by simp) (fun j d y => ?_) (fun j d y => ?_)
              · by_cases hj : i = j
                · subst hj
                  rw [List.getElem?_set_self hi] at y
                  cases y
                  exact .inr ⟨.ref a, g1, hr _ (pe_le g3) upd_same⟩
                · rw [List.getElem?_set_ne hj] at y
                  exact .inl y
              · by_cases hj : i = j
                · subst hj
                  rw [List.getElem?_set_self hi] at y
                  cases y
                · rw [List.getElem?_set_ne hj] at y
                  exact ⟨y, fun t => hj (r1.dis i j _ _ a z y g1 t)⟩
            refine h ⟨w1.mu, upd w1.pe a o⟩ H1 (.ref a) ?_ r2 (hr _ (pe_le g3) upd_same)
            have sub : ∀ b, Own (e'.set i (some (.v d'))) σ b → Own e' σ b := fun b ⟨j, d, y1, y2⟩ => by
              by_cases hj : i = j
              · subst hj
                rw [List.getElem?_set_self hi] at y1
                cases y1
              · rw [List.getElem?_set_ne hj] at y1
                exact ⟨j, d, y1, y2⟩
            refine ⟨x1.le.trans (pe_le g3), x1.keep, fun b ob hb n p => ?_, x1.capm, fun b y => x1.own b (sub b y), x1.tk⟩
            show upd w1.pe a o b = none
            have hne : b ≠ a := fun y => by
              subst y
              rcases x1.own b ⟨i, d', z, g1⟩ with t | t
              · exact n t
              · rw [hb] at t; cases t
            rw [upd_ne hne]
            exact x1.cap b ob hb n p
end
end Mi
set_option linter.all false
set_option maxRecDepth 100000
set_option maxHeartbeats 1000000
/-! E2: such an error as a value, and raised. -/
namespace Mi
open PySem PySem.Spec PyProof.Rows L2
theorem relO_val {v : V} {v' : Value} (r : RelV v v') (f : Str) : RelO (List.lookup f [(("value" : Str), v)]) (if f = "value" then some v' else none) := by
  by_cases hw : f = "value"
  · subst hw
    rw [if_pos rfl, show List.lookup ("value" : Str) [(("value" : Str), v)] = some v by simp [List.lookup]]
    exact r
  · have qw : (f == ("value" : Str)) = false := by simpa using hw
    rw [if_neg hw, show List.lookup f [(("value" : Str), v)] = none by simp [List.lookup, qw]]
    trivial
section
variable {X : Cx} {C D fI : Addr}
/-- C(e): a new error as a value -/
def tExc (C : Addr) (ta : TA) : TE := fun σ H Q => ta σ H fun vs H1 => ∃ v, vs = [v] ∧ ∀ a dd, H1 a = none → H1 dd = none → dd ≠ a → Q (.ref a) (upd (upd H1 dd (.xd [(("value" : Str), v)])) a (XcO (.ref C) dd a))
theorem pe_exc {x : Str} {a : Expr} {ta : TA} {p pos : Pos} {k : Nat} (T : PySem.Ber.InitTxt X.prog X.K D fI) (Y : PySem.Ber.ClsTxt X.K C D fI) (hs : X.mg "super" = none) (kC : PySem.W.keepIn X.K (.ref C) = true) (hr : Room k X.A) (hg : Gl X x) (hm : X.mg x = some (.ref C)) (ha : PA X [a] ta)
    (hdb : (x == ("__debug__" : Str)) = false) (hp : plainE a = true) : PE X (.Call (.Name x p) [a] [] pos) (tExc C ta) := by
  refine ⟨fun pins s σ H Q I h => ?_⟩
  refine wpAny_Call_Name_kw (ld_glob I hg hm ?_ hdb)
  refine PySem.W.callWith_K (h₀ := X.base) I.ok.mod.kin kC (thn (ha.run pos pins s σ H _ I h) fun us s1 hh => ?_) (star_cons hp) rfl
  obtain ⟨vs, H1, I1, r1, v, ev, q1⟩ := hh
  subst ev
  refine ⟨I1.kIn, ?_⟩
  obtain ⟨v', rfl, rv⟩ := vals1 r1
  show wpAny _ _ (call (.ref C) [v']) _ _ _
  have gl := I1.mod.glob.keeps I1.bk
  obtain ⟨mb, hb1, hb2⟩ := I1.mod.blt
  have hlim := I1.nolimit
  have kIn := I1.kIn
  have hbb := hb1.keeps I1.bk
  obtain ⟨hp', g, dr, tk, os⟩ := s1
  refine wpAny_call (PySem.Ber.made (mg := X.mg) T Y kIn gl hs ⟨mb, hbb, hb2⟩ hlim (by have := hr.dp; omega) fun h' tk' e d M => ?_)
  obtain ⟨oe, fv, hoe, hc, hd, hdat, h1⟩ := M.obj
  have fe : H1 e = none := I1.hok.fresh M.new
  have fd : H1 d = none := I1.hok.fresh M.dbig
  -- the dict first, then the error
  obtain ⟨G', g1, g2⟩ := restrict h' fun b => decide (b ≠ e)
  have gk : ∀ b, b ≠ e → G'.get? b = h'.get? b := fun b hb => g1 b (decide_eq_true hb)
  have ge : G'.get? e = none := g2 e (by simp)
  have old : ∀ b o, hp'.get? b = some o → G'.get? b = some o := fun b o q => (gk b (Nat.ne_of_lt (Nat.lt_of_lt_of_le (Heap.lt_size q) M.new))).trans (M.keep b o q)
  have ob : ObjOk X.prog X.w (upd H1 d (.xd [(("value" : Str), v)])) G' d (.xd [(("value" : Str), v)]) := ⟨_, M.ns.at (fun o q => (gk d M.dne).trans q), fun f => relO_val rv f⟩
  have J : Inv X pins σ (upd H1 d (.xd [(("value" : Str), v)])) ⟨G', g, dr, tk', os⟩ := I1.laid (t' := tk') old M.dbig ob
  have up : ∀ b u, G'.get? b = some u → h'.get? b = some u := fun b u q => by
    by_cases hb : b = e
    · rw [hb, ge] at q; cases q
    · rw [← gk b hb]; exact q
  have ne : upd H1 d (.xd [(("value" : Str), v)]) e = none := by rw [upd_ne (Ne.symm M.dne)]; exact fe
  have oX : ObjOk X.prog X.w (upd (upd H1 d (.xd [(("value" : Str), v)])) e (XcO (.ref C) d e)) h' e (XcO (.ref C) d e) :=
    ⟨⟨oe, fv, hoe, ⟨hc, hd⟩, hdat⟩, ⟨oe, hoe⟩, fun _ _ ⟨o, z, q1, q2⟩ kk => ⟨o, z, kk o q1, q2⟩⟩
  exact ⟨.ref e, _, J.laidN (t' := tk') up ge ne oX, rfl, q1 e d fe fd M.dne⟩
/-- C(e), to be raised -/
def tMkX (C : Addr) (ta : TA) : L2.St → Hp → XK → Prop := fun σ H Q => ta σ H fun vs H1 => ∃ v, vs = [v] ∧ ∀ d, H1 d = none → Q (.ref C) (some d) (upd H1 d (.xd [(("value" : Str), v)]))
theorem pmk_exc {x : Str} {a : Expr} {ta : TA} {p pos : Pos} {k : Nat} (T : PySem.Ber.InitTxt X.prog X.K D fI) (Y : PySem.Ber.ClsTxt X.K C D fI) (hs : X.mg "super" = none) (kC : PySem.W.keepIn X.K (.ref C) = true) (rC : Raises X (.ref C)) (hr : Room k X.A) (hg : Gl X x) (hm : X.mg x = some (.ref C)) (ha : PA X [a] ta)
    (hdb : (x == ("__debug__" : Str)) = false) (hp : plainE a = true) : PMk X (.Call (.Name x p) [a] [] pos) (tMkX C ta) := by
  intro pins s σ H Q I h
  refine wpAny_Call_Name_kw (ld_glob I hg hm ?_ hdb)
  refine PySem.W.callWith_K (h₀ := X.base) I.ok.mod.kin kC (thn (ha.run pos pins s σ H _ I h) fun us s1 hh => ?_) (star_cons hp) rfl
  obtain ⟨vs, H1, I1, r1, v, ev, q1⟩ := hh
  subst ev
  refine ⟨I1.kIn, ?_⟩
  obtain ⟨v', rfl, rv⟩ := vals1 r1
  show wpAny _ _ (call (.ref C) [v']) _ _ _
  have gl := I1.mod.glob.keeps I1.bk
  obtain ⟨mb, hb1, hb2⟩ := I1.mod.blt
  have hlim := I1.nolimit
  have kIn := I1.kIn
  have hbb := hb1.keeps I1.bk
  obtain ⟨hp', g, dr, tk, os⟩ := s1
  refine wpAny_call (PySem.Ber.made (mg := X.mg) T Y kIn gl hs ⟨mb, hbb, hb2⟩ hlim (by have := hr.dp; omega) fun h' tk' e d M => ?_)
  show MkP X pins σ Q (.ref e) ⟨h', g, dr, tk', os⟩
  obtain ⟨oe, fv, hoe, hc, hd, hdat, h1⟩ := M.obj
  obtain ⟨G', g1, g2⟩ := restrict h' fun b => decide (b ≠ e)
  have gk : ∀ b, b ≠ e → G'.get? b = h'.get? b := fun b hb => g1 b (decide_eq_true hb)
  have ge : G'.get? e = none := g2 e (by simp)
  have old : ∀ b o, hp'.get? b = some o → G'.get? b = some o := fun b o q => (gk b (Nat.ne_of_lt (Nat.lt_of_lt_of_le (Heap.lt_size q) M.new))).trans (M.keep b o q)
  have ob : ObjOk X.prog X.w (upd H1 d (.xd [(("value" : Str), v)])) G' d (.xd [(("value" : Str), v)]) := ⟨_, M.ns.at (fun o q => (gk d M.dne).trans q), fun f => relO_val rv f⟩
  have J : Inv X pins σ (upd H1 d (.xd [(("value" : Str), v)])) ⟨G', g, dr, tk', os⟩ := I1.laid (t' := tk') old M.dbig ob
  refine ⟨e, oe, fv, ⟨G', g, dr, tk', os⟩, _, .ref C, some d, rfl, J, fun b o q => ?_, ge, hoe, ⟨hc, hd⟩, hdat, h1, ?_, rfl, I1.bare, rC, q1 d (I1.hok.fresh M.dbig)⟩
  · by_cases hb : b = e
    · have q' : G'.get? b = some o := q
      rw [hb, ge] at q'; cases q'
    · exact (gk b hb).symm.trans q
  · rw [upd_ne (Ne.symm M.dne)]
    exact I1.hok.fresh M.new
end
end Mi
set_option linter.all false
set_option maxRecDepth 100000
set_option maxHeartbeats 4000000
/-! S3: the operations keep what the data say. -/
namespace Mi
open PySem PySem.Spec PyProof.Rows L2
section
variable {X : Cx} {G : Gx} {w : Wd} {H : Hp}

/-- two operands, an operation on data -/
def rP2 (G : Gx) (f : D → D → Option R) : R2 := fun x y H Q => ∃ w d1 d2 r, (∀ a o, w.pe a = some o → H a = some o) ∧ Red G w H d1 x ∧ Red G w H d2 y ∧ f d1 d2 = some r ∧ ∀ w' H' v, Gro w H w' H' → NewR G H w' H' r v → Q v H'
def rP1 (G : Gx) (f : D → Option R) : V → Hp → VK → Prop := fun x H Q => ∃ w d r, (∀ a o, w.pe a = some o → H a = some o) ∧ Red G w H d x ∧ f d = some r ∧ ∀ w' H' v, Gro w H w' H' → NewR G H w' H' r v → Q v H'
def rC1 (G : Gx) (f : D → Option R) : List V → Hp → VK → Prop := fun xs H Q => ∃ x, xs = [x] ∧ rP1 G f x H Q
def rC2 (G : Gx) (f : D → D → Option R) : List V → Hp → VK → Prop := fun xs H Q => ∃ x y, xs = [x, y] ∧ rP2 G f x y H Q

theorem pe_free (k : ∀ a o, w.pe a = some o → H a = some o) {p : Addr} (hp : H p = none) : w.pe p = none := by
  cases q : w.pe p with
  | none => rfl
  | some o =>
    rw [k p o q] at hp
    cases hp
theorem red_int {i : Int} {v : V} (h : Red G w H (.int i) v) : v = .int i := by simpa [Red, Rep] using h
theorem red_bl {i : Bool} {v : V} (h : Red G w H (.bl i) v) : v = .bl i := by simpa [Red, Rep] using h
theorem red_str {i : List Nat} {v : V} (h : Red G w H (.str i) v) : v = .str (cs i) ∧ sok i = true := by simpa [Red, Rep] using h
theorem red_non {v : V} (h : Red G w H .non v) : v = .non := by simpa [Red, Rep] using h
theorem red_lst {xs : List D} {v : V} (h : Red G w H (.lst xs) v) : ∃ a vs, v = .ref a ∧ H a = some (.lst vs) ∧ Reps G w xs vs := h
theorem red_scr {xs : List Int} {v : V} (k : ∀ a o, w.pe a = some o → H a = some o) (h : Red G w H (.scr xs) v) : ∃ a, v = .ref a ∧ SqL G.K H a (xs.map V.int) := by
  simp only [Red, Rep] at h
  obtain ⟨a, e, q⟩ := h
  exact ⟨a, e, sqL_up k q⟩
theorem red_tup {xs : List D} {v : V} (k : ∀ a o, w.pe a = some o → H a = some o) (h : Red G w H (.tup xs) v) : ∃ a vs, v = .ref a ∧ SqT G.K H a vs ∧ Reps G w xs vs := by
  simp only [Red, Rep] at h
  obtain ⟨a, vs, e, q, r⟩ := h
  exact ⟨a, vs, e, sqT_up k q, r⟩
theorem red_tup' {xs : List D} {v : V} (h : Red G w H (.tup xs) v) : ∃ a vs, v = .ref a ∧ SqT G.K w.pe a vs ∧ Reps G w xs vs := by
  simpa only [Red, Rep] using h
/-! ends -/
section
variable {Q : VK} {r : R} (k : ∀ a o, w.pe a = some o → H a = some o)
include k
theorem q_val {d : D} {v : V} (hq : ∀ w' H' v, Gro w H w' H' → NewR G H w' H' (.v d) v → Q v H') (h : Rep G w d v) : Q v H := hq w H v (Gro.refl k) h
theorem q_int {i : Int} (hq : ∀ w' H' v, Gro w H w' H' → NewR G H w' H' (.v (.int i)) v → Q v H') : Q (.int i) H := q_val k hq (by simp [Rep])
theorem q_bl {i : Bool} (hq : ∀ w' H' v, Gro w H w' H' → NewR G H w' H' (.v (.bl i)) v → Q v H') : Q (.bl i) H := q_val k hq (by simp [Rep])
theorem q_str {i : List Nat} (hq : ∀ w' H' v, Gro w H w' H' → NewR G H w' H' (.v (.str i)) v → Q v H') (h : sok i = true) : Q (.str (cs i)) H := q_val k hq (by simp [Rep, h])
theorem q_tup {xs : List D} {vs : List V} (hq : ∀ w' H' v, Gro w H w' H' → NewR G H w' H' (.v (.tup xs)) v → Q v H') (h : Reps G w xs vs) {p : Addr} (hp : H p = none) : Q (.ref p) (upd H p (.tup vs)) := by
  have g := Gro.newP (o := .tup vs) k hp
  refine hq _ _ _ g ?_
  show Rep G _ (.tup xs) (.ref p)
  simp only [Rep]
  exact ⟨p, vs, rfl, SqT.of upd_same, Reps.mono g.le _ _ h⟩
theorem q_lst {xs : List D} {vs : List V} (hq : ∀ w' H' v, Gro w H w' H' → NewR G H w' H' (.fr (.lst xs)) v → Q v H') (h : Reps G w xs vs) {p : Addr} (hp : H p = none) : Q (.ref p) (upd H p (.lst vs)) :=
  hq _ _ _ (Gro.new k hp) ⟨p, rfl, ⟨vs, upd_same, h⟩, hp, pe_free k hp⟩
end
theorem Reps.append : ∀ {xs ys : List D} {vs us : List V}, Reps G w xs vs → Reps G w ys us → Reps G w (xs ++ ys) (vs ++ us)
  | [], _, _, _, h, h' => by
    simp only [Reps] at h
    subst h
    exact h'
  | x :: xs, ys, vs, us, h, h' => by
    simp only [Reps] at h
    obtain ⟨v, r, rfl, h1, h2⟩ := h
    rw [List.cons_append, List.cons_append]
    simp only [Reps]
    exact ⟨v, _, rfl, h1, Reps.append h2 h'⟩

theorem sok_app {a b : List Nat} (h1 : sok a = true) (h2 : sok b = true) (hl : a.length + b.length ≤ SZ) : sok (a ++ b) = true := by
  simp only [sok, Bool.and_eq_true, decide_eq_true_eq, List.all_append, List.length_append] at *
  exact ⟨hl, h1.2, h2.2⟩
/-! ### + -/
theorem sz_eq : SZ = sizeLine := by rw [sizeLine_eq]; rfl
theorem o_add (hK : X.K = G.K) : OpR X (binaryOp .Add) (rP2 G (op2 .add)) := by
  intro pins s σ H x y v u Q I rx ry h
  obtain ⟨w, d1, d2, r, k, h1, h2, hf, hq⟩ := h
  cases d1 with
  | int i =>
    cases d2 with
    | int j =>
      cases red_int h1; cases red_int h2
      have e : r = .v (.int (i + j)) := (Option.some.inj hf).symm
      subst e
      exact op_add pins s σ H _ _ v u Q I rx ry ⟨i, j, rfl, rfl, q_int k hq⟩
    | _ => cases hf
  | str a =>
    cases d2 with
    | str b =>
      obtain ⟨rfl, z1⟩ := red_str h1
      obtain ⟨rfl, z2⟩ := red_str h2
      simp only [op2] at hf
      split at hf
      · rename_i hl
        cases hf
        refine op_add_str pins s σ H _ _ v u Q I rx ry ⟨_, _, rfl, rfl, ?_, ?_⟩
        · rw [cs_len, cs_len, ← sz_eq]; exact hl
        · have e : cs a ++ cs b = cs (a ++ b) := by
            show Str.append (cs a) (cs b) = _
            simp [cs, Str.append]
          rw [e]
          exact q_str k hq (sok_app z1 z2 hl)
      · cases hf
    | _ => cases hf
  | tup a =>
    cases d2 with
    | tup b =>
      simp only [op2, newTup] at hf
      split at hf
      · rename_i hl
        cases hf
        obtain ⟨p, vs, rfl, s1, r1⟩ := red_tup k h1
        obtain ⟨q, us, rfl, s2, r2⟩ := red_tup k h2
        have l1 := r1.length
        have l2 := r2.length
        refine op_catA pins s σ H _ _ v u Q I rx ry ⟨p, q, vs, us, rfl, rfl, by rw [hK]; exact s1, by rw [hK]; exact s2, ?_, fun z => ?_, fun _ z => ?_, fun _ _ p' hp => ?_⟩
        · rw [l1, l2, ← List.length_append, ← sz_eq]; exact hl
        · have e : a = [] := by
            rw [z] at l1
            exact List.length_eq_zero_iff.mp l1.symm
          subst e
          exact q_val k hq h2
        · have e : b = [] := by
            rw [z] at l2
            exact List.length_eq_zero_iff.mp l2.symm
          subst e
          rw [List.append_nil] at hq
          exact q_val k hq h1
        · exact q_tup k hq (Reps.append r1 r2) hp
      · cases hf
    | _ => cases hf
  | lst a =>
    cases d2 with
    | lst b =>
      simp only [op2, fresh] at hf
      split at hf
      · rename_i hl
        cases hf
        obtain ⟨p, vs, rfl, s1, r1⟩ := red_lst h1
        obtain ⟨q, us, rfl, s2, r2⟩ := red_lst h2
        refine op_cat pins s σ H _ _ v u Q I rx ry ⟨p, q, vs, us, rfl, rfl, s1, s2, ?_, fun p' hp => q_lst k hq (Reps.append r1 r2) hp⟩
        rw [r1.length, r2.length, ← List.length_append, ← sz_eq]; exact hl
      · cases hf
    | _ => cases hf
  | _ => cases d2 <;> cases hf
end
end Mi
set_option linter.all false
set_option maxRecDepth 100000
set_option maxHeartbeats 4000000
/-! S4: further operations. -/
namespace Mi
open PySem PySem.Spec PyProof.Rows L2
section
variable {X : Cx} {G : Gx} {w : Wd} {H : Hp}
theorem sm_lt {i : Int} (h : sm i = true) : i.natAbs < 2 ^ 4000 := of_decide_eq_true h
theorem o_sub : OpR X (binaryOp .Sub) (rP2 G (op2 .sub)) := by
  intro pins s σ H x y v u Q I rx ry h
  obtain ⟨w, d1, d2, r, k, h1, h2, hf, hq⟩ := h
  cases d1 with
  | int i =>
    cases d2 with
    | int j =>
      cases red_int h1; cases red_int h2
      cases hf
      exact op_sub pins s σ H _ _ v u Q I rx ry ⟨i, j, rfl, rfl, q_int k hq⟩
    | _ => cases hf
  | _ => cases d2 <;> cases hf
theorem o_mul : OpR X (binaryOp .Mult) (rP2 G (op2 .mul)) := by
  intro pins s σ H x y v u Q I rx ry h
  obtain ⟨w, d1, d2, r, k, h1, h2, hf, hq⟩ := h
  cases d1 with
  | int i =>
    cases d2 with
    | int j =>
      cases red_int h1; cases red_int h2
      simp only [op2] at hf
      split at hf
      · rename_i c
        cases hf
        rw [Bool.and_eq_true] at c
        exact op_mulW pins s σ H _ _ v u Q I rx ry ⟨i, j, rfl, rfl, wide_mul (sm_lt c.1) (sm_lt c.2) (by decide) (by decide) (by decide), q_int k hq⟩
      · cases hf
    | _ => cases hf
  | _ => cases d2 <;> cases hf
theorem o_fdiv : OpR X (binaryOp .FloorDiv) (rP2 G (op2 .fdiv)) := by
  intro pins s σ H x y v u Q I rx ry h
  obtain ⟨w, d1, d2, r, k, h1, h2, hf, hq⟩ := h
  cases d1 with
  | int i =>
    cases d2 with
    | int j =>
      cases red_int h1; cases red_int h2
      simp only [op2] at hf
      split at hf
      · rename_i c
        cases hf
        exact op_fdiv pins s σ H _ _ v u Q I rx ry ⟨i, j, rfl, rfl, c, q_int k hq⟩
      · cases hf
    | _ => cases hf
  | _ => cases d2 <;> cases hf
theorem o_mod : OpR X (binaryOp .Mod) (rP2 G (op2 .mod)) := by
  intro pins s σ H x y v u Q I rx ry h
  obtain ⟨w, d1, d2, r, k, h1, h2, hf, hq⟩ := h
  cases d1 with
  | int i =>
    cases d2 with
    | int j =>
      cases red_int h1; cases red_int h2
      simp only [op2] at hf
      split at hf
      · rename_i c
        cases hf
        exact op_mod pins s σ H _ _ v u Q I rx ry ⟨i, j, rfl, rfl, c, q_int k hq⟩
      · cases hf
    | _ => cases hf
  | _ => cases d2 <;> cases hf
theorem o_shl : OpR X (binaryOp .LShift) (rP2 G (op2 .shl)) := by
  intro pins s σ H x y v u Q I rx ry h
  obtain ⟨w, d1, d2, r, k, h1, h2, hf, hq⟩ := h
  cases d1 with
  | int i =>
    cases d2 with
    | int j =>
      cases red_int h1; cases red_int h2
      simp only [op2] at hf
      split at hf
      · rename_i c
        cases hf
        exact op_shl pins s σ H _ _ v u Q I rx ry ⟨i, j, rfl, rfl, c, q_int k hq⟩
      · cases hf
    | _ => cases hf
  | _ => cases d2 <;> cases hf
theorem o_shr : OpR X (binaryOp .RShift) (rP2 G (op2 .shr)) := by
  intro pins s σ H x y v u Q I rx ry h
  obtain ⟨w, d1, d2, r, k, h1, h2, hf, hq⟩ := h
  cases d1 with
  | int i =>
    cases d2 with
    | int j =>
      cases red_int h1; cases red_int h2
      simp only [op2] at hf
      split at hf
      · rename_i c
        cases hf
        exact op_shr pins s σ H _ _ v u Q I rx ry ⟨i, j, rfl, rfl, c, q_int k hq⟩
      · cases hf
    | _ => cases hf
  | _ => cases d2 <;> cases hf
theorem bits_le {i : Int} {n : Nat} (h : i.natAbs < 2 ^ n) (h0 : 0 < n) : Builtin.Int.intBits i ≤ n := by
  have x := PySem.Flt.log2_lt_of h0 h
  unfold Builtin.Int.intBits
  split <;> omega
theorem op_powX {C : Int → Int → Prop} (hC : ∀ i j, C i j → 0 ≤ j ∧ (Builtin.Int.intBits i : Int) * j ≤ 2 ^ 27) : OpR X (binaryOp .Pow) (rI C fun i j => .int (i ^ j.toNat)) := opI fun i j _ _ _ _ _ hc q => pow_int (hC i j hc).1 (hC i j hc).2 q
theorem pow_room {i j : Int} (h : 0 ≤ j ∧ j ≤ 100 ∧ i.natAbs < 2 ^ 1000) : 0 ≤ j ∧ (Builtin.Int.intBits i : Int) * j ≤ 2 ^ 27 := by
  refine ⟨h.1, ?_⟩
  have b := bits_le h.2.2 (by decide)
  have b' : (Builtin.Int.intBits i : Int) ≤ 1000 := by omega
  have h0 : (0 : Int) ≤ (Builtin.Int.intBits i : Int) := Int.natCast_nonneg _
  calc (Builtin.Int.intBits i : Int) * j ≤ 1000 * 100 := Int.mul_le_mul b' h.2.1 h.1 (by decide)
    _ ≤ 2 ^ 27 := by decide
theorem o_pow : OpR X (binaryOp .Pow) (rP2 G (op2 .pow)) := by
  intro pins s σ H x y v u Q I rx ry h
  obtain ⟨w, d1, d2, r, k, h1, h2, hf, hq⟩ := h
  cases d1 with
  | int i =>
    cases d2 with
    | int j =>
      cases red_int h1; cases red_int h2
      simp only [op2] at hf
      split at hf
      · rename_i c
        cases hf
        exact op_powX (C := fun i j => 0 ≤ j ∧ j ≤ 100 ∧ i.natAbs < 2 ^ 1000) (fun _ _ => pow_room) pins s σ H _ _ v u Q I rx ry ⟨i, j, rfl, rfl, c, q_int k hq⟩
      · cases hf
    | _ => cases hf
  | _ => cases d2 <;> cases hf
theorem o_le : OpR X (compareOp .LtE) (rP2 G (op2 .le)) := by
  intro pins s σ H x y v u Q I rx ry h
  obtain ⟨w, d1, d2, r, k, h1, h2, hf, hq⟩ := h
  cases d1 with
  | int i =>
    cases d2 with
    | int j =>
      cases red_int h1; cases red_int h2
      cases hf
      exact op_le pins s σ H _ _ v u Q I rx ry ⟨i, j, rfl, rfl, q_bl k hq⟩
    | _ => cases hf
  | _ => cases d2 <;> cases hf
theorem o_gt : OpR X (compareOp .Gt) (rP2 G (op2 .gt)) := by
  intro pins s σ H x y v u Q I rx ry h
  obtain ⟨w, d1, d2, r, k, h1, h2, hf, hq⟩ := h
  cases d1 with
  | int i =>
    cases d2 with
    | int j =>
      cases red_int h1; cases red_int h2
      cases hf
      exact op_gt pins s σ H _ _ v u Q I rx ry ⟨i, j, rfl, rfl, q_bl k hq⟩
    | _ => cases hf
  | _ => cases d2 <;> cases hf
theorem o_ge : OpR X (compareOp .GtE) (rP2 G (op2 .ge)) := by
  intro pins s σ H x y v u Q I rx ry h
  obtain ⟨w, d1, d2, r, k, h1, h2, hf, hq⟩ := h
  cases d1 with
  | int i =>
    cases d2 with
    | int j =>
      cases red_int h1; cases red_int h2
      cases hf
      exact op_ge pins s σ H _ _ v u Q I rx ry ⟨i, j, rfl, rfl, q_bl k hq⟩
    | _ => cases hf
  | _ => cases d2 <;> cases hf
theorem o_lt : OpR X (compareOp .Lt) (rP2 G (op2 .lt)) := by
  intro pins s σ H x y v u Q I rx ry h
  obtain ⟨w, d1, d2, r, k, h1, h2, hf, hq⟩ := h
  cases d1 with
  | int i =>
    cases d2 with
    | int j =>
      cases red_int h1; cases red_int h2
      cases hf
      exact op_lt pins s σ H _ _ v u Q I rx ry ⟨i, j, rfl, rfl, q_bl k hq⟩
    | _ => cases hf
  | str a =>
    cases d2 with
    | str b =>
      obtain ⟨rfl, z1⟩ := red_str h1
      obtain ⟨rfl, z2⟩ := red_str h2
      cases hf
      refine op_lt_str pins s σ H _ _ v u Q I rx ry ⟨_, _, rfl, rfl, ?_⟩
      simp only [cs_list]
      exact q_bl k hq
    | _ => cases hf
  | _ => cases d2 <;> cases hf
/-! ### data as the library has them -/
mutual
def toPy : D → PyData
  | .non => .none
  | .bl b => .bool b
  | .int i => .int i
  | .str s => .str (cs s)
  | .tup xs => .tuple (toPys xs)
  | .lst xs => .list (toPys xs)
  | .dct ks vs => .dict (List.zip (toPys ks) (toPys vs))
  | _ => .none
def toPys : List D → List PyData
  | [] => []
  | x :: xs => toPy x :: toPys xs
end
theorem pes_t {w : Wd} {H : Hp} (k : ∀ a o, w.pe a = some o → H a = some o) {a : Addr} {vs : List V} (h : SqT G.K w.pe a vs) : SqT G.K H a vs := sqT_up k h
mutual
theorem rep_dp (k : ∀ a o, w.pe a = some o → H a = some o) : ∀ (n : Nat) (d : D) (v : V), d.plain n = true → Rep G w d v → Dp G.K H v (toPy d) ∧ PyData.canLay0 (toPy d) = true ∧ (toPy d).depth ≤ n
  | n, .non, v, _, h => by
    have e : v = .non := by simpa [Rep] using h
    subst e
    simp only [toPy]
    exact ⟨.non, rfl, Nat.zero_le _⟩
  | n, .bl b, v, _, h => by
    have e : v = .bl b := by simpa [Rep] using h
    subst e
    simp only [toPy]
    exact ⟨.bl b, rfl, Nat.zero_le _⟩
  | n, .int i, v, _, h => by
    have e : v = .int i := by simpa [Rep] using h
    subst e
    simp only [toPy]
    exact ⟨.int i, rfl, Nat.zero_le _⟩
  | n, .str s, v, _, h => by
    have e : v = .str (cs s) ∧ sok s = true := by simpa [Rep] using h
    obtain ⟨rfl, z⟩ := e
    simp only [toPy]
    refine ⟨.str _, ?_, Nat.zero_le _⟩
    simp only [PyData.canLay0, PyData.strOk, cs]
    simp only [sok, Bool.and_eq_true] at z
    simpa using z.2
  | n + 1, .tup xs, v, hp, h => by
    simp only [Rep] at h
    obtain ⟨a, vs, rfl, q, r⟩ := h
    simp only [D.plain] at hp
    obtain ⟨h1, h2, h3⟩ := reps_dp k n xs vs hp r
    simp only [toPy, PyData.canLay0, PyData.depth]
    exact ⟨.tup (sqT_up k q) h1, h2, by omega⟩
  | n + 1, .lst xs, v, hp, h => by
    simp only [Rep] at h
    obtain ⟨a, vs, rfl, q, r⟩ := h
    simp only [D.plain] at hp
    obtain ⟨h1, h2, h3⟩ := reps_dp k n xs vs hp r
    simp only [toPy, PyData.canLay0, PyData.depth]
    exact ⟨.lst (SqL.of (k _ _ q)) h1, h2, by omega⟩
  | 0, .tup xs, v, hp, h => by simp [D.plain] at hp
  | 0, .lst xs, v, hp, h => by simp [D.plain] at hp
  | _, .dct _ _, v, hp, h => by simp [D.plain] at hp
  | _, .obj _ _, v, hp, h => by simp [D.plain] at hp
  | _, .exc _ _, v, hp, h => by simp [D.plain] at hp
  | _, .ref _, v, hp, h => by simp [D.plain] at hp
  | _, .scr _, v, hp, h => by simp [D.plain] at hp
  | _, .und, v, hp, h => by simp [D.plain] at hp
theorem reps_dp (k : ∀ a o, w.pe a = some o → H a = some o) : ∀ (n : Nat) (ds : List D) (vs : List V), plains n ds = true → Reps G w ds vs → DpAll G.K H vs (toPys ds) ∧ PyData.canLayAll0 (toPys ds) = true ∧ PyData.depthAll (toPys ds) ≤ n
  | n, [], vs, _, h => by
    have e : vs = [] := by simpa [Reps] using h
    subst e
    simp only [toPys]
    exact ⟨.nil, rfl, Nat.zero_le _⟩
  | n, d :: ds, vs, hp, h => by
    simp only [Reps] at h
    obtain ⟨v, r, rfl, h1, h2⟩ := h
    simp only [plains, Bool.and_eq_true] at hp
    obtain ⟨a1, a2, a3⟩ := rep_dp k n d v hp.1 h1
    obtain ⟨b1, b2, b3⟩ := reps_dp k n ds r hp.2 h2
    simp only [toPys, PyData.canLayAll0, PyData.depthAll, a2, b2]
    exact ⟨.cons a1 b1, rfl, by omega⟩
end
theorem red_dp (k : ∀ a o, w.pe a = some o → H a = some o) {d : D} {v : V} (hp : d.plain 60 = true) (h : Red G w H d v) : Dp G.K H v (toPy d) ∧ SeqAt.shaped (toPy d) = true := by
  have sh : ∀ {p : PyData}, p.canLay0 = true → p.depth ≤ 60 → SeqAt.shaped p = true := fun {p} a b => by
    unfold SeqAt.shaped
    rw [a, Bool.true_and]
    exact decide_eq_true (by omega)
  cases d with
  | lst xs =>
    obtain ⟨a, vs, rfl, q, r⟩ := h
    simp only [D.plain] at hp
    obtain ⟨h1, h2, h3⟩ := reps_dp k 59 xs vs hp r
    refine ⟨?_, sh ?_ ?_⟩
    · simp only [toPy]; exact .lst (SqL.of q) h1
    · simp only [toPy, PyData.canLay0]; exact h2
    · simp only [toPy, PyData.depth]; omega
  | dct ks vs => simp [D.plain] at hp
  | _ =>
    obtain ⟨h1, h2, h3⟩ := rep_dp k 60 _ v hp h
    exact ⟨h1, sh h2 h3⟩
mutual
theorem eqv_py : ∀ (n : Nat) (a b : D), a.plain n = true → b.plain n = true → PyData.eqv (toPy a) (toPy b) = a.eqv b
  | n, .non, b, _, hb => by cases b <;> first | (simp [D.plain] at hb; done) | simp [toPy, PyData.eqv, D.eqv]
  | n, .bl x, b, _, hb => by cases b <;> first | (simp [D.plain] at hb; done) | (simp [toPy, PyData.eqv, D.eqv, b2i, Bool.beq_eq_decide_eq] <;> congr)
  | n, .int x, b, _, hb => by cases b <;> first | (simp [D.plain] at hb; done) | (simp [toPy, PyData.eqv, D.eqv, b2i, Bool.beq_eq_decide_eq] <;> congr)
  | n, .str x, b, _, hb => by
    cases b with
    | str y =>
      simp only [toPy, PyData.eqv, D.eqv]
      rw [Bool.eq_iff_iff, beq_iff_eq, decide_eq_true_eq]
      exact ⟨cs_inj, fun e => by rw [e]⟩
    | _ => first | (simp [D.plain] at hb; done) | simp [toPy, PyData.eqv, D.eqv]
  | n + 1, .tup xs, b, ha, hb => by
    cases b with
    | tup ys =>
      simp only [D.plain] at ha hb
      simp only [toPy, PyData.eqv, D.eqv]
      exact eqvs_py n xs ys ha hb
    | _ => first | (simp [D.plain] at hb; done) | simp [toPy, PyData.eqv, D.eqv]
  | n + 1, .lst xs, b, ha, hb => by
    cases b with
    | lst ys =>
      simp only [D.plain] at ha hb
      simp only [toPy, PyData.eqv, D.eqv]
      exact eqvs_py n xs ys ha hb
    | _ => first | (simp [D.plain] at hb; done) | simp [toPy, PyData.eqv, D.eqv]
  | 0, .tup xs, b, hp, _ => by simp [D.plain] at hp
  | 0, .lst xs, b, hp, _ => by simp [D.plain] at hp
  | _, .dct _ _, b, hp, _ => by simp [D.plain] at hp
  | _, .obj _ _, b, hp, _ => by simp [D.plain] at hp
  | _, .exc _ _, b, hp, _ => by simp [D.plain] at hp
  | _, .ref _, b, hp, _ => by simp [D.plain] at hp
  | _, .scr _, b, hp, _ => by simp [D.plain] at hp
  | _, .und, b, hp, _ => by simp [D.plain] at hp
theorem eqvs_py : ∀ (n : Nat) (a b : List D), plains n a = true → plains n b = true → PyData.eqvAll (toPys a) (toPys b) = eqvs a b
  | n, [], [], _, _ => by simp [toPys, PyData.eqvAll, eqvs]
  | n, [], y :: ys, _, _ => by simp [toPys, PyData.eqvAll, eqvs]
  | n, x :: xs, [], _, _ => by simp [toPys, PyData.eqvAll, eqvs]
  | n, x :: xs, y :: ys, ha, hb => by
    simp only [plains, Bool.and_eq_true] at ha hb
    simp only [toPys, PyData.eqvAll, eqvs, eqv_py n x y ha.1 hb.1, eqvs_py n xs ys ha.2 hb.2]
end
theorem o_eq (hK : X.K = G.K) (hu : X.A.units + 64 < cLine) : OpR X (compareOp .Eq) (rP2 G (op2 .eq)) := by
  intro pins s σ H x y v u Q I rx ry h
  obtain ⟨w, d1, d2, r, k, h1, h2, hf, hq⟩ := h
  simp only [op2] at hf
  split at hf
  · rename_i c
    rw [Bool.and_eq_true] at c
    cases hf
    obtain ⟨p1, s1⟩ := red_dp k c.1 h1
    obtain ⟨p2, s2⟩ := red_dp k c.2 h2
    refine op_eqD hu pins s σ H _ _ v u Q I rx ry ⟨_, _, by rw [hK]; exact p1, by rw [hK]; exact p2, s1, s2, ?_⟩
    rw [eqv_py 60 d1 d2 c.1 c.2]
    exact q_bl k hq
  · cases hf
theorem o_ne (hK : X.K = G.K) (hu : X.A.units + 64 < cLine) : OpR X (compareOp .NotEq) (rP2 G (op2 .ne)) := by
  intro pins s σ H x y v u Q I rx ry h
  obtain ⟨w, d1, d2, r, k, h1, h2, hf, hq⟩ := h
  simp only [op2] at hf
  split at hf
  · rename_i c
    rw [Bool.and_eq_true] at c
    cases hf
    obtain ⟨p1, s1⟩ := red_dp k c.1 h1
    obtain ⟨p2, s2⟩ := red_dp k c.2 h2
    refine op_neD hu pins s σ H _ _ v u Q I rx ry ⟨_, _, by rw [hK]; exact p1, by rw [hK]; exact p2, s1, s2, ?_⟩
    rw [eqv_py 60 d1 d2 c.1 c.2]
    exact q_bl k hq
  · cases hf
/-! ### max, min of two -/
theorem c_max2 (hc : X.calm = true) : CallR X (.builtin "max") (rC2 G (op2 .max2)) := by
  intro pins s σ H xs us Q I rv h
  obtain ⟨x, y, rfl, w, d1, d2, r, k, h1, h2, hf, hq⟩ := h
  cases d1 with
  | int i =>
    cases d2 with
    | int j =>
      cases red_int h1; cases red_int h2
      cases hf
      exact call_max2 hc pins s σ H _ us Q I rv ⟨i, j, rfl, q_int k hq⟩
    | _ => cases hf
  | _ => cases d2 <;> cases hf
theorem c_min2 (hc : X.calm = true) : CallR X (.builtin "min") (rC2 G (op2 .min2)) := by
  intro pins s σ H xs us Q I rv h
  obtain ⟨x, y, rfl, w, d1, d2, r, k, h1, h2, hf, hq⟩ := h
  cases d1 with
  | int i =>
    cases d2 with
    | int j =>
      cases red_int h1; cases red_int h2
      cases hf
      exact call_min2 hc pins s σ H _ us Q I rv ⟨i, j, rfl, q_int k hq⟩
    | _ => cases hf
  | _ => cases d2 <;> cases hf
end
end Mi
set_option linter.all false
set_option maxRecDepth 100000
set_option maxHeartbeats 1000000
/-! E3: what the text tells of its classes; isinstance; an error's value. -/
namespace Mi
open PySem PySem.Spec PyProof.Rows L2
/-- a class of errors, read and asked -/
structure ExcT (K : PySem.W.Frag) (C : Addr) : Prop where
  cl : (PySem.W.clsIn K C).isSome = true
  ga : PySem.W.findIn K (.ref C) "__getattribute__" = some (some (.builtin "BaseException.__getattribute__"))
  gt : PySem.W.findIn K (.ref C) "__getattr__" = some none
  sb : PySem.W.subIn K (.ref C) (.type "BaseException") = some true
  hc : PySem.W.findIn K (.ref C) "__class__" = some (some (.builtin "object.__class__"))
  hn : PySem.W.specialIn K (.builtin "object.__class__") "__get__" = some (some (.builtin "getset_descriptor.__get__"))
  tk : PySem.W.takesIn K (.builtin "object.__class__") = some true
  ob : PySem.W.mroIn K C (.type "object") = some true
  hd : PySem.W.hasDictIn K C = true
  nv : PySem.W.findIn K (.ref C) "value" = some none
  ty : PySem.W.typeIn K (.ref C) = some (.type "type")
  kp : PySem.W.keepIn K (.ref C) = true
def tagV (G : Gx) : D → Option Value
  | .non => some (.type "NoneType")
  | .bl _ => some (.type "bool")
  | .int _ => some (.type "int")
  | .str _ => some (.type "str")
  | .tup _ => some (.type "tuple")
  | .lst _ => some (.type "list")
  | .dct _ _ => some (.type "dict")
  | .exc c _ => some (.ref (G.cad c))
  | _ => none
def clV (G : Gx) : Cl → Value
  | .int => .type "int"
  | .str => .type "str"
  | .tuple => .type "tuple"
  | .list => .type "list"
  | .bool => .type "bool"
  | .dict => .type "dict"
  | .valueError => .type "ValueError"
  | .own c => .ref (G.cad c)
section
variable {X : Cx} {G : Gx} {w : Wd} {H : Hp}
/-- what the library asks of such a value -/
theorem kit_red {pins : List (Addr × Obj)} {σ : L2.St} {s : Shared} {d : D} {v : V} {u t : Value} (hK : X.K = G.K) (hE : ∀ c e, d = .exc c e → ExcT G.K (G.cad c)) (k : ∀ a o, w.pe a = some o → H a = some o) (I : Inv X pins σ H s) (hr : Red G w H d v) (rv : RelV v u) (ht : tagV G d = some t) :
    ∃ P : Heap → Prop, PySem.W.KitX G.K u t P ∧ P s.heap ∧ u ≠ .builtin "__main__.__loader__#opaque" := by
  have base : ∀ {t'}, TyX X.K H v t' → t' = t → ∃ P : Heap → Prop, PySem.W.KitX G.K u t P ∧ P s.heap ∧ u ≠ .builtin "__main__.__loader__#opaque" := fun {t'} ty e => by
    subst e
    rw [← hK]
    exact kit_of I rv ty
  cases d with
  | non => cases red_non hr; exact base (.base .non) (Option.some.inj ht)
  | bl b => cases red_bl hr; exact base (.base (.bl b)) (Option.some.inj ht)
  | int i => cases red_int hr; exact base (.base (.int i)) (Option.some.inj ht)
  | str z => obtain ⟨rfl, _⟩ := red_str hr; exact base (.base (.str _)) (Option.some.inj ht)
  | tup xs =>
    obtain ⟨a, vs, rfl, q, _⟩ := red_tup k hr
    rcases q with (q | ⟨o, q⟩) | ⟨o, its, n, q1, q2, _⟩
    · exact base (.base (.tup q)) (Option.some.inj ht)
    · exact base (.fTuple q) (Option.some.inj ht)
    · exact base (.kTuple (by rw [hK]; exact q1) q2) (Option.some.inj ht)
  | lst xs =>
    obtain ⟨a, vs, rfl, q, _⟩ := red_lst hr
    exact base (.base (.lst q)) (Option.some.inj ht)
  | dct ks ds =>
    obtain ⟨a, kvs, rfl, q, _⟩ := hr
    exact base (.base (.dK q)) (Option.some.inj ht)
  | exc c e =>
    have z := hE c e rfl
    simp only [Red, Rep] at hr
    obtain ⟨a, dd, x, rfl, q1, q2, _⟩ := hr
    cases rv
    obtain ⟨⟨oe, vs, h1, ⟨h2, h3⟩, h4⟩, _, _⟩ := I.hok a _ (k _ _ q1)
    obtain ⟨mA, hns, _⟩ := I.hok dd _ (k _ _ q2)
    obtain ⟨od, ho, _⟩ := lookIn_ns hns
    have J : PySem.W.InstAt s.heap a oe (G.cad c) (some od) := ⟨h1, h2, by unfold PySem.W.notCls; rw [h4] <;> rfl, by rw [h3]; exact ho⟩
    have e : t = .ref (G.cad c) := (Option.some.inj ht).symm
    subst e
    exact ⟨_, PySem.W.kitx_exc (ox := oe) (od := some od) z.cl z.ga z.gt z.sb z.hc z.hn z.tk z.ob, J, fun y => nomatch y⟩
  | _ => cases ht
/-- isinstance(x, C) -/
def rIsi (G : Gx) : List V → Hp → VK → Prop := fun xs H Q => ∃ w d v t cl cv b, xs = [v, cv] ∧ (∀ a o, w.pe a = some o → H a = some o) ∧ Red G w H d v ∧ (∀ c e, d = .exc c e → ExcT G.K (G.cad c)) ∧ tagV G d = some t ∧ (∀ u, RelV cv u → u = cl) ∧ PySem.W.kitOne G.K t cl = some b ∧ Q (.bl b) H
theorem c_isi (hK : X.K = G.K) : CallR X (.builtin "isinstance") (rIsi G) := by
  intro pins s σ H xs us Q I r h
  obtain ⟨w, d, v, t, cl, cv, b, rfl, k, hr, hE, ht, hc, hk, q⟩ := h
  obtain ⟨u, u2, rfl, r1, r2⟩ := vals2 r
  have e := hc u2 r2
  subst e
  obtain ⟨P, Z, p, ne⟩ := kit_red hK hE k I hr r1 ht
  have kin := I.kIn
  rw [hK] at kin
  exact PySem.W.kia_one Z kin p hk ne fun tk => ⟨.bl b, H, I.tok _, rfl, q⟩
/-- isinstance(x, (C, ..)) -/
def rIsiT (G : Gx) : List V → Hp → VK → Prop := fun xs H Q => ∃ w d v t tp cs cvs b, xs = [v, .ref tp] ∧ (∀ a o, w.pe a = some o → H a = some o) ∧ Red G w H d v ∧ (∀ c e, d = .exc c e → ExcT G.K (G.cad c)) ∧ tagV G d = some t ∧ H tp = some (.tup cvs) ∧ (∀ us, Vals cvs us → us = cs) ∧ PySem.W.kitAny G.K t cs = some b ∧ Q (.bl b) H
theorem c_isiT (hK : X.K = G.K) : CallR X (.builtin "isinstance") (rIsiT G) := by
  intro pins s σ H xs us Q I r h
  obtain ⟨w, d, v, t, tp, cs, cvs, b, rfl, k, hr, hE, ht, hH, hc, hk, q⟩ := h
  obtain ⟨u, u2, rfl, r1, r2⟩ := vals2 r
  cases r2
  obtain ⟨P, Z, p, ne⟩ := kit_red hK hE k I hr r1 ht
  have kin := I.kIn
  rw [hK] at kin
  obtain ⟨_, its, ri, o, ho, hcl, n, hd⟩ := I.hok tp _ hH
  have e := hc its ri
  subst e
  obtain ⟨oc, odd, odt, osl⟩ := o
  cases hcl
  cases hd
  exact PySem.W.kia_tup Z kin p ho hk ne fun tk => ⟨.bl b, H, I.tok _, rfl, q⟩
/-- e.value, e an error that is held -/
def tVal (G : Gx) (te : TE) : TE := fun σ H Q => te σ H fun x H1 => ∃ w c d, (∀ a o, w.pe a = some o → H1 a = some o) ∧ Rep G w (.exc c d) x ∧ ExcT G.K (G.cad c) ∧ ∀ v, Rep G w d v → Q v H1
theorem pe_val {e : Expr} {te : TE} {pos : Pos} (hK : X.K = G.K) (hv : G.nm.anm G.pr.val = "value") (he : PE X e te) (hb : attributeBase e "value" X.env (eval e X.env) = eval e X.env) : PE X (.Attribute e "value" pos) (tVal G te) := by
  refine ⟨fun pins s σ H Q I h => ?_⟩
  refine attr_of hb (thn (he.run pins s σ H _ I h) fun u s1 hh => ?_)
  obtain ⟨x, H1, I1, rx, w, c, d, k, hr, z, q⟩ := hh
  simp only [Rep] at hr
  obtain ⟨a, dd, y, rfl, q1, q2, hy⟩ := hr
  rw [hv] at q2
  cases rx
  obtain ⟨⟨oe, vs, h1, ⟨h2, h3⟩, h4⟩, _, _⟩ := I1.hok a _ (k _ _ q1)
  obtain ⟨mA, hns, rO⟩ := I1.hok dd _ (k _ _ q2)
  obtain ⟨od, ho, hl⟩ := lookIn_ns hns
  have J : PySem.W.InstAt s1.heap a oe (G.cad c) (some od) := ⟨h1, h2, by unfold PySem.W.notCls; rw [h4] <;> rfl, by rw [h3]; exact ho⟩
  have l : List.lookup ("value" : Str) [(("value" : Str), y)] = some y := by simp [List.lookup]
  obtain ⟨u, hu, ru⟩ := RelO.some_of (v := y) (o := mA "value") (by rw [← l]; exact rO "value")
  have kin := I1.kIn
  rw [hK] at kin
  exact HandSPX.exc_get kin J z.ga z.gt z.sb (PySem.W.findObj_own z.hd z.nv rfl (by rw [hl, hu])) (handed_of ru) ⟨y, H1, I1.tok _, ru, q y hy⟩
end
end Mi
set_option linter.all false
set_option maxRecDepth 100000
set_option maxHeartbeats 1000000
/-! S5: built-ins of one argument, places, slices. -/
namespace Mi
open PySem PySem.Spec PyProof.Rows L2
section
variable {X : Cx} {G : Gx} {w : Wd} {H : Hp}
theorem Reps.get : ∀ {ds : List D} {vs : List V} {i : Nat} {d : D}, Reps G w ds vs → ds[i]? = some d → ∃ v, vs[i]? = some v ∧ Rep G w d v
  | [], _, _, _, _, h => by simp at h
  | d :: ds, vs, 0, d', h, e => by
    simp only [Reps] at h
    obtain ⟨v, r, rfl, h1, _⟩ := h
    simp at e
    subst e
    exact ⟨v, by simp, h1⟩
  | d :: ds, vs, i + 1, d', h, e => by
    simp only [Reps] at h
    obtain ⟨v, r, rfl, _, h2⟩ := h
    obtain ⟨u, q1, q2⟩ := Reps.get (i := i) h2 (by simpa using e)
    exact ⟨u, by simpa using q1, q2⟩
theorem Reps.drop : ∀ {ds : List D} {vs : List V} (n : Nat), Reps G w ds vs → Reps G w (ds.drop n) (vs.drop n)
  | ds, vs, 0, h => by simpa using h
  | [], vs, n + 1, h => by
    simp only [Reps] at h
    subst h
    simp [Reps]
  | d :: ds, vs, n + 1, h => by
    simp only [Reps] at h
    obtain ⟨v, r, rfl, _, h2⟩ := h
    simpa using Reps.drop n h2
theorem Reps.take : ∀ {ds : List D} {vs : List V} (n : Nat), Reps G w ds vs → Reps G w (ds.take n) (vs.take n)
  | ds, vs, 0, h => by simp [Reps]
  | [], vs, n + 1, h => by
    simp only [Reps] at h
    subst h
    simp [Reps]
  | d :: ds, vs, n + 1, h => by
    simp only [Reps] at h
    obtain ⟨v, r, rfl, h1, h2⟩ := h
    simp only [List.take_succ_cons, Reps]
    exact ⟨v, _, rfl, h1, Reps.take n h2⟩
theorem Reps.rev : ∀ {ds : List D} {vs : List V}, Reps G w ds vs → Reps G w ds.reverse vs.reverse
  | [], vs, h => by
    simp only [Reps] at h
    subst h
    simp [Reps]
  | d :: ds, vs, h => by
    simp only [Reps] at h
    obtain ⟨v, r, rfl, h1, h2⟩ := h
    rw [List.reverse_cons, List.reverse_cons]
    refine Reps.append (Reps.rev h2) ?_
    simp only [Reps]
    exact ⟨v, [], rfl, h1, rfl⟩
theorem Reps.set : ∀ {ds : List D} {vs : List V} {d : D} {v : V} (n : Nat), Rep G w d v → Reps G w ds vs → Reps G w (ds.set n d) (vs.set n v)
  | [], vs, _, _, n, _, h => by
    simp only [Reps] at h
    subst h
    simp [Reps]
  | x :: ds, vs, d, v, 0, hd, h => by
    simp only [Reps] at h
    obtain ⟨y, r, rfl, h1, h2⟩ := h
    simp only [List.set_cons_zero, Reps]
    exact ⟨v, r, rfl, hd, h2⟩
  | x :: ds, vs, d, v, n + 1, hd, h => by
    simp only [Reps] at h
    obtain ⟨y, r, rfl, h1, h2⟩ := h
    simp only [List.set_cons_succ, Reps]
    exact ⟨y, _, rfl, h1, Reps.set n hd h2⟩
theorem Reps.bls : ∀ {ds : List D} {vs : List V} {bs : List Bool}, Reps G w ds vs → D.bls ds = some bs → vs = bs.map V.bl
  | [], vs, bs, h, e => by
    simp only [Reps] at h
    simp only [D.bls] at e
    cases e
    subst h
    rfl
  | d :: ds, vs, bs, h, e => by
    simp only [Reps] at h
    obtain ⟨v, r, rfl, h1, h2⟩ := h
    cases d with
    | bl b =>
      simp only [D.bls] at e
      cases q : D.bls ds with
      | none => rw [q] at e; cases e
      | some l =>
        rw [q] at e
        cases e
        have e1 : v = .bl b := by simpa [Rep] using h1
        rw [e1, Reps.bls h2 q]
        rfl
    | _ => cases e
theorem Reps.ints : ∀ {ds : List D} {vs : List V} {bs : List Int}, Reps G w ds vs → D.ints ds = some bs → vs = bs.map V.int
  | [], vs, bs, h, e => by
    simp only [Reps] at h
    simp only [D.ints] at e
    cases e
    subst h
    rfl
  | d :: ds, vs, bs, h, e => by
    simp only [Reps] at h
    obtain ⟨v, r, rfl, h1, h2⟩ := h
    cases d with
    | int b =>
      simp only [D.ints] at e
      cases q : D.ints ds with
      | none => rw [q] at e; cases e
      | some l =>
        rw [q] at e
        cases e
        have e1 : v = .int b := by simpa [Rep] using h1
        rw [e1, Reps.ints h2 q]
        rfl
    | _ => cases e
theorem Reps.strs : ∀ {ds : List D} {vs : List V} {bs : List (List Nat)}, Reps G w ds vs → D.strs ds = some bs → vs = bs.map (fun s => V.str (cs s)) ∧ ∀ s ∈ bs, sok s = true
  | [], vs, bs, h, e => by
    simp only [Reps] at h
    simp only [D.strs] at e
    cases e
    subst h
    exact ⟨rfl, fun _ z => nomatch z⟩
  | d :: ds, vs, bs, h, e => by
    simp only [Reps] at h
    obtain ⟨v, r, rfl, h1, h2⟩ := h
    cases d with
    | str b =>
      simp only [D.strs] at e
      cases q : D.strs ds with
      | none => rw [q] at e; cases e
      | some l =>
        rw [q] at e
        cases e
        have e1 : v = .str (cs b) ∧ sok b = true := by simpa [Rep] using h1
        obtain ⟨i1, i2⟩ := Reps.strs h2 q
        refine ⟨by rw [e1.1, i1]; rfl, fun s hs => ?_⟩
        rcases List.mem_cons.mp hs with rfl | hs
        · exact e1.2
        · exact i2 s hs
    | _ => cases e

theorem keysOf_len : ∀ {ks : List D} {l : List Key}, keysOf ks = some l → ks.length = l.length
  | [], l, h => by cases h; rfl
  | k :: ks, l, h => by
    simp only [keysOf] at h
    split at h
    · rename_i a r e1 e2
      cases h
      rw [List.length_cons, List.length_cons, keysOf_len e2]
    · cases h
theorem c_len (hK : X.K = G.K) : CallR X (.builtin "len") (rC1 G (op1 G.pr .len)) := by
  intro pins s σ H xs us Q I rv h
  obtain ⟨x, rfl, w, d, r, k, h1, hf, hq⟩ := h
  cases d with
  | str z =>
    obtain ⟨rfl, z1⟩ := red_str h1
    cases hf
    refine call_len pins s σ H _ us Q I rv ⟨_, z.length, rfl, ⟨?_, ?_⟩, q_int k hq⟩
    · rw [cs_len]
      simp only [sok, Bool.and_eq_true, decide_eq_true_eq] at z1
      rw [← sz_eq]; exact z1.1
    · rw [cs_len]
  | tup xs =>
    obtain ⟨a, vs, rfl, q, r⟩ := red_tup k h1
    cases hf
    refine call_len pins s σ H _ us Q I rv ⟨_, xs.length, rfl, .inr ⟨vs, by rw [hK]; exact q, r.length.symm⟩, q_int k hq⟩
  | lst xs =>
    obtain ⟨a, vs, rfl, q, r⟩ := red_lst h1
    cases hf
    refine call_len pins s σ H _ us Q I rv ⟨_, xs.length, rfl, .inl ⟨vs, SqL.of q, r.length.symm⟩, q_int k hq⟩
  | scr xs =>
    obtain ⟨a, rfl, q⟩ := red_scr k h1
    cases hf
    refine call_len pins s σ H _ us Q I rv ⟨_, xs.length, rfl, .inl ⟨_, by rw [hK]; exact q, by simp⟩, q_int k hq⟩
  | dct ks ds =>
    obtain ⟨a, kvs, rfl, q, r1, r2⟩ := h1
    cases hf
    refine call_lenD pins s σ H _ us Q I rv ⟨a, kvs, rfl, q, ?_⟩
    rw [show kvs.length = ks.length by rw [← List.length_map (f := (·.1)) (as := kvs)]; exact (keysOf_len r1).symm]
    exact q_int k hq
  | _ => cases hf
theorem c_int : CallR X (.type "int") (rC1 G (op1 G.pr .int)) := by
  intro pins s σ H xs us Q I rv h
  obtain ⟨x, rfl, w, d, r, k, h1, hf, hq⟩ := h
  cases d with
  | int i =>
    cases red_int h1
    cases hf
    exact call_int1 pins s σ H _ us Q I rv (.inl ⟨i, rfl, q_int k hq⟩)
  | bl b =>
    cases red_bl h1
    cases hf
    exact call_int1 pins s σ H _ us Q I rv (.inr ⟨b, rfl, q_int k hq⟩)
  | _ => cases hf
theorem c_abs : CallR X (.builtin "abs") (rC1 G (op1 G.pr .abs)) := by
  intro pins s σ H xs us Q I rv h
  obtain ⟨x, rfl, w, d, r, k, h1, hf, hq⟩ := h
  cases d with
  | int i =>
    cases red_int h1
    cases hf
    exact call_abs pins s σ H _ us Q I rv ⟨i, rfl, q_int k hq⟩
  | _ => cases hf
theorem c_list (hK : X.K = G.K) : CallR X (.type "list") (rC1 G (op1 G.pr .list)) := by
  intro pins s σ H xs us Q I rv h
  obtain ⟨x, rfl, w, d, r, k, h1, hf, hq⟩ := h
  cases d with
  | tup xs =>
    obtain ⟨a, vs, rfl, q, r⟩ := red_tup k h1
    cases hf
    exact call_list_of pins s σ H _ us Q I rv ⟨a, vs, rfl, .inr (by rw [hK]; exact q), fun l hl => q_lst k hq r hl⟩
  | lst xs =>
    obtain ⟨a, vs, rfl, q, r⟩ := red_lst h1
    cases hf
    exact call_list_of pins s σ H _ us Q I rv ⟨a, vs, rfl, .inl (SqL.of q), fun l hl => q_lst k hq r hl⟩
  | _ => cases hf
theorem c_tuple (hK : X.K = G.K) : CallR X (.type "tuple") (rC1 G (op1 G.pr .tuple)) := by
  intro pins s σ H xs us Q I rv h
  obtain ⟨x, rfl, w, d, r, k, h1, hf, hq⟩ := h
  cases d with
  | tup xs =>
    obtain ⟨a, vs, e, q, r⟩ := red_tup k h1
    subst e
    cases hf
    exact call_tuple_of pins s σ H _ us Q I rv ⟨a, vs, rfl, .inr ⟨by rw [hK]; exact q, q_val k hq h1⟩⟩
  | lst xs =>
    obtain ⟨a, vs, rfl, q, r⟩ := red_lst h1
    cases hf
    exact call_tuple_of pins s σ H _ us Q I rv ⟨a, vs, rfl, .inl ⟨SqL.of q, fun l hl => q_tup k hq r hl⟩⟩
  | _ => cases hf
theorem c_all (hc : X.calm = true) : CallR X (.builtin "all") (rC1 G (op1 G.pr .all)) := by
  intro pins s σ H xs us Q I rv h
  obtain ⟨x, rfl, w, d, r, k, h1, hf, hq⟩ := h
  cases d with
  | lst xs =>
    obtain ⟨a, vs, rfl, q, r⟩ := red_lst h1
    simp only [op1] at hf
    cases e : D.bls xs with
    | none => rw [e] at hf; cases hf
    | some bs =>
      rw [e] at hf
      cases hf
      have e2 := Reps.bls r e
      subst e2
      exact cr_all hc pins s σ H _ us Q I rv ⟨a, bs, rfl, SqL.of q, q_bl k hq⟩
  | _ => cases hf
theorem c_any (hc : X.calm = true) : CallR X (.builtin "any") (rC1 G (op1 G.pr .any)) := by
  intro pins s σ H xs us Q I rv h
  obtain ⟨x, rfl, w, d, r, k, h1, hf, hq⟩ := h
  cases d with
  | lst xs =>
    obtain ⟨a, vs, rfl, q, r⟩ := red_lst h1
    simp only [op1] at hf
    cases e : D.bls xs with
    | none => rw [e] at hf; cases hf
    | some bs =>
      rw [e] at hf
      cases hf
      have e2 := Reps.bls r e
      subst e2
      exact cr_any hc pins s σ H _ us Q I rv ⟨a, bs, rfl, SqL.of q, q_bl k hq⟩
  | _ => cases hf
theorem c_sum (hc : X.calm = true) : CallR X (.builtin "sum") (rC1 G (op1 G.pr .sum)) := by
  intro pins s σ H xs us Q I rv h
  obtain ⟨x, rfl, w, d, r, k, h1, hf, hq⟩ := h
  cases d with
  | lst xs =>
    obtain ⟨a, vs, rfl, q, r⟩ := red_lst h1
    simp only [op1] at hf
    cases e : D.ints xs with
    | none => rw [e] at hf; cases hf
    | some bs =>
      rw [e] at hf
      cases hf
      have e2 := Reps.ints r e
      subst e2
      exact cr_sum hc pins s σ H _ us Q I rv ⟨a, bs, rfl, SqL.of q, q_int k hq⟩
  | _ => cases hf
theorem u_neg : UnR X (unaryOp .USub) (rP1 G (op1 G.pr .neg)) := by
  intro pins s σ H x v Q I rx h
  obtain ⟨w, d, r, k, h1, hf, hq⟩ := h
  cases d with
  | int i =>
    cases red_int h1
    cases hf
    exact un_neg pins s σ H _ v Q I rx ⟨i, rfl, q_int k hq⟩
  | _ => cases hf
/-- a value's truth -/
theorem tru_red (hK : X.K = G.K) {d : D} {v : V} {b : Bool} (k : ∀ a o, w.pe a = some o → H a = some o) (h : Red G w H d v) (ht : d.truth = some b) : TruV X.K v H b := by
  cases d with
  | non => cases red_non h; cases ht; rfl
  | bl c => cases red_bl h; cases ht; rfl
  | int i => cases red_int h; cases ht; rfl
  | str z =>
    obtain ⟨rfl, z1⟩ := red_str h
    simp only [sok, Bool.and_eq_true, decide_eq_true_eq] at z1
    simp only [D.truth] at ht
    cases ht
    refine ⟨by rw [cs_len, ← sz_eq]; exact z1.1, ?_⟩
    rw [cs_len]
    cases z with
    | nil => rfl
    | cons x y => simp; omega
  | tup xs =>
    obtain ⟨a, vs, rfl, q, r⟩ := red_tup k h
    cases ht
    have l := r.length
    refine .inr (.inl ⟨vs, by rw [hK]; exact q, ?_⟩)
    cases xs <;> cases vs <;> simp_all
  | lst xs =>
    obtain ⟨a, vs, rfl, q, r⟩ := red_lst h
    cases ht
    have l := r.length
    refine .inl ⟨vs, SqL.of q, ?_⟩
    cases xs <;> cases vs <;> simp_all
  | dct ks ds =>
    obtain ⟨a, kvs, rfl, q, r1, r2⟩ := h
    cases ht
    refine .inr (.inr ⟨kvs, q, ?_⟩)
    have : ∀ (ks : List D) (l : List Key), keysOf ks = some l → ks.isEmpty = l.isEmpty := fun ks l e => by
      cases ks with
      | nil => cases e; rfl
      | cons x y =>
        simp only [keysOf] at e
        split at e
        · cases e; rfl
        · cases e
    rw [this ks _ r1]
    cases kvs <;> rfl
  | _ => cases ht
/-! ### an item at a place -/
theorem atI_rep {ds : List D} {vs : List V} {i : Int} {d : D} (r : Reps G w ds vs) (h : Mi.atI ds i = some d) : ∃ v, L2.atI vs i = some v ∧ Rep G w d v := by
  unfold Mi.atI at h
  unfold L2.atI
  rw [r.length]
  cases q : Mi.ixN ds.length i with
  | none => rw [q] at h; cases h
  | some j =>
    rw [q] at h
    obtain ⟨v, h1, h2⟩ := Reps.get r (show ds[j]? = some d from h)
    have q' : L2.ixN ds.length i = some j := q
    exact ⟨v, by rw [q']; exact h1, h2⟩
theorem i_ix (hK : X.K = G.K) : IxR X (rP2 G opIx) := by
  intro value slice pins s σ H x y v u Q I rx ry h hs
  obtain ⟨w, d1, d2, r, k, h1, h2, hf, hq⟩ := h
  cases d1 with
  | lst xs =>
    cases d2 with
    | int i =>
      obtain ⟨a, vs, rfl, q, rr⟩ := red_lst h1
      cases red_int h2
      simp only [opIx] at hf
      cases e : Mi.atI xs i with
      | none => rw [e] at hf; cases hf
      | some d =>
        rw [e] at hf
        cases hf
        obtain ⟨z, g1, g2⟩ := atI_rep rr e
        exact ix_list value slice pins s σ H _ _ v u Q I rx ry ⟨a, vs, i, z, rfl, rfl, SqL.of q, g1, q_val k hq g2⟩ hs
    | _ => cases hf
  | tup xs =>
    cases d2 with
    | int i =>
      obtain ⟨a, vs, rfl, q, rr⟩ := red_tup k h1
      cases red_int h2
      simp only [opIx] at hf
      cases e : Mi.atI xs i with
      | none => rw [e] at hf; cases hf
      | some d =>
        rw [e] at hf
        cases hf
        obtain ⟨z, g1, g2⟩ := atI_rep rr e
        exact ix_tup value slice pins s σ H _ _ v u Q I rx ry ⟨a, vs, i, z, rfl, rfl, by rw [hK]; exact q, g1, q_val k hq g2⟩ hs
    | _ => cases hf
  | scr xs =>
    cases d2 with
    | int i =>
      obtain ⟨a, rfl, q⟩ := red_scr k h1
      cases red_int h2
      simp only [opIx] at hf
      cases e : Mi.atI xs i with
      | none => rw [e] at hf; cases hf
      | some d =>
        rw [e] at hf
        cases hf
        refine ix_list value slice pins s σ H _ _ v u Q I rx ry ⟨a, _, i, .int d, rfl, rfl, by rw [hK]; exact q, ?_, q_int k hq⟩ hs
        unfold Mi.atI at e
        unfold L2.atI
        rw [List.length_map]
        cases z : Mi.ixN xs.length i with
        | none => rw [z] at e; cases e
        | some j =>
          rw [z] at e
          have z' : L2.ixN xs.length i = some j := z
          have e' : xs[j]? = some d := e
          rw [z']
          show (xs.map V.int)[j]? = some (.int d)
          rw [List.getElem?_map, e']
          rfl
    | _ => cases hf
  | str xs =>
    cases d2 with
    | int i =>
      obtain ⟨rfl, z1⟩ := red_str h1
      cases red_int h2
      simp only [opIx] at hf
      cases e : Mi.atI xs i with
      | none => rw [e] at hf; cases hf
      | some c =>
        rw [e] at hf
        cases hf
        simp only [sok, Bool.and_eq_true, decide_eq_true_eq] at z1
        refine ix_str value slice pins s σ H _ _ v u Q I rx ry ⟨_, i, c, rfl, rfl, by rw [cs_len, ← sz_eq]; exact z1.1, by rw [cs_list]; exact e, q_str k hq ?_⟩ hs
        have hm : c ∈ xs := by
          unfold Mi.atI at e
          cases z : Mi.ixN xs.length i with
          | none => rw [z] at e; cases e
          | some j =>
            rw [z] at e
            exact List.mem_of_getElem? (show xs[j]? = some c from e)
        have hc := List.all_eq_true.mp z1.2 c hm
        simp only [sok, Bool.and_eq_true, decide_eq_true_eq, List.length_cons, List.length_nil, List.all_cons, List.all_nil, and_true]
        exact ⟨by decide, of_decide_eq_true hc⟩
    | _ => cases hf
  | _ => cases d2 <;> cases hf
/-! ### slices -/
theorem sIx_cut (n : Nat) (o : Option Int) : HT.sIx n 0 o = loAt n o ∧ HT.sIx n n o = hiAt n o := by
  cases o with
  | none => exact ⟨rfl, rfl⟩
  | some v =>
    have e : ∀ d, HT.sIx n d (some v) = cutAt n v := fun d => by
      show (if v < 0 then (v + (n : Int)).toNat else min v.toNat n) = _
      unfold cutAt
      by_cases h : v < 0
      · rw [if_pos h, if_neg (by omega)]
      · rw [if_neg h, if_pos (by omega)]
    exact ⟨e 0, e n⟩
theorem cut_rep {ds : List D} {vs : List V} {lo hi : Option Int} (r : Reps G w ds vs) : Reps G w (cut ds lo hi) (cutV vs lo hi) := by
  unfold cut cutV
  rw [(sIx_cut vs.length lo).1, (sIx_cut vs.length hi).2, r.length]
  exact (r.drop _).take _
def rS (G : Gx) : V → Option Int → Option Int → Hp → VK → Prop := fun x lo hi H Q => ∃ w d r, (∀ a o, w.pe a = some o → H a = some o) ∧ Red G w H d x ∧ opSl d (lo.map .int) (hi.map .int) = some r ∧ ∀ w' H' v, Gro w H w' H' → NewR G H w' H' r v → Q v H'
theorem bnd_map (o : Option Int) : bnd (o.map .int) = some o := by cases o <;> rfl
theorem sok_cut {s : List Nat} {lo hi : Option Int} (h : sok s = true) : sok (cut s lo hi) = true := by
  simp only [sok, Bool.and_eq_true, decide_eq_true_eq] at h ⊢
  have sub : ∀ c ∈ cut s lo hi, c ∈ s := fun c hc => List.mem_of_mem_drop (List.mem_of_mem_take hc)
  have len : (cut s lo hi).length ≤ s.length := by
    unfold cut
    rw [List.length_take, List.length_drop]
    omega
  exact ⟨Nat.le_trans len h.1, List.all_eq_true.mpr fun c hc => List.all_eq_true.mp h.2 c (sub c hc)⟩
theorem s_sl (hK : X.K = G.K) : SlR X (rS G) := by
  intro pins s σ H x v vl vu lo hi sl Q I rx hs pl pu h
  obtain ⟨w, d, r, k, h1, hf, hq⟩ := h
  unfold opSl at hf
  rw [bnd_map, bnd_map] at hf
  dsimp only at hf
  cases d with
  | lst xs =>
    obtain ⟨a, vs, rfl, q, rr⟩ := red_lst h1
    cases hf
    exact sl_list pins s σ H _ v vl vu lo hi sl Q I rx hs pl pu ⟨a, vs, rfl, SqL.of q, fun p hp => q_lst k hq (cut_rep rr) hp⟩
  | tup xs =>
    obtain ⟨a, vs, e, q, rr⟩ := red_tup k h1
    subst e
    cases hf
    refine sl_tupA pins s σ H _ v vl vu lo hi sl Q I rx hs pl pu ⟨a, vs, rfl, by rw [hK]; exact q, fun hw => ?_, fun hw p hp => q_tup k hq (cut_rep rr) hp⟩
    have e : cut xs lo hi = xs := by
      rw [(sIx_cut vs.length lo).1, (sIx_cut vs.length hi).2, rr.length] at hw
      unfold cut
      rw [hw.1, hw.2, List.drop_zero, Nat.sub_zero, List.take_length]
    rw [e] at hq
    exact q_val k hq h1
  | str xs =>
    obtain ⟨rfl, z1⟩ := red_str h1
    cases hf
    have z2 := z1
    simp only [sok, Bool.and_eq_true, decide_eq_true_eq] at z2
    refine sl_str pins s σ H _ v vl vu lo hi sl Q I rx hs pl pu ⟨cs xs, rfl, by rw [cs_len, ← sz_eq]; exact z2.1, ?_⟩
    have e : cutS (cs xs) lo hi = cs (cut xs lo hi) := by
      unfold cutS cut
      rw [cs_list, cs_len, (sIx_cut xs.length lo).1, (sIx_cut xs.length hi).2]
      rfl
    rw [e]
    exact q_str k hq (sok_cut z1)
  | _ => cases hf
/-! ### methods of texts -/
theorem m_upper : MtR X "str.upper" (fun x xs H Q => xs = [] ∧ rP1 G (opM0 .upper) x H Q) := by
  intro pins s σ H x xs v us Q I rx rxs h
  obtain ⟨rfl, w, d, r, k, h1, hf, hq⟩ := h
  cases d with
  | str z =>
    obtain ⟨rfl, z1⟩ := red_str h1
    simp only [opM0] at hf
    split at hf
    · rename_i c
      cases hf
      refine mt_upper pins s σ H _ _ v us Q I rx rxs ⟨cs z, rfl, rfl, by rw [cs_len]; exact c.1, ?_⟩
      have all : ∀ x ∈ z, x < 128 := fun x hx => of_decide_eq_true (List.all_eq_true.mp c.2 x hx)
      have e : Txt.upper (cs z) = cs (z.map Mi.up1) := by
        rw [PyProof.Rows.upper_ascii (by rw [cs_list]; exact all)]
        simp only [cs, List.map_toArray]
        congr 1
      rw [e]
      refine q_str k hq ?_
      simp only [sok, Bool.and_eq_true, decide_eq_true_eq, List.length_map] at z1 ⊢
      refine ⟨z1.1, List.all_eq_true.mpr fun x hx => ?_⟩
      obtain ⟨y, hy, rfl⟩ := List.mem_map.mp hx
      have := all y hy
      unfold Mi.up1
      exact decide_eq_true (by split <;> omega)
    · cases hf
  | _ => cases hf
end
end Mi
set_option linter.all false
set_option maxRecDepth 100000
set_option maxHeartbeats 1000000
/-! S6: repr of data. -/
namespace Mi
open PySem PySem.Spec PyProof.Rows L2
mutual
/-- data that repr can show, of a depth -/
def D.dat : Nat → D → Bool
  | _, .non => true
  | _, .bl _ => true
  | _, .int i => decide (i.natAbs.log2 < 1920)
  | _, .str _ => true
  | n + 1, .tup xs => dats n xs
  | n + 1, .lst xs => dats n xs
  | n + 1, .dct ks vs => (D.strs ks).isSome && (decide (ks.length = vs.length) && dats n vs)
  | _, _ => false
def dats : Nat → List D → Bool
  | _, [] => true
  | n, x :: xs => x.dat n && dats n xs
end
def repOf (d : D) : Option (List Nat) := if d.dat 50 && sok (toPy d).shown.cps.toList then some (toPy d).shown.cps.toList else none
section
variable {X : Cx} {G : Gx} {w : Wd} {H : Hp}
theorem toPys_map (ds : List D) : toPys ds = ds.map toPy := by
  induction ds with
  | nil => rfl
  | cons d ds ih => rw [toPys, ih]; rfl
theorem zip_fst {α β : Type} : ∀ (a : List α) (b : List β), a.length = b.length → (List.zip a b).map (·.1) = a
  | [], [], _ => rfl
  | x :: a, y :: b, h => by
    show x :: (List.zip a b).map (·.1) = x :: a
    rw [zip_fst a b (by simpa using h)]
  | [], _ :: _, h => by simp at h
  | _ :: _, [], h => by simp at h
theorem zip_snd {α β : Type} : ∀ (a : List α) (b : List β), a.length = b.length → (List.zip a b).map (·.2) = b
  | [], [], _ => rfl
  | x :: a, y :: b, h => by
    show y :: (List.zip a b).map (·.2) = y :: b
    rw [zip_snd a b (by simpa using h)]
  | [], _ :: _, h => by simp at h
  | _ :: _, [], h => by simp at h
theorem kv_show : ∀ (ks vs : List D) (ss : List (List Nat)), D.strs ks = some ss → PyData.showableAll (toPys vs) = true → PyData.showableKv (List.zip (toPys ks) (toPys vs)) = true ∧ PyData.depthKv (List.zip (toPys ks) (toPys vs)) ≤ PyData.depthAll (toPys vs)
  | [], vs, _, _, _ => by simp [toPys, PyData.showableKv, PyData.depthKv]
  | k :: ks, [], _, _, _ => by simp [toPys, PyData.showableKv, PyData.depthKv]
  | k :: ks, v :: vs, ss, h, hs => by
    cases k with
    | str z =>
      simp only [D.strs] at h
      cases q : D.strs ks with
      | none => rw [q] at h; cases h
      | some l =>
        simp only [toPys, PyData.showableAll, Bool.and_eq_true] at hs
        obtain ⟨a1, a2⟩ := kv_show ks vs l q hs.2
        simp only [toPys, List.zip_cons_cons, PyData.showableKv, PyData.depthKv, PyData.depthAll, toPy, PyData.showable, PyData.depth, hs.1, a1]
        exact ⟨rfl, by omega⟩
    | _ => cases h
mutual
theorem dat_show : ∀ (n : Nat) (d : D), d.dat n = true → (toPy d).showable = true ∧ (toPy d).depth ≤ n
  | n, .non, _ => by simp [toPy, PyData.showable, PyData.depth]
  | n, .bl _, _ => by simp [toPy, PyData.showable, PyData.depth]
  | n, .str _, _ => by simp [toPy, PyData.showable, PyData.depth]
  | n, .int i, h => by
    simp only [D.dat, decide_eq_true_eq] at h
    simp [toPy, PyData.showable, PyData.depth, h]
  | n + 1, .tup xs, h => by
    simp only [D.dat] at h
    obtain ⟨h1, h2⟩ := dats_show n xs h
    simp only [toPy, PyData.showable, PyData.depth]
    exact ⟨h1, by omega⟩
  | n + 1, .lst xs, h => by
    simp only [D.dat] at h
    obtain ⟨h1, h2⟩ := dats_show n xs h
    simp only [toPy, PyData.showable, PyData.depth]
    exact ⟨h1, by omega⟩
  | n + 1, .dct ks vs, h => by
    simp only [D.dat, Bool.and_eq_true, decide_eq_true_eq] at h
    obtain ⟨g1, g2⟩ := dats_show n vs h.2.2
    obtain ⟨ss, hss⟩ := Option.isSome_iff_exists.mp h.1
    obtain ⟨a1, a2⟩ := kv_show ks vs ss hss g1
    simp only [toPy, PyData.showable, PyData.depth]
    exact ⟨a1, by omega⟩
  | 0, .tup xs, hp => by simp [D.dat] at hp
  | 0, .lst xs, hp => by simp [D.dat] at hp
  | 0, .dct _ _, hp => by simp [D.dat] at hp
  | _, .obj _ _, hp => by simp [D.dat] at hp
  | _, .exc _ _, hp => by simp [D.dat] at hp
  | _, .ref _, hp => by simp [D.dat] at hp
  | _, .scr _, hp => by simp [D.dat] at hp
  | _, .und, hp => by simp [D.dat] at hp
theorem dats_show : ∀ (n : Nat) (ds : List D), dats n ds = true → PyData.showableAll (toPys ds) = true ∧ PyData.depthAll (toPys ds) ≤ n
  | n, [], _ => by simp [toPys, PyData.showableAll, PyData.depthAll]
  | n, d :: ds, h => by
    simp only [dats, Bool.and_eq_true] at h
    obtain ⟨a1, a2⟩ := dat_show n d h.1
    obtain ⟨b1, b2⟩ := dats_show n ds h.2
    simp only [toPys, PyData.showableAll, PyData.depthAll, a1, b1]
    exact ⟨rfl, by omega⟩
end
/-- the table of the modules is no list -/
def NoSys (K : PySem.W.Frag) : Prop := ∃ o, K.lookup sysModules = some o ∧ o.cls = .type "dict"
section
variable {pins : List (Addr × Obj)} {σ : L2.St} {s : Shared} (hK : X.K = G.K) (hS : NoSys G.K) (k : ∀ a o, w.pe a = some o → H a = some o) (I : Inv X pins σ H s)
include hK hS k I
theorem list_reads {a : Addr} {vs : List V} {ps : List PyData} (q : H a = some (.lst vs)) (h : ∀ us, Vals vs us → ∃ as, ReadsAll s.heap us ps as ∧ sysModules ∉ as) : ∃ as, Reads s.heap (.ref a) (.list ps) as ∧ sysModules ∉ as := by
  obtain ⟨_, its, n, r, e⟩ := I.hok a _ q
  obtain ⟨as, h1, h2⟩ := h its r
  refine ⟨a :: as, .list (vs := its.toArray) e rfl rfl (by simpa using h1), fun z => ?_⟩
  rcases List.mem_cons.mp z with z | z
  · obtain ⟨o, hk, hc⟩ := hS
    have kin := I.kIn
    rw [hK] at kin
    have y := kin _ _ hk
    rw [z, e] at y
    cases y
    exact absurd (show Value.type "list" = Value.type "dict" from hc) (by decide)
  · exact h2 z
theorem tup_reads {a : Addr} {vs : List V} {ps : List PyData} (q : SqT G.K H a vs) (h : ∀ us, Vals vs us → ∃ as, ReadsAll s.heap us ps as ∧ sysModules ∉ as) : ∃ as, Reads s.heap (.ref a) (.tuple ps) as ∧ sysModules ∉ as := by
  rw [← hK] at q
  obtain ⟨its, r, ⟨o, e, c, n, d⟩, _⟩ := I.tuple q
  obtain ⟨as, h1, h2⟩ := h its r
  exact ⟨as, .tuple (vs := its.toArray) e c d (by simpa using h1), h2⟩
theorem keys_reads : ∀ (ks : List D) (l : List Key) (es : List DictEntry) (kv : List (Key × Value)), keysOf ks = some l → Pairs (mixKind X.prog X.w) es kv → kv.map (·.1) = l → ReadsAll s.heap (es.map (·.key)) (toPys ks) []
  | [], l, es, kv, h, p, e => by
    cases h
    have z : kv = [] := List.map_eq_nil_iff.mp e
    subst z
    cases p
    simp only [toPys]
    exact .nil
  | x :: ks, l, es, kv, h, p, e => by
    simp only [keysOf] at h
    cases q1 : keyOf x with
    | none => rw [q1] at h; cases h
    | some a =>
      cases q2 : keysOf ks with
      | none => rw [q1, q2] at h; cases h
      | some r =>
        rw [q1, q2] at h
        cases h
        cases p with
        | nil => cases e
        | @cons e0 kv0 es0 kvs0 g1 g2 g3 =>
          simp only [List.map_cons, List.cons.injEq] at e
          have ih := keys_reads ks r es0 kvs0 q2 g3 e.2
          have hr : Reads s.heap e0.key (toPy x) [] := by
            rw [e.1] at g1
            cases x with
            | int i =>
              cases q1
              rcases keyIs_shape (show keyIs (.inl i) e0.key = true from g1) with ⟨j, t, z1, z2⟩ | ⟨_, _, z1, _⟩
              · cases z1
                rw [z2]
                simp only [toPy]
                exact .int _ _
              · cases z1
            | str z =>
              cases q1
              rcases keyIs_shape (show keyIs (.inr (cs z)) e0.key = true from g1) with ⟨_, _, z1, _⟩ | ⟨y, t, z1, z2⟩
              · cases z1
              · cases z1
                rw [z2]
                simp only [toPy]
                exact .str _ _
            | _ => cases q1
          simp only [List.map_cons, toPys]
          exact ReadsAll.cons (as := []) (bs := []) hr ih
theorem pairs_vals : ∀ {es : List DictEntry} {kv : List (Key × Value)} {kvs : List (Key × V)}, Pairs (mixKind X.prog X.w) es kv → KV kvs kv → Vals (kvs.map (·.2)) (es.map (·.val))
  | _, _, _, .nil, r => by
    cases r
    exact .nil
  | _, _, _, .cons g1 g2 g3, r => by
    cases r with
    | cons r1 r2 =>
      simp only [List.map_cons]
      refine .cons ?_ (pairs_vals g3 r2)
      rw [g2]
      exact r1.2
theorem kv_fst : ∀ {kv : List (Key × Value)} {kvs : List (Key × V)}, KV kvs kv → kv.map (·.1) = kvs.map (·.1)
  | _, _, .nil => rfl
  | _, _, .cons r1 r2 => by
    simp only [List.map_cons, List.cons.injEq]
    exact ⟨r1.1.symm, kv_fst r2⟩
theorem dct_reads {a : Addr} {kvs : List (Key × V)} {ks ds : List D} (q : H a = some (.dK kvs)) (hk : keysOf ks = some (kvs.map (·.1))) (hl : ks.length = ds.length) (h : ∀ us, Vals (kvs.map (·.2)) us → ∃ as, ReadsAll s.heap us (toPys ds) as ∧ sysModules ∉ as) :
    ∃ as, Reads s.heap (.ref a) (.dict (List.zip (toPys ks) (toPys ds))) as ∧ sysModules ∉ as := by
  obtain ⟨_, ns, vs, r, o, es, ep, e, ex, d, _, pr, _⟩ := I.hok a _ q
  have kr := keys_reads hK hS k I ks _ es.toList vs hk pr (kv_fst hK hS k I r)
  obtain ⟨bs, b1, b2⟩ := h _ (pairs_vals hK hS k I pr r)
  have l2 : (toPys ks).length = (toPys ds).length := by rw [toPys_map, toPys_map, List.length_map, List.length_map, hl]
  refine ⟨a :: [] ++ bs, .dict e ex.1 d (by rw [zip_fst _ _ l2]; exact kr) (by rw [zip_snd _ _ l2]; exact b1), fun z => ?_⟩
  simp only [List.cons_append, List.nil_append, List.mem_cons] at z
  rcases z with z | z
  · rw [← z] at ns
    exact absurd ns (by decide)
  · exact b2 z
end
mutual
theorem rep_reads {pins : List (Addr × Obj)} {σ : L2.St} {s : Shared} (hK : X.K = G.K) (hS : NoSys G.K) (k : ∀ a o, w.pe a = some o → H a = some o) (I : Inv X pins σ H s) :
    ∀ (n : Nat) (d : D) (v : V) (u : Value), d.dat n = true → Rep G w d v → RelV v u → ∃ as, Reads s.heap u (toPy d) as ∧ sysModules ∉ as
  | n, .non, v, u, _, h, r => by
    have e : v = .non := by simpa [Rep] using h
    subst e
    cases r
    exact ⟨[], by simp only [toPy]; exact .none, by simp⟩
  | n, .bl b, v, u, _, h, r => by
    have e : v = .bl b := by simpa [Rep] using h
    subst e
    cases r
    exact ⟨[], by simp only [toPy]; exact .bool _, by simp⟩
  | n, .int i, v, u, _, h, r => by
    have e : v = .int i := by simpa [Rep] using h
    subst e
    obtain ⟨t, rfl⟩ := r
    exact ⟨[], by simp only [toPy]; exact .int _ _, by simp⟩
  | n, .str z, v, u, _, h, r => by
    have e : v = .str (cs z) ∧ sok z = true := by simpa [Rep] using h
    obtain ⟨rfl, _⟩ := e
    obtain ⟨t, rfl⟩ := r
    exact ⟨[], by simp only [toPy]; exact .str _ _, by simp⟩
  | n + 1, .tup xs, v, u, hp, h, r => by
    simp only [D.dat] at hp
    simp only [Rep] at h
    obtain ⟨a, vs, rfl, q, rr⟩ := h
    cases r
    simp only [toPy]
    exact tup_reads hK hS k I (sqT_up k q) fun us hv => reps_reads hK hS k I n xs vs us hp rr hv
  | n + 1, .lst xs, v, u, hp, h, r => by
    simp only [D.dat] at hp
    simp only [Rep] at h
    obtain ⟨a, vs, rfl, q, rr⟩ := h
    cases r
    simp only [toPy]
    exact list_reads hK hS k I (k _ _ q) fun us hv => reps_reads hK hS k I n xs vs us hp rr hv
  | n + 1, .dct ks ds, v, u, hp, h, r => by
    simp only [D.dat, Bool.and_eq_true, decide_eq_true_eq] at hp
    simp only [Rep] at h
    obtain ⟨a, kvs, rfl, q, r1, r2⟩ := h
    cases r
    simp only [toPy]
    exact dct_reads hK hS k I (k _ _ q) r1 hp.2.1 fun us hv => reps_reads hK hS k I n ds _ us hp.2.2 r2 hv
  | 0, .tup xs, _, _, hp, _, _ => by simp [D.dat] at hp
  | 0, .lst xs, _, _, hp, _, _ => by simp [D.dat] at hp
  | 0, .dct _ _, _, _, hp, _, _ => by simp [D.dat] at hp
  | _, .obj _ _, _, _, hp, _, _ => by simp [D.dat] at hp
  | _, .exc _ _, _, _, hp, _, _ => by simp [D.dat] at hp
  | _, .ref _, _, _, hp, _, _ => by simp [D.dat] at hp
  | _, .scr _, _, _, hp, _, _ => by simp [D.dat] at hp
  | _, .und, _, _, hp, _, _ => by simp [D.dat] at hp
theorem reps_reads {pins : List (Addr × Obj)} {σ : L2.St} {s : Shared} (hK : X.K = G.K) (hS : NoSys G.K) (k : ∀ a o, w.pe a = some o → H a = some o) (I : Inv X pins σ H s) :
    ∀ (n : Nat) (ds : List D) (vs : List V) (us : List Value), dats n ds = true → Reps G w ds vs → Vals vs us → ∃ as, ReadsAll s.heap us (toPys ds) as ∧ sysModules ∉ as
  | n, [], vs, us, _, h, r => by
    have e : vs = [] := by simpa [Reps] using h
    subst e
    cases r
    exact ⟨[], by simp only [toPys]; exact .nil, by simp⟩
  | n, d :: ds, vs, us, hp, h, r => by
    simp only [dats, Bool.and_eq_true] at hp
    simp only [Reps] at h
    obtain ⟨v, vr, rfl, h1, h2⟩ := h
    cases r with
    | cons r1 r2 =>
      obtain ⟨as, a1, a2⟩ := rep_reads hK hS k I n d v _ hp.1 h1 r1
      obtain ⟨bs, b1, b2⟩ := reps_reads hK hS k I n ds vr _ hp.2 h2 r2
      exact ⟨as ++ bs, by simp only [toPys]; exact .cons a1 b1, fun z => (List.mem_append.mp z).elim a2 b2⟩
end
theorem red_reads {pins : List (Addr × Obj)} {σ : L2.St} {s : Shared} (hK : X.K = G.K) (hS : NoSys G.K) (k : ∀ a o, w.pe a = some o → H a = some o) (I : Inv X pins σ H s) {n : Nat} {d : D} {v : V} {u : Value} (hp : d.dat (n + 1) = true) (h : Red G w H d v) (r : RelV v u) :
    ∃ as, Reads s.heap u (toPy d) as ∧ sysModules ∉ as := by
  cases d with
  | lst xs =>
    obtain ⟨a, vs, rfl, q, rr⟩ := red_lst h
    cases r
    simp only [D.dat] at hp
    simp only [toPy]
    exact list_reads hK hS k I q fun us hv => reps_reads hK hS k I n xs vs us hp rr hv
  | dct ks ds =>
    obtain ⟨a, kvs, rfl, q, r1, r2⟩ := h
    cases r
    simp only [D.dat, Bool.and_eq_true, decide_eq_true_eq] at hp
    simp only [toPy]
    exact dct_reads hK hS k I q r1 hp.2.1 fun us hv => reps_reads hK hS k I n ds _ us hp.2.2 r2 hv
  | _ => exact rep_reads hK hS k I (n + 1) _ v u hp h r
theorem c_repr (hK : X.K = G.K) (hS : NoSys G.K) (hR : G.pr.rep = repOf) (hg : X.A.guards = some []) (hu : X.A.units + 64 < cLine) : CallR X (.builtin "repr") (rC1 G (op1 G.pr .repr)) := by
  intro pins s σ H xs us Q I rv h
  obtain ⟨x, rfl, w, d, r, k, h1, hf, hq⟩ := h
  obtain ⟨u, rfl, ru⟩ := vals1 rv
  simp only [op1, hR, repOf] at hf
  split at hf
  · rename_i c
    rw [Bool.and_eq_true] at c
    cases hf
    obtain ⟨as, h2, h3⟩ := red_reads (n := 49) hK hS k I c.1 h1 ru
    obtain ⟨s1, s2⟩ := dat_show 50 d c.1
    have c2 := c.2
    simp only [sok, Bool.and_eq_true, decide_eq_true_eq] at c2
    have hz : (toPy d).shown.length ≤ sizeLine := by
      rw [← sz_eq]
      exact Nat.le_trans (Nat.le_of_eq (by simp [Str.length])) c2.1
    have fin : ∀ h' tk t, (∀ b o, s.heap.get? b = some o → h'.get? b = some o) → EP X pins σ Q (.str (toPy d).shown t) { s with heap := h', toks := tk } := fun h' tk t kk => by
      refine ⟨.str (toPy d).shown, H, I.kept kk, ⟨_, rfl⟩, ?_⟩
      have e : (toPy d).shown = cs (toPy d).shown.cps.toList := by simp [cs]
      rw [e]
      exact q_str k hq c.2
    have ref : ∀ a, u = .ref a → wpAny (model X.prog X.w) X.A (call (.builtin "repr") [u]) (EP X pins σ Q) X.xe s := fun a e => by
      subst e
      exact repr_of_reads' h2 s1 (fun _ => h3) hg (by omega) (fun _ _ z => z) (fun h' t tk kk => fin h' tk t kk) hz
    cases d with
    | non =>
      cases red_non h1
      cases ru
      exact PySem.P.repr_of_none (fin s.heap _ _ fun _ _ z => z)
    | bl b =>
      cases red_bl h1
      cases ru
      exact PySem.P.repr_of_bool (fin s.heap _ _ fun _ _ z => z)
    | int i =>
      cases red_int h1
      obtain ⟨t, rfl⟩ := ru
      have c1 := c.1
      simp only [D.dat, decide_eq_true_eq] at c1
      exact PySem.P.repr_of_int c1 (fin s.heap _ _ fun _ _ z => z)
    | str z =>
      obtain ⟨rfl, _⟩ := red_str h1
      obtain ⟨t, rfl⟩ := ru
      exact PySem.P.repr_of_str (fin s.heap _ _ fun _ _ z => z) hz
    | tup xs =>
      obtain ⟨a, vs, rfl, _⟩ := red_tup k h1
      exact ref a ru
    | lst xs =>
      obtain ⟨a, vs, rfl, _⟩ := red_lst h1
      exact ref a ru
    | dct ks ds =>
      obtain ⟨a, kvs, rfl, _⟩ := h1
      exact ref a ru
    | _ => simp [D.dat] at c
  · cases hf
end
end Mi
set_option linter.all false
set_option maxRecDepth 100000
set_option maxHeartbeats 1000000
/-! S7: a sequence from behind; dicts that are written. -/
namespace Mi
open PySem PySem.Spec PyProof.Rows L2
theorem fm_congr {α β : Type} {f g : α → Option β} : ∀ {l : List α}, (∀ x ∈ l, f x = g x) → l.filterMap f = l.filterMap g
  | [], _ => rfl
  | x :: l, h => by
    rw [List.filterMap_cons, List.filterMap_cons, h x List.mem_cons_self, fm_congr (l := l) fun y hy => h y (List.mem_cons_of_mem _ hy)]
theorem rev_pick (xs : Array Value) : ((List.range xs.size).filterMap fun (m : Nat) => xs[(((xs.size : Int) - 1) + (m : Int) * (-1)).toNat]?).toArray = xs.toList.reverse.toArray := by
  have e : ∀ m ∈ List.range xs.size, xs[(((xs.size : Int) - 1) + (m : Int) * (-1)).toNat]? = xs[xs.size - 1 - m]? := fun m hm => by
    have := List.mem_range.mp hm
    congr 1
    omega
  rw [fm_congr e]
  have z := PySem.W.krv_range xs.size
  have y := PySem.W.krv_all xs
  have x : (List.range xs.size).filterMap (fun m => xs[xs.size - 1 - m]?) = ((List.range xs.size).map (fun m => xs.size - 1 - m)).filterMap (fun m => xs[m]?) := by
    rw [List.filterMap_map]
    rfl
  rw [x, z, List.filterMap_reverse, y]
section
variable {prog : Program} {w : World} {A : Around} {E : Value → Shared → Prop} {s : Shared}
theorem applied_rev {sl : Addr} {vs : Value} {n : Nat} {Q : Int × Int × Nat → Shared → Prop} (hs : s.heap.IsSliceOf sl .none .none vs) (ps : IsPart vs (some (-1))) (h : Q ((n : Int) - 1, -1, n) s) :
    wpAny (model prog w) A (Builtin.Slice.sliceApplied (.ref sl) (pure (n : Int))) Q E s := by
  obtain ⟨os, hos, hcs, hds⟩ := id hs
  unfold Builtin.Slice.sliceApplied Builtin.Slice.sliceFields
  refine wpAny_bind (wpAny_bind (wpAny_field hos hds (x := .none) rfl (wpAny_bind (wpAny_field hos hds (x := .none) rfl (wpAny_bind (wpAny_field hos hds (x := vs) rfl (wpAny_pure ?_)))))))
  refine wpAny_bind (HT.slicePart_ ps ?_)
  show wpAny _ _ (if ((-1 : Int) == 0) = true then _ else _) _ _ s
  rw [if_neg (by decide)]
  refine wpAny_bind (HT.slicePart_ .none (wpAny_bind (HT.slicePart_ .none (wpAny_bind (wpAny_pure ?_)))))
  show wpAny _ _ (match Builtin.Slice.sliceAdjust none none (-1) (n : Int) with | (lo, hi) => pure (lo, (-1 : Int), Builtin.Slice.slicePlaces lo hi (-1))) _ _ s
  have e1 : Builtin.Slice.sliceAdjust none none (-1) (n : Int) = ((n : Int) - 1, -1) := rfl
  rw [e1]
  have e2 : Builtin.Slice.slicePlaces ((n : Int) - 1) (-1) (-1) = n := by
    unfold Builtin.Slice.slicePlaces
    rw [if_neg (by decide)]
    by_cases z : (n : Int) - 1 > -1
    · rw [if_pos z]
      have : ((n : Int) - 1 - -1 - 1) / (- -1) = (n : Int) - 1 := by
        rw [show (- -1 : Int) = 1 from rfl, Int.ediv_one]
        omega
      rw [this]
      omega
    · rw [if_neg z]
      omega
  show wpAny _ _ (pure ((n : Int) - 1, (-1 : Int), Builtin.Slice.slicePlaces ((n : Int) - 1) (-1) (-1))) _ _ s
  rw [e2]
  exact wpAny_pure h
theorem item_rev {t sl : Addr} {items : Array Value} {vs : Value} {Q : Value → Shared → Prop} (ht : IsTup s.heap t items) (hs : s.heap.IsSliceOf sl .none .none vs) (ps : IsPart vs (some (-1)))
    (h : Q (.ref s.heap.objs.size) { s with heap := s.heap.push { cls := .type "tuple", data := .seq items.toList.reverse.toArray } }) (hsz : items.size ≤ sizeLine) : wpAny (model prog w) A (getItem (.ref t) (.ref sl)) Q E s := by
  have htake : sizeOk (.seq items.toList.reverse.toArray) := by
    show items.toList.reverse.toArray.size ≤ sizeLine
    rw [List.size_toArray, List.length_reverse, Array.length_toList]
    exact hsz
  obtain ⟨os, hos, hcs, hds⟩ := id hs
  have hTs : s.TypeIs (.ref sl) "slice" := ⟨os, hos, hcs⟩
  unfold getItem
  try with_reducible refine wpAny_holding ?_
  first | refine wpAny_bind (wpAny_pure ?_) | skip
  refine wpAny_bind (wpAny_sequenceKey ht.typeIs (by decide) ?_)
  refine wpAny_bind (wpAny_callSpecial?_slot (name := Str.ofString "__getitem__") ht.typeIs PyProof.Rows.slot_tuple_getitem (wpAny_call_entry PyProof.Rows.slot_tuple_getitem ht.typeIs entry_tuple_getitem ?_ (args_tuple_getitem _ _)))
  show wpAny _ _ (Builtin.Tuple.tupleItemsOf (.ref t) >>= _) _ _ s
  refine wpAny_bind (tupleItemsOf_ ht (wpAny_bind (wpAny_typeOf hTs ?_)))
  rw [if_pos (by decide)]
  refine wpAny_bind (applied_rev hs ps ?_)
  have hno : ¬ (((items.size : Int) - 1 == 0 && (-1 : Int) == 1 && items.size == items.size) = true) := by simp
  show wpAny _ _ (if ((items.size : Int) - 1 == 0 && (-1 : Int) == 1 && items.size == items.size) = true then _ else _) _ _ s
  rw [if_neg hno, rev_pick]
  first
    | exact wpAny_bind (m := Builtin.Tuple.tupleExact _) (wpAny_newObj_type (wpAny_pure ⟨_, rfl, wpAny_pure h⟩) htake)
    | exact wpAny_bind (m := Builtin.Tuple.tupleExact _) (wpAny_newObj_type (wpAny_bind (wpAny_pure (wpAny_pure ⟨_, rfl, wpAny_pure h⟩))) htake)
    | exact wpAny_bind (wpAny_bind (m := Builtin.Tuple.tupleExact _) (wpAny_newObj_type (wpAny_pure (wpAny_pure ⟨_, rfl, wpAny_pure h⟩)) htake))
    | exact wpAny_bind (wpAny_bind (m := Builtin.Tuple.tupleExact _) (wpAny_newObj_type (wpAny_pure ⟨_, rfl, wpAny_pure h⟩) htake))
end
section
variable {X : Cx} {G : Gx}
theorem pe_rev {e : Expr} {te : TE} {k : Nat} {p1 p2 p3 pos : Pos} (hK : X.K = G.K) (he : PE X e te) :
    PE X (.Subscript e (.Slice none none (some (.UnaryOp .USub (.Constant (.int 1) k p1) p2)) p3) pos) (tUn (rP1 G (op1 G.pr .rev)) te) := by
  refine ⟨fun pins s σ H Q I h => ?_⟩
  refine Subscript_ (thn (he.run pins s σ H _ I h) fun v s1 ⟨x, H1, I1, r1, q1⟩ => ?_)
  have hst : PO X (some (.UnaryOp .USub (.Constant (.int 1) k p1) p2)) (tPart (tUn (rU fun i => .int (-i)) (tC (.int 1)))) := po_some (pe_un un_neg pe_int)
  refine wpAny_Slice (thn (po_none.run pins s1 σ H1 (fun o H2 => o = none ∧ H2 = H1) I1 ⟨rfl, rfl⟩) fun vl s2 ⟨l, H2, I2, pl, el, e2⟩ => ?_)
  subst el e2
  refine thn (po_none.run pins s2 σ H2 (fun o H3 => o = none ∧ H3 = H2) I2 ⟨rfl, rfl⟩) fun vu s3 ⟨u, H3, I3, pu, eu, e3⟩ => ?_
  subst eu e3
  refine thn (hst.run pins s3 σ H3 (fun o H4 => o = some (-1) ∧ H4 = H3) I3 ⟨1, rfl, -1, rfl, rfl, rfl⟩) fun vs s4 ⟨o, H4, I4, ps, eo, e4⟩ => ?_
  subst eo e4
  have I5 : Inv X pins σ H4 { s4 with heap := s4.heap.push { cls := .type "slice", data := .fields #[vl, vu, vs] } } := I4.kept (t' := s4.toks) fun b ob q => Heap.get?_push_of_some _ q
  obtain ⟨w, d, r, kk, h1, hf, hq⟩ := q1
  cases d with
  | lst xs =>
    obtain ⟨a, ws, rfl, q, rr⟩ := red_lst h1
    cases hf
    cases r1
    obtain ⟨its, rv, ht, hz⟩ := I5.list (SqL.of q)
    have hlen := rv.length
    refine tail_any (ops := [.ref a, .ref s4.heap.objs.size]) ht.isList.typeIs (PySem.slot_list_getitem.lookup) ?_ (by with_unfolding_all rfl)
    refine wpAny_getItem_list_slice ht.isList (Heap.IsSliceOf.new _ vl vu vs) pl pu ps (by decide) ?_ (by rw [List.size_toArray]; omega)
    rw [PySem.W.krv_pick]
    refine ⟨.ref _, _, I5.laid (t' := s4.toks) (o := .lst ws.reverse) (fun b ob q => Heap.get?_push_of_some _ q) (Nat.le_refl _) ?_, rfl, q_lst kk hq rr.rev (I5.hok.fresh (Nat.le_refl _))⟩
    exact ⟨by rw [List.length_reverse]; exact hz, _, 0, rv.reverse, Heap.get?_push_size _ rfl⟩
  | tup xs =>
    obtain ⟨a, ws, rfl, q, rr⟩ := red_tup kk h1
    cases hf
    cases r1
    obtain ⟨its, rv, ht, hz⟩ := I5.tuple (by rw [hK]; exact q)
    have hlen := rv.length
    cases pl
    cases pu
    refine tail_any (ops := [.ref a, .ref s4.heap.objs.size]) ht.typeIs PyProof.Rows.slot_tuple_getitem.lookup ?_ (by with_unfolding_all rfl)
    refine item_rev ht (Heap.IsSliceOf.new _ .none .none vs) ps ?_ (by rw [List.size_toArray]; omega)
    refine ⟨.ref _, _, I5.laid (t' := s4.toks) (o := .tup ws.reverse) (fun b ob q => Heap.get?_push_of_some _ q) (Nat.le_refl _) ?_, rfl, q_tup kk hq rr.rev (I5.hok.fresh (Nat.le_refl _))⟩
    exact ⟨by rw [List.length_reverse]; exact hz, _, rv.reverse, IsTup.new _ _⟩
  | _ => cases hf
end
end Mi
set_option linter.all false
set_option maxRecDepth 100000
set_option maxHeartbeats 1000000
/-! S8: calls of the text's own defs. -/
namespace Mi
open PySem PySem.Spec PyProof.Rows L2
/-- room, and no repr around -/
structure RoomG (k : Nat) (A : Around) : Prop where
  room : Room k A
  g : A.guards = some []
theorem RoomG.mono {j k : Nat} {A : Around} (r : RoomG k A) (h : j ≤ k) : RoomG j A := ⟨r.room.mono h, r.g⟩
theorem RoomG.deeper {k : Nat} {A : Around} (r : RoomG (k + 1) A) (env : PySem.Env) : RoomG k (A.deeper env) := ⟨r.room.deeper env, r.g⟩
/-- what a run of a def promises: wanted of its value, of an error -/
def RCat (G : Gx) (w : Wd) (H : Hp) (r : RC) (Q : VK) (E : XK) : Prop := match r with
  | .ok d S' => ∀ w' H' v, Ext w [] [] H w' [] [] H' → Rel G w' [] S' [] H' → Rep G w' d v → Q v H'
  | .exc c d S' => ∀ w' H' dd, Ext w [] [] H w' [] [] H' → Rel G w' [] S' [] H' → ExD G w' d dd → E (.ref (G.cad c)) (some dd) H'
  | .bad => False
/-- the defs do what the evaluation says, with room k -/
def CallOk (G : Gx) (Φ : Cal) (k : Nat) : Prop := ∀ (f : Nat) (ds : List D) (S : Store) (w : Wd) (A : Around) (outer : List PySem.Env) (s : Shared) (H : Hp) (us : List Value) (vs : List V) (Q : VK) (E : XK),
  RoomG k A → Env0 G.P G.w G.K G.mg G.base A outer s H → Vals vs us → Reps G w ds vs → Rel G w [] S [] H → RCat G w H (Φ f ds S) Q E →
  codeAny (model G.P G.w) A (.call (.ref (G.fad f)) ⟨us, []⟩) (CR (L2.CX G.P G.w) outer G.P G.w H s Q E) s
theorem own_nil {σ : L2.St} {a : Addr} : ¬ Own [] σ a := fun ⟨i, d, h, _⟩ => by simp at h
theorem Rel.bare {G : Gx} {w : Wd} {e : Env} {S : Store} {σ : L2.St} {H : Hp} (r : Rel G w e S σ H) : Rel G w [] S [] H :=
  ⟨rfl, r.pe, fun i d h => by simp at h, fun i d h => by simp at h, fun i j d d' a h => by simp at h, r.bl, r.bx, r.nd⟩
theorem Rel.called {G : Gx} {w w' : Wd} {e : Env} {S S' : Store} {σ : L2.St} {H H' : Hp} (r : Rel G w e S σ H) (x : Ext w [] [] H w' [] [] H') (r' : Rel G w' [] S' [] H') : Rel G w' e S' σ H' ∧ Ext w e σ H w' e σ H' := by
  refine ⟨⟨r.len, r'.pe, fun i d h => ?_, fun i d h => ?_, r.dis, r'.bl, r'.bx, r'.nd⟩, ⟨x.le, fun a o h _ m => x.keep a o h own_nil m, fun a o h _ p => x.cap a o h own_nil p, x.capm, fun a h => .inl h, x.tk⟩⟩
  · obtain ⟨v, h1, h2⟩ := r.val i d h
    exact ⟨v, h1, Rep.mono x.le d v h2⟩
  · obtain ⟨a, h1, h2, h3, h4⟩ := r.own i d h
    obtain ⟨o, ho⟩ := h2.some
    exact ⟨a, h1, h2.mono x.le fun o q => x.keep a o q own_nil h4, x.cap a o ho own_nil h3, x.capm a o ho h4⟩
/-- a body's context belongs to the text -/
structure XOk (G : Gx) (X : Cx) (k : Nat) : Prop where
  hP : X.prog = G.P
  hw : X.w = G.w
  hK : X.K = G.K
  hm : X.mg = G.mg
  hb : X.base = G.base
  calm : X.calm = true
  nd : X.N.Nodup
  room : RoomG k X.A
section
variable {G : Gx} {X : Cx} {k : Nat} {W : WX} {Φ : Cal}
theorem run_user {pins : List (Addr × Obj)} {σ : L2.St} {H : Hp} {s : Shared} {w : Wd} {e : Env} {S : Store} {f : Nat} {ds : List D} {us : List Value} {vs : List V} {Q : VK} (hX : XOk G X k) (hC : CallOk G Φ k) (tk : Takes X W) (I : Inv X pins σ H s) (rv : Vals vs us) (rd : Reps G w ds vs) (rl : Rel G w e S σ H)
    (h : TMat G W (RepR G) w e S (calM Φ f ds) σ H Q) : wpAny (model X.prog X.w) X.A (call (.ref (G.fad f)) us) (EP X pins σ Q) X.xe s := by
  have e0 := I.env0
  rw [hX.hP, hX.hw, hX.hK, hX.hm, hX.hb] at e0
  rw [hX.hP, hX.hw]
  refine wpAny_call (codeAny_mono (hC f ds S w X.A X.stack s H us vs Q (fun cls d H' => W cls d σ H') hX.room e0 rv rd rl.bare ?_) fun r s' hq => ?_)
  · unfold RCat
    unfold TMat calM at h
    cases q : Φ f ds S with
    | ok d S' =>
      rw [q] at h
      exact fun w' H' v x r' hd => (let ⟨a, b⟩ := rl.called x r'; h w' H' v b a hd)
    | exc c d S' =>
      rw [q] at h
      exact fun w' H' dd x r' hd => (let ⟨a, b⟩ := rl.called x r'; h w' H' dd b a hd)
    | bad =>
      rw [q] at h
      exact h
  · cases r with
    | error u =>
      rw [← hX.hP, ← hX.hw] at hq
      exact tk u s' (XE.of_call I (fun _ _ _ z => z) hq)
    | ok fl =>
      cases fl with
      | ret u =>
        rw [← hX.hP, ← hX.hw] at hq
        exact I.after hq
      | next => exact False.elim hq
      | brk => exact False.elim hq
      | cont => exact False.elim hq
end
end Mi
set_option linter.all false
set_option maxRecDepth 100000
set_option maxHeartbeats 1000000
/-! S9: the small language beside the text: shapes. -/
namespace Mi
open PySem PySem.Spec PyProof.Rows L2

def notDbg (x : Str) : Bool := !(x == ("__debug__" : Str)) && !(x == ("__classdict__" : Str))
def visB (sc : Scope) (x : Str) : Bool := match sc.names.lookup x with
  | some .local => true
  | some .cell => true
  | some .free => true
  | _ => false
def locB (sc : Scope) (x : Str) : Bool := match sc.names.lookup x with
  | some .local => true
  | some .cell => true
  | _ => false
def globB (sc : Scope) (x : Str) : Bool := match sc.names.lookup x with
  | some .globalImplicit => true
  | _ => false
/-- not f() -/
def nocall0 : Expr → Bool
  | .Call (.Name _ _) [] [] _ => false
  | _ => true
/-- nothing that stands in special places alone -/
def okE : Expr → Bool
  | .Starred _ _ => false
  | .Slice _ _ _ _ => false
  | .Set _ _ _ => false
  | _ => true
def constIs : D → Const → Bool
  | .int i, .int j => decide (i = j)
  | .bl b, .bool c => b == c
  | .non, .none => true
  | .str s, .str x => decide (cs s = x) && sok s
  | _, _ => false
/-- built-in functions of one argument; the types among them -/
def bname : P1 → Option Str
  | .len => some "len"
  | .all => some "all"
  | .any => some "any"
  | .sum => some "sum"
  | .abs => some "abs"
  | .repr => some "repr"
  | _ => none
def tname : P1 → Option Str
  | .tuple => some "tuple"
  | .list => some "list"
  | .int => some "int"
  | _ => none
def b2name : P2 → Option Str
  | .max2 => some "max"
  | .min2 => some "min"
  | _ => none
def opName : P2 → Option Operator
  | .add => some .Add
  | .sub => some .Sub
  | .mul => some .Mult
  | .fdiv => some .FloorDiv
  | .mod => some .Mod
  | .pow => some .Pow
  | .shl => some .LShift
  | .shr => some .RShift
  | _ => none
def cmpName : P2 → Option CmpOp
  | .eq => some .Eq
  | .ne => some .NotEq
  | .lt => some .Lt
  | .le => some .LtE
  | .gt => some .Gt
  | .ge => some .GtE
  | _ => none
def m0name : M0 → Option Str
  | .upper => some "upper"
  | _ => none
def clName (nm : Nm) : Cl → Str
  | .int => "int"
  | .str => "str"
  | .tuple => "tuple"
  | .list => "list"
  | .bool => "bool"
  | .dict => "dict"
  | .valueError => "ValueError"
  | .own c => nm.cnm c
def shCl (nm : Nm) (sc : Scope) (c : Cl) : Expr → Bool
  | .Name x _ => decide (x = clName nm c) && (globB sc x && notDbg x)
  | _ => false
def shCls (nm : Nm) (sc : Scope) : List Cl → List Expr → Bool
  | [], [] => true
  | c :: cs, e :: es => shCl nm sc c e && shCls nm sc cs es
  | _, _ => false
mutual
def shT (N : List Str) (sc : Scope) : Tg → Expr → Bool
  | .nm i, e => match e with
    | .Name x _ => decide (N[i]? = some x) && locB sc x
    | _ => false
  | .tp ts, e => match e with
    | .Tuple es _ _ => shTs N sc ts es
    | _ => false
def shTs (N : List Str) (sc : Scope) : List Tg → List Expr → Bool
  | [], [] => true
  | t :: ts, e :: es => shT N sc t e && shTs N sc ts es
  | _, _ => false
end
/-- the slots of a comprehension's own names -/
def ownOf (N : List Str) (t : Tg) : List (Str × Nat) := t.slots.map fun i => (N.getD i "", i)
def shKeys : List D → List (Option Expr) → Bool
  | [], [] => true
  | k :: ks, some (.Constant c _ _) :: r => constIs k c && shKeys ks r
  | _, _ => false
mutual
def sh (nm : Nm) (N : List Str) : Ex → Scope → Expr → Bool
  | .omit, _, _ => false
  | .lit d, _, e => (match e with
    | .Constant c _ _ => constIs d c
    | _ => false)
  | .var i, sc, e => (match e with
    | .Name x _ => decide (N[i]? = some x) && (visB sc x && notDbg x)
    | _ => false)
  | .gl k, sc, e => (match e with
    | .Name x _ => decide (x = nm.knm k) && (globB sc x && notDbg x)
    | _ => false)
  | .p1 p a, sc, e => (match e with
    | .UnaryOp .Not x _ => decide (p = .not) && sh nm N a sc x
    | .UnaryOp .USub x _ => decide (p = .neg) && sh nm N a sc x
    | .Call (.Name f _) [x] [] _ => (decide (bname p = some f) || decide (tname p = some f)) && (globB sc f && sh nm N a sc x)
    | .Subscript x (.Slice none none (some (.UnaryOp .USub (.Constant (.int 1) _ _) _)) _) _ => decide (p = .rev) && sh nm N a sc x
    | _ => false)
  | .p2 p a b, sc, e => (match e with
    | .BinOp x op y _ => decide (opName p = some op) && (sh nm N a sc x && sh nm N b sc y)
    | .Compare x [op] [y] _ => decide (cmpName p = some op) && (sh nm N a sc x && sh nm N b sc y)
    | .Call (.Name f _) [x, y] [] _ => decide (b2name p = some f) && (globB sc f && (sh nm N a sc x && sh nm N b sc y))
    | _ => false)
  | .chain _ _ _ _ _, _, _ => false
  | .and a b, sc, e => (match e with
    | .BoolOp .And [x, y] _ => sh nm N a sc x && sh nm N b sc y
    | .BoolOp .And (x :: y :: z :: r) p => sh nm N a sc x && sh nm N b sc (.BoolOp .And (y :: z :: r) p)
    | _ => false)
  | .or a b, sc, e => (match e with
    | .BoolOp .Or [x, y] _ => sh nm N a sc x && sh nm N b sc y
    | .BoolOp .Or (x :: y :: z :: r) p => sh nm N a sc x && sh nm N b sc (.BoolOp .Or (y :: z :: r) p)
    | _ => false)
  | .ite c a b, sc, e => (match e with
    | .IfExp t x y _ => sh nm N c sc t && (sh nm N a sc x && sh nm N b sc y)
    | _ => false)
  | .tup es, sc, e => (match e with
    | .Tuple xs _ _ => shs nm N es sc xs
    | _ => false)
  | .lst es, sc, e => (match e with
    | .List xs _ => shs nm N es sc xs
    | _ => false)
  | .box es, sc, e => (match e with
    | .List xs _ => shs nm N es sc xs
    | _ => false)
  | .dct ks vs, sc, e => (match e with
    | .Dict keys xs _ => shKeys ks keys && (decide (ks.length ≤ 15) && (decide (ks.length = vs.length) && ((D.strs ks).isSome && shs nm N vs sc xs)))
    | _ => false)
  | .call f es, sc, e => (match e with
    | .Call (.Name x _) xs [] _ => decide (x = nm.fnm f) && (globB sc x && (notDbg x && shs nm N es sc xs))
    | _ => false)
  | .mk c es, sc, e => (match e with
    | .Call (.Name x _) xs [] _ => (decide (es.length = 1) && nm.exB c) && (decide (x = nm.cnm c) && (globB sc x && (notDbg x && shs nm N es sc xs)))
    | _ => false)
  | .isi a cs, sc, e => (match e with
    | .Call (.Name f _) [x, .Tuple xs _ _] [] _ => decide (f = "isinstance") && (globB sc f && (sh nm N a sc x && (shCls nm sc cs xs && (decide (cs.length ≤ 1000) && !cs.isEmpty))))
    | .Call (.Name f _) [x, c] [] _ => decide (f = "isinstance") && (globB sc f && (sh nm N a sc x && (match cs with | [k] => shCl nm sc k c | _ => false)))
    | _ => false)
  | .ix a i, sc, e => (match e with
    | .Subscript x y _ => sh nm N a sc x && sh nm N i sc y
    | _ => false)
  | .sl a lo hi, sc, e => (match e with
    | .Subscript x (.Slice l h none _) _ => sh nm N a sc x && ((match l with | some y => sh nm N lo sc y | none => lo.isOmit) && (match h with | some y => sh nm N hi sc y | none => hi.isOmit))
    | _ => false)
  | .m0 m a, sc, e => (match e with
    | .Call (.Attribute x n ap) [] [] p => decide (m0name m = some n) && ((ap.endLine == p.line) && (nocall0 x && sh nm N a sc x))
    | _ => false)
  | .m1 _ _ _, _, _ => false
  | .m2 _ _ _ _, _, _ => false
  | .mt _ _ _, _, _ => false
  | .at a n, sc, e => (match e with
    | .Attribute x f _ => decide (f = nm.anm n) && (nocall0 x && sh nm N a sc x)
    | _ => false)
  | .lc t it c e, sc, ex => (match ex with
    | .ListComp y [⟨tg, iter, ifs, 0⟩] scope _ => shIt nm N it sc tg iter && (blkC N sc scope (ownOf N t) && (shT N scope t tg && ((match ifs with | [] => c.isOmit | [z] => sh nm N c (relS scope sc) z | _ => false) && sh nm N e (relS scope sc) y)))
    | _ => false)
  | .list it, sc, e => (match e with
    | .Call (.Name f _) [x] [] _ => decide (f = "list") && (globB sc f && shRg nm N it sc x)
    | _ => false)
  | .tuple _, _, _ => false
def shs (nm : Nm) (N : List Str) : List Ex → Scope → List Expr → Bool
  | [], _, xs => (match xs with | [] => true | _ => false)
  | e :: es, sc, xs => (match xs with
    | x :: r => sh nm N e sc x && shs nm N es sc r
    | [] => false)
def shIt (nm : Nm) (N : List Str) : It → Scope → Expr → Expr → Bool
  | .seq a, sc, _, e => sh nm N a sc e
  | .rng1 a, sc, _, e => (match e with
    | .Call (.Name f _) [x] [] _ => decide (f = "range") && (globB sc f && sh nm N a sc x)
    | _ => false)
  | .rng2 a b, sc, _, e => (match e with
    | .Call (.Name f _) [x, y] [] _ => decide (f = "range") && (globB sc f && (sh nm N a sc x && sh nm N b sc y))
    | _ => false)
  | .rng3 _ _ _, _, _, _ => false
  | .enum a, sc, tg, e => (match e, tg with
    | .Call (.Name f _) [x] [] _, .Tuple _ _ _ => decide (f = "enumerate") && (globB sc f && sh nm N a sc x)
    | _, _ => false)
  | .zip _ _, _, _, _ => false
def shRg (nm : Nm) (N : List Str) : It → Scope → Expr → Bool
  | .rng1 a, sc, e => (match e with
    | .Call (.Name f _) [x] [] _ => decide (f = "range") && (globB sc f && sh nm N a sc x)
    | _ => false)
  | _, _, _ => false
end
def shO (nm : Nm) (N : List Str) (m : Ex) (sc : Scope) (o : Option Expr) : Bool := match o with
  | some y => sh nm N m sc y
  | none => m.isOmit
end Mi
set_option linter.all false
set_option maxRecDepth 100000
set_option maxHeartbeats 1000000
/-! S10: each form of an expression does what the evaluation says. -/
namespace Mi
open PySem PySem.Spec PyProof.Rows L2

def blts : List Str := ["len", "all", "any", "sum", "abs", "repr", "tuple", "list", "int", "max", "min", "range", "enumerate", "isinstance", "zip", "sorted", "set", "str", "bool", "dict", "ValueError"]
/-- what the text's head has left -/
structure GOk (G : Gx) : Prop where
  sup : G.mg "super" = none
  blt : ∀ x ∈ blts, G.mg x = none
  val : G.nm.anm G.pr.val = "value"
  rep : G.pr.rep = repOf
  sys : NoSys G.K
  con : ∀ k d, G.pr.con k = some d → ∃ v u, G.mg (G.nm.knm k) = some u ∧ RelV v u ∧ Rep G ⟨[], fun _ => none⟩ d v
  exc : ∀ c, G.pr.isExc c = true → ExcT G.K (G.cad c) ∧ ∃ D fI, PySem.Ber.InitTxt G.P G.K D fI ∧ PySem.Ber.ClsTxt G.K (G.cad c) D fI
  exb : ∀ c, G.nm.exB c = true → G.pr.isExc c = true
  cls : ∀ c, G.mg (G.nm.cnm c) = some (.ref (G.cad c))
  kit : ∀ d t cl b, tagV G d = some t → d.isi G.pr.toClsG cl = some b → PySem.W.kitOne G.K t (clV G cl) = some b
  fmg : ∀ f, G.mg (G.nm.fnm f) = some (.ref (G.fad f)) ∧ PySem.W.keepIn G.K (.ref (G.fad f)) = true

section
variable {α β : Type} {G : Gx} {W : WX}
theorem TM.mono {rel : RelF α β} {m : M α} {σ : L2.St} {H : Hp} {Q Q' : β → Hp → Prop} (h : TM G W rel m σ H Q) (hq : ∀ b H', Q b H' → Q' b H') : TM G W rel m σ H Q' := by
  obtain ⟨w, e, s, r, h⟩ := h
  refine ⟨w, e, s, r, ?_⟩
  unfold TMat at h ⊢
  cases q : m e s with
  | ok a e' s' => rw [q] at h; exact fun w' H' b x r' l => hq b H' (h w' H' b x r' l)
  | exc c d e' s' => rw [q] at h; exact h
  | bad => rw [q] at h; exact h
theorem repR_m : RelM (RepR G) := fun H H1 w e σ H2 a b t h => by
  cases a with
  | v d => exact h
  | fr d =>
    obtain ⟨p, e1, h1, h2, h3, h4, h5⟩ := h
    refine ⟨p, e1, h1, h2, h3, h4, ?_⟩
    cases q : H p with
    | none => rfl
    | some o =>
      obtain ⟨o', q'⟩ := t p o q
      rw [h5] at q'
      cases q'
  | bor i => exact h
theorem repD_m : RelM (RepD G) := fun _ _ _ _ _ _ _ _ _ h => h
def RepsR (G : Gx) : RelF (List D) (List V) := fun _ w _ _ _ ds vs => Reps G w ds vs
theorem repsR_m : RelM (RepsR G) := fun _ _ _ _ _ _ _ _ _ h => h
def EqR : RelF Bool Bool := fun _ _ _ _ _ a b => a = b
theorem eqR_m : RelM EqR := fun _ _ _ _ _ _ _ _ _ h => h
/-- from one transformer to another -/
theorem _root_.L2.PE.imp {X : Cx} {e : Expr} {t t' : TE} (h : PE X e t) (f : ∀ σ H Q, t' σ H Q → t σ H Q) : PE X e t' := ⟨fun pins s σ H Q I q => h.run pins s σ H Q I (f σ H Q q)⟩
theorem _root_.L2.PT.imp {X : Cx} {e : Expr} {t t' : TT} (h : PT X e t) (f : ∀ σ H Q, t' σ H Q → t σ H Q) : PT X e t' := ⟨fun pins s σ H Q I q => h.run pins s σ H Q I (f σ H Q q)⟩
theorem _root_.L2.PA.imp {X : Cx} {es : List Expr} {t t' : TA} (h : PA X es t) (f : ∀ σ H Q, t' σ H Q → t σ H Q) : PA X es t' := ⟨fun pos pins s σ H Q I q => h.run pos pins s σ H Q I (f σ H Q q)⟩
end
abbrev TR (G : Gx) (W : WX) (m : M R) : TE := TM G W (RepR G) m
abbrev TD (G : Gx) (W : WX) (m : M D) : TE := TM G W (RepD G) m
abbrev TL (G : Gx) (W : WX) (m : M (List D)) : TA := TM G W (RepsR G) m
/-- the truth of an expression -/
def evT (P : Pr) (Φ : Cal) (m : Ex) : M Bool := M.bind (ev P Φ m) fun r => M.bind (deref r) truthM
abbrev TB (G : Gx) (W : WX) (m : M Bool) : TT := TM G W EqR m
section
variable {G : Gx} {X : Cx} {k : Nat} {W : WX} {Φ : Cal} {a b c : Ex} {x y z : Expr} {pos : Pos}
/-- what is kept of an expression -/
theorem esc_pe {m : M R} {e : Expr} (h : PE X e (TR G W m)) : PE X e (TD G W (M.bind m esc)) := h.imp fun σ H Q ⟨w, e, s, r, q⟩ => ⟨w, e, s, r, esc_of r q⟩
theorem bind_assoc {α β γ : Type} (m : M α) (f : α → M β) (g : β → M γ) : M.bind (M.bind m f) g = M.bind m fun a => M.bind (f a) g := by
  funext e s
  show ((m e s).bind f).bind g = (m e s).bind _
  cases m e s <;> rfl
/-! ### arguments -/
theorem pa0 : PA X [] (TL G W (evs G.pr Φ [])) := pa_nil.imp fun σ H Q ⟨w, e, s, r, q⟩ => by
  rw [evs] at q
  exact q.ret w H [] Ext.refl r (by simp [RepsR, Reps])
theorem pa1 {es : List Ex} {xs : List Expr} (hp : plainE x = true) (ha : PE X x (TR G W (ev G.pr Φ a))) (hr : PA X xs (TL G W (evs G.pr Φ es))) : PA X (x :: xs) (TL G W (evs G.pr Φ (a :: es))) := by
  refine (pa_cons (esc_pe ha) hr (star_cons hp)).imp fun σ H Q ⟨w, e, s, r, q⟩ => ?_
  have q' : TMat G W (RepsR G) w e s (M.bind (M.bind (ev G.pr Φ a) esc) fun d => M.bind (evs G.pr Φ es) fun ds => .ret (d :: ds)) σ H Q := by
    have e1 : (M.bind (M.bind (ev G.pr Φ a) esc) fun d => M.bind (evs G.pr Φ es) fun ds => M.ret (d :: ds)) e s = (evs G.pr Φ (a :: es)) e s := by
      rw [evs]
      show ((ev G.pr Φ a e s).bind esc).bind _ = (ev G.pr Φ a e s).bind _
      cases ev G.pr Φ a e s <;> rfl
    unfold TMat at q ⊢
    rw [e1]
    exact q
  refine (TM.bind (rel1 := RepD G) repsR_m r q').mono fun v H1 ⟨d, w1, e1, s1, r1, hd, x1, q1⟩ => ?_
  refine (TM.bind (rel1 := RepsR G) repsR_m r1 q1).mono fun vs H2 ⟨ds, w2, e2, s2, r2, hds, x2, q2⟩ => ?_
  exact q2 w2 H2 (v :: vs) Ext.refl r2 (by
    show Reps G w2 (d :: ds) (v :: vs)
    simp only [Reps]
    exact ⟨v, vs, rfl, Rep.mono x2.le d v hd, hds⟩)
/-! ### two operands -/
theorem two_ops {f : D → D → M R} {g : D → D → Option R} {ta tb : Ex} {σ : L2.St} {H : Hp} {Q : VK} (hfg : ∀ (w : Wd) (H : Hp) (d1 d2 : D) (v1 v2 : V), Red G w H d1 v1 → Red G w H d2 v2 → f d1 d2 = .opt (g d1 d2))
    (h : TR G W (M.bind (ev G.pr Φ ta) fun r => M.bind (ev G.pr Φ tb) fun q => M.bind (deref r) fun x => M.bind (deref q) fun y => f x y) σ H Q) :
    tOp (rP2 G g) (TR G W (ev G.pr Φ ta)) (TR G W (ev G.pr Φ tb)) σ H Q := by
  obtain ⟨w, e, s, r, q⟩ := h
  refine (TM.bind (rel1 := RepR G) repR_m r q).mono fun x H1 ⟨r1, w1, e1, s1, rl1, rx, x1, q1⟩ => ?_
  refine (TM.bind (rel1 := RepR G) repR_m rl1 q1).mono fun y H2 ⟨r2, w2, e2, s2, rl2, ry, x2, q2⟩ => ?_
  obtain ⟨d1, _, hd1, q3⟩ := q2.deref rl2 (rx.ext x2)
  obtain ⟨d2, _, hd2, q4⟩ := q3.deref rl2 ry
  rw [hfg w2 H2 d1 d2 x y hd1 hd2] at q4
  obtain ⟨r', hr', hq⟩ := q4.opt1
  exact ⟨w2, d1, d2, r', rl2.pe, hd1, hd2, hr', fin_gro (rel := RepR G) rl2 hq⟩
theorem red_obj {w : Wd} {H : Hp} {c : Nat} {fs : List D} {v : V} (h : Red G w H (.obj c fs) v) : False := by simp [Red, Rep] at h
theorem bin2_op2 {w : Wd} {H : Hp} {p : P2} {d1 d2 : D} {v1 v2 : V} (h1 : Red G w H d1 v1) (h2 : Red G w H d2 v2) : bin2 G.pr Φ p d1 d2 = .opt (op2 p d1 d2) := by
  cases d1 with
  | obj c fs => exact (red_obj h1).elim
  | _ =>
    cases d2 with
    | obj c fs => exact (red_obj h2).elim
    | _ => cases p <;> rfl
theorem p2_bin {p : P2} {op : Operator} (ho : OpR X (binaryOp op) (rP2 G (op2 p))) (ha : PE X x (TR G W (ev G.pr Φ a))) (hb : PE X y (TR G W (ev G.pr Φ b))) : PE X (.BinOp x op y pos) (TR G W (ev G.pr Φ (.p2 p a b))) :=
  (pe_op ho ha hb).imp fun σ H Q h => two_ops (fun _ _ _ _ _ _ h1 h2 => bin2_op2 h1 h2) (by rw [ev] at h; exact h)
theorem p2_cmp {p : P2} {op : CmpOp} (ho : OpR X (compareOp op) (rP2 G (op2 p))) (ha : PE X x (TR G W (ev G.pr Φ a))) (hb : PE X y (TR G W (ev G.pr Φ b))) (hm : behindInMarks op y = false) : PE X (.Compare x [op] [y] pos) (TR G W (ev G.pr Φ (.p2 p a b))) :=
  (pe_cmpR ho ha hb hm).imp fun σ H Q h => two_ops (fun _ _ _ _ _ _ h1 h2 => bin2_op2 h1 h2) (by rw [ev] at h; exact h)
theorem p2_ix (hK : X.K = G.K) (ha : PE X x (TR G W (ev G.pr Φ a))) (hb : PE X y (TR G W (ev G.pr Φ b))) (hs : PlainIx y) : PE X (.Subscript x y pos) (TR G W (ev G.pr Φ (.ix a b))) :=
  (pe_ix (i_ix hK) ha hb hs).imp fun σ H Q h => two_ops (fun _ _ _ _ _ _ _ _ => rfl) (by rw [ev] at h; exact h)
/-- a built-in of two arguments -/
theorem p2_call {p : P2} {f : Str} {id : String} {q : Pos} (hc : CallR X (.builtin id) (rC2 G (op2 p))) (hg : Gl X f) (hm : X.mg f = none) (hv : bootBuiltins f = some (.builtin id)) (hn : f ≠ "__name__") (hd : (f == ("__debug__" : Str)) = false)
    (px : plainE x = true) (py : plainE y = true) (ha : PE X x (TR G W (ev G.pr Φ a))) (hb : PE X y (TR G W (ev G.pr Φ b))) : PE X (.Call (.Name f q) [x, y] [] pos) (TR G W (ev G.pr Φ (.p2 p a b))) := by
  refine (pe_callB hc hg hm hv (pa_cons ha (pa_cons hb pa_nil (star_cons py)) (star_cons px)) hn hd (star_cons px) (by rw [star_cons py]; rfl)).imp fun σ H Q h => ?_
  have z : tOp (rP2 G (op2 p)) (TR G W (ev G.pr Φ a)) (TR G W (ev G.pr Φ b)) σ H Q := two_ops (fun _ _ _ _ _ _ h1 h2 => bin2_op2 h1 h2) (by rw [ev] at h; exact h)
  exact TM.mono z fun v1 H1 z1 => TM.mono z1 fun v2 H2 z2 => ⟨v1, v2, rfl, z2⟩
/-! ### one operand -/
theorem one_op {f : D → M R} {g : D → Option R} {ta : Ex} {σ : L2.St} {H : Hp} {Q : VK} (hfg : ∀ (w : Wd) (H : Hp) (d1 : D) (v1 : V), Red G w H d1 v1 → f d1 = .opt (g d1))
    (h : TR G W (M.bind (ev G.pr Φ ta) fun r => M.bind (deref r) fun x => f x) σ H Q) : tUn (rP1 G g) (TR G W (ev G.pr Φ ta)) σ H Q := by
  obtain ⟨w, e, s, r, q⟩ := h
  refine (TM.bind (rel1 := RepR G) repR_m r q).mono fun x H1 ⟨r1, w1, e1, s1, rl1, rx, x1, q1⟩ => ?_
  obtain ⟨d1, _, hd1, q3⟩ := q1.deref rl1 rx
  rw [hfg w1 H1 d1 x hd1] at q3
  obtain ⟨r', hr', hq⟩ := q3.opt1
  exact ⟨w1, d1, r', rl1.pe, hd1, hr', fin_gro (rel := RepR G) rl1 hq⟩
theorem un1_op1 {w : Wd} {H : Hp} {p : P1} {d : D} {v : V} (h : Red G w H d v) : un1 G.pr Φ p d = .opt (op1 G.pr p d) := by
  cases d with
  | obj c fs => exact (red_obj h).elim
  | _ => cases p <;> rfl
theorem p1_un {p : P1} {op : UnaryOp} (ho : UnR X (unaryOp op) (rP1 G (op1 G.pr p))) (ha : PE X x (TR G W (ev G.pr Φ a))) : PE X (.UnaryOp op x pos) (TR G W (ev G.pr Φ (.p1 p a))) :=
  (pe_un ho ha).imp fun σ H Q h => one_op (fun _ _ _ _ h1 => un1_op1 h1) (by rw [ev] at h; exact h)
theorem p1_call {p : P1} {f : Str} {id : String} {q : Pos} (hc : CallR X (.builtin id) (rC1 G (op1 G.pr p))) (hg : Gl X f) (hm : X.mg f = none) (hv : bootBuiltins f = some (.builtin id)) (hn : f ≠ "__name__") (hd : (f == ("__debug__" : Str)) = false)
    (px : plainE x = true) (ha : PE X x (TR G W (ev G.pr Φ a))) : PE X (.Call (.Name f q) [x] [] pos) (TR G W (ev G.pr Φ (.p1 p a))) := by
  refine (pe_callB hc hg hm hv (pa_cons ha pa_nil (star_cons px)) hn hd (star_cons px) rfl).imp fun σ H Q h => ?_
  have z : tUn (rP1 G (op1 G.pr p)) (TR G W (ev G.pr Φ a)) σ H Q := one_op (fun _ _ _ _ h1 => un1_op1 h1) (by rw [ev] at h; exact h)
  exact TM.mono z fun v1 H1 z1 => ⟨v1, rfl, z1⟩
theorem p1_type {p : P1} {f : Str} {T : String} {q : Pos} (hc : CallR X (.type T) (rC1 G (op1 G.pr p))) (hg : Gl X f) (hm : X.mg f = none) (hv : bootBuiltins f = some (.type T)) (hn : f ≠ "__name__") (hd : (f == ("__debug__" : Str)) = false)
    (px : plainE x = true) (ha : PE X x (TR G W (ev G.pr Φ a))) : PE X (.Call (.Name f q) [x] [] pos) (TR G W (ev G.pr Φ (.p1 p a))) := by
  refine (pe_callTy hc hg hm hv (pa_cons ha pa_nil (star_cons px)) hn hd (star_cons px) rfl).imp fun σ H Q h => ?_
  have z : tUn (rP1 G (op1 G.pr p)) (TR G W (ev G.pr Φ a)) σ H Q := one_op (fun _ _ _ _ h1 => un1_op1 h1) (by rw [ev] at h; exact h)
  exact TM.mono z fun v1 H1 z1 => ⟨v1, rfl, z1⟩
theorem p1_rev {kk : Nat} {p1 p2 p3 : Pos} (hK : X.K = G.K) (ha : PE X x (TR G W (ev G.pr Φ a))) : PE X (.Subscript x (.Slice none none (some (.UnaryOp .USub (.Constant (.int 1) kk p1) p2)) p3) pos) (TR G W (ev G.pr Φ (.p1 .rev a))) :=
  (pe_rev hK ha).imp fun σ H Q h => one_op (fun _ _ _ _ h1 => un1_op1 h1) (by rw [ev] at h; exact h)
/-- not, as a value -/
theorem p1_not (hK : X.K = G.K) (ha : PE X x (TR G W (ev G.pr Φ a))) : PE X (.UnaryOp .Not x pos) (TR G W (ev G.pr Φ (.p1 .not a))) := by
  refine (pe_notT ha).imp fun σ H Q h => ?_
  have z : tUn (rP1 G (op1 G.pr .not)) (TR G W (ev G.pr Φ a)) σ H Q := one_op (fun _ _ _ _ h1 => un1_op1 h1) (by rw [ev] at h; exact h)
  refine TM.mono z fun v1 H1 ⟨w, d, r, kk, hd, hf, hq⟩ => ?_
  simp only [op1] at hf
  cases e : d.truth with
  | none => rw [e] at hf; cases hf
  | some b =>
    rw [e] at hf
    cases hf
    exact ⟨b, tru_red hK kk hd e, q_bl kk hq⟩
/-! ### a value as a test -/
theorem t_truth (hK : X.K = G.K) (ha : PE X x (TR G W (ev G.pr Φ a))) (he : ∀ whole, isTrue x X.env whole = (do let v ← whole; standAt x.pos; holding [v] (truthy v))) : PT X x (TB G W (evT G.pr Φ a)) := by
  refine (pt_truth ha he).imp fun σ H Q h => ?_
  obtain ⟨w, e, s, r, q⟩ := h
  refine (TM.bind (rel1 := RepR G) eqR_m r q).mono fun v H1 ⟨r1, w1, e1, s1, rl1, rx, x1, q1⟩ => ?_
  obtain ⟨d1, _, hd1, q3⟩ := q1.deref rl1 rx
  unfold truthM at q3
  obtain ⟨b, hb, hq⟩ := q3.opt1
  exact ⟨b, tru_red hK rl1.pe hd1 hb, hq w1 H1 b Ext.refl rl1 rfl⟩
theorem t_cmp {p : P2} {op : CmpOp} (ho : OpR X (compareOp op) (rP2 G (op2 p))) (ha : PE X x (TR G W (ev G.pr Φ a))) (hb : PE X y (TR G W (ev G.pr Φ b))) (hm : behindInMarks op y = false) (hbl : ∀ d1 d2 r, op2 p d1 d2 = some r → ∃ b, r = .v (.bl b)) :
    PT X (.Compare x [op] [y] pos) (TB G W (evT G.pr Φ (.p2 p a b))) := by
  refine (pt_cmpR ho ha hb hm).imp fun σ H Q h => ?_
  obtain ⟨w, e, s, r, q⟩ := h
  unfold evT at q
  rw [ev] at q
  simp only [bind_assoc] at q
  refine (TM.bind (rel1 := RepR G) eqR_m r q).mono fun x H1 ⟨r1, w1, e1, s1, rl1, rx, x1, q1⟩ => ?_
  refine (TM.bind (rel1 := RepR G) eqR_m rl1 q1).mono fun y H2 ⟨r2, w2, e2, s2, rl2, ry, x2, q2⟩ => ?_
  obtain ⟨d1, _, hd1, q3⟩ := q2.deref rl2 (rx.ext x2)
  obtain ⟨d2, _, hd2, q4⟩ := q3.deref rl2 ry
  rw [bin2_op2 hd1 hd2] at q4
  obtain ⟨r', hr', q5⟩ := q4.opt
  obtain ⟨bb, rfl⟩ := hbl d1 d2 r' hr'
  have q6 := q5.pure (a := .bl bb) rfl
  refine ⟨w2, d1, d2, _, rl2.pe, hd1, hd2, hr', fun w' H' v g n => ?_⟩
  have hv : v = .bl bb := by simpa [NewR, Rep] using n
  exact ⟨bb, hv, q6 w' H' bb (g.ext (G := G) (s := s2)) (rl2.gro g) rfl⟩
end
end Mi
set_option linter.all false
set_option maxRecDepth 100000
set_option maxHeartbeats 1000000
/-! S11: more forms. -/
namespace Mi
open PySem PySem.Spec PyProof.Rows L2
/-- the second says more -/
def Le {α : Type} (m m' : M α) : Prop := ∀ e s, m e s = .bad ∨ m' e s = m e s
section
variable {α β : Type} {G : Gx} {W : WX}
theorem TMat.le {rel : RelF α β} {w : Wd} {e : Env} {s : Store} {m m' : M α} {σ : L2.St} {H : Hp} {Q : β → Hp → Prop} (l : Le m m') (h : TMat G W rel w e s m σ H Q) : TMat G W rel w e s m' σ H Q := by
  unfold TMat at h ⊢
  rcases l e s with z | z
  · rw [z] at h; exact h.elim
  · rw [z]; exact h
theorem TM.le {rel : RelF α β} {m m' : M α} {σ : L2.St} {H : Hp} {Q : β → Hp → Prop} (l : Le m m') (h : TM G W rel m σ H Q) : TM G W rel m' σ H Q := by
  obtain ⟨w, e, s, r, q⟩ := h
  exact ⟨w, e, s, r, q.le l⟩
theorem Le.of {m m' : M α} (h : m = m') : Le m m' := fun e s => .inr (by rw [h])
end
section
variable {G : Gx} {X : Cx} {k : Nat} {W : WX} {Φ : Cal} {a b c : Ex} {x y z : Expr} {pos : Pos}
/-! ### constants, names -/
theorem tr_val {d : D} {v : V} {σ : L2.St} {H : Hp} {Q : VK} (hv : ∀ w, Rep G w d v) (h : TR G W (.ret (.v d)) σ H Q) : Q v H := by
  obtain ⟨w, e, s, r, q⟩ := h
  exact q.ret w H v Ext.refl r (hv w)
theorem e_lit {d : D} {c : Const} {j : Nat} (h : constIs d c = true) : PE X (.Constant c j pos) (TR G W (ev G.pr Φ (.lit d))) := by
  have key : ∀ {v : V}, PE X (.Constant c j pos) (tC v) → (∀ w, Rep G w d v) → PE X (.Constant c j pos) (TR G W (ev G.pr Φ (.lit d))) := fun hp hv => hp.imp fun σ H Q q => by
    rw [ev] at q
    exact tr_val hv q
  cases d with
  | int i =>
    cases c with
    | int j =>
      have e : i = j := of_decide_eq_true h
      subst e
      exact key pe_int fun w => by simp [Rep]
    | _ => cases h
  | bl i =>
    cases c with
    | bool j =>
      have e : i = j := by simpa [constIs] using h
      subst e
      exact key pe_bl fun w => by simp [Rep]
    | _ => cases h
  | non =>
    cases c with
    | none => exact key pe_non fun w => by simp [Rep]
    | _ => cases h
  | str s =>
    cases c with
    | str j =>
      simp only [constIs, Bool.and_eq_true, decide_eq_true_eq] at h
      obtain ⟨rfl, h⟩ := h
      exact key pe_str fun w => by simp [Rep, h]
    | _ => cases h
  | _ => cases h
theorem vis_of {sc : Scope} {n : Str} (h : visB sc n = true) : Vis sc n := by
  unfold visB at h
  unfold Vis
  split at h
  · rename_i q; simp [q]
  · rename_i q; simp [q]
  · rename_i q; simp [q]
  · cases h
theorem dbg_of {n : Str} (h : notDbg n = true) : (n == ("__debug__" : Str)) = false ∧ (n == ("__classdict__" : Str)) = false := by
  unfold notDbg at h
  simpa using h
theorem gl_of {n : Str} (h : globB X.env.scope n = true) : Gl X n := by
  unfold globB at h
  unfold Gl
  show X.env.scope.names.lookup n = _
  split at h
  · assumption
  · cases h
theorem e_var {i : Nat} {n : Str} (hN : X.N[i]? = some n) (hv : visB X.env.scope n = true) (hd : notDbg n = true) : PE X (.Name n pos) (TR G W (ev G.pr Φ (.var i))) := by
  refine (pe_var hN (vis_of hv) (dbg_of hd).1 (dbg_of hd).2).imp fun σ H Q ⟨w, e, s, r, q⟩ => ?_
  rw [ev] at q
  unfold TMat getVar at q
  cases z : e[i]? with
  | none => rw [z] at q; exact q.elim
  | some o =>
    rw [z] at q
    cases o with
    | none => exact q.elim
    | some sl =>
      cases sl with
      | v d =>
        obtain ⟨v, h1, h2⟩ := r.val i d z
        exact ⟨v, h1, q w H v Ext.refl r h2⟩
      | own d =>
        obtain ⟨p, h1, h2, _⟩ := r.own i d z
        exact ⟨.ref p, h1, q w H (.ref p) Ext.refl r h1⟩
theorem e_gl {i : Nat} {n : Str} (hG : GOk G) (hm : X.mg = G.mg) (hn : n = G.nm.knm i) (hg : globB X.env.scope n = true) (hd : notDbg n = true) : PE X (.Name n pos) (TR G W (ev G.pr Φ (.gl i))) := by
  cases hc : G.pr.con i with
  | none =>
    refine ⟨fun pins s σ H Q I h => ?_⟩
    obtain ⟨w, e, s, r, q⟩ := h
    rw [ev, hc] at q
    exact (show False from q).elim
  | some d =>
    obtain ⟨v, u, h1, h2, h3⟩ := hG.con i d hc
    refine (pe_glob (gl_of hg) (by rw [hm, hn]; exact h1) h2 (dbg_of hd).1).imp fun σ H Q ⟨w, e, s, r, q⟩ => ?_
    rw [ev, hc] at q
    exact (q.pure rfl).ret w H v Ext.refl r (Rep.mono ⟨⟨w.mu, by simp⟩, fun a o z => by cases z⟩ d v h3)
/-! ### and, or, if -/
theorem red_blv {w : Wd} {H : Hp} {b : Bool} {v : V} (h : Red G w H (.bl b) v) : v = .bl b := red_bl h
theorem e_and {ta tb : TE} (ha : PE X x (TR G W (ev G.pr Φ a))) (hb : PE X (.BoolOp .And (y :: r) pos) (TR G W (ev G.pr Φ b))) : PE X (.BoolOp .And (x :: y :: r) pos) (TR G W (ev G.pr Φ (.and a b))) := by
  refine (pe_and ha hb).imp fun σ H Q ⟨w, e, s, r, q⟩ => ?_
  rw [ev] at q
  refine (TM.bind (rel1 := RepR G) repR_m r q).mono fun v H1 ⟨r1, w1, e1, s1, rl1, rx, x1, q1⟩ => ?_
  obtain ⟨d1, _, hd1, q3⟩ := q1.deref rl1 rx
  cases d1 with
  | bl t =>
    cases red_bl hd1
    cases t with
    | true => exact ⟨true, rfl, ⟨w1, e1, s1, rl1, q3⟩⟩
    | false => exact ⟨false, rfl, q3.ret w1 H1 _ Ext.refl rl1 (by simp [RepR, Rep])⟩
  | _ => exact (show False from q3).elim
theorem e_or {ta tb : TE} (ha : PE X x (TR G W (ev G.pr Φ a))) (hb : PE X (.BoolOp .Or (y :: r) pos) (TR G W (ev G.pr Φ b))) : PE X (.BoolOp .Or (x :: y :: r) pos) (TR G W (ev G.pr Φ (.or a b))) := by
  refine (pe_or ha hb).imp fun σ H Q ⟨w, e, s, r, q⟩ => ?_
  rw [ev] at q
  refine (TM.bind (rel1 := RepR G) repR_m r q).mono fun v H1 ⟨r1, w1, e1, s1, rl1, rx, x1, q1⟩ => ?_
  obtain ⟨d1, _, hd1, q3⟩ := q1.deref rl1 rx
  cases d1 with
  | bl t =>
    cases red_bl hd1
    cases t with
    | false => exact ⟨false, rfl, ⟨w1, e1, s1, rl1, q3⟩⟩
    | true => exact ⟨true, rfl, q3.ret w1 H1 _ Ext.refl rl1 (by simp [RepR, Rep])⟩
  | _ => exact (show False from q3).elim
theorem evT_and : Le (evT G.pr Φ (.and a b)) (M.bind (evT G.pr Φ a) fun t => if t = true then evT G.pr Φ b else .ret false) := fun e s => by
  unfold evT
  rw [ev]
  unfold M.bind
  cases ev G.pr Φ a e s with
  | bad => exact .inl rfl
  | exc _ _ _ _ => exact .inr rfl
  | ok r e1 s1 =>
    simp only [Res.bind_ok]
    cases deref r e1 s1 with
    | bad => exact .inl rfl
    | exc _ _ _ _ => exact .inr rfl
    | ok d e2 s2 =>
      simp only [Res.bind_ok]
      cases d with
      | bl t =>
        cases t with
        | true => exact .inr rfl
        | false => exact .inr rfl
      | _ => exact .inl rfl
theorem evT_or : Le (evT G.pr Φ (.or a b)) (M.bind (evT G.pr Φ a) fun t => if t = true then .ret true else evT G.pr Φ b) := fun e s => by
  unfold evT
  rw [ev]
  unfold M.bind
  cases ev G.pr Φ a e s with
  | bad => exact .inl rfl
  | exc _ _ _ _ => exact .inr rfl
  | ok r e1 s1 =>
    simp only [Res.bind_ok]
    cases deref r e1 s1 with
    | bad => exact .inl rfl
    | exc _ _ _ _ => exact .inr rfl
    | ok d e2 s2 =>
      simp only [Res.bind_ok]
      cases d with
      | bl t =>
        cases t with
        | true => exact .inr rfl
        | false => exact .inr rfl
      | _ => exact .inl rfl
theorem evT_not : Le (evT G.pr Φ (.p1 .not a)) (M.bind (evT G.pr Φ a) fun t => .ret (!t)) := fun e s => by
  unfold evT
  rw [ev]
  unfold M.bind
  cases ev G.pr Φ a e s with
  | bad => exact .inl rfl
  | exc _ _ _ _ => exact .inr rfl
  | ok r e1 s1 =>
    simp only [Res.bind_ok]
    cases deref r e1 s1 with
    | bad => exact .inl rfl
    | exc _ _ _ _ => exact .inr rfl
    | ok d e2 s2 =>
      simp only [Res.bind_ok]
      have e : un1 G.pr Φ .not d = .opt (d.truth.map fun b => .v (.bl (!b))) := by cases d <;> rfl
      rw [e]
      unfold truthM
      cases d.truth with
      | none => exact .inl rfl
      | some t => exact .inr rfl
theorem evT_ite : evT G.pr Φ (.ite c a b) = M.bind (evT G.pr Φ c) fun t => if t = true then evT G.pr Φ a else evT G.pr Φ b := by
  funext e s
  unfold evT
  rw [ev]
  unfold M.bind
  cases ev G.pr Φ c e s with
  | bad => rfl
  | exc _ _ _ _ => rfl
  | ok r e1 s1 =>
    simp only [Res.bind_ok]
    cases deref r e1 s1 with
    | bad => rfl
    | exc _ _ _ _ => rfl
    | ok d e2 s2 =>
      simp only [Res.bind_ok]
      unfold truthM
      cases d.truth with
      | none => rfl
      | some t => cases t <;> rfl
theorem ev_ite : ev G.pr Φ (.ite c a b) = M.bind (evT G.pr Φ c) fun t => if t = true then ev G.pr Φ a else ev G.pr Φ b := by
  funext e s
  unfold evT
  rw [ev]
  unfold M.bind
  cases ev G.pr Φ c e s with
  | bad => rfl
  | exc _ _ _ _ => rfl
  | ok r e1 s1 =>
    simp only [Res.bind_ok]
    cases deref r e1 s1 with
    | bad => rfl
    | exc _ _ _ _ => rfl
    | ok d e2 s2 =>
      simp only [Res.bind_ok]
      unfold truthM
      cases d.truth with
      | none => rfl
      | some t => cases t <;> rfl
theorem tif_of {α β : Type} {rel : RelF α β} (hm : RelM rel) {ma mb : M α} {σ : L2.St} {H : Hp} {Q : β → Hp → Prop} (h : TM G W rel (M.bind (evT G.pr Φ c) fun t => if t = true then ma else mb) σ H Q) :
    TB G W (evT G.pr Φ c) σ H fun t H1 => if t = true then TM G W rel ma σ H1 Q else TM G W rel mb σ H1 Q := by
  obtain ⟨w, e, s, r, q⟩ := h
  refine (TM.bind (rel1 := EqR) hm r q).mono fun v H1 ⟨t, w1, e1, s1, rl1, rx, x1, q1⟩ => ?_
  have rx : t = v := rx
  subst rx
  cases t with
  | true => exact ⟨w1, e1, s1, rl1, q1⟩
  | false => exact ⟨w1, e1, s1, rl1, q1⟩
theorem e_ite (hc : PT X z (TB G W (evT G.pr Φ c))) (ha : PE X x (TR G W (ev G.pr Φ a))) (hb : PE X y (TR G W (ev G.pr Φ b))) : PE X (.IfExp z x y pos) (TR G W (ev G.pr Φ (.ite c a b))) :=
  (pe_ifExp hc ha hb).imp fun σ H Q q => tif_of repR_m (by rw [← ev_ite]; exact q)
theorem pt_ifExp {tA tx ty : TT} (hc : PT X z tA) (ha : PT X x tx) (hb : PT X y ty) : PT X (.IfExp z x y pos) (fun σ H Q => tA σ H fun t H1 => if t = true then tx σ H1 Q else ty σ H1 Q) := by
  refine ⟨fun pins s σ H Q I h => ?_⟩
  show wpAny _ _ (do if ← isTrue z X.env (eval z X.env) then isTrue x X.env (eval x X.env) else isTrue y X.env (eval y X.env)) _ _ _
  refine wpAny_bind (thn (hc.run pins s σ H _ I h) fun d s1 ⟨H1, I1, q1⟩ => ?_)
  cases d with
  | true => exact ha.run pins s1 σ H1 Q I1 q1
  | false => exact hb.run pins s1 σ H1 Q I1 q1
theorem t_ite (hc : PT X z (TB G W (evT G.pr Φ c))) (ha : PT X x (TB G W (evT G.pr Φ a))) (hb : PT X y (TB G W (evT G.pr Φ b))) : PT X (.IfExp z x y pos) (TB G W (evT G.pr Φ (.ite c a b))) :=
  (pt_ifExp hc ha hb).imp fun σ H Q q => tif_of eqR_m (by rw [← evT_ite]; exact q)
theorem t_not (ha : PT X x (TB G W (evT G.pr Φ a))) : PT X (.UnaryOp .Not x pos) (TB G W (evT G.pr Φ (.p1 .not a))) := by
  refine (pt_not ha).imp fun σ H Q q => ?_
  obtain ⟨w, e, s, r, q⟩ := TM.le evT_not q
  refine (TM.bind (rel1 := EqR) eqR_m r q).mono fun v H1 ⟨t, w1, e1, s1, rl1, rx, x1, q1⟩ => ?_
  have rx : t = v := rx
  subst rx
  exact q1.ret w1 H1 _ Ext.refl rl1 rfl
theorem tand_of {σ : L2.St} {H : Hp} {Q : Bool → Hp → Prop} (h : TB G W (evT G.pr Φ (.and a b)) σ H Q) : tAnd (TB G W (evT G.pr Φ a)) (TB G W (evT G.pr Φ b)) σ H Q := by
  obtain ⟨w, e, s, r, q⟩ := TM.le evT_and h
  refine (TM.bind (rel1 := EqR) eqR_m r q).mono fun v H1 ⟨t, w1, e1, s1, rl1, rx, x1, q1⟩ => ?_
  have rx : t = v := rx
  subst rx
  cases t with
  | true => exact ⟨w1, e1, s1, rl1, q1⟩
  | false => exact q1.ret w1 H1 _ Ext.refl rl1 rfl
theorem tor_of {σ : L2.St} {H : Hp} {Q : Bool → Hp → Prop} (h : TB G W (evT G.pr Φ (.or a b)) σ H Q) : tOr (TB G W (evT G.pr Φ a)) (TB G W (evT G.pr Φ b)) σ H Q := by
  obtain ⟨w, e, s, r, q⟩ := TM.le evT_or h
  refine (TM.bind (rel1 := EqR) eqR_m r q).mono fun v H1 ⟨t, w1, e1, s1, rl1, rx, x1, q1⟩ => ?_
  have rx : t = v := rx
  subst rx
  cases t with
  | false => exact ⟨w1, e1, s1, rl1, q1⟩
  | true => exact q1.ret w1 H1 _ Ext.refl rl1 rfl
theorem _root_.L2.PW.imp {e : Expr} {t t' : TT} (h : PW X e t) (f : ∀ σ H Q, t' σ H Q → t σ H Q) : PW X e t' := ⟨fun wh pins s σ H Q I q => h.run wh pins s σ H Q I (f σ H Q q)⟩
/-! ### displays -/
theorem szl : sizeLine = SZ := sz_eq.symm
theorem e_tup {es : List Ex} {xs : List Expr} {j : Nat} (h : PA X xs (TL G W (evs G.pr Φ es))) : PE X (.Tuple xs j pos) (TR G W (ev G.pr Φ (.tup es))) := by
  refine (pe_tup h).imp fun σ H Q ⟨w, e, s, r, q⟩ => ?_
  rw [ev] at q
  refine (TM.bind (rel1 := RepsR G) repR_m r q).mono fun vs H1 ⟨ds, w1, e1, s1, rl1, rx, x1, q1⟩ => ?_
  obtain ⟨r', hr', hq⟩ := q1.opt1
  have rx : Reps G w1 ds vs := rx
  unfold newTup at hr'
  split at hr'
  · rename_i hl
    cases hr'
    refine ⟨by rw [rx.length, szl]; exact hl, fun p hp => ?_⟩
    exact q_tup rl1.pe (fin_gro (rel := RepR G) rl1 hq) rx hp
  · cases hr'
theorem e_lst {es : List Ex} {xs : List Expr} (h : PA X xs (TL G W (evs G.pr Φ es))) : PE X (.List xs pos) (TR G W (ev G.pr Φ (.lst es))) := by
  refine (pe_lst h).imp fun σ H Q ⟨w, e, s, r, q⟩ => ?_
  rw [ev] at q
  refine (TM.bind (rel1 := RepsR G) repR_m r q).mono fun vs H1 ⟨ds, w1, e1, s1, rl1, rx, x1, q1⟩ => ?_
  obtain ⟨r', hr', hq⟩ := q1.opt1
  have rx : Reps G w1 ds vs := rx
  unfold fresh at hr'
  split at hr'
  · rename_i hl
    cases hr'
    refine ⟨by rw [rx.length, szl]; exact hl, fun p hp => ?_⟩
    exact q_lst rl1.pe (fin_gro (rel := RepR G) rl1 hq) rx hp
  · cases hr'
theorem Rel.free {w : Wd} {e : Env} {s : Store} {σ : L2.St} {H : Hp} {p : Addr} (r : Rel G w e s σ H) (hp : H p = none) : w.pe p = none ∧ ¬ Own e σ p ∧ p ∉ w.mu := by
  refine ⟨pe_free r.pe hp, fun q => ?_, fun q => ?_⟩
  · obtain ⟨o, ho⟩ := r.tracked (.inl q)
    rw [hp] at ho; cases ho
  · obtain ⟨o, ho⟩ := r.tracked (.inr q)
    rw [hp] at ho; cases ho
theorem Rel.alloc {w : Wd} {e : Env} {s : Store} {σ : L2.St} {H : Hp} {p : Addr} {o : HO} {d : D} (r : Rel G w e s σ H) (hp : H p = none) (hd : Holds G w (upd H p o) p d) : Rel G ⟨w.mu ++ [p], w.pe⟩ e (s ++ [d]) σ (upd H p o) ∧ Ext w e σ H ⟨w.mu ++ [p], w.pe⟩ e σ (upd H p o) := by
  obtain ⟨f1, f2, f3⟩ := r.free hp
  have u : ∀ a o', H a = some o' → upd H p o a = some o' := fun a o' h => by rw [upd_ne (ne_of_none h hp)]; exact h
  have l : WLe w ⟨w.mu ++ [p], w.pe⟩ := ⟨⟨[p], rfl⟩, fun _ _ h => h⟩
  refine ⟨⟨r.len, fun a o' h => u a o' (r.pe a o' h), fun i d h => ?_, fun i d h => ?_, r.dis, by simp [r.bl], fun i d' h => ?_, ?_⟩, ⟨l, fun a o' h _ _ => u a o' h, fun a o' _ _ h => h, fun a o' h m q => ?_, fun a h => .inl h, fun a o' h => ⟨o', u a o' h⟩⟩⟩
  · obtain ⟨v, h1, h2⟩ := r.val i d h
    exact ⟨v, h1, Rep.mono l d v h2⟩
  · obtain ⟨a, h1, h2, h3, h4⟩ := r.own i d h
    refine ⟨a, h1, h2.mono l fun o' q => u a o' q, h3, fun q => ?_⟩
    rcases List.mem_append.mp q with q | q
    · exact h4 q
    · have e : a = p := by simpa using q
      subst e
      exact f2 ⟨i, d, h, h1⟩
  · by_cases hi : i < s.length
    · rw [List.getElem?_append_left hi] at h
      obtain ⟨a, h1, h2, h3⟩ := r.bx i d' h
      exact ⟨a, l.get h1, h2.mono l fun o' q => u a o' q, h3⟩
    · have hi' : i = s.length := by
        have := (List.getElem?_eq_some_iff.mp h).1
        simp at this
        omega
      subst hi'
      rw [List.getElem?_concat_length] at h
      cases h
      refine ⟨p, ?_, hd.mono l fun o' q => q, f1⟩
      show (w.mu ++ [p])[s.length]? = some p
      rw [← r.bl, List.getElem?_concat_length]
  · rw [List.nodup_append]
    refine ⟨r.nd, by simp, fun a ha b hb e => ?_⟩
    have e2 : b = p := by simpa using hb
    subst e2 e
    exact f3 ha
  · rcases List.mem_append.mp q with q | q
    · exact m q
    · have e : a = p := by simpa using q
      subst e
      rw [hp] at h; cases h
theorem e_box {es : List Ex} {xs : List Expr} (h : PA X xs (TL G W (evs G.pr Φ es))) : PE X (.List xs pos) (TR G W (ev G.pr Φ (.box es))) := by
  refine (pe_lst h).imp fun σ H Q ⟨w, e, s, r, q⟩ => ?_
  rw [ev] at q
  refine (TM.bind (rel1 := RepsR G) repR_m r q).mono fun vs H1 ⟨ds, w1, e1, s1, rl1, rx, x1, q1⟩ => ?_
  have rx : Reps G w1 ds vs := rx
  split at q1
  · rename_i hl
    refine ⟨by rw [rx.length, szl]; exact hl, fun p hp => ?_⟩
    obtain ⟨r2, x2⟩ := rl1.alloc (d := .lst ds) (o := .lst vs) hp ⟨vs, upd_same, rx⟩
    refine q1 _ _ (.ref p) x2 r2 ?_
    show Rep G _ (.ref s1.length) (.ref p)
    simp only [Rep]
    exact ⟨p, rfl, by show (w1.mu ++ [p])[s1.length]? = some p; rw [← rl1.bl, List.getElem?_concat_length]⟩
  · exact (show False from q1).elim
end
end Mi
set_option linter.all false
set_option maxRecDepth 100000
set_option maxHeartbeats 1000000
/-! S12: calls, errors, isinstance, slices, attributes, dicts. -/
namespace Mi
open PySem PySem.Spec PyProof.Rows L2
section
variable {G : Gx} {X : Cx} {k : Nat} {W : WX} {Φ : Cal} {a b c : Ex} {x y z : Expr} {pos : Pos}
/-! ### a def's call -/
theorem any_plain {env : PySem.Env} {ys : List Expr} (hp : ys.all plainE = true) : (backTo pos (starEach ys env)).any (·.1) = false := by
  have := back_all (pos := pos) (starEach ys env)
  rw [star_plain ys hp] at this
  simpa [List.any_eq_false, List.all_eq_true] using this
theorem e_call0 {f : Nat} {n : Str} {p : Pos} (hG : GOk G) (hX : XOk G X k) (hC : CallOk G Φ k) (tk : Takes X W) (hn : n = G.nm.fnm f) (hg : globB X.env.scope n = true) (hd : notDbg n = true) : PE X (.Call (.Name n p) [] [] pos) (TR G W (ev G.pr Φ (.call f []))) := by
  refine ⟨fun pins s σ H Q I q => ?_⟩
  obtain ⟨m1, m2⟩ := hG.fmg f
  refine wpAny_Call_Name_kw (ld_glob (u := .ref (G.fad f)) I (gl_of hg) (by rw [hX.hm, hn]; exact m1) ?_ (dbg_of hd).1)
  obtain ⟨w, e, S, r, q⟩ := q
  rw [ev, evs] at q
  have hk : PySem.W.keepIn X.K (.ref (G.fad f)) = true := by rw [hX.hK]; exact m2
  exact PySem.W.callWith_K0 I.kIn hk (run_user (us := []) (vs := []) (w := w) hX hC tk I .nil (by simp [Reps]) r (q.pure rfl))
theorem e_call {f : Nat} {n : Str} {es : List Ex} {xs : List Expr} {p : Pos} (hG : GOk G) (hX : XOk G X k) (hC : CallOk G Φ k) (tk : Takes X W) (hn : n = G.nm.fnm f) (hg : globB X.env.scope n = true) (hd : notDbg n = true) (hp : (x :: xs).all plainE = true)
    (h : PA X (x :: xs) (TL G W (evs G.pr Φ es))) : PE X (.Call (.Name n p) (x :: xs) [] pos) (TR G W (ev G.pr Φ (.call f es))) := by
  refine ⟨fun pins s σ H Q I q => ?_⟩
  obtain ⟨m1, m2⟩ := hG.fmg f
  refine wpAny_Call_Name_kw (ld_glob (u := .ref (G.fad f)) I (gl_of hg) (by rw [hX.hm, hn]; exact m1) ?_ (dbg_of hd).1)
  obtain ⟨w, e, S, r, q⟩ := q
  rw [ev] at q
  have q1 := TM.bind (rel1 := RepsR G) repR_m r q
  have hk : PySem.W.keepIn X.K (.ref (G.fad f)) = true := by rw [hX.hK]; exact m2
  rw [List.all_cons, Bool.and_eq_true] at hp
  refine PySem.W.callWith_K (h₀ := X.base) I.ok.mod.kin hk (thn (h.run pos pins s σ H _ I q1) fun us s1 hh => ?_) (star_cons hp.1) (any_plain hp.2)
  obtain ⟨vs, H1, I1, r1, ds, w1, e1, s1', rl1, rx, x1, q3⟩ := hh
  exact ⟨I1.kIn, run_user hX hC tk I1 r1 rx rl1 q3⟩
/-! ### an error as a value -/
theorem e_mk {c : Nat} {n : Str} {p : Pos} (hG : GOk G) (hX : XOk G X k) (hn : n = G.nm.cnm c) (hg : globB X.env.scope n = true) (hd : notDbg n = true) (hp : plainE x = true) (he : G.pr.isExc c = true)
    (h : PA X [x] (TL G W (evs G.pr Φ [a]))) : PE X (.Call (.Name n p) [x] [] pos) (TR G W (ev G.pr Φ (.mk c [a]))) := by
  obtain ⟨hT, D, fI, h1, h2⟩ := hG.exc c he
  have e1 : X.prog = G.P := hX.hP
  have e2 : X.K = G.K := hX.hK
  refine (pe_exc (X := X) (C := G.cad c) (D := D) (fI := fI) (k := k) (by rw [e1, e2]; exact h1) (by rw [e2]; exact h2) (by rw [hX.hm]; exact hG.sup) (by rw [e2]; exact hT.kp) hX.room.room (gl_of hg) (by rw [hX.hm, hn]; exact hG.cls c) h (dbg_of hd).1 hp).imp fun σ H Q ⟨w, e, s, r, q⟩ => ?_
  rw [ev] at q
  refine (TM.bind (rel1 := RepsR G) repR_m r q).mono fun vs H1 ⟨ds, w1, e1, s1, rl1, rx, x1, q1⟩ => ?_
  have rx : Reps G w1 ds vs := rx
  unfold make at q1
  rw [if_pos he] at q1
  cases ds with
  | nil => exact (show False from q1).elim
  | cons d ds =>
    cases ds with
    | cons _ _ => exact (show False from q1).elim
    | nil =>
      simp only [Reps] at rx
      obtain ⟨v, r', rfl, rv, rfl⟩ := rx
      refine ⟨v, rfl, fun p dd hp hdd hne => ?_⟩
      have g1 := Gro.newP (o := .xd [(("value" : Str), v)]) rl1.pe hdd
      have rl2 := rl1.gro g1
      have hp2 : upd H1 dd (.xd [(("value" : Str), v)]) p = none := by rw [upd_ne (Ne.symm hne)]; exact hp
      have g2 := Gro.newP (o := XcO (.ref (G.cad c)) dd p) rl2.pe hp2
      have rl3 := rl2.gro g2
      refine q1.ret _ _ (.ref p) ((g1.ext (G := G) (s := s1)).trans (g2.ext (G := G) (s := s1))) rl3 ?_
      show Rep G _ (.exc c d) (.ref p)
      simp only [Rep]
      refine ⟨p, dd, v, rfl, upd_same, ?_, Rep.mono (g1.le.trans g2.le) d v rv⟩
      show upd (upd w1.pe dd _) p _ dd = _
      rw [upd_ne hne, upd_same, hG.val]
/-! ### isinstance -/
def cvV (G : Gx) : Cl → V
  | .int => .ty "int"
  | .str => .ty "str"
  | .tuple => .ty "tuple"
  | .list => .ty "list"
  | .bool => .ty "bool"
  | .dict => .ty "dict"
  | .valueError => .ty "ValueError"
  | .own c => .ref (G.cad c)
theorem cvV_rel {c : Cl} {u : Value} (h : RelV (cvV G c) u) : u = clV G c := by cases c <;> exact h
theorem boot_ve : bootBuiltins "ValueError" = some (.type "ValueError") := by decide +kernel
theorem pe_cl {c : Cl} (hG : GOk G) (hX : XOk G X k) (h : shCl G.nm X.env.scope c x = true) : PE X x (tC (cvV G c)) := by
  cases x with
  | Name n p =>
    simp only [shCl, Bool.and_eq_true, decide_eq_true_eq] at h
    obtain ⟨rfl, h1, h2⟩ := h
    have hb : ∀ {n : String}, clName G.nm c = (n : Str) → (n : Str) ∈ blts → bootBuiltins (n : Str) = some (.type n) → cvV G c = .ty n → (n : Str) ≠ "__name__" → PE X (.Name (clName G.nm c) p) (tC (cvV G c)) := fun {n} e hm hv ec hn => by
      rw [ec]
      exact pe_bltn (gl_of h1) (by rw [hX.hm, e]; exact hG.blt _ hm) (by rw [e]; exact hv) rfl (by rw [e]; exact hn) (dbg_of h2).1
    cases c with
    | own c => exact pe_glob (gl_of h1) (by rw [hX.hm]; exact hG.cls c) rfl (dbg_of h2).1
    | int => exact hb rfl (by simp [blts]) PyProof.Rows.boot_int rfl (by decide)
    | str => exact hb rfl (by simp [blts]) PyProof.Rows.boot_str rfl (by decide)
    | tuple => exact hb rfl (by simp [blts]) PyProof.Rows.boot_tuple rfl (by decide)
    | list => exact hb rfl (by simp [blts]) PyProof.Rows.boot_list rfl (by decide)
    | bool => exact hb rfl (by simp [blts]) PyProof.Rows.boot_bool rfl (by decide)
    | dict => exact hb rfl (by simp [blts]) PyProof.Rows.boot_dict rfl (by decide)
    | valueError => exact hb rfl (by simp [blts]) boot_ve rfl (by decide)
  | _ => cases h
theorem isi_tag {w : Wd} {H : Hp} {d : D} {v : V} {c : Cl} {b : Bool} (hr : Red G w H d v) (h : d.isi G.pr.toClsG c = some b) : (∃ t, tagV G d = some t) ∧ ∀ e f, d = .exc e f → G.pr.isExc e = true := by
  unfold D.isi at h
  split at h
  · rename_i ho
    rw [Bool.and_eq_true] at ho
    refine ⟨?_, fun e f z => by subst z; exact ho.2⟩
    cases d with
    | obj _ _ => exact (red_obj hr).elim
    | und => cases h
    | scr _ => cases h
    | ref _ => cases h
    | _ => exact ⟨_, rfl⟩
  · cases h
theorem e_isi1 {cl : Cl} {p : Pos} (hG : GOk G) (hX : XOk G X k) (hg : globB X.env.scope "isinstance" = true) (hp : plainE x = true) (ha : PE X x (TR G W (ev G.pr Φ a))) (hc : shCl G.nm X.env.scope cl y = true) :
    PE X (.Call (.Name "isinstance" p) [x, y] [] pos) (TR G W (ev G.pr Φ (.isi a [cl]))) := by
  have py : plainE y = true := by cases y <;> first | rfl | cases hc
  refine (pe_callB (c_isi hX.hK) (gl_of hg) (by rw [hX.hm]; exact hG.blt _ (by simp [blts])) boot_isinstance (pa_cons ha (pa_cons (pe_cl hG hX hc) pa_nil (star_cons py)) (star_cons hp)) (by decide) (by decide) (star_cons hp) (by rw [star_cons py]; rfl)).imp fun σ H Q h => ?_
  obtain ⟨w, e, s, r, q⟩ := h
  rw [ev] at q
  refine (TM.bind (rel1 := RepR G) repR_m r q).mono fun v H1 ⟨r1, w1, e1, s1, rl1, rx, x1, q1⟩ => ?_
  obtain ⟨d1, _, hd1, q3⟩ := q1.deref rl1 rx
  obtain ⟨bb, hb, q4⟩ := q3.opt
  have hi : d1.isi G.pr.toClsG cl = some bb := by
    unfold isiL at hb
    cases z : d1.isi G.pr.toClsG cl with
    | none => rw [z] at hb; cases hb
    | some t =>
      rw [z] at hb
      cases t with
      | true => exact hb
      | false => exact hb
  obtain ⟨⟨t, ht⟩, he⟩ := isi_tag hd1 hi
  refine ⟨w1, d1, v, t, clV G cl, cvV G cl, bb, rfl, rl1.pe, hd1, fun c e z => (hG.exc c (he c e z)).1, ht, fun u hu => cvV_rel hu, hG.kit d1 t cl bb ht hi, ?_⟩
  exact q4.ret w1 H1 _ Ext.refl rl1 (by simp [RepR, Rep])
def tCs : List V → TA
  | [] => tNil
  | v :: vs => tCons (tC v) (tCs vs)
theorem tCs_run {σ : L2.St} : ∀ {vs : List V} {H : Hp} {Q : List V → Hp → Prop}, Q vs H → tCs vs σ H Q
  | [], H, Q, h => h
  | v :: vs, H, Q, h => tCs_run (vs := vs) (Q := fun xs H2 => Q (v :: xs) H2) h
theorem pa_cls (hG : GOk G) (hX : XOk G X k) : ∀ {cls : List Cl} {xs : List Expr}, shCls G.nm X.env.scope cls xs = true → PA X xs (tCs (cls.map (cvV G)))
  | [], [], _ => pa_nil
  | c :: cls, x :: xs, h => by
    simp only [shCls, Bool.and_eq_true] at h
    have px : plainE x = true := by cases x <;> first | rfl | cases h.1
    exact pa_cons (pe_cl hG hX h.1) (pa_cls hG hX h.2) (star_cons px)
  | [], _ :: _, h => by cases h
  | _ :: _, [], h => by cases h
theorem cls_vals : ∀ {cls : List Cl} {us : List Value}, Vals (cls.map (cvV G)) us → us = cls.map (clV G)
  | [], _, h => by cases h; rfl
  | c :: cls, us, h => by
    rw [List.map_cons] at h
    cases h with
    | cons h1 h2 => rw [cvV_rel h1, cls_vals h2]; rfl
theorem kit_any {d : D} {t : Value} (hG : GOk G) (ht : tagV G d = some t) : ∀ {cls : List Cl} {b : Bool}, isiL G.pr d cls = some b → PySem.W.kitAny G.K t (cls.map (clV G)) = some b
  | [], b, h => h
  | c :: cls, b, h => by
    unfold isiL at h
    unfold PySem.W.kitAny
    cases z : d.isi G.pr.toClsG c with
    | none => rw [z] at h; cases h
    | some bb =>
      rw [z] at h
      show (match PySem.W.kitOne G.K t (clV G c) with | some true => _ | some false => _ | none => _) = _
      rw [hG.kit d t c bb ht z]
      cases bb with
      | true => exact h
      | false => exact kit_any hG ht h
theorem isiL_tag {w : Wd} {H : Hp} {d : D} {v : V} {c : Cl} {cls : List Cl} {b : Bool} (hr : Red G w H d v) (h : isiL G.pr d (c :: cls) = some b) : (∃ t, tagV G d = some t) ∧ ∀ e f, d = .exc e f → G.pr.isExc e = true := by
  unfold isiL at h
  cases z : d.isi G.pr.toClsG c with
  | none => rw [z] at h; cases h
  | some bb => exact isi_tag hr z
theorem e_isiT {c : Cl} {cls : List Cl} {xs : List Expr} {j : Nat} {p p2 : Pos} (hG : GOk G) (hX : XOk G X k) (hg : globB X.env.scope "isinstance" = true) (hp : plainE x = true) (ha : PE X x (TR G W (ev G.pr Φ a))) (hc : shCls G.nm X.env.scope (c :: cls) xs = true) (hl : cls.length < 1000) :
    PE X (.Call (.Name "isinstance" p) [x, .Tuple xs j p2] [] pos) (TR G W (ev G.pr Φ (.isi a (c :: cls)))) := by
  refine (pe_callB (c_isiT (G := G) hX.hK) (gl_of hg) (by rw [hX.hm]; exact hG.blt _ (by simp [blts])) boot_isinstance (pa_cons ha (pa_cons (pe_tup (pa_cls hG hX hc)) pa_nil (star_cons rfl)) (star_cons hp)) (by decide) (by decide) (star_cons hp) (by rw [star_cons rfl]; rfl)).imp fun σ H Q h => ?_
  obtain ⟨w, e, s, r, q⟩ := h
  rw [ev] at q
  refine (TM.bind (rel1 := RepR G) repR_m r q).mono fun v H1 ⟨r1, w1, e1, s1, rl1, rx, x1, q1⟩ => ?_
  obtain ⟨d1, _, hd1, q3⟩ := q1.deref rl1 rx
  obtain ⟨bb, hb, q4⟩ := q3.opt
  obtain ⟨⟨t, ht⟩, he⟩ := isiL_tag hd1 hb
  refine tCs_run ⟨by rw [szl, List.length_map]; simp [SZ]; omega, fun p' hp' => ?_⟩
  have g := Gro.new (o := .tup ((c :: cls).map (cvV G))) rl1.pe hp'
  have rl2 := rl1.gro g
  have hd2 : Red G w1 (upd H1 p' (.tup ((c :: cls).map (cvV G)))) d1 v := by
    cases d1 with
    | lst xs =>
      obtain ⟨a, vs, h1, h2, h3⟩ := hd1
      exact ⟨a, vs, h1, g.h _ _ h2, h3⟩
    | dct ks ds =>
      obtain ⟨a, vs, h1, h2, h3⟩ := hd1
      exact ⟨a, vs, h1, g.h _ _ h2, h3⟩
    | _ => exact hd1
  refine ⟨w1, d1, v, t, p', (c :: cls).map (clV G), (c :: cls).map (cvV G), bb, rfl, rl2.pe, hd2, fun c e z => (hG.exc c (he c e z)).1, ht, upd_same, fun us hu => cls_vals hu, kit_any hG ht hb, ?_⟩
  exact q4.ret w1 _ _ (g.ext (G := G) (s := s1)) rl2 (by simp [RepR, Rep])
/-! ### slices -/
def TO' (G : Gx) (W : WX) (m : M (Option D)) : TO := TM G W (fun _ _ _ _ _ (o : Option D) (i : Option Int) => o = i.map .int) m
def optR : RelF (Option D) (Option Int) := fun _ _ _ _ _ o i => o = i.map .int
theorem optR_m : RelM optR := fun _ _ _ _ _ _ _ _ _ h => h
theorem po_omit : PO X none (TM G W optR (evO G.pr Φ .omit)) := by
  refine ⟨fun pins s σ H Q I q => po_none.run pins s σ H Q I ?_⟩
  obtain ⟨w, e, s, r, q⟩ := q
  exact TMat.ret q w H none Ext.refl r rfl
theorem evO_ne (h : a ≠ .omit) : evO G.pr Φ a = M.bind (ev G.pr Φ a) fun r => M.bind (deref r) fun d => match d with
    | .int i => .ret (some (.int i))
    | _ => .bad := by
  unfold evO
  cases a <;> first | exact absurd rfl h | rfl
theorem po_ev (hn : a ≠ .omit) (ha : PE X x (TR G W (ev G.pr Φ a))) : PO X (some x) (TM G W optR (evO G.pr Φ a)) := by
  refine ⟨fun pins s σ H Q I q => (po_some ha).run pins s σ H Q I ?_⟩
  obtain ⟨w, e, s, r, q⟩ := q
  rw [evO_ne hn] at q
  refine (TM.bind (rel1 := RepR G) optR_m r q).mono fun v H1 ⟨r1, w1, e1, s1, rl1, rx, x1, q1⟩ => ?_
  obtain ⟨d1, _, hd1, q3⟩ := q1.deref rl1 rx
  cases d1 with
  | int i => exact ⟨i, red_int hd1, q3.ret w1 H1 (some i) Ext.refl rl1 rfl⟩
  | _ => exact (show False from q3).elim
theorem e_sl {lo hi : Ex} {l h : Option Expr} {p2 : Pos} (hK : X.K = G.K) (ha : PE X x (TR G W (ev G.pr Φ a))) (hl : PO X l (TM G W optR (evO G.pr Φ lo))) (hh : PO X h (TM G W optR (evO G.pr Φ hi))) :
    PE X (.Subscript x (.Slice l h none p2) pos) (TR G W (ev G.pr Φ (.sl a lo hi))) := by
  refine (pe_slice (s_sl hK) ha hl hh).imp fun σ H Q ⟨w, e, s, r, q⟩ => ?_
  rw [ev_sl] at q
  refine (TM.bind (rel1 := RepR G) repR_m r q).mono fun x H1 ⟨r1, w1, e1, s1, rl1, rx, x1, q1⟩ => ?_
  refine (TM.bind (rel1 := optR) repR_m rl1 q1).mono fun y H2 ⟨o2, w2, e2, s2, rl2, ry, x2, q2⟩ => ?_
  refine (TM.bind (rel1 := optR) repR_m rl2 q2).mono fun z H3 ⟨o3, w3, e3, s3, rl3, rz, x3, q3⟩ => ?_
  obtain ⟨d1, _, hd1, q4⟩ := q3.deref rl3 (rx.ext (x2.trans x3))
  obtain ⟨r', hr', hq⟩ := q4.opt1
  have ry : o2 = y.map .int := ry
  have rz : o3 = z.map .int := rz
  subst ry rz
  exact ⟨w3, d1, r', rl3.pe, hd1, hr', fin_gro (rel := RepR G) rl3 hq⟩
/-! ### methods, attributes -/
theorem base_of {n : Str} {env : PySem.Env} {t : Sem Value} (h : nocall0 x = true) : attributeBase x n env t = t := by
  unfold attributeBase
  split
  · exact (Bool.false_ne_true h).elim
  · rfl
theorem e_upper {ap : Pos} (hb : nocall0 x = true) (hl : (ap.endLine == pos.line) = true) (ha : PE X x (TR G W (ev G.pr Φ a))) : PE X (.Call (.Attribute x "upper" ap) [] [] pos) (TR G W (ev G.pr Φ (.m0 .upper a))) := by
  refine (pe_bm0 PySem.F.plainAttrs_str PySem.F.slot_str_upper PySem.F.type_str_upper (m_upper (G := G)) ha (base_of hb) hl).imp fun σ H Q h => ?_
  have z : tUn (rP1 G (opM0 .upper)) (TR G W (ev G.pr Φ a)) σ H Q := one_op (fun _ _ _ _ _ => rfl) (by rw [ev] at h; exact h)
  refine TM.mono z fun v H1 ⟨w, d, r, kk, hd, hf, hq⟩ => ⟨?_, rfl, w, d, r, kk, hd, hf, hq⟩
  cases d with
  | str s =>
    obtain ⟨rfl, _⟩ := red_str hd
    rfl
  | _ => cases hf
theorem e_at {n : Nat} {f : Str} (hG : GOk G) (hX : XOk G X k) (hf : f = G.nm.anm n) (hb : nocall0 x = true) (ha : PE X x (TR G W (ev G.pr Φ a))) : PE X (.Attribute x f pos) (TR G W (ev G.pr Φ (.at a n))) := by
  by_cases hv : n = G.pr.val
  · subst hv
    rw [hf, hG.val]
    refine (pe_val hX.hK hG.val ha (base_of hb)).imp fun σ H Q ⟨w, e, s, r, q⟩ => ?_
    rw [ev] at q
    refine (TM.bind (rel1 := RepR G) repR_m r q).mono fun v H1 ⟨r1, w1, e1, s1, rl1, rx, x1, q1⟩ => ?_
    obtain ⟨d1, _, hd1, q3⟩ := q1.deref rl1 rx
    cases d1 with
    | exc c d =>
      unfold attrM at q3
      dsimp only at q3
      by_cases he : G.pr.isExc c = true
      · rw [if_pos ⟨rfl, he⟩] at q3
        exact ⟨w1, c, d, rl1.pe, hd1, (hG.exc c he).1, fun v' hv' => q3.ret w1 H1 v' Ext.refl rl1 hv'⟩
      · rw [if_neg (fun z => he z.2)] at q3
        exact (show False from q3).elim
    | obj c fs => exact (red_obj hd1).elim
    | _ => exact (show False from q3).elim
  · refine ⟨fun pins s σ H Q I ⟨w, e, S, r, q⟩ => ?_⟩
    rw [ev] at q
    have q0 := TM.bind (rel1 := RepR G) repR_m r q
    refine attr_of (base_of hb) (thn (ha.run pins s σ H _ I q0) fun u s1 ⟨y, H1, I1, ry, r1, w1, e1, S1, rl1, rx, x1, q1⟩ => ?_)
    obtain ⟨d1, _, hd1, q3⟩ := q1.deref rl1 rx
    cases d1 with
    | exc c d =>
      unfold attrM at q3
      dsimp only at q3
      rw [if_neg (fun z => hv z.1)] at q3
      exact (show False from q3).elim
    | obj c fs => exact (red_obj hd1).elim
    | _ => exact (show False from q3).elim
/-! ### list(range(n)) -/
theorem rg_reps {w : Wd} : ∀ (n : Nat) (lo : Int), Reps G w (rangeL lo n) ((List.range n).map fun i => V.int (lo + (i : Nat)))
  | 0, lo => by simp [rangeL, Reps]
  | n + 1, lo => by
    rw [rangeL, List.range_succ_eq_map, List.map_cons, List.map_map]
    simp only [Reps]
    refine ⟨_, _, rfl, by simp [Rep], ?_⟩
    have := rg_reps (w := w) n (lo + 1)
    have e : ((fun i : Nat => V.int (lo + (i : Nat))) ∘ Nat.succ) = fun i : Nat => V.int (lo + 1 + (i : Nat)) := by
      funext i
      simp only [Function.comp]
      congr 1
      omega
    rw [e]
    exact this
theorem rangeL_len : ∀ (n : Nat) (lo : Int), (rangeL lo n).length = n
  | 0, _ => rfl
  | n + 1, lo => by rw [rangeL, List.length_cons, rangeL_len n]
theorem e_listRg {p p2 p3 : Pos} (hG : GOk G) (hX : XOk G X k) (hg : globB X.env.scope "list" = true) (hg2 : globB X.env.scope "range" = true) (hp : plainE x = true) (ha : PE X x (TR G W (ev G.pr Φ a))) :
    PE X (.Call (.Name "list" p) [.Call (.Name "range" p2) [x] [] p3] [] pos) (TR G W (ev G.pr Φ (.list (.rng1 a)))) := by
  refine (pe_listRg hX.calm (gl_of hg) (by rw [hX.hm]; exact hG.blt _ (by simp [blts])) (prg_1 (gl_of hg2) (by rw [hX.hm]; exact hG.blt _ (by simp [blts])) ha (star_cons hp)) (star_cons rfl)).imp fun σ H Q ⟨w, e, s, r, q⟩ => ?_
  rw [ev, evIt, bind_assoc] at q
  refine (TM.bind (rel1 := RepR G) repR_m r q).mono fun v H1 ⟨r1, w1, e1, s1, rl1, rx, x1, q1⟩ => ?_
  rw [bind_assoc] at q1
  obtain ⟨d1, _, hd1, q3⟩ := q1.deref rl1 rx
  cases d1 with
  | int n =>
    dsimp only at q3
    split at q3
    · rename_i hn
      have q4 := q3.pure rfl
      obtain ⟨r', hr', hq⟩ := q4.opt1
      unfold fresh at hr'
      split at hr'
      · rename_i hl
        cases hr'
        rw [rangeL_len] at hl
        unfold two62 SZ at *
        refine ⟨n, red_int hd1, ⟨by omega, by omega, by omega, by omega, by omega⟩, fun p' hp' => ?_⟩
        have e : rgV 0 n = (List.range n.toNat).map fun i => V.int (0 + (i : Nat)) := by
          unfold rgV
          rw [Int.sub_zero]
        rw [e]
        exact q_lst rl1.pe (fin_gro (rel := RepR G) rl1 hq) (rg_reps _ _) hp'
      · cases hr'
    · exact (show False from q3).elim
  | _ => exact (show False from q3).elim
end
end Mi
set_option linter.all false
set_option maxRecDepth 100000
set_option maxHeartbeats 1000000
/-! S13: dicts of written keys. -/
namespace Mi
open PySem PySem.Spec PyProof.Rows L2
def keyV : D → V
  | .str s => .str (cs s)
  | .int i => .int i
  | _ => .non
section
variable {G : Gx} {X : Cx} {k : Nat} {W : WX} {Φ : Cal} {a b c : Ex} {x y z : Expr} {pos : Pos}
theorem tl_cons {es : List Ex} {σ : L2.St} {H : Hp} {Q : List V → Hp → Prop} (h : TL G W (evs G.pr Φ (a :: es)) σ H Q) : TD G W (M.bind (ev G.pr Φ a) esc) σ H fun y H1 => TL G W (evs G.pr Φ es) σ H1 fun ys H2 => Q (y :: ys) H2 := by
  obtain ⟨w, e, s, r, q⟩ := h
  have q' : TMat G W (RepsR G) w e s (M.bind (M.bind (ev G.pr Φ a) esc) fun d => M.bind (evs G.pr Φ es) fun ds => .ret (d :: ds)) σ H Q := by
    have e1 : (M.bind (M.bind (ev G.pr Φ a) esc) fun d => M.bind (evs G.pr Φ es) fun ds => M.ret (d :: ds)) e s = (evs G.pr Φ (a :: es)) e s := by
      rw [evs]
      show ((ev G.pr Φ a e s).bind esc).bind _ = (ev G.pr Φ a e s).bind _
      cases ev G.pr Φ a e s <;> rfl
    unfold TMat at q ⊢
    rw [e1]
    exact q
  refine (TM.bind (rel1 := RepD G) repsR_m r q').mono fun v H1 ⟨d, w1, e1, s1, r1, hd, x1, q1⟩ => ?_
  refine (TM.bind (rel1 := RepsR G) repsR_m r1 q1).mono fun vs H2 ⟨ds, w2, e2, s2, r2, hds, x2, q2⟩ => ?_
  exact q2 w2 H2 (v :: vs) Ext.refl r2 (by
    show Reps G w2 (d :: ds) (v :: vs)
    simp only [Reps]
    exact ⟨v, vs, rfl, Rep.mono x2.le d v hd, hds⟩)
def trsOf (G : Gx) (W : WX) (Φ : Cal) : List D → List Ex → List (TE × TE)
  | k :: ks, v :: vs => (tC (keyV k), TD G W (M.bind (ev G.pr Φ v) esc)) :: trsOf G W Φ ks vs
  | _, _ => []
theorem pairs_of : ∀ {ks : List D} {es : List Ex} {σ : L2.St} {H : Hp} {Q : List (V × V) → Hp → Prop}, ks.length = es.length → TL G W (evs G.pr Φ es) σ H (fun us H1 => Q (List.zip (ks.map keyV) us) H1) → tPairs (trsOf G W Φ ks es) σ H Q
  | [], [], σ, H, Q, _, h => by
    obtain ⟨w, e, s, r, q⟩ := h
    rw [evs] at q
    exact q.ret w H [] Ext.refl r (by simp [RepsR, Reps])
  | k :: ks, a :: es, σ, H, Q, hl, h => by
    have hl : ks.length = es.length := by simpa using hl
    exact TM.mono (tl_cons h) fun y H1 h1 => pairs_of (Q := fun ps H3 => Q ((keyV k, y) :: ps) H3) hl h1
  | [], _ :: _, _, _, _, hl, _ => by simp at hl
  | _ :: _, [], _, _, _, hl, _ => by simp at hl
theorem e_key {d : D} {c : Const} {j : Nat} (h : constIs d c = true) (hs : ∃ s, d = .str s) : PE X (.Constant c j pos) (tC (keyV d)) := by
  obtain ⟨s, rfl⟩ := hs
  cases c with
  | str j =>
    simp only [constIs, Bool.and_eq_true, decide_eq_true_eq] at h
    obtain ⟨rfl, h⟩ := h
    exact pe_str
  | _ => cases h
def isStr : D → Bool
  | .str _ => true
  | _ => false
theorem strs_is : ∀ {ks : List D} {ss : List (List Nat)}, D.strs ks = some ss → ks.all isStr = true ∧ keysOf ks = some (ss.map fun s => (.inr (cs s) : Key)) ∧ ks.map keyV = ss.map fun s => V.str (cs s)
  | [], ss, h => by cases h; exact ⟨rfl, rfl, rfl⟩
  | k :: ks, ss, h => by
    cases k with
    | str s =>
      unfold D.strs at h
      cases z : D.strs ks with
      | none => rw [z] at h; cases h
      | some r =>
        rw [z] at h
        cases h
        obtain ⟨h1, h2, h3⟩ := strs_is z
        refine ⟨by simp [isStr, h1], ?_, by simp [keyV, h3]⟩
        unfold keysOf
        rw [h2]
        rfl
    | _ => cases h
theorem merge_nd : ∀ (kvs acc : List (Key × V)), ((acc ++ kvs).map (·.1)).Nodup → mergeK acc kvs = acc ++ kvs
  | [], acc, _ => by simp [mergeK]
  | p :: kvs, acc, h => by
    show mergeK (putK acc p.1 p.2) kvs = _
    have hn : ∀ q ∈ acc, q.1 ≠ p.1 := fun q hq e => by
      rw [List.map_append, List.map_cons, List.nodup_append] at h
      exact h.2.2 q.1 (List.mem_map.mpr ⟨q, hq, rfl⟩) p.1 List.mem_cons_self e
    have e : putK acc p.1 p.2 = acc ++ [p] := by
      unfold putK
      rw [if_neg]
      rw [List.any_eq_true]
      rintro ⟨q, hq, z⟩
      exact hn q hq (of_decide_eq_true z)
    rw [e, merge_nd kvs (acc ++ [p]) (by rw [List.append_assoc]; exact h), List.append_assoc]
    rfl
theorem cs_nodup {ss : List (List Nat)} (h : ss.Nodup) : (ss.map fun s => (.inr (cs s) : Key)).Nodup := by
  rw [List.nodup_iff_pairwise_ne, List.pairwise_map]
  exact (List.nodup_iff_pairwise_ne.mp h).imp fun ne e => ne (cs_inj (Sum.inr.inj e))
theorem zip_kv : ∀ (ss : List (List Nat)) (us : List V), List.zip (ss.map fun s => V.str (cs s)) us = (List.zip (ss.map fun s => (.inr (cs s) : Key)) us).map fun kv => (kV kv.1, kv.2)
  | [], us => rfl
  | s :: ss, [] => rfl
  | s :: ss, u :: us => by
    rw [List.map_cons, List.zip_cons_cons, zip_kv ss us]
    rfl
/-- another's object is exchanged -/
theorem Rel.poke {w : Wd} {e : Env} {s : Store} {σ : L2.St} {H : Hp} {p : Addr} {o : HO} (r : Rel G w e s σ H) (h1 : w.pe p = none) (h2 : ¬ Own e σ p) (h3 : p ∉ w.mu) : Rel G w e s σ (upd H p o) := by
  refine ⟨r.len, fun a o' h => ?_, r.val, fun i d h => ?_, r.dis, r.bl, fun i d h => ?_, r.nd⟩
  · rw [upd_ne (ne_of_none h h1)]; exact r.pe a o' h
  · obtain ⟨a, q1, q2, q3, q4⟩ := r.own i d h
    refine ⟨a, q1, q2.mono (WLe.refl w) fun o' q => ?_, q3, q4⟩
    rw [upd_ne (fun z => h2 (by rw [← z]; exact ⟨i, d, h, q1⟩))]; exact q
  · obtain ⟨a, q1, q2, q3⟩ := r.bx i d h
    refine ⟨a, q1, q2.mono (WLe.refl w) fun o' q => ?_, q3⟩
    rw [upd_ne (fun z => h3 (by rw [← z]; exact List.mem_of_getElem? q1))]; exact q
theorem strs_len : ∀ {ks : List D} {ss : List (List Nat)}, D.strs ks = some ss → ss.length = ks.length
  | [], ss, h => by cases h; rfl
  | k :: ks, ss, h => by
    cases k with
    | str s =>
      unfold D.strs at h
      cases z : D.strs ks with
      | none => rw [z] at h; cases h
      | some r =>
        rw [z] at h
        cases h
        rw [List.length_cons, List.length_cons, strs_len z]
    | _ => cases h
theorem e_dct0 : PE X (.Dict [] [] pos) (TR G W (ev G.pr Φ (.dct [] []))) := by
  refine pe_dnewK.imp fun σ H Q ⟨w, e, s, r, q⟩ p hp => ?_
  rw [ev, evs] at q
  obtain ⟨r', hr', hq⟩ := (q.pure rfl).opt1
  have e' : r' = .fr (.dct [] []) := by
    have : opDct [] [] = some (.fr (.dct [] [])) := rfl
    rw [this] at hr'
    exact (Option.some.inj hr').symm
  subst e'
  exact fin_gro (rel := RepR G) r hq _ _ (.ref p) (Gro.new r.pe hp) ⟨p, rfl, ⟨[], upd_same, rfl, by simp [Reps]⟩, hp, pe_free r.pe hp⟩
theorem e_dct {keys : List (Option Expr)} {xs : List Expr} {ks : List D} {es : List Ex} (hl : ks.length = es.length) (hk : keys.length = xs.length) (h0 : keys ≠ []) (h15 : keys.length ≤ 15) (hall : keys.all (·.isSome) = true) (h : PPs X pos keys xs (trsOf G W Φ ks es)) :
    PE X (.Dict keys xs pos) (TR G W (ev G.pr Φ (.dct ks es))) := by
  refine (pe_disp h hall hk h0 h15).imp fun σ H Q ⟨w, e, s, r, q⟩ p hp => ?_
  rw [ev] at q
  have g := Gro.new (o := .dK []) r.pe hp
  have r' := r.gro g
  obtain ⟨f1, f2, f3⟩ := r.free hp
  refine pairs_of hl ?_
  refine ⟨w, e, s, r', ?_⟩
  unfold TMat at q ⊢
  unfold M.bind at q
  cases z : evs G.pr Φ es e s with
  | bad => rw [z] at q; exact q
  | exc c d e' s' =>
    rw [z] at q
    exact fun w' H' dd x1 r1 hd => q w' H' dd ((g.ext (G := G) (s := s)).trans x1) r1 hd
  | ok ds e' s' =>
    rw [z, Res.bind_ok] at q
    refine fun w1 H1 us x1 r1 rx => ?_
    have rx : Reps G w1 ds us := rx
    cases y : opDct ks ds with
    | none => rw [y] at q; exact (show False from q).elim
    | some r0 =>
      rw [y] at q
      unfold opDct at y
      cases hs : D.strs ks with
      | none =>
        rw [hs] at y
        simp at y
      | some ss =>
        rw [hs] at y
        dsimp only at y
        split at y
        · rename_i hc
          cases y
          simp only [Bool.and_eq_true, decide_eq_true_eq] at hc
          obtain ⟨c1, c2, c3⟩ := hc
          have nd : ss.Nodup := c3
          obtain ⟨_, k2, k3⟩ := strs_is hs
          have ls : ss.length = us.length := by rw [strs_len hs, c2, rx.length]
          have hown : ¬ Own e σ p := f2
          have kp : H1 p = some (.dK []) := x1.keep p _ upd_same f2 f3
          have wp : w1.pe p = none := x1.cap p _ upd_same f2 f1
          have mp : p ∉ w1.mu := x1.capm p _ upd_same f3
          have op : ¬ Own e' σ p := fun t => by
            rcases x1.own p t with t | t
            · exact f2 t
            · rw [upd_same] at t; cases t
          have fst : (List.zip (ss.map fun s => (.inr (cs s) : Key)) us).map (·.1) = ss.map fun s => (.inr (cs s) : Key) := zip_fst _ _ (by rw [List.length_map]; exact ls)
          have snd : (List.zip (ss.map fun s => (.inr (cs s) : Key)) us).map (·.2) = us := zip_snd _ _ (by rw [List.length_map]; exact ls)
          refine ⟨kp, List.zip (ss.map fun s => (.inr (cs s) : Key)) us, by rw [k3]; exact zip_kv ss us, ?_, ?_⟩
          · rw [List.length_zip, List.length_map, ← ls, Nat.min_self, strs_len hs]; exact c1
          · rw [merge_nd _ [] (by rw [List.nil_append, fst]; exact cs_nodup nd), List.nil_append]
            refine q w1 _ (.ref p) ?_ (r1.poke wp op mp) ⟨p, rfl, ⟨_, upd_same, by rw [fst]; exact k2, by rw [snd]; exact rx⟩, wp, op, mp, hp⟩
            have x2 := (g.ext (G := G) (s := s) (e := e) (σ := σ)).trans x1
            refine ⟨x2.le, fun a o h n m => ?_, x2.cap, x2.capm, x2.own, fun a o h => ?_⟩
            · rw [upd_ne (ne_of_none h hp)]
              exact x2.keep a o h n m
            · rw [upd_ne (ne_of_none h hp)]
              exact x2.tk a o h
        · cases y
end
end Mi
set_option linter.all false
set_option maxRecDepth 100000
set_option maxHeartbeats 1000000
/-! S14: what is walked; targets. -/
namespace Mi
open PySem PySem.Spec PyProof.Rows L2
/-- an iterator yields data, whatever the world grows to -/
def ItOf (G : Gx) (w : Wd) (xs : List D) (J : L2.It) : Prop := ∀ w1, WLe w w1 → ∀ H : Hp, (∀ a o, w1.pe a = some o → H a = some o) → ∀ i,
  (∀ d, xs[i]? = some d → J.go i H ∧ ∀ x H', J.yld i H x H' → ∃ w2, Gro w1 H w2 H' ∧ Rep G w2 d x) ∧ (xs[i]? = none → J.stop i H)
def ItR (G : Gx) : RelF (List D) L2.It := fun _ w _ _ _ xs J => ItOf G w xs J
theorem itR_m {G : Gx} : RelM (ItR G) := fun _ _ _ _ _ _ _ _ _ h => h
abbrev TII (G : Gx) (W : WX) (m : M (List D)) : TI := TM G W (ItR G) m
section
variable {G : Gx} {X : Cx} {k : Nat} {W : WX} {Φ : Cal} {a b c : Ex} {x y z : Expr} {pos : Pos} {w : Wd}
theorem it_list {p : Addr} {vs : List V} {xs : List D} (h : w.pe p = some (.lst vs)) (r : Reps G w xs vs) : ItOf G w xs (Itl G.K p) := fun w1 l H k i => by
  have hl : SqL G.K H p vs := .inl (.inl (k _ _ (l.pe _ _ h)))
  refine ⟨fun d hd => ?_, fun hn => ?_⟩
  · obtain ⟨v, hv, rv⟩ := r.get hd
    refine ⟨⟨vs, v, hl, hv⟩, fun x H' ⟨e, hy⟩ => ⟨w1, ?_, ?_⟩⟩
    · subst e; exact Gro.refl k
    · have e2 := hy vs hl
      rw [hv] at e2
      cases e2
      exact Rep.mono l d v rv
  · exact ⟨vs, hl, by rw [r.length]; exact List.getElem?_eq_none_iff.mp hn⟩
theorem it_tup {p : Addr} {vs : List V} {xs : List D} (h : SqT G.K w.pe p vs) (r : Reps G w xs vs) : ItOf G w xs (Itt G.K p) := fun w1 l H k i => by
  have hl : SqT G.K H p vs := sqT_up (fun a o q => k _ _ (l.pe _ _ q)) h
  refine ⟨fun d hd => ?_, fun hn => ?_⟩
  · obtain ⟨v, hv, rv⟩ := r.get hd
    refine ⟨⟨vs, v, hl, hv⟩, fun x H' ⟨e, hy⟩ => ⟨w1, ?_, ?_⟩⟩
    · subst e; exact Gro.refl k
    · have e2 := hy vs hl
      rw [hv] at e2
      cases e2
      exact Rep.mono l d v rv
  · exact ⟨vs, hl, by rw [r.length]; exact List.getElem?_eq_none_iff.mp hn⟩
theorem rangeL_get : ∀ (n : Nat) (lo : Int) (i : Nat), (rangeL lo n)[i]? = if i < n then some (.int (lo + i)) else none
  | 0, lo, i => by simp [rangeL]
  | n + 1, lo, 0 => by simp [rangeL]
  | n + 1, lo, i + 1 => by
    rw [rangeL, List.getElem?_cons_succ, rangeL_get n]
    by_cases h : i < n
    · rw [if_pos h, if_pos (by omega)]
      congr 2
      omega
    · rw [if_neg h, if_neg (by omega)]
theorem it_rng {lo : Int} {n : Nat} : ItOf G w (rangeL lo n) (Itr lo n) := fun w1 l H k i => by
  rw [rangeL_get]
  refine ⟨fun d hd => ?_, fun hn => ?_⟩
  · split at hd
    · rename_i h
      cases hd
      refine ⟨h, fun x H' ⟨e, e2⟩ => ⟨w1, ?_, ?_⟩⟩
      · subst e; exact Gro.refl k
      · subst e2; simp [Rep]
    · cases hd
  · split at hn
    · cases hn
    · rename_i h
      exact Nat.le_of_not_lt h
theorem pairs_get : ∀ (xs : List D) (n i : Nat), (pairs n xs)[i]? = xs[i]?.map fun d => .tup [.int (((n + i : Nat) : Nat) : Int), d]
  | [], n, i => by simp [pairs]
  | x :: xs, n, 0 => by simp [pairs]
  | x :: xs, n, i + 1 => by
    rw [pairs, List.getElem?_cons_succ, pairs_get xs (n + 1) i, List.getElem?_cons_succ]
    have e : n + 1 + i = n + (i + 1) := by omega
    rw [e]
theorem it_enum {p : Addr} {vs : List V} {xs : List D} (h : w.pe p = some (.lst vs)) (r : Reps G w xs vs) : ItOf G w (pairs 0 xs) (Ite G.K p) := fun w1 l H k i => by
  have hl : SqL G.K H p vs := .inl (.inl (k _ _ (l.pe _ _ h)))
  rw [pairs_get]
  refine ⟨fun d hd => ?_, fun hn => ?_⟩
  · cases z : xs[i]? with
    | none => rw [z] at hd; cases hd
    | some d0 =>
      rw [z] at hd
      cases hd
      obtain ⟨v, hv, rv⟩ := r.get z
      refine ⟨⟨vs, v, hl, hv⟩, fun x H' ⟨T, x', e, hT, e2, hy⟩ => ?_⟩
      have e3 := hy vs hl
      rw [hv] at e3
      cases e3
      subst e e2
      have g := Gro.newP (o := .tup [.int (i : Nat), v]) k hT
      refine ⟨_, g, ?_⟩
      simp only [Rep]
      refine ⟨T, _, rfl, SqT.of upd_same, ?_⟩
      simp only [Reps]
      refine ⟨_, _, rfl, by simp [Rep], v, [], rfl, Rep.mono (l.trans g.le) d0 v rv, rfl⟩
  · cases z : xs[i]? with
    | none => exact ⟨vs, hl, by rw [r.length]; exact List.getElem?_eq_none_iff.mp z⟩
    | some d0 => rw [z] at hn; cases hn
theorem it_str {s : List Nat} (h : sok s = true) : ItOf G w (s.map fun c => .str [c]) (Its (cs s)) := fun w1 l H k i => by
  rw [List.getElem?_map]
  refine ⟨fun d hd => ?_, fun hn => ?_⟩
  · cases z : s[i]? with
    | none => rw [z] at hd; cases hd
    | some c =>
      rw [z] at hd
      cases hd
      have hc : c ∈ s := List.mem_of_getElem? z
      have ok : sok [c] = true := by
        simp only [sok, Bool.and_eq_true, decide_eq_true_eq, List.all_eq_true] at h ⊢
        exact ⟨by simp [SZ], by simpa using h.2 c hc⟩
      have hi := (List.getElem?_eq_some_iff.mp z).1
      refine ⟨?_, fun x H' ⟨e, c', hc', ex⟩ => ⟨w1, ?_, ?_⟩⟩
      · show i < (cs s).cps.size
        simpa [cs] using hi
      · subst e; exact Gro.refl k
      · have e4 : c' = c := by
          have : s[i]? = some c' := by simpa [cs] using hc'
          rw [z] at this
          exact (Option.some.inj this).symm
        subst e4 ex
        simp only [Rep]
        exact ⟨rfl, ok⟩
  · cases z : s[i]? with
    | none =>
      show (cs s).cps.size ≤ i
      simpa [cs] using List.getElem?_eq_none_iff.mp z
    | some c => rw [z] at hn; cases hn
theorem pi_seq {tg : Expr} {m : M D} (hK : X.K = G.K) (he : PE X x (TD G W m)) : PI X tg x (TII G W (M.bind m fun d => .opt (seqOf d))) := by
  refine ⟨fun pins s σ H R I ⟨w, e, S, r, q⟩ => ?_⟩
  have q1 := TM.bind (rel1 := RepD G) itR_m r q
  refine thn (he.run pins s σ H _ I q1) fun v s1 ⟨y, H1, I1, ry, d, w1, e1, S1, rl1, hd, x1, q2⟩ => ?_
  obtain ⟨xs, hxs, hq⟩ := q2.opt1
  have hd : Rep G w1 d y := hd
  cases d with
  | lst zs =>
    cases hxs
    simp only [Rep] at hd
    obtain ⟨p, vs, rfl, h1, h2⟩ := hd
    cases ry
    have hs : SqL X.K H1 p vs := .inl (.inl (rl1.pe _ _ h1))
    obtain ⟨its, rv, pl, hz⟩ := I1.list hs
    exact wpAny_pyIter_list pl.isList (pi_one (tk := s1.toks) I1 _ (turn_list p _) ⟨_, Heap.get?_push_size _ rfl, rfl, rfl⟩ (hq w1 H1 _ Ext.refl rl1 (by
      rw [hK]
      exact it_list h1 h2)))
  | tup zs =>
    cases hxs
    simp only [Rep] at hd
    obtain ⟨p, vs, rfl, h1, h2⟩ := hd
    cases ry
    have hs : SqT X.K H1 p vs := by
      rw [hK]
      exact sqT_up rl1.pe h1
    obtain ⟨its, rv, pl, hz⟩ := I1.tuple hs
    exact wpAny_pyIter_tuple (show s1.heap.IsTuple p its.toArray from pl) (pi_one (tk := s1.toks) I1 _ (turn_tuple p _) ⟨_, Heap.get?_push_size _ rfl, rfl, rfl⟩ (hq w1 H1 _ Ext.refl rl1 (by
      rw [hK]
      exact it_tup h1 h2)))
  | str t =>
    cases hxs
    simp only [Rep] at hd
    obtain ⟨rfl, ok⟩ := hd
    obtain ⟨tt, rfl⟩ := ry
    have fin := hq w1 H1 _ Ext.refl rl1 (it_str (G := G) (w := w1) ok)
    cases ha : (cs t).cps.all (· < 128)
    · exact wpAny_pyIter_wide ha (pi_one (tk := s1.toks) I1 _ (turn_str _ (cs t) tt "str_iterator" (.inr rfl)) ⟨_, Heap.get?_push_size _ rfl, rfl, rfl⟩ fin)
    · exact wpAny_pyIter_ascii ha (pi_one (tk := s1.toks) I1 _ (turn_str _ (cs t) tt "str_ascii_iterator" (.inl rfl)) ⟨_, Heap.get?_push_size _ rfl, rfl, rfl⟩ fin)
  | _ => cases hxs
theorem i_seq {tg : Expr} (hK : X.K = G.K) (ha : PE X x (TR G W (ev G.pr Φ a))) : PI X tg x (TII G W (evIt G.pr Φ (.seq a))) := by
  have := pi_seq (tg := tg) hK (esc_pe ha)
  rw [bind_assoc] at this
  rw [evIt]
  exact this
theorem _root_.L2.PI.imp {tg e : Expr} {t t' : TI} (h : PI X tg e t) (f : ∀ σ H Q, t' σ H Q → t σ H Q) : PI X tg e t' := ⟨fun pins s σ H Q I q => h.run pins s σ H Q I (f σ H Q q)⟩
theorem i_rng1 {tg : Expr} {p : Pos} (hG : GOk G) (hX : XOk G X k) (hg : globB X.env.scope "range" = true) (hp : plainE x = true) (ha : PE X x (TR G W (ev G.pr Φ a))) : PI X tg (.Call (.Name "range" p) [x] [] pos) (TII G W (evIt G.pr Φ (.rng1 a))) := by
  refine (pi_range1 (gl_of hg) (by rw [hX.hm]; exact hG.blt _ (by simp [blts])) (pa_cons ha pa_nil (star_cons hp)) (star_cons hp)).imp fun σ H Q ⟨w, e, s, r, q⟩ => ?_
  rw [evIt] at q
  refine (TM.bind (rel1 := RepR G) itR_m r q).mono fun v H1 ⟨r1, w1, e1, s1, rl1, rx, x1, q1⟩ => ?_
  obtain ⟨d1, _, hd1, q3⟩ := q1.deref rl1 rx
  cases d1 with
  | int n =>
    dsimp only at q3
    split at q3
    · rename_i hn
      cases red_int hd1
      unfold two62 at hn
      exact ⟨n, rfl, by omega, by omega, q3.ret w1 H1 _ Ext.refl rl1 it_rng⟩
    · exact (show False from q3).elim
  | _ => exact (show False from q3).elim
theorem i_rng2 {tg : Expr} {p : Pos} (hG : GOk G) (hX : XOk G X k) (hg : globB X.env.scope "range" = true) (hp : plainE x = true) (hp2 : plainE y = true) (ha : PE X x (TR G W (ev G.pr Φ a))) (hb : PE X y (TR G W (ev G.pr Φ b))) :
    PI X tg (.Call (.Name "range" p) [x, y] [] pos) (TII G W (evIt G.pr Φ (.rng2 a b))) := by
  refine (pi_range2 (gl_of hg) (by rw [hX.hm]; exact hG.blt _ (by simp [blts])) (pa_cons ha (pa_cons hb pa_nil (star_cons hp2)) (star_cons hp)) (by rw [star_cons hp, star_cons hp2]; rfl) (star_cons hp2)).imp fun σ H Q ⟨w, e, s, r, q⟩ => ?_
  rw [evIt] at q
  refine (TM.bind (rel1 := RepR G) itR_m r q).mono fun v H1 ⟨r1, w1, e1, s1, rl1, rx, x1, q1⟩ => ?_
  obtain ⟨d1, _, hd1, q3⟩ := q1.deref rl1 rx
  refine (TM.bind (rel1 := RepR G) itR_m rl1 q3).mono fun v2 H2 ⟨r2, w2, e2, s2, rl2, rx2, x2, q4⟩ => ?_
  obtain ⟨d2, _, hd2, q5⟩ := q4.deref rl2 rx2
  cases d1 with
  | int n =>
    cases d2 with
    | int m =>
      dsimp only at q5
      split at q5
      · rename_i hn
        cases red_int hd1
        cases red_int hd2
        unfold two62 at hn
        exact ⟨n, m, rfl, ⟨by omega, by omega, by omega, by omega⟩, q5.ret w2 H2 _ Ext.refl rl2 it_rng⟩
      · exact (show False from q5).elim
    | _ => exact (show False from q5).elim
  | _ => exact (show False from q5).elim
theorem i_enum {p tpos : Pos} {elts : List Expr} {kk : Nat} (hG : GOk G) (hX : XOk G X k) (hg : globB X.env.scope "enumerate" = true) (hp : plainE x = true) (ha : PE X x (TR G W (ev G.pr Φ a))) :
    PI X (.Tuple elts kk tpos) (.Call (.Name "enumerate" p) [x] [] pos) (TII G W (evIt G.pr Φ (.enum a))) := by
  refine (pi_enum (gl_of hg) (by rw [hX.hm]; exact hG.blt _ (by simp [blts])) (pa_cons (esc_pe ha) pa_nil (star_cons hp)) (star_cons hp)).imp fun σ H Q ⟨w, e, s, r, q⟩ => ?_
  rw [evIt, ← bind_assoc] at q
  refine (TM.bind (rel1 := RepD G) itR_m r q).mono fun v H1 ⟨d, w1, e1, s1, rl1, hd, x1, q1⟩ => ?_
  have hd : Rep G w1 d v := hd
  cases d with
  | lst xs =>
    simp only [Rep] at hd
    obtain ⟨p, vs, rfl, h1, h2⟩ := hd
    refine ⟨p, vs, rfl, .inl (.inl (rl1.pe _ _ h1)), q1.ret w1 H1 _ Ext.refl rl1 ?_⟩
    rw [hX.hK]
    exact it_enum h1 h2
  | _ => exact (show False from q1).elim
end
end Mi
set_option linter.all false
set_option maxRecDepth 100000
set_option maxHeartbeats 1000000
/-! S15: targets; comprehensions. -/
namespace Mi
open PySem PySem.Spec PyProof.Rows L2
mutual
/-- a target's transformer -/
def gOf (K : PySem.W.Frag) : Tg → TG
  | .nm i => gName i
  | .tp ts => gTup K ts.length (gsOf K ts)
def gsOf (K : PySem.W.Frag) : List Tg → TGs
  | [] => gNil
  | t :: ts => gCons (gOf K t) (gsOf K ts)
end
section
variable {G : Gx} {X : Cx} {k : Nat} {W : WX} {Φ : Cal} {w : Wd} {e : Env} {s : Store} {σ : L2.St} {H : Hp}
theorem set_get {α : Type} {l : List α} {i j : Nat} {a b : α} (h : (l.set i a)[j]? = some b) : (j = i ∧ b = a ∧ i < l.length) ∨ (j ≠ i ∧ l[j]? = some b) := by
  by_cases e : i = j
  · subst e
    by_cases hi : i < l.length
    · rw [List.getElem?_set_self hi] at h
      exact .inl ⟨rfl, (Option.some.inj h).symm, hi⟩
    · rw [List.getElem?_eq_none_iff.mpr (by simp; omega)] at h
      cases h
  · rw [List.getElem?_set_ne e] at h
    exact .inr ⟨Ne.symm e, h⟩
/-- a slot takes a value -/
theorem Rel.setV {i : Nat} {d : D} {v : V} (r : Rel G w e s σ H) (hi : i < e.length) (hv : Rep G w d v) : Rel G w (e.set i (some (.v d))) s (σ.set i (some v)) H ∧ Ext w e σ H w (e.set i (some (.v d))) (σ.set i (some v)) H := by
  have sub : ∀ {j : Nat} {d' : D}, (e.set i (some (.v d)))[j]? = some (some (.own d')) → j ≠ i ∧ e[j]? = some (some (.own d')) := fun {j d'} h => by
    rcases set_get h with ⟨_, z, _⟩ | z
    · cases z
    · exact z
  refine ⟨⟨by simp [r.len], r.pe, fun j d' h => ?_, fun j d' h => ?_, fun j l d1 d2 a h1 h2 h3 h4 => ?_, r.bl, r.bx, r.nd⟩, ⟨WLe.refl w, fun a o h _ _ => h, fun a o _ _ h => h, fun a o _ h => h, fun a ⟨j, d', h1, h2⟩ => ?_, fun a o h => ⟨o, h⟩⟩⟩
  · rcases set_get h with ⟨z1, z2, z3⟩ | ⟨z1, z2⟩
    · cases z2
      subst z1
      exact ⟨v, List.getElem?_set_self (by rw [← r.len]; exact z3), hv⟩
    · obtain ⟨v', q1, q2⟩ := r.val j d' z2
      exact ⟨v', by rw [List.getElem?_set_ne (Ne.symm z1)]; exact q1, q2⟩
  · obtain ⟨z1, z2⟩ := sub h
    obtain ⟨a, q1, q2⟩ := r.own j d' z2
    exact ⟨a, by rw [List.getElem?_set_ne (Ne.symm z1)]; exact q1, q2⟩
  · obtain ⟨z1, z2⟩ := sub h1
    obtain ⟨y1, y2⟩ := sub h2
    rw [List.getElem?_set_ne (Ne.symm z1)] at h3
    rw [List.getElem?_set_ne (Ne.symm y1)] at h4
    exact r.dis j l d1 d2 a z2 y2 h3 h4
  · obtain ⟨z1, z2⟩ := sub h1
    rw [List.getElem?_set_ne (Ne.symm z1)] at h2
    exact .inl ⟨j, d', z2, h2⟩
theorem wipe_set {α : Type} (l : List (Option α)) (f : List (Option α) → List Nat → List (Option α)) (hf0 : ∀ l, f l [] = l) (hf : ∀ l v vs, f l (v :: vs) = (f l vs).set v none) (i : Nat) (a : Option α) : ∀ vs : List Nat, i ∈ vs → f (l.set i a) vs = f l vs := by
  have aux : ∀ vs : List Nat, ∀ l : List (Option α), i ∈ vs → f (l.set i a) vs = f l vs := by
    intro vs
    induction vs with
    | nil => intro l h; cases h
    | cons v vs ih =>
      intro l h
      rw [hf, hf]
      by_cases hi : i ∈ vs
      · rw [ih l hi]
      · have e : i = v := by
          rcases List.mem_cons.mp h with z | z
          · exact z
          · exact absurd z hi
        subst e
        have key : ∀ us : List Nat, i ∉ us → f (l.set i a) us = (f l us).set i a := by
          intro us
          induction us with
          | nil => intro _; rw [hf0, hf0]
          | cons u us ih2 =>
            intro hu
            rw [hf, hf, ih2 (fun z => hu (List.mem_cons_of_mem _ z)), List.set_comm]
            exact fun z => hu (by rw [z]; exact List.mem_cons_self)
        rw [key vs hi, List.set_set]
  exact fun vs h => aux vs l h
theorem wipe_set1 {i : Nat} {a : Option V} {vs : List Nat} (h : i ∈ vs) : wipe (σ.set i a) vs = wipe σ vs := wipe_set σ wipe (fun _ => rfl) (fun _ _ _ => rfl) i a vs h
theorem wipeE_set1 {i : Nat} {a : Option Sl} {vs : List Nat} (h : i ∈ vs) : wipeE (e.set i a) vs = wipeE e vs := wipe_set e wipeE (fun _ => rfl) (fun _ _ _ => rfl) i a vs h
/-- what a target's taking does -/
structure Took (G : Gx) (w : Wd) (e : Env) (s : Store) (σ : L2.St) (H : Hp) (e2 : Env) (σ2 : L2.St) (slots : List Nat) : Prop where
  rel : Rel G w e2 s σ2 H
  ext : Ext w e σ H w e2 σ2 H
  wip : ∀ vs, (∀ i ∈ slots, i ∈ vs) → wipe σ2 vs = wipe σ vs
mutual
theorem bind_took : ∀ (t : Tg) (d : D) (e : Env) (σ : L2.St) (v : V), Rel G w e s σ H → Rep G w d v → bindT t d e s = .bad ∨ ∃ e2 σ2, bindT t d e s = .ok () e2 s ∧ Took G w e s σ H e2 σ2 t.slots ∧ ∀ Q : L2.St → Hp → Prop, Q σ2 H → gOf G.K t v σ H Q
  | .nm i, d, e, σ, v, r, hv => by
    simp only [bindT, putVar]
    by_cases hi : i < e.length
    · rw [if_pos hi]
      obtain ⟨r2, x2⟩ := r.setV hi hv
      exact .inr ⟨_, _, rfl, ⟨r2, x2, fun vs h => wipe_set1 (h i (by simp [Tg.slots]))⟩, fun Q h => h⟩
    · rw [if_neg hi]
      exact .inl rfl
  | .tp ts, d, e, σ, v, r, hv => by
    cases d with
    | tup ds =>
      simp only [bindT]
      simp only [Rep] at hv
      obtain ⟨a, us, rfl, h1, h2⟩ := hv
      rcases binds_took ts ds e σ us r h2 with z | ⟨e2, σ2, z1, z2, z3, z4⟩
      · exact .inl z
      · refine .inr ⟨e2, σ2, z1, by simpa only [Tg.slots] using z2, fun Q h => ?_⟩
        rw [gOf]
        exact ⟨a, us, rfl, sqT_up r.pe h1, by rw [h2.length, z4], z3 Q h⟩
    | _ => exact .inl rfl
theorem binds_took : ∀ (ts : List Tg) (ds : List D) (e : Env) (σ : L2.St) (us : List V), Rel G w e s σ H → Reps G w ds us → bindTs ts ds e s = .bad ∨ ∃ e2 σ2, bindTs ts ds e s = .ok () e2 s ∧ Took G w e s σ H e2 σ2 (slotsL ts) ∧ (∀ Q : L2.St → Hp → Prop, Q σ2 H → gsOf G.K ts us σ H Q) ∧ ds.length = ts.length
  | [], [], e, σ, us, r, h => by
    simp only [Reps] at h
    subst h
    exact .inr ⟨e, σ, rfl, ⟨r, Ext.refl, fun _ _ => rfl⟩, fun Q q => by rw [gsOf]; exact ⟨rfl, q⟩, rfl⟩
  | t :: ts, d :: ds, e, σ, us, r, h => by
    simp only [Reps] at h
    obtain ⟨v, us', rfl, h1, h2⟩ := h
    rw [bindTs]
    unfold M.bind
    rcases bind_took t d e σ v r h1 with z | ⟨e1, σ1, z1, z2, z3⟩
    · rw [z]; exact .inl rfl
    · rw [z1, Res.bind_ok]
      rcases binds_took ts ds e1 σ1 us' z2.rel h2 with y | ⟨e2, σ2, y1, y2, y3, y4⟩
      · exact .inl y
      · refine .inr ⟨e2, σ2, y1, ⟨y2.rel, z2.ext.trans y2.ext, fun vs hv => ?_⟩, fun Q q => ?_, by simp [y4]⟩
        · rw [y2.wip vs fun i hi => hv i (by simp [slotsL, hi]), z2.wip vs fun i hi => hv i (by simp [slotsL, hi])]
        · rw [gsOf]
          exact ⟨v, us', rfl, z3 _ (y3 Q q)⟩
  | [], _ :: _, e, σ, us, r, h => .inl rfl
  | _ :: _, [], e, σ, us, r, h => .inl rfl
end
/-! ### the block's slots -/
theorem wipeE_len (e : Env) : ∀ vs : List Nat, (wipeE e vs).length = e.length
  | [] => rfl
  | v :: vs => by rw [wipeE, List.length_set, wipeE_len e vs]
theorem wipeE_some {i : Nat} {x : Sl} : ∀ {vs : List Nat}, (wipeE e vs)[i]? = some (some x) → e[i]? = some (some x) ∧ i ∉ vs
  | [], h => ⟨h, by simp⟩
  | v :: vs, h => by
    rw [wipeE] at h
    rcases set_get h with ⟨_, z, _⟩ | ⟨z1, z2⟩
    · cases z
    · obtain ⟨q1, q2⟩ := wipeE_some z2
      exact ⟨q1, fun q => by
        rcases List.mem_cons.mp q with q | q
        · exact z1 q
        · exact q2 q⟩
theorem wipeE_out {i : Nat} : ∀ {vs : List Nat}, i ∉ vs → (wipeE e vs)[i]? = e[i]?
  | [], _ => rfl
  | v :: vs, h => by
    rw [wipeE, List.getElem?_set_ne (fun z => h (by rw [z]; exact List.mem_cons_self)), wipeE_out fun z => h (List.mem_cons_of_mem _ z)]
theorem own_wipe {vs : List Nat} {a : Addr} (h : Own (wipeE e vs) (wipe σ vs) a) : Own e σ a := by
  obtain ⟨i, d, h1, h2⟩ := h
  exact ⟨i, d, (wipeE_some h1).1, (wipe_some h2).1⟩
theorem Rel.wiped (vs : List Nat) (r : Rel G w e s σ H) : Rel G w (wipeE e vs) s (wipe σ vs) H := by
  refine ⟨by rw [wipeE_len, wipe_length, r.len], r.pe, fun i d h => ?_, fun i d h => ?_, fun i j d1 d2 a h1 h2 h3 h4 => ?_, r.bl, r.bx, r.nd⟩
  · obtain ⟨h1, h2⟩ := wipeE_some h
    rw [wipe_out h2]
    exact r.val i d h1
  · obtain ⟨h1, h2⟩ := wipeE_some h
    rw [wipe_out h2]
    exact r.own i d h1
  · exact r.dis i j d1 d2 a (wipeE_some h1).1 (wipeE_some h2).1 (wipe_some h3).1 (wipe_some h4).1
theorem Ext.wiped (vs : List Nat) : Ext w e σ H w (wipeE e vs) (wipe σ vs) H := ⟨WLe.refl w, fun _ _ h _ _ => h, fun _ _ _ _ h => h, fun _ _ _ h => h, fun _ h => .inl (own_wipe h), fun _ o h => ⟨o, h⟩⟩
theorem wipe_idem {vs : List Nat} : wipe (wipe σ vs) vs = wipe σ vs := by
  have key : ∀ (us : List Nat), (∀ i ∈ us, i ∈ vs) → wipe (wipe σ us) vs = wipe σ vs := by
    intro us
    induction us with
    | nil => intro _; rfl
    | cons u us ih =>
      intro h
      show wipe ((wipe σ us).set u none) vs = _
      rw [wipe_set1 (h u List.mem_cons_self), ih fun i hi => h i (List.mem_cons_of_mem _ hi)]
  exact key vs fun _ h => h
/-- an object of nobody -/
structure Unt (w : Wd) (e : Env) (σ : L2.St) (H : Hp) (p : Addr) (o : HO) : Prop where
  h : H p = some o
  pe : w.pe p = none
  mu : p ∉ w.mu
  own : ¬ Own e σ p
theorem Unt.ext {p : Addr} {o : HO} {w' : Wd} {e' : Env} {σ' : L2.St} {H' : Hp} (u : Unt w e σ H p o) (x : Ext w e σ H w' e' σ' H') : Unt w' e' σ' H' p o :=
  ⟨x.keep p o u.h u.own u.mu, x.cap p o u.h u.own u.pe, x.capm p o u.h u.mu, fun q => by
    rcases x.own p q with z | z
    · exact u.own z
    · rw [u.h] at z; cases z⟩
theorem Ext.poke {w' : Wd} {e' : Env} {σ' : L2.St} {H' : Hp} {p : Addr} {o : HO} (x : Ext w e σ H w' e' σ' H') (hp : H p = none) : Ext w e σ H w' e' σ' (upd H' p o) :=
  ⟨x.le, fun a o' h n m => by rw [upd_ne (ne_of_none h hp)]; exact x.keep a o' h n m, x.cap, x.capm, x.own, fun a o' h => by rw [upd_ne (ne_of_none h hp)]; exact x.tk a o' h⟩
theorem restE_len (e0 e : Env) : ∀ vs : List Nat, (restE e0 e vs).length = e.length
  | [] => rfl
  | v :: vs => by rw [restE, List.length_set, restE_len e0 e vs]
theorem restE_some {e0 : Env} {i : Nat} {x : Sl} : ∀ {vs : List Nat}, (restE e0 e vs)[i]? = some (some x) → (i ∈ vs ∧ e0[i]? = some (some x)) ∨ (i ∉ vs ∧ e[i]? = some (some x))
  | [], h => .inr ⟨by simp, h⟩
  | v :: vs, h => by
    rw [restE] at h
    rcases set_get h with ⟨z1, z2, _⟩ | ⟨z1, z2⟩
    · refine .inl ⟨by rw [z1]; exact List.mem_cons_self, ?_⟩
      rw [z1]
      cases q : e0[v]? with
      | none => rw [q] at z2; cases z2
      | some y =>
        rw [q] at z2
        have z2 : some x = y := z2
        rw [z2]
    · rcases restE_some z2 with ⟨q1, q2⟩ | ⟨q1, q2⟩
      · exact .inl ⟨List.mem_cons_of_mem _ q1, q2⟩
      · refine .inr ⟨fun q => ?_, q2⟩
        rcases List.mem_cons.mp q with q | q
        · exact z1 q
        · exact q1 q
/-- behind a block: its slots as they were -/
theorem Rel.rest {w' : Wd} {ef : Env} {s' : Store} {H' : Hp} {vs : List Nat} (r : Rel G w e s σ H) (x : Ext w (wipeE e vs) (wipe σ vs) H w' ef (wipe σ vs) H') (r' : Rel G w' ef s' (wipe σ vs) H') :
    Rel G w' (restE e ef vs) s' σ H' ∧ Ext w e σ H w' (restE e ef vs) σ H' := by
  have notw : ∀ (i : Nat) (d : D) (a : Addr), i ∈ vs → e[i]? = some (some (.own d)) → σ[i]? = some (some (.ref a)) → ¬ Own (wipeE e vs) (wipe σ vs) a := fun i d a hi h1 h2 ⟨j, d', q1, q2⟩ => by
    obtain ⟨q3, q4⟩ := wipeE_some q1
    have e1 := r.dis i j d d' a h1 q3 h2 (wipe_some q2).1
    exact q4 (by rw [← e1]; exact hi)
  refine ⟨⟨by rw [restE_len, r'.len, wipe_length], r'.pe, fun i d h => ?_, fun i d h => ?_, fun i j d1 d2 a h1 h2 h3 h4 => ?_, r'.bl, r'.bx, r'.nd⟩, ⟨x.le, fun a o h n m => x.keep a o h (fun q => n (own_wipe q)) m, fun a o h n p => x.cap a o h (fun q => n (own_wipe q)) p, x.capm, fun a ⟨i, d, h1, h2⟩ => ?_, x.tk⟩⟩
  · rcases restE_some h with ⟨h1, h2⟩ | ⟨h1, h2⟩
    · obtain ⟨v, q1, q2⟩ := r.val i d h2
      exact ⟨v, q1, Rep.mono x.le d v q2⟩
    · obtain ⟨v, q1, q2⟩ := r'.val i d h2
      rw [wipe_out h1] at q1
      exact ⟨v, q1, q2⟩
  · rcases restE_some h with ⟨h1, h2⟩ | ⟨h1, h2⟩
    · obtain ⟨a, q1, q2, q3, q4⟩ := r.own i d h2
      obtain ⟨o, ho⟩ := q2.some
      have n := notw i d a h1 h2 q1
      exact ⟨a, q1, q2.mono x.le fun o' q => x.keep a o' q n q4, x.cap a o ho n q3, x.capm a o ho q4⟩
    · obtain ⟨a, q1, q2⟩ := r'.own i d h2
      rw [wipe_out h1] at q1
      exact ⟨a, q1, q2⟩
  · have mixed : ∀ (i j : Nat) (d1 d2 : D), i ∈ vs → e[i]? = some (some (.own d1)) → j ∉ vs → ef[j]? = some (some (.own d2)) → σ[i]? = some (some (.ref a)) → σ[j]? = some (some (.ref a)) → False := fun i j d1 d2 hi y1 hj y2 y3 y4 => by
      rcases x.own a ⟨j, d2, y2, by rw [wipe_out hj]; exact y4⟩ with z | z
      · exact notw i d1 a hi y1 y3 z
      · obtain ⟨b, q1, q2, _⟩ := r.own i d1 y1
        rw [y3] at q1
        cases q1
        obtain ⟨o, ho⟩ := q2.some
        rw [z] at ho; cases ho
    rcases restE_some h1 with ⟨y1, y2⟩ | ⟨y1, y2⟩
    · rcases restE_some h2 with ⟨u1, u2⟩ | ⟨u1, u2⟩
      · exact r.dis i j d1 d2 a y2 u2 h3 h4
      · exact (mixed i j d1 d2 y1 y2 u1 u2 h3 h4).elim
    · rcases restE_some h2 with ⟨u1, u2⟩ | ⟨u1, u2⟩
      · exact (mixed j i d2 d1 u1 u2 y1 y2 h4 h3).elim
      · exact r'.dis i j d1 d2 a y2 u2 (by rw [wipe_out y1]; exact h3) (by rw [wipe_out u1]; exact h4)
  · rcases restE_some h1 with ⟨y1, y2⟩ | ⟨y1, y2⟩
    · exact .inl ⟨i, d, y2, h2⟩
    · rcases x.own a ⟨i, d, y2, by rw [wipe_out y1]; exact h2⟩ with z | z
      · exact .inl (own_wipe z)
      · exact .inr z
end
end Mi
set_option linter.all false
set_option maxRecDepth 100000
set_option maxHeartbeats 1000000
/-! S16: list comprehensions. -/
namespace Mi
open PySem PySem.Spec PyProof.Rows L2
/-- no error may leave -/
def NoX : WX := fun _ _ _ _ => False
section
variable {G : Gx} {X : Cx} {k : Nat} {W : WX} {Φ : Cal} {w : Wd} {e : Env} {s : Store} {σ : L2.St} {H : Hp}
theorem lcLoop_len {vs : List Nat} {bd : D → M Unit} {cond : M Bool} {elt : M D} : ∀ {xs ds : List D} {e e' : Env} {s s' : Store}, lcLoop vs bd cond elt xs e s = .ok ds e' s' → ds.length ≤ xs.length
  | [], ds, e, e', s, s', h => by
    rw [lcLoop] at h
    cases h
    exact Nat.le_refl _
  | x :: xs, ds, e, e', s, s', h => by
    rw [lcLoop] at h
    unfold M.bind at h
    cases h1 : bd x e s with
    | bad => rw [h1] at h; cases h
    | exc _ _ _ _ => rw [h1] at h; cases h
    | ok u e1 s1 =>
      rw [h1, Res.bind_ok] at h
      cases h2 : cond e1 s1 with
      | bad => rw [h2] at h; cases h
      | exc _ _ _ _ => rw [h2] at h; cases h
      | ok b e2 s2 =>
        rw [h2, Res.bind_ok] at h
        cases b with
        | false => exact Nat.le_succ_of_le (lcLoop_len h)
        | true =>
          dsimp only at h
          cases h3 : elt e2 s2 with
          | bad => rw [h3] at h; cases h
          | exc _ _ _ _ => rw [h3] at h; cases h
          | ok d e3 s3 =>
            rw [h3, Res.bind_ok] at h
            cases h4 : lcLoop vs bd cond elt xs (wipeE e3 vs) s3 with
            | bad => rw [h4] at h; cases h
            | exc _ _ _ _ => rw [h4] at h; cases h
            | ok ds' e4 s4 =>
              rw [h4, Res.bind_ok] at h
              cases h
              have := lcLoop_len h4
              simp
              exact this
/-- the comprehension's end -/
theorem lc_of {t : Tg} {it : Mi.It} {c a : Ex} {Q : VK} (h : TR G W (ev G.pr Φ (.lc t it c a)) σ H Q) :
    tLc (TII G W (evIt G.pr Φ it)) (gOf G.K t) (TB G NoX (evC G.pr Φ c)) (TD G NoX (M.bind (ev G.pr Φ a) esc)) t.slots σ H Q := by
  obtain ⟨w, e, s, r, q⟩ := h
  rw [ev_lc] at q
  refine (TM.bind (rel1 := ItR G) repR_m r q).mono fun J H1 ⟨xs, w1, e1, s1, rl1, hJ, x1, q1⟩ => ?_
  clear q r x1
  have hJ : ItOf G w1 xs J := hJ
  obtain ⟨full, ef, sf, hsz, hrun, q1⟩ : ∃ full ef sf, xs.length < SZ ∧ lcLoop t.slots (bindT t) (evC G.pr Φ c) (M.bind (ev G.pr Φ a) esc) xs (wipeE e1 t.slots) s1 = .ok full ef sf ∧
      ∀ w' H' b, Ext w1 e1 σ H1 w' (restE e1 ef t.slots) σ H' → Rel G w' (restE e1 ef t.slots) sf σ H' → RepR G H1 w' (restE e1 ef t.slots) σ H' (.fr (.lst full)) b → Q b H' := by
    unfold TMat lcRun at q1
    by_cases hsz : xs.length < SZ
    · rw [if_pos hsz] at q1
      cases hr : lcLoop t.slots (bindT t) (evC G.pr Φ c) (M.bind (ev G.pr Φ a) esc) xs (wipeE e1 t.slots) s1 with
      | bad => rw [hr] at q1; exact q1.elim
      | exc _ _ _ _ => rw [hr] at q1; exact q1.elim
      | ok full ef sf =>
        rw [hr] at q1
        exact ⟨full, ef, sf, hsz, rfl, q1⟩
    · rw [if_neg hsz] at q1
      exact q1.elim
  intro p hp
  obtain ⟨f1, f2, f3⟩ := rl1.free hp
  refine ⟨fun i m H' => m = xs.length - i ∧ i ≤ xs.length ∧ ∃ wi ei si acc ds rest, Rel G wi (wipeE ei t.slots) si (wipe σ t.slots) H' ∧ Unt wi (wipeE ei t.slots) (wipe σ t.slots) H' p (.lst acc) ∧ Reps G wi ds acc ∧ ds.length ≤ i ∧
    Ext w1 (wipeE e1 t.slots) (wipe σ t.slots) H1 wi (wipeE ei t.slots) (wipe σ t.slots) H' ∧ lcLoop t.slots (bindT t) (evC G.pr Φ c) (M.bind (ev G.pr Φ a) esc) (xs.drop i) (wipeE ei t.slots) si = .ok rest ef sf ∧ ds ++ rest = full, ⟨xs.length, by simp, Nat.zero_le _, w1, e1, s1, [], [], full, ?_, ?_, by simp [Reps], Nat.le_refl _, ?_, by rw [List.drop_zero]; exact hrun, rfl⟩, ?_⟩
  · exact (rl1.wiped t.slots).poke f1 (fun q => f2 (own_wipe q)) f3
  · exact ⟨upd_same, f1, f3, fun q => f2 (own_wipe q)⟩
  · exact Ext.refl.poke hp
  rintro i m H2 ⟨rfl, hi, wi, ei, si, acc, ds, rest, rl2, un2, hds, hdl, x2, hlp, hful⟩
  have hit := hJ wi x2.le H2 rl2.pe i
  cases hx : xs[i]? with
  | none =>
    have hdrop : xs.drop i = [] := List.drop_eq_nil_of_le (List.getElem?_eq_none_iff.mp hx)
    rw [hdrop, lcLoop] at hlp
    cases hlp
    refine .inl ⟨hit.2 hx, ?_⟩
    obtain ⟨r3, x3⟩ := rl1.rest x2 rl2
    rw [List.append_nil] at hful
    subst hful
    refine q1 wi H2 (.ref p) x3 r3 ⟨p, rfl, ⟨acc, un2.h, hds⟩, un2.pe, ?_, un2.mu, hp⟩
    intro z
    rcases x3.own p z with y | y
    · exact f2 y
    · obtain ⟨j, d', y1, y2⟩ := z
      rcases restE_some y1 with ⟨u1, u2⟩ | ⟨u1, u2⟩
      · exact f2 ⟨j, d', u2, y2⟩
      · exact un2.own ⟨j, d', u2, by rw [wipe_out u1]; exact y2⟩
  | some d =>
    obtain ⟨hgo, hyld⟩ := hit.1 d hx
    have hilt := (List.getElem?_eq_some_iff.mp hx).1
    have hdrop : xs.drop i = d :: xs.drop (i + 1) := by
      rw [List.drop_eq_getElem_cons hilt]
      rw [(List.getElem?_eq_some_iff.mp hx).2]
    refine .inr ⟨hgo, _, fun H' n => ⟨xs.length - (i + 1), by omega, n⟩, fun x H3 hy => ?_⟩
    obtain ⟨w3, g3, rx⟩ := hyld x H3 hy
    have rl3 := rl2.gro g3
    have x3 := x2.trans (g3.ext (G := G) (s := si))
    have un3 := un2.ext (g3.ext (G := G) (s := si))
    rw [hdrop, lcLoop] at hlp
    unfold M.bind at hlp
    rcases bind_took t d _ _ x rl3 rx with z | ⟨e4, σ4, z1, z2, z3⟩
    · rw [z] at hlp; cases hlp
    · rw [z1, Res.bind_ok] at hlp
      refine z3 _ ⟨by rw [z2.wip _ fun _ h => h, wipe_idem], ?_⟩
      have x4 := x3.trans z2.ext
      have un4 := un3.ext z2.ext
      refine ⟨w3, e4, si, z2.rel, ?_⟩
      have wip4 : wipe σ4 t.slots = wipe σ t.slots := by rw [z2.wip _ fun _ h => h, wipe_idem]
      unfold TMat
      cases hc : evC G.pr Φ c e4 si with
      | bad => rw [hc] at hlp; cases hlp
      | exc _ _ _ _ => rw [hc] at hlp; cases hlp
      | ok b e5 s5 =>
        rw [hc, Res.bind_ok] at hlp
        intro w5 H5 b' x5 rl5 eb
        have eb : b = b' := eb
        subst eb
        have x5' := x4.trans x5
        have un5 := un4.ext x5
        cases b with
        | false =>
          rw [if_neg (by decide)]
          have r6 := rl5.wiped t.slots
          rw [wip4] at r6
          have xw := Ext.wiped (w := w5) (e := e5) (σ := σ4) (H := H5) t.slots
          rw [wip4] at xw
          exact ⟨rfl, hilt, w5, e5, s5, acc, ds, rest, r6, un5.ext xw, Reps.mono (x5.le.trans (WLe.refl _)) _ _ (Reps.mono g3.le _ _ hds), by omega, x5'.trans xw, hlp, hful⟩
        | true =>
          rw [if_pos rfl]
          dsimp only at hlp
          refine ⟨w5, e5, s5, rl5, ?_⟩
          unfold TMat
          cases he : (M.bind (ev G.pr Φ a) esc) e5 s5 with
          | bad => unfold M.bind at he; rw [he] at hlp; cases hlp
          | exc _ _ _ _ => unfold M.bind at he; rw [he] at hlp; cases hlp
          | ok d6 e6 s6 =>
            unfold M.bind at he
            rw [he, Res.bind_ok] at hlp
            intro w6 H6 y x6 rl6 ry
            have ry : Rep G w6 d6 y := ry
            have un6 := un5.ext x6
            have x6' := x5'.trans x6
            have xw := Ext.wiped (w := w6) (e := e6) (σ := σ4) (H := H6) t.slots
            rw [wip4] at xw
            have r6 := rl6.wiped t.slots
            rw [wip4] at r6
            have un7 := un6.ext xw
            cases hl : lcLoop t.slots (bindT t) (evC G.pr Φ c) (fun e s => (ev G.pr Φ a e s).bind esc) (xs.drop (i + 1)) (wipeE e6 t.slots) s6 with
            | bad => rw [hl] at hlp; cases hlp
            | exc _ _ _ _ => rw [hl] at hlp; cases hlp
            | ok rest' e7 s7 =>
              rw [hl, Res.bind_ok] at hlp
              cases hlp
              have hacc : acc.length = ds.length := hds.length
              refine ⟨acc, un6.h, by rw [szl, hacc]; omega, rfl, hilt, w6, e6, s6, acc ++ [y], ds ++ [d6], rest', r6.poke un7.pe un7.own un7.mu, ⟨upd_same, un7.pe, un7.mu, un7.own⟩, ?_, by rw [List.length_append]; simp; omega, (x6'.trans xw).poke hp, hl, by rw [List.append_assoc]; exact hful⟩
              refine Reps.append ?_ ?_
              · exact Reps.mono x6.le _ _ (Reps.mono x5.le _ _ (Reps.mono g3.le _ _ hds))
              · simp only [Reps]
                exact ⟨y, [], rfl, ry, rfl⟩
end
end Mi
set_option linter.all false
set_option maxRecDepth 100000
set_option maxHeartbeats 2000000
/-! S17: operations by their names; shapes' small facts. -/
namespace Mi
open PySem PySem.Spec PyProof.Rows L2
theorem bt_len : bootBuiltins "len" = some (.builtin "len") := by decide +kernel
theorem bt_all : bootBuiltins "all" = some (.builtin "all") := by decide +kernel
theorem bt_any : bootBuiltins "any" = some (.builtin "any") := by decide +kernel
theorem bt_sum : bootBuiltins "sum" = some (.builtin "sum") := by decide +kernel
theorem bt_abs : bootBuiltins "abs" = some (.builtin "abs") := by decide +kernel
theorem bt_repr : bootBuiltins "repr" = some (.builtin "repr") := by decide +kernel
theorem bt_max : bootBuiltins "max" = some (.builtin "max") := by decide +kernel
theorem bt_min : bootBuiltins "min" = some (.builtin "min") := by decide +kernel
theorem bt_tuple : bootBuiltins "tuple" = some (.type "tuple") := by decide +kernel
theorem bt_list : bootBuiltins "list" = some (.type "list") := by decide +kernel
theorem bt_int : bootBuiltins "int" = some (.type "int") := by decide +kernel
section
variable {G : Gx} {X : Cx} {k : Nat} {W : WX} {Φ : Cal} {a b c : Ex} {x y z : Expr} {pos : Pos}
theorem ok_plain (h : okE x = true) : plainE x = true := by cases x <;> first | rfl | cases h
theorem ok_ix (h : okE x = true) : PlainIx x := by
  cases x <;> first | exact fun _ _ => rfl | cases h
theorem ok_beh {op : CmpOp} (h : okE x = true) : behindInMarks op x = false := by cases x <;> first | rfl | cases h
theorem ok_fold {env : PySem.Env} (h : okE x = true) : ∀ v, foldedSetIterable x env v = pure v := by
  intro v
  cases x <;> first | rfl | cases h
theorem s_call1 {p : P1} {f : Str} {q : Pos} (hG : GOk G) (hX : XOk G X k) (h : bname p = some f ∨ tname p = some f) (hg : globB X.env.scope f = true) (hp : plainE x = true) (ha : PE X x (TR G W (ev G.pr Φ a))) :
    PE X (.Call (.Name f q) [x] [] pos) (TR G W (ev G.pr Φ (.p1 p a))) := by
  have hm : ∀ {n : Str}, n ∈ blts → X.mg n = none := fun hn => by rw [hX.hm]; exact hG.blt _ hn
  rcases h with h | h
  · cases p <;> simp only [bname, Option.some.injEq, reduceCtorEq] at h <;> subst h
    · exact p1_call (c_len hX.hK) (gl_of hg) (hm (by simp [blts])) bt_len (by decide) (by decide) hp ha
    · exact p1_call (c_all hX.calm) (gl_of hg) (hm (by simp [blts])) bt_all (by decide) (by decide) hp ha
    · exact p1_call (c_any hX.calm) (gl_of hg) (hm (by simp [blts])) bt_any (by decide) (by decide) hp ha
    · exact p1_call (c_sum hX.calm) (gl_of hg) (hm (by simp [blts])) bt_sum (by decide) (by decide) hp ha
    · exact p1_call c_abs (gl_of hg) (hm (by simp [blts])) bt_abs (by decide) (by decide) hp ha
    · exact p1_call (c_repr hX.hK hG.sys hG.rep hX.room.g hX.room.room.units) (gl_of hg) (hm (by simp [blts])) bt_repr (by decide) (by decide) hp ha
  · cases p <;> simp only [tname, Option.some.injEq, reduceCtorEq] at h <;> subst h
    · exact p1_type (c_tuple hX.hK) (gl_of hg) (hm (by simp [blts])) bt_tuple (by decide) (by decide) hp ha
    · exact p1_type (c_list hX.hK) (gl_of hg) (hm (by simp [blts])) bt_list (by decide) (by decide) hp ha
    · exact p1_type c_int (gl_of hg) (hm (by simp [blts])) bt_int (by decide) (by decide) hp ha
theorem s_call2 {p : P2} {f : Str} {q : Pos} (hG : GOk G) (hX : XOk G X k) (h : b2name p = some f) (hg : globB X.env.scope f = true) (hp : plainE x = true) (hp2 : plainE y = true) (ha : PE X x (TR G W (ev G.pr Φ a))) (hb : PE X y (TR G W (ev G.pr Φ b))) :
    PE X (.Call (.Name f q) [x, y] [] pos) (TR G W (ev G.pr Φ (.p2 p a b))) := by
  have hm : ∀ {n : Str}, n ∈ blts → X.mg n = none := fun hn => by rw [hX.hm]; exact hG.blt _ hn
  cases p <;> simp only [b2name, Option.some.injEq, reduceCtorEq] at h <;> subst h
  · exact p2_call (c_max2 hX.calm) (gl_of hg) (hm (by simp [blts])) bt_max (by decide) (by decide) hp hp2 ha hb
  · exact p2_call (c_min2 hX.calm) (gl_of hg) (hm (by simp [blts])) bt_min (by decide) (by decide) hp hp2 ha hb
theorem s_bin {p : P2} {op : Operator} (hX : XOk G X k) (h : opName p = some op) (ha : PE X x (TR G W (ev G.pr Φ a))) (hb : PE X y (TR G W (ev G.pr Φ b))) : PE X (.BinOp x op y pos) (TR G W (ev G.pr Φ (.p2 p a b))) := by
  cases p <;> simp only [opName, Option.some.injEq, reduceCtorEq] at h <;> subst h
  · exact p2_bin (o_add hX.hK) ha hb
  · exact p2_bin o_sub ha hb
  · exact p2_bin o_mul ha hb
  · exact p2_bin o_fdiv ha hb
  · exact p2_bin o_mod ha hb
  · exact p2_bin o_pow ha hb
  · exact p2_bin o_shl ha hb
  · exact p2_bin o_shr ha hb
theorem bl_of {p : P2} {op : CmpOp} (h : cmpName p = some op) : ∀ d1 d2 r, op2 p d1 d2 = some r → ∃ b, r = .v (.bl b) := by
  intro d1 d2 r hr
  cases p <;> simp only [cmpName, reduceCtorEq] at h
  · simp only [op2] at hr
    split at hr
    · exact ⟨_, (Option.some.inj hr).symm⟩
    · cases hr
  · simp only [op2] at hr
    split at hr
    · exact ⟨_, (Option.some.inj hr).symm⟩
    · cases hr
  all_goals (cases d1 <;> cases d2 <;> first | exact ⟨_, (Option.some.inj hr).symm⟩ | cases hr)
theorem s_cmp {p : P2} {op : CmpOp} (hX : XOk G X k) (h : cmpName p = some op) (ho : okE y = true) (ha : PE X x (TR G W (ev G.pr Φ a))) (hb : PE X y (TR G W (ev G.pr Φ b))) :
    PE X (.Compare x [op] [y] pos) (TR G W (ev G.pr Φ (.p2 p a b))) ∧ PT X (.Compare x [op] [y] pos) (TB G W (evT G.pr Φ (.p2 p a b))) := by
  have hbl := bl_of h
  cases p <;> simp only [cmpName, Option.some.injEq, reduceCtorEq] at h <;> subst h
  · exact ⟨p2_cmp (o_eq hX.hK hX.room.room.units) ha hb (ok_beh ho), t_cmp (o_eq hX.hK hX.room.room.units) ha hb (ok_beh ho) hbl⟩
  · exact ⟨p2_cmp (o_ne hX.hK hX.room.room.units) ha hb (ok_beh ho), t_cmp (o_ne hX.hK hX.room.room.units) ha hb (ok_beh ho) hbl⟩
  · exact ⟨p2_cmp o_lt ha hb (ok_beh ho), t_cmp o_lt ha hb (ok_beh ho) hbl⟩
  · exact ⟨p2_cmp o_le ha hb (ok_beh ho), t_cmp o_le ha hb (ok_beh ho) hbl⟩
  · exact ⟨p2_cmp o_gt ha hb (ok_beh ho), t_cmp o_gt ha hb (ok_beh ho) hbl⟩
  · exact ⟨p2_cmp o_ge ha hb (ok_beh ho), t_cmp o_ge ha hb (ok_beh ho) hbl⟩
/-- not a test of its own kind -/
def plainT : Expr → Bool
  | .UnaryOp .Not _ _ => false
  | .BoolOp _ _ _ => false
  | .IfExp _ _ _ _ => false
  | .Compare _ _ _ _ => false
  | _ => true
theorem plainT_is (h : plainT x = true) (env : PySem.Env) : ∀ whole, isTrue x env whole = (do let v ← whole; standAt x.pos; holding [v] (truthy v)) := by
  intro whole
  cases x with
  | UnaryOp op a p => cases op <;> first | rfl | cases h
  | BoolOp _ _ _ => cases h
  | IfExp _ _ _ _ => cases h
  | Compare _ _ _ _ => cases h
  | _ => rfl
/-- what is shown of an expression -/
structure Snd (G : Gx) (Φ : Cal) (X : Cx) (W : WX) (m : Ex) (e : Expr) : Prop where
  pe : PE X e (TR G W (ev G.pr Φ m))
  pt : PT X e (TB G W (evT G.pr Φ m))
  pw : ∀ op vs p, e = .BoolOp op vs p → PW X e (TB G W (evT G.pr Φ m))
theorem Snd.of (hK : X.K = G.K) (hp : plainT x = true) (h : PE X x (TR G W (ev G.pr Φ a))) : Snd G Φ X W a x := ⟨h, t_truth hK h (plainT_is hp X.env), fun op vs p e => by subst e; cases hp⟩
theorem Snd.of2 (hb : ∀ op vs p, x ≠ .BoolOp op vs p) (h : PE X x (TR G W (ev G.pr Φ a))) (t : PT X x (TB G W (evT G.pr Φ a))) : Snd G Φ X W a x := ⟨h, t, fun op vs p e => absurd e (hb op vs p)⟩
end
theorem sh_ok {nm : Nm} {N : List Str} {m : Ex} {sc : Scope} {e : Expr} (h : sh nm N m sc e = true) : okE e = true := by
  cases e with
  | Starred a p => cases m <;> simp [sh] at h
  | Slice a b c p => cases m <;> simp [sh] at h
  | Set a b p => cases m <;> simp [sh] at h
  | _ => rfl
theorem takes_nox {X : Cx} (hx : X.xe = fun _ _ => False) : Takes X NoX := fun u s' ⟨_, _, _, _, _, _, _, _, _, _, _, _, _, _, _, _, w⟩ => w.elim
end Mi
set_option linter.all false
set_option maxRecDepth 100000
set_option maxHeartbeats 4000000
/-! S18: every expression of the shape does what the evaluation says. -/
namespace Mi
open PySem PySem.Spec PyProof.Rows L2
section
variable {G : Gx} {k : Nat} {Φ : Cal}
/-! ### targets -/
/-- the names that may be stored to -/
def LocOk (X : Cx) (sc : Scope) : Prop := ∀ x, locB sc x = true → Loc X.env.scope x ∧ (X.fn x = true ∨ X.env.scope.names.lookup x = some .local)
theorem shTs_len {N : List Str} {sc : Scope} : ∀ {ts : List Tg} {es : List Expr}, shTs N sc ts es = true → es.length = ts.length
  | [], [], _ => rfl
  | t :: ts, e :: es, h => by
    simp only [shTs, Bool.and_eq_true] at h
    rw [List.length_cons, List.length_cons, shTs_len h.2]
  | [], _ :: _, h => by cases h
  | _ :: _, [], h => by cases h
theorem shT_plain {N : List Str} {sc : Scope} {t : Tg} {e : Expr} (h : shT N sc t e = true) : plainE e = true := by
  cases e with
  | Starred _ _ => cases t <;> simp [shT] at h
  | _ => rfl
theorem assignEach_cons {e : Expr} {es : List Expr} {env : PySem.Env} (h : plainE e = true) : assignEach (e :: es) env = (false, assign e env) :: assignEach es env := by
  cases e <;> first | rfl | cases h
theorem shTs_assign {N : List Str} {sc : Scope} {env : PySem.Env} : ∀ {ts : List Tg} {es : List Expr}, shTs N sc ts es = true → (assignEach es env).length = ts.length ∧ (assignEach es env).findIdx? (·.1) = none
  | [], [], _ => ⟨rfl, rfl⟩
  | t :: ts, e :: es, h => by
    simp only [shTs, Bool.and_eq_true] at h
    obtain ⟨h1, h2⟩ := shTs_assign (env := env) h.2
    rw [assignEach_cons (shT_plain h.1)]
    refine ⟨by rw [List.length_cons, List.length_cons, h1], ?_⟩
    rw [List.findIdx?_cons]
    simp [h2]
  | [], _ :: _, h => by cases h
  | _ :: _, [], h => by cases h
mutual
theorem sndG : ∀ (t : Tg) (X : Cx) (sc : Scope) (e : Expr), XOk G X k → LocOk X sc → shT X.N sc t e = true → PG X e (gOf G.K t)
  | .nm i, X, sc, e, hX, hL, h => by
    cases e with
    | Name x p =>
      simp only [shT, Bool.and_eq_true, decide_eq_true_eq] at h
      obtain ⟨h1, h2⟩ := hL x h.2
      rw [gOf]
      exact pg_name hX.nd h.1 h1 h2
    | _ => simp [shT] at h
  | .tp ts, X, sc, e, hX, hL, h => by
    cases e with
    | Tuple es j p =>
      simp only [shT] at h
      obtain ⟨h1, h2⟩ := shTs_assign (env := X.env) h
      rw [gOf, ← hX.hK]
      have := sndGs ts X sc es hX hL h
      rw [← hX.hK] at this
      exact pg_tup hX.calm this h1 h2
    | _ => simp [shT] at h
theorem sndGs : ∀ (ts : List Tg) (X : Cx) (sc : Scope) (es : List Expr), XOk G X k → LocOk X sc → shTs X.N sc ts es = true → PGs X es (gsOf G.K ts)
  | [], X, sc, es, hX, hL, h => by
    cases es with
    | nil => rw [gsOf]; exact pgs_nil
    | cons _ _ => simp [shTs] at h
  | t :: ts, X, sc, es, hX, hL, h => by
    cases es with
    | nil => simp [shTs] at h
    | cons e es =>
      simp only [shTs, Bool.and_eq_true] at h
      rw [gsOf]
      exact pgs_cons (sndG t X sc e hX hL h.1) (sndGs ts X sc es hX hL h.2) (by rw [assignEach_cons (shT_plain h.1)]; rfl)
end
theorem blk_ok {X : Cx} {s : Shared} {H : Hp} {scope : Scope} {env : PySem.Env} {fp : List Addr} (hX : XOk G X k) : XOk G (X.blk s H scope env fp) k :=
  ⟨hX.hP, hX.hw, hX.hK, hX.hm, hX.hb, hX.calm, hX.nd, hX.room⟩
theorem blk_loc {X : Cx} {s : Shared} {H : Hp} {scope : Scope} {cl : List (Str × Addr)} {C : Addr} {fp : List Addr} : LocOk (X.blk s H scope (compEnvC scope cl C X.env) fp) scope := fun x h => by
  unfold locB at h
  split at h
  · rename_i q
    have : (compEnvC scope cl C X.env).scope.names.lookup x = some .local := lookup_relS_keep (sc := X.env.scope) (by decide) q
    exact ⟨.inl this, .inr this⟩
  · rename_i q
    have : (compEnvC scope cl C X.env).scope.names.lookup x = some .cell := lookup_relS_keep (sc := X.env.scope) (by decide) q
    refine ⟨.inr this, .inl ?_⟩
    show (scope.names.lookup x == some .cell) = true
    rw [q]
    rfl
  · cases h
theorem own_slots {N : List Str} {t : Tg} : (ownOf N t).map (·.2) = t.slots := by
  unfold ownOf
  rw [List.map_map]
  exact List.map_id _
/-- the comprehension, from its parts -/
theorem e_lc {X : Cx} {W : WX} {t : Tg} {it : Mi.It} {c a : Ex} {y tg iter : Expr} {ifs : List Expr} {scope : Scope} {pos : Pos} (hX : XOk G X k) (hb : blkC X.N X.env.scope scope (ownOf X.N t) = true) (ho : okE iter = true) (hi : PI X tg iter (TII G W (evIt G.pr Φ it)))
    (hg : shT X.N scope t tg = true) (ht : ∀ Y : Cx, XOk G Y k → Takes Y NoX → Y.N = X.N → Y.env.scope = relS scope X.env.scope → PTs Y ifs (TB G NoX (evC G.pr Φ c)))
    (he : ∀ Y : Cx, XOk G Y k → Takes Y NoX → Y.N = X.N → Y.env.scope = relS scope X.env.scope → PE Y y (TR G NoX (ev G.pr Φ a))) : PE X (.ListComp y [⟨tg, iter, ifs, 0⟩] scope pos) (TR G W (ev G.pr Φ (.lc t it c a))) := by
  have := pe_lc (X := X) (elt := y) (ifs := ifs) (pos := pos) hX.calm hX.nd hi (blkOk_by hb) (fun s H C cl fp => sndG t (X.blk s H scope (compEnvC scope cl C X.env) fp) scope tg (blk_ok hX) blk_loc hg) (fun s H C cl fp => ht _ (blk_ok hX) (takes_nox rfl) rfl rfl) (fun s H C cl fp => esc_pe (he _ (blk_ok hX) (takes_nox rfl) rfl rfl)) (ok_fold ho)
  rw [own_slots] at this
  exact this.imp fun σ H Q h => lc_of h
/-! ### the expressions -/
def SndAt (G : Gx) (k : Nat) (Φ : Cal) (m : Ex) : Prop := ∀ (X : Cx) (W : WX) (e : Expr), XOk G X k → Takes X W → sh G.nm X.N m X.env.scope e = true → Snd G Φ X W m e
theorem evC_ne {a : Ex} (h : a ≠ .omit) : evC G.pr Φ a = evT G.pr Φ a := by
  unfold evC
  cases a <;> first | exact absurd rfl h | rfl
theorem isOmit_eq {a : Ex} (h : a.isOmit = true) : a = .omit := by cases a <;> first | rfl | cases h
theorem sndO {X : Cx} {W : WX} {m : Ex} {o : Option Expr} (h : (match o with | some y => sh G.nm X.N m X.env.scope y | none => m.isOmit) = true) (ih : ∀ x, sh G.nm X.N m X.env.scope x = true → PE X x (TR G W (ev G.pr Φ m))) : PO X o (TM G W optR (evO G.pr Φ m)) := by
  cases o with
  | none =>
    rw [isOmit_eq h]
    exact po_omit
  | some x => exact po_ev (fun z => by subst z; simp [sh] at h) (ih x h)
theorem shs_len {nm : Nm} {N : List Str} {sc : Scope} : ∀ {ms : List Ex} {xs : List Expr}, shs nm N ms sc xs = true → xs.length = ms.length
  | [], [], _ => rfl
  | m :: ms, x :: xs, h => by
    simp only [shs, Bool.and_eq_true] at h
    rw [List.length_cons, List.length_cons, shs_len h.2]
  | [], _ :: _, h => by simp [shs] at h
  | _ :: _, [], h => by simp [shs] at h
theorem shKeys_len : ∀ {ks : List D} {keys : List (Option Expr)}, shKeys ks keys = true → keys.length = ks.length ∧ keys.all (·.isSome) = true
  | [], [], _ => ⟨rfl, rfl⟩
  | k :: ks, o :: keys, h => by
    cases o with
    | none => simp [shKeys] at h
    | some e =>
      cases e with
      | Constant c j p =>
        simp only [shKeys, Bool.and_eq_true] at h
        obtain ⟨h1, h2⟩ := shKeys_len h.2
        exact ⟨by rw [List.length_cons, List.length_cons, h1], by simp [h2]⟩
      | _ => simp [shKeys] at h
  | [], _ :: _, h => by simp [shKeys] at h
  | _ :: _, [], h => by simp [shKeys] at h
theorem sh_omit {nm : Nm} {N : List Str} {sc : Scope} {e : Expr} {m : Ex} (h : sh nm N m sc e = true) : m ≠ .omit := by
  rintro rfl
  simp [sh] at h
end
end Mi
set_option linter.all false
set_option maxRecDepth 100000
set_option maxHeartbeats 4000000
/-! S19: the recursion over expressions. -/
namespace Mi
open PySem PySem.Spec PyProof.Rows L2
section
variable {G : Gx} {k : Nat} {Φ : Cal} (hG : GOk G) (hC : CallOk G Φ k)
include hG hC
mutual
theorem sndE : ∀ (m : Ex) (X : Cx) (W : WX) (e : Expr), XOk G X k → Takes X W → sh G.nm X.N m X.env.scope e = true → Snd G Φ X W m e
  | .omit, X, W, e, hX, tk, h => by simp [sh] at h
  | .lit d, X, W, e, hX, tk, h => by
    cases e with
    | Constant c j p =>
      simp only [sh] at h
      exact Snd.of hX.hK rfl (e_lit h)
    | _ => simp [sh] at h
  | .var i, X, W, e, hX, tk, h => by
    cases e with
    | Name x p =>
      simp only [sh, Bool.and_eq_true, decide_eq_true_eq] at h
      exact Snd.of hX.hK rfl (e_var h.1 h.2.1 h.2.2)
    | _ => simp [sh] at h
  | .gl i, X, W, e, hX, tk, h => by
    cases e with
    | Name x p =>
      simp only [sh, Bool.and_eq_true, decide_eq_true_eq] at h
      exact Snd.of hX.hK rfl (e_gl hG hX.hm h.1 h.2.1 h.2.2)
    | _ => simp [sh] at h
  | .p1 p a, X, W, e, hX, tk, h => by
    rw [sh.eq_def] at h
    dsimp only at h
    split at h
    · simp only [Bool.and_eq_true, decide_eq_true_eq] at h
      obtain ⟨rfl, h⟩ := h
      have ih := sndE a X W _ hX tk h
      exact Snd.of2 (fun _ _ _ => Expr.noConfusion) (p1_not hX.hK ih.pe) (t_not ih.pt)
    · simp only [Bool.and_eq_true, decide_eq_true_eq] at h
      obtain ⟨rfl, h⟩ := h
      exact Snd.of hX.hK rfl (p1_un u_neg (sndE a X W _ hX tk h).pe)
    · simp only [Bool.and_eq_true, Bool.or_eq_true, decide_eq_true_eq] at h
      exact Snd.of hX.hK rfl (s_call1 hG hX h.1 h.2.1 (ok_plain (sh_ok h.2.2)) (sndE a X W _ hX tk h.2.2).pe)
    · simp only [Bool.and_eq_true, decide_eq_true_eq] at h
      obtain ⟨rfl, h⟩ := h
      exact Snd.of hX.hK rfl (p1_rev hX.hK (sndE a X W _ hX tk h).pe)
    · cases h
  | .p2 p a b, X, W, e, hX, tk, h => by
    rw [sh.eq_def] at h
    dsimp only at h
    split at h
    · simp only [Bool.and_eq_true, decide_eq_true_eq] at h
      exact Snd.of hX.hK rfl (s_bin hX h.1 (sndE a X W _ hX tk h.2.1).pe (sndE b X W _ hX tk h.2.2).pe)
    · simp only [Bool.and_eq_true, decide_eq_true_eq] at h
      obtain ⟨h1, h2⟩ := s_cmp (pos := by assumption) hX h.1 (sh_ok h.2.2) (sndE a X W _ hX tk h.2.1).pe (sndE b X W _ hX tk h.2.2).pe
      exact Snd.of2 (fun _ _ _ => Expr.noConfusion) h1 h2
    · simp only [Bool.and_eq_true, decide_eq_true_eq] at h
      exact Snd.of hX.hK rfl (s_call2 hG hX h.1 h.2.1 (ok_plain (sh_ok h.2.2.1)) (ok_plain (sh_ok h.2.2.2)) (sndE a X W _ hX tk h.2.2.1).pe (sndE b X W _ hX tk h.2.2.2).pe)
    · cases h
  | .chain p q a b c, X, W, e, hX, tk, h => by simp [sh] at h
  | .and a b, X, W, e, hX, tk, h => by
    rw [sh.eq_def] at h
    dsimp only at h
    split at h
    · simp only [Bool.and_eq_true] at h
      have ha := sndE a X W _ hX tk h.1
      have hb := sndE b X W _ hX tk h.2
      have pw := (pw_and (pos := by assumption) ha.pt (pw_and1 hb.pt)).imp fun σ H Q q => tand_of (G := G) (Φ := Φ) (W := W) (a := a) (b := b) q
      exact ⟨e_and (ta := TR G W (ev G.pr Φ a)) (tb := TR G W (ev G.pr Φ a)) ha.pe (pe_one hb.pe), pw.pt, fun _ _ _ _ => pw⟩
    · simp only [Bool.and_eq_true] at h
      have ha := sndE a X W _ hX tk h.1
      have hb := sndE b X W _ hX tk h.2
      have pw := (pw_and (pos := by assumption) ha.pt (hb.pw _ _ _ rfl)).imp fun σ H Q q => tand_of (G := G) (Φ := Φ) (W := W) (a := a) (b := b) q
      exact ⟨e_and (ta := TR G W (ev G.pr Φ a)) (tb := TR G W (ev G.pr Φ a)) ha.pe hb.pe, pw.pt, fun _ _ _ _ => pw⟩
    · cases h
  | .or a b, X, W, e, hX, tk, h => by
    rw [sh.eq_def] at h
    dsimp only at h
    split at h
    · simp only [Bool.and_eq_true] at h
      have ha := sndE a X W _ hX tk h.1
      have hb := sndE b X W _ hX tk h.2
      have pw := (pw_or (pos := by assumption) ha.pt (pw_or1 hb.pt)).imp fun σ H Q q => tor_of (G := G) (Φ := Φ) (W := W) (a := a) (b := b) q
      exact ⟨e_or (ta := TR G W (ev G.pr Φ a)) (tb := TR G W (ev G.pr Φ a)) ha.pe (pe_one hb.pe), pw.pt, fun _ _ _ _ => pw⟩
    · simp only [Bool.and_eq_true] at h
      have ha := sndE a X W _ hX tk h.1
      have hb := sndE b X W _ hX tk h.2
      have pw := (pw_or (pos := by assumption) ha.pt (hb.pw _ _ _ rfl)).imp fun σ H Q q => tor_of (G := G) (Φ := Φ) (W := W) (a := a) (b := b) q
      exact ⟨e_or (ta := TR G W (ev G.pr Φ a)) (tb := TR G W (ev G.pr Φ a)) ha.pe hb.pe, pw.pt, fun _ _ _ _ => pw⟩
    · cases h
  | .ite c a b, X, W, e, hX, tk, h => by
    cases e with
    | IfExp t x y p =>
      simp only [sh, Bool.and_eq_true] at h
      have hc := sndE c X W _ hX tk h.1
      have ha := sndE a X W _ hX tk h.2.1
      have hb := sndE b X W _ hX tk h.2.2
      exact Snd.of2 (fun _ _ _ => Expr.noConfusion) (e_ite hc.pt ha.pe hb.pe) (t_ite hc.pt ha.pt hb.pt)
    | _ => simp [sh] at h
  | .tup es, X, W, e, hX, tk, h => by
    cases e with
    | Tuple xs j p =>
      simp only [sh] at h
      exact Snd.of hX.hK rfl (e_tup (sndEs es X W xs hX tk h).1)
    | _ => simp [sh] at h
  | .lst es, X, W, e, hX, tk, h => by
    cases e with
    | List xs p =>
      simp only [sh] at h
      exact Snd.of hX.hK rfl (e_lst (sndEs es X W xs hX tk h).1)
    | _ => simp [sh] at h
  | .box es, X, W, e, hX, tk, h => by
    cases e with
    | List xs p =>
      simp only [sh] at h
      exact Snd.of hX.hK rfl (e_box (sndEs es X W xs hX tk h).1)
    | _ => simp [sh] at h
  | .dct ks vs, X, W, e, hX, tk, h => by
    cases e with
    | Dict keys xs p =>
      simp only [sh, Bool.and_eq_true, decide_eq_true_eq] at h
      obtain ⟨h1, h2, h3, h4, h5⟩ := h
      obtain ⟨l1, l2⟩ := shKeys_len h1
      have l3 := shs_len h5
      have hp := sndPs vs X W ks keys xs p hX tk h1 h5 (by
        cases z : D.strs ks with
        | none => rw [z] at h4; cases h4
        | some ss => exact (strs_is z).1) h3
      cases keys with
      | nil =>
        have e1 : ks = [] := List.length_eq_zero_iff.mp l1.symm
        subst e1
        have e2 : vs = [] := List.length_eq_zero_iff.mp h3.symm
        subst e2
        have e3 : xs = [] := List.length_eq_zero_iff.mp l3
        subst e3
        exact Snd.of hX.hK rfl e_dct0
      | cons o keys => exact Snd.of hX.hK rfl (e_dct h3 (by rw [l1, l3, h3]) (fun z => nomatch z) (by rw [l1]; exact h2) l2 hp)
    | _ => simp [sh] at h
  | .call f es, X, W, e, hX, tk, h => by
    rw [sh.eq_def] at h
    dsimp only at h
    split at h
    · simp only [Bool.and_eq_true, decide_eq_true_eq] at h
      obtain ⟨h1, h2, h3, h4⟩ := h
      obtain ⟨i1, i2⟩ := sndEs es X W _ hX tk h4
      rename_i xs _ 
      cases xs with
      | nil =>
        cases es with
        | nil => exact Snd.of hX.hK rfl (e_call0 hG hX hC tk h1 h2 h3)
        | cons _ _ => simp [shs] at h4
      | cons x xs => exact Snd.of hX.hK rfl (e_call hG hX hC tk h1 h2 h3 i2 i1)
    · cases h
  | .mk c es, X, W, e, hX, tk, h => by
    rw [sh.eq_def] at h
    dsimp only at h
    split at h
    · simp only [Bool.and_eq_true, decide_eq_true_eq] at h
      obtain ⟨⟨h0, hx⟩, h1, h2, h3, h4⟩ := h
      obtain ⟨i1, i2⟩ := sndEs es X W _ hX tk h4
      rename_i xs _
      cases es with
      | nil => simp at h0
      | cons a es =>
        cases es with
        | cons _ _ => simp at h0
        | nil =>
          cases xs with
          | nil => simp [shs] at h4
          | cons x xs =>
            cases xs with
            | cons _ _ => simp [shs] at h4
            | nil => exact Snd.of hX.hK rfl (e_mk hG hX h1 h2 h3 (by simpa using i2) (hG.exb c hx) i1)
    · cases h
  | .isi a cs, X, W, e, hX, tk, h => by
    rw [sh.eq_def] at h
    dsimp only at h
    split at h
    · simp only [Bool.and_eq_true, decide_eq_true_eq] at h
      obtain ⟨rfl, h2, h3, h4, h5, h6⟩ := h
      cases cs with
      | nil => simp at h6
      | cons c cs => exact Snd.of hX.hK rfl (e_isiT hG hX h2 (ok_plain (sh_ok h3)) (sndE a X W _ hX tk h3).pe h4 (by simp at h5; omega))
    · simp only [Bool.and_eq_true, decide_eq_true_eq] at h
      obtain ⟨rfl, h2, h3, h4⟩ := h
      split at h4
      · exact Snd.of hX.hK rfl (e_isi1 hG hX h2 (ok_plain (sh_ok h3)) (sndE a X W _ hX tk h3).pe h4)
      · cases h4
    · cases h
  | .ix a i, X, W, e, hX, tk, h => by
    cases e with
    | Subscript x y p =>
      simp only [sh, Bool.and_eq_true] at h
      exact Snd.of hX.hK rfl (p2_ix hX.hK (sndE a X W _ hX tk h.1).pe (sndE i X W _ hX tk h.2).pe (ok_ix (sh_ok h.2)))
    | _ => simp [sh] at h
  | .sl a lo hi, X, W, e, hX, tk, h => by
    rw [sh.eq_def] at h
    dsimp only at h
    split at h
    · simp only [Bool.and_eq_true] at h
      exact Snd.of hX.hK rfl (e_sl hX.hK (sndE a X W _ hX tk h.1).pe (sndO h.2.1 fun x hx => (sndE lo X W x hX tk hx).pe) (sndO h.2.2 fun x hx => (sndE hi X W x hX tk hx).pe))
    · cases h
  | .m0 m a, X, W, e, hX, tk, h => by
    rw [sh.eq_def] at h
    dsimp only at h
    split at h
    · simp only [Bool.and_eq_true, decide_eq_true_eq] at h
      obtain ⟨h1, h2, h3, h4⟩ := h
      cases m with
      | upper =>
        simp only [m0name, Option.some.injEq] at h1
        subst h1
        exact Snd.of hX.hK rfl (e_upper h3 h2 (sndE a X W _ hX tk h4).pe)
      | bitlen => simp [m0name] at h1
    · cases h
  | .m1 _ _ _, X, W, e, hX, tk, h => by simp [sh] at h
  | .m2 _ _ _ _, X, W, e, hX, tk, h => by simp [sh] at h
  | .mt _ _ _, X, W, e, hX, tk, h => by simp [sh] at h
  | .at a n, X, W, e, hX, tk, h => by
    cases e with
    | Attribute x f p =>
      simp only [sh, Bool.and_eq_true, decide_eq_true_eq] at h
      exact Snd.of hX.hK rfl (e_at hG hX h.1 h.2.1 (sndE a X W _ hX tk h.2.2).pe)
    | _ => simp [sh] at h
  | .lc t it c a, X, W, e, hX, tk, h => by
    rw [sh.eq_def] at h
    dsimp only at h
    split at h
    · rename_i y tg iter ifs scope p
      simp only [Bool.and_eq_true] at h
      obtain ⟨h1, h2, h3, h4, h5⟩ := h
      obtain ⟨i1, i2⟩ := sndIt it X W tg iter hX tk h1
      refine Snd.of hX.hK rfl (e_lc hX h2 i2 i1 h3 (fun Y hY tY eN eS => ?_) fun Y hY tY eN eS => (sndE a Y NoX _ hY tY (by rw [eN, eS]; exact h5)).pe)
      split at h4
      · rw [isOmit_eq h4]
        exact ⟨fun pins s σ H Q I q => pts_nil.run pins s σ H Q I (by
          obtain ⟨w, e, s, r, q⟩ := q
          exact TMat.ret q w H true Ext.refl r rfl)⟩
      · rw [evC_ne (sh_omit h4)]
        exact pts_one (sndE c Y NoX _ hY tY (by rw [eN, eS]; exact h4)).pt
      · cases h4
    · cases h
  | .list it, X, W, e, hX, tk, h => by
    rw [sh.eq_def] at h
    dsimp only at h
    split at h
    · simp only [Bool.and_eq_true, decide_eq_true_eq] at h
      obtain ⟨rfl, h2, h3⟩ := h
      cases it with
      | rng1 a =>
        rw [shRg.eq_def] at h3
        dsimp only at h3
        split at h3
        · simp only [Bool.and_eq_true, decide_eq_true_eq] at h3
          obtain ⟨rfl, h4, h5⟩ := h3
          exact Snd.of hX.hK rfl (e_listRg hG hX h2 h4 (ok_plain (sh_ok h5)) (sndE a X W _ hX tk h5).pe)
        · cases h3
      | _ => simp [shRg] at h3
    · cases h
  | .tuple _, X, W, e, hX, tk, h => by simp [sh] at h
theorem sndEs : ∀ (ms : List Ex) (X : Cx) (W : WX) (xs : List Expr), XOk G X k → Takes X W → shs G.nm X.N ms X.env.scope xs = true → PA X xs (TL G W (evs G.pr Φ ms)) ∧ xs.all plainE = true
  | [], X, W, xs, hX, tk, h => by
    cases xs with
    | nil => exact ⟨pa0, rfl⟩
    | cons _ _ => simp [shs] at h
  | m :: ms, X, W, xs, hX, tk, h => by
    cases xs with
    | nil => simp [shs] at h
    | cons x xs =>
      simp only [shs, Bool.and_eq_true] at h
      obtain ⟨i1, i2⟩ := sndEs ms X W xs hX tk h.2
      have px := ok_plain (sh_ok h.1)
      exact ⟨pa1 px (sndE m X W x hX tk h.1).pe i1, by simp [px, i2]⟩
theorem sndPs : ∀ (ms : List Ex) (X : Cx) (W : WX) (ks : List D) (keys : List (Option Expr)) (xs : List Expr) (pos : Pos), XOk G X k → Takes X W → shKeys ks keys = true → shs G.nm X.N ms X.env.scope xs = true → ks.all isStr = true → ks.length = ms.length → PPs X pos keys xs (trsOf G W Φ ks ms)
  | [], X, W, ks, keys, xs, pos, hX, tk, h, h2, h3, h4 => by
    cases ks with
    | cons _ _ => simp at h4
    | nil =>
      cases keys with
      | cons _ _ => simp [shKeys] at h
      | nil =>
        cases xs with
        | cons _ _ => simp [shs] at h2
        | nil => exact pps_nil
  | m :: ms, X, W, ks, keys, xs, pos, hX, tk, h, h2, h3, h4 => by
    cases ks with
    | nil => simp at h4
    | cons d ks =>
      cases keys with
      | nil => simp [shKeys] at h
      | cons o keys =>
        cases xs with
        | nil => simp [shs] at h2
        | cons x xs =>
          cases o with
          | none => simp [shKeys] at h
          | some e =>
            cases e with
            | Constant c j p =>
              simp only [shKeys, Bool.and_eq_true] at h
              simp only [shs, Bool.and_eq_true] at h2
              rw [List.all_cons, Bool.and_eq_true] at h3
              refine pps_cons (e_key h.1 ?_) (esc_pe (sndE m X W x hX tk h2.1).pe) (sndPs ms X W ks keys xs pos hX tk h.2 h2.2 h3.2 (by simpa using h4))
              cases d with
              | str s => exact ⟨s, rfl⟩
              | _ => simp [isStr] at h3
            | _ => simp [shKeys] at h
theorem sndIt : ∀ (m : Mi.It) (X : Cx) (W : WX) (tg iter : Expr), XOk G X k → Takes X W → shIt G.nm X.N m X.env.scope tg iter = true → PI X tg iter (TII G W (evIt G.pr Φ m)) ∧ okE iter = true
  | .seq a, X, W, tg, iter, hX, tk, h => by
    simp only [shIt] at h
    exact ⟨i_seq hX.hK (sndE a X W _ hX tk h).pe, sh_ok h⟩
  | .rng1 a, X, W, tg, iter, hX, tk, h => by
    rw [shIt.eq_def] at h
    dsimp only at h
    split at h
    · simp only [Bool.and_eq_true, decide_eq_true_eq] at h
      obtain ⟨rfl, h2, h3⟩ := h
      exact ⟨i_rng1 hG hX h2 (ok_plain (sh_ok h3)) (sndE a X W _ hX tk h3).pe, rfl⟩
    · cases h
  | .rng2 a b, X, W, tg, iter, hX, tk, h => by
    rw [shIt.eq_def] at h
    dsimp only at h
    split at h
    · simp only [Bool.and_eq_true, decide_eq_true_eq] at h
      obtain ⟨rfl, h2, h3, h4⟩ := h
      exact ⟨i_rng2 hG hX h2 (ok_plain (sh_ok h3)) (ok_plain (sh_ok h4)) (sndE a X W _ hX tk h3).pe (sndE b X W _ hX tk h4).pe, rfl⟩
    · cases h
  | .rng3 _ _ _, X, W, tg, iter, hX, tk, h => by simp [shIt] at h
  | .enum a, X, W, tg, iter, hX, tk, h => by
    rw [shIt.eq_def] at h
    dsimp only at h
    split at h
    · simp only [Bool.and_eq_true, decide_eq_true_eq] at h
      obtain ⟨rfl, h2, h3⟩ := h
      exact ⟨i_enum hG hX h2 (ok_plain (sh_ok h3)) (sndE a X W _ hX tk h3).pe, rfl⟩
    · cases h
  | .zip _ _, X, W, tg, iter, hX, tk, h => by simp [shIt] at h
end
end
end Mi
set_option linter.all false
set_option maxRecDepth 100000
set_option maxHeartbeats 1000000
/-! S20: statements: what they promise; slots and boxes written. -/
namespace Mi
open PySem PySem.Spec PyProof.Rows L2
/-- what a run of statements promises -/
def TFat (G : Gx) (W : WX) (w : Wd) (e : Env) (s : Store) (m : M Mi.Flow) (σ : L2.St) (H : Hp) (D : Ends) : Prop := match m e s with
  | .ok .next e' s' => ∀ w' σ' H', Ext w e σ H w' e' σ' H' → Rel G w' e' s' σ' H' → D.nx σ' H'
  | .ok (.ret d) e' s' => ∀ w' σ' H' v, Ext w e σ H w' e' σ' H' → Rel G w' e' s' σ' H' → Rep G w' d v → D.rt v H'
  | .exc c d e' s' => ∀ w' σ' H' dd, Ext w e σ H w' e' σ' H' → Rel G w' e' s' σ' H' → ExD G w' d dd → W (.ref (G.cad c)) (some dd) σ' H'
  | .bad => False
def TF (G : Gx) (W : WX) (m : M Mi.Flow) : TS := fun D σ H => ∃ w e s, Rel G w e s σ H ∧ TFat G W w e s m σ H D
section
variable {α β : Type} {G : Gx} {W : WX} {w : Wd} {e : Env} {s : Store} {σ : L2.St} {H : Hp} {U : Ends} {m : M Mi.Flow}
theorem TFat.le {m' : M Mi.Flow} (l : Le m m') (h : TFat G W w e s m σ H U) : TFat G W w e s m' σ H U := by
  unfold TFat at h ⊢
  rcases l e s with z | z
  · rw [z] at h; exact h.elim
  · rw [z]; exact h
/-- from an elder state -/
theorem TFat.from {w0 : Wd} {e0 : Env} {σ0 : L2.St} {H0 : Hp} {r : Res Mi.Flow} (x : Ext w0 e0 σ0 H0 w e σ H) (h : TFat G W w0 e0 s0 (fun _ _ => r) σ0 H0 U) (hm : m e s = r) : TFat G W w e s m σ H U := by
  unfold TFat at h ⊢
  rw [hm]
  dsimp only at h
  cases r with
  | bad => exact h
  | exc c d e' s' => exact fun w' σ' H' dd y r' z => h w' σ' H' dd (x.trans y) r' z
  | ok f e' s' =>
    cases f with
    | next => exact fun w' σ' H' y r' => h w' σ' H' (x.trans y) r'
    | ret d => exact fun w' σ' H' v y r' z => h w' σ' H' v (x.trans y) r' z
/-- an evaluation first -/
theorem TFat.bind {rel : RelF α β} {m : M α} {f : α → M Mi.Flow} (r : Rel G w e s σ H) (h : TFat G W w e s (M.bind m f) σ H U) :
    TM G W rel m σ H (fun b H1 => ∃ a w1 e1 s1, Rel G w1 e1 s1 σ H1 ∧ rel H w1 e1 σ H1 a b ∧ Ext w e σ H w1 e1 σ H1 ∧ TFat G W w1 e1 s1 (f a) σ H1 U) := by
  refine ⟨w, e, s, r, ?_⟩
  unfold TMat
  unfold TFat M.bind at h
  cases q : m e s with
  | bad => rw [q] at h; exact h
  | exc c d e' s' =>
    rw [q] at h
    exact fun w' H' dd x r' z => h w' σ H' dd x r' z
  | ok a e' s' =>
    rw [q, Res.bind_ok] at h
    exact fun w1 H1 b x1 r1 l1 => ⟨a, w1, e', s', r1, l1, x1, TFat.from (s0 := s) x1 (show TFat G W w e s (fun _ _ => f a e' s') σ H U from h) rfl⟩
/-- a step that changes nothing -/
theorem TFat.pure {m : M α} {f : α → M Mi.Flow} {a : α} (h : TFat G W w e s (M.bind m f) σ H U) (q : m e s = .ok a e s) : TFat G W w e s (f a) σ H U := by
  unfold TFat M.bind at h
  rw [q, Res.bind_ok] at h
  exact h
theorem TFat.deref {r : R} {f : D → M Mi.Flow} {v : V} {H0 : Hp} {E : Ends} (rl : Rel G w e s σ H) (hr : RepR G H0 w e σ H r v) (h : TFat G W w e s (M.bind (Mi.deref r) f) σ H E) :
    ∃ d, Mi.deref r e s = .ok d e s ∧ Red G w H d v ∧ TFat G W w e s (f d) σ H E := by
  have t := TFat.bind (rel := fun _ _ _ _ _ (_ : D) (_ : Unit) => True) rl h
  cases q : Mi.deref r e s with
  | bad =>
    unfold TFat M.bind at h
    rw [q] at h
    exact h.elim
  | exc c d e' s' =>
    exfalso
    cases r with
    | v x =>
      cases x with
      | ref i =>
        unfold Mi.deref at q
        dsimp only at q
        split at q <;> cases q
      | _ => cases q
    | fr x => cases q
    | bor i =>
      unfold Mi.deref at q
      dsimp only at q
      split at q <;> cases q
  | ok d e' s' =>
    obtain ⟨rfl, rfl, hd⟩ := deref_red rl hr q
    exact ⟨d, rfl, hd, h.pure q⟩
/-! ### slots -/
/-- a slot takes a container of its own -/
theorem Rel.setOwn {i : Nat} {d : D} {a : Addr} (r : Rel G w e s σ H) (hi : i < e.length) (hh : Holds G w H a d) (hp : w.pe a = none) (hm : a ∉ w.mu) (ho : ¬ Own e σ a) {H0 : Hp} {w0 : Wd} {e0 : Env} {σ0 : L2.St} (x : Ext w0 e0 σ0 H0 w e σ H) (hn : H0 a = none) :
    Rel G w (e.set i (some (.own d))) s (σ.set i (some (.ref a))) H ∧ Ext w0 e0 σ0 H0 w (e.set i (some (.own d))) (σ.set i (some (.ref a))) H := by
  have his : i < σ.length := by rw [← r.len]; exact hi
  refine ⟨⟨by simp [r.len], r.pe, fun j d' h => ?_, fun j d' h => ?_, fun j l d1 d2 b h1 h2 h3 h4 => ?_, r.bl, r.bx, r.nd⟩, ⟨x.le, x.keep, x.cap, x.capm, fun b ⟨j, d', h1, h2⟩ => ?_, x.tk⟩⟩
  · rcases set_get h with ⟨_, z, _⟩ | ⟨z1, z2⟩
    · cases z
    · rw [List.getElem?_set_ne (Ne.symm z1)]
      exact r.val j d' z2
  · rcases set_get h with ⟨z1, z2, _⟩ | ⟨z1, z2⟩
    · cases z2
      subst z1
      exact ⟨a, List.getElem?_set_self his, hh, hp, hm⟩
    · rw [List.getElem?_set_ne (Ne.symm z1)]
      exact r.own j d' z2
  · rcases set_get h1 with ⟨z1, z2, _⟩ | ⟨z1, z2⟩
    · rcases set_get h2 with ⟨y1, y2, _⟩ | ⟨y1, y2⟩
      · rw [z1, y1]
      · subst z1
        rw [List.getElem?_set_self his] at h3
        rw [List.getElem?_set_ne (Ne.symm y1)] at h4
        cases h3
        exact (ho ⟨l, d2, y2, h4⟩).elim
    · rcases set_get h2 with ⟨y1, y2, _⟩ | ⟨y1, y2⟩
      · subst y1
        rw [List.getElem?_set_self his] at h4
        rw [List.getElem?_set_ne (Ne.symm z1)] at h3
        cases h4
        exact (ho ⟨j, d1, z2, h3⟩).elim
      · rw [List.getElem?_set_ne (Ne.symm z1)] at h3
        rw [List.getElem?_set_ne (Ne.symm y1)] at h4
        exact r.dis j l d1 d2 b z2 y2 h3 h4
  · rcases set_get h1 with ⟨z1, z2, _⟩ | ⟨z1, z2⟩
    · subst z1
      rw [List.getElem?_set_self his] at h2
      cases h2
      exact .inr hn
    · rw [List.getElem?_set_ne (Ne.symm z1)] at h2
      exact x.own b ⟨j, d', z2, h2⟩
/-- a slot's own container let stand -/
theorem Rel.escB {i : Nat} {d : D} {v : V} (r : Rel G w e s σ H) (h : e[i]? = some (some (.own d))) (hv : σ[i]? = some (some v)) : ∃ w', Rel G w' (e.set i (some (.v d))) s σ H ∧ Ext w e σ H w' (e.set i (some (.v d))) σ H ∧ Rep G w' d v := by
  have key : TMat G NoX (RepR G) w e s (M.ret (.bor i)) σ H (fun b H' => ∃ w', Rel G w' (e.set i (some (.v d))) s σ H' ∧ Ext w e σ H w' (e.set i (some (.v d))) σ H' ∧ Rep G w' d b) := by
    refine esc_of r ?_
    unfold TMat M.bind M.ret
    rw [Res.bind_ok]
    unfold esc
    dsimp only
    rw [h]
    exact fun w' H' b x r' hb => ⟨w', r', x, hb⟩
  exact key.ret w H v Ext.refl r hv
/-- name = value: the slot's new state -/
theorem put_ok {i : Nat} {r : R} {v : V} {H0 : Hp} {w0 : Wd} {e0 : Env} {σ0 : L2.St} (rl : Rel G w e s σ H) (x0 : Ext w0 e0 σ0 H0 w e σ H) (hr : RepR G H0 w e σ H r v) :
    putVar i r e s = .bad ∨ ∃ e1 w1, putVar i r e s = .ok () e1 s ∧ Rel G w1 e1 s (σ.set i (some v)) H ∧ Ext w0 e0 σ0 H0 w1 e1 (σ.set i (some v)) H := by
  cases r with
  | v d =>
    simp only [putVar]
    by_cases hi : i < e.length
    · rw [if_pos hi]
      obtain ⟨r2, x2⟩ := rl.setV hi hr
      exact .inr ⟨_, w, rfl, r2, x0.trans x2⟩
    · rw [if_neg hi]
      exact .inl rfl
  | fr d =>
    simp only [putVar]
    by_cases hi : i < e.length
    · rw [if_pos hi]
      obtain ⟨a, rfl, h1, h2, h3, h4, h5⟩ := hr
      obtain ⟨r2, x2⟩ := rl.setOwn hi h1 h2 h4 h3 x0 h5
      exact .inr ⟨_, w, rfl, r2, x2⟩
    · rw [if_neg hi]
      exact .inl rfl
  | bor j =>
    simp only [putVar, M.bind, esc]
    cases z : e[j]? with
    | none => exact .inl rfl
    | some o =>
      cases o with
      | none => exact .inl rfl
      | some sl =>
        cases sl with
        | v d => exact .inl rfl
        | own d =>
          dsimp only [Res.bind_ok, Res.bind]
          obtain ⟨w', r2, x2, hd⟩ := rl.escB z hr
          by_cases hi : i < (e.set j (some (.v d))).length
          · rw [if_pos hi]
            obtain ⟨r3, x3⟩ := r2.setV hi hd
            exact .inr ⟨_, w', rfl, r3, x0.trans (x2.trans x3)⟩
          · rw [if_neg hi]
            exact .inl rfl
/-! ### boxes and own containers written -/
theorem Rel.storeB {b : Nat} {a : Addr} {d : D} {o : HO} (r : Rel G w e s σ H) (hb : b < s.length) (ha : w.mu[b]? = some a) (hd : Holds G w (upd H a o) a d) : Rel G w e (s.set b d) σ (upd H a o) ∧ Ext w e σ H w e σ (upd H a o) := by
  have hm : a ∈ w.mu := List.mem_of_getElem? ha
  have hp : w.pe a = none := by
    obtain ⟨a', q1, _, q3⟩ := r.bx b s[b] (by simp)
    rw [ha] at q1
    cases q1
    exact q3
  refine ⟨⟨r.len, fun c o' h => ?_, r.val, fun i d' h => ?_, r.dis, by simp [r.bl], fun i d' h => ?_, r.nd⟩, ⟨WLe.refl w, fun c o' h _ m => ?_, fun c o' _ _ h => h, fun c o' _ h => h, fun c h => .inl h, fun c o' h => ?_⟩⟩
  · rw [upd_ne (ne_of_none h hp)]; exact r.pe c o' h
  · obtain ⟨c, q1, q2, q3, q4⟩ := r.own i d' h
    exact ⟨c, q1, q2.mono (WLe.refl w) fun o' q => by rw [upd_ne (fun z => q4 (by rw [z]; exact hm))]; exact q, q3, q4⟩
  · rcases set_get h with ⟨z1, z2, _⟩ | ⟨z1, z2⟩
    · subst z1 z2
      exact ⟨a, ha, hd, hp⟩
    · obtain ⟨c, q1, q2, q3⟩ := r.bx i d' z2
      refine ⟨c, q1, q2.mono (WLe.refl w) fun o' q => ?_, q3⟩
      rw [upd_ne]
      · exact q
      · intro z
        subst z
        exact z1 ((List.getElem?_inj (List.getElem?_eq_some_iff.mp q1).1 r.nd).mp (by rw [q1, ha]))
  · rw [upd_ne (fun z => m (by rw [z]; exact hm))]; exact h
  · by_cases z : c = a
    · subst z; exact ⟨o, upd_same⟩
    · exact ⟨o', by rw [upd_ne z]; exact h⟩
theorem Rel.storeO {i : Nat} {a : Addr} {d d0 : D} {o : HO} (r : Rel G w e s σ H) (h0 : e[i]? = some (some (.own d0))) (ha : σ[i]? = some (some (.ref a))) (hd : Holds G w (upd H a o) a d) : Rel G w (e.set i (some (.own d))) s σ (upd H a o) ∧ Ext w e σ H w (e.set i (some (.own d))) σ (upd H a o) := by
  obtain ⟨a', g1, g2, g3, g4⟩ := r.own i d0 h0
  rw [ha] at g1
  cases g1
  have ow : Own e σ a := ⟨i, d0, h0, ha⟩
  refine ⟨⟨by simp [r.len], fun c o' h => ?_, fun j d' h => ?_, fun j d' h => ?_, fun j l d1 d2 b h1 h2 h3 h4 => ?_, r.bl, fun j d' h => ?_, r.nd⟩, ⟨WLe.refl w, fun c o' h n _ => ?_, fun c o' _ _ h => h, fun c o' _ h => h, fun c ⟨j, d', h1, h2⟩ => ?_, fun c o' h => ?_⟩⟩
  · rw [upd_ne (ne_of_none h g3)]; exact r.pe c o' h
  · rcases set_get h with ⟨_, z, _⟩ | ⟨z1, z2⟩
    · cases z
    · exact r.val j d' z2
  · rcases set_get h with ⟨z1, z2, _⟩ | ⟨z1, z2⟩
    · cases z2
      subst z1
      exact ⟨a, ha, hd, g3, g4⟩
    · obtain ⟨c, q1, q2, q3, q4⟩ := r.own j d' z2
      refine ⟨c, q1, q2.mono (WLe.refl w) fun o' q => ?_, q3, q4⟩
      rw [upd_ne]
      · exact q
      · intro z
        subst z
        exact z1 (r.dis j i d' d0 c z2 h0 q1 ha)
  · have key : ∀ {j : Nat} {d1 : D}, (e.set i (some (.own d)))[j]? = some (some (.own d1)) → ∃ d2, e[j]? = some (some (.own d2)) := fun {j d1} h => by
      rcases set_get h with ⟨z1, _, _⟩ | ⟨_, z2⟩
      · subst z1; exact ⟨d0, h0⟩
      · exact ⟨d1, z2⟩
    obtain ⟨x1, y1⟩ := key h1
    obtain ⟨x2, y2⟩ := key h2
    exact r.dis j l x1 x2 b y1 y2 h3 h4
  · obtain ⟨c, q1, q2, q3⟩ := r.bx j d' h
    refine ⟨c, q1, q2.mono (WLe.refl w) fun o' q => ?_, q3⟩
    rw [upd_ne (fun z => g4 (by rw [← z]; exact List.mem_of_getElem? q1))]
    exact q
  · rw [upd_ne (fun z => n (by rw [z]; exact ow))]; exact h
  · rcases set_get h1 with ⟨z1, _, _⟩ | ⟨_, z2⟩
    · subst z1
      exact .inl ⟨j, d0, h0, h2⟩
    · exact .inl ⟨j, d', z2, h2⟩
  · by_cases z : c = a
    · subst z; exact ⟨o, upd_same⟩
    · exact ⟨o', by rw [upd_ne z]; exact h⟩
theorem ixN_eq (n : Nat) (i : Int) : Mi.ixN n i = L2.ixN n i := by
  unfold Mi.ixN L2.ixN
  repeat' split
  all_goals first | rfl | (congr 1; omega) | omega
end
end Mi
set_option linter.all false
set_option maxRecDepth 100000
set_option maxHeartbeats 2000000
/-! S21: statements. -/
namespace Mi
open PySem PySem.Spec PyProof.Rows L2
/-- name = value: no exchange of stores, or the one that a comprehension brings -/
def swOk (sc : Scope) (x : Str) (py : Pos) : Expr → Bool
  | .ListComp _ _ s vp => (match sc.kind with | .function => true | _ => false) && ((match sc.names.lookup x with | some .local => true | _ => false) && ((py.line == vp.line) && !(s.names.any fun (n, k) => n == x && (k == .local || k == .cell))))
  | _ => true
def isComp : Expr → Bool
  | .ListComp _ _ _ _ => true
  | .SetComp _ _ _ _ => true
  | .DictComp _ _ _ _ _ => true
  | _ => false
def isTupE : Expr → Bool
  | .Tuple _ _ _ => true
  | _ => false
mutual
def shS (nm : Nm) (N : List Str) : Sm → Scope → Stmt → Bool
  | .set i e, sc, st => (match st with
    | .Assign [.Name x py] v _ => decide (N[i]? = some x) && (locB sc x && (swOk sc x py v && sh nm N e sc v))
    | _ => false)
  | .tgt t e, sc, st => (match st with
    | .Assign [.Tuple es j p] v _ => !isComp v && (!isTupE v && (shT N sc t (.Tuple es j p) && sh nm N e sc v))
    | _ => false)
  | .par _ _, _, _ => false
  | .setIx o i e, sc, st => (match st with
    | .Assign [.Subscript x y _] v _ => !isComp v && (sh nm N o sc x && (sh nm N i sc y && sh nm N e sc v))
    | _ => false)
  | .setAt _ _ _, _, _ => false
  | .exp e, sc, st => (match st with
    | .Expr v _ => !isComp v && sh nm N e sc v
    | _ => false)
  | .ret e, sc, st => (match st with
    | .Return (some v) _ => sh nm N e sc v
    | _ => false)
  | .ite c a b, sc, st => (match st with
    | .If t x y _ => sh nm N c sc t && (shB nm N a sc x && shB nm N b sc y)
    | _ => false)
  | .whl c b, sc, st => (match st with
    | .While t x [] _ => sh nm N c sc t && shB nm N b sc x
    | _ => false)
  | .for t it b, sc, st => (match st with
    | .For tg iter x [] _ => shIt nm N it sc tg iter && (shT N sc t tg && shB nm N b sc x)
    | _ => false)
  | .raise c e, sc, st => (match st with
    | .Raise (some (.Call (.Name x _) [v] [] _)) none _ => nm.exB c && (decide (x = nm.cnm c)) && (globB sc x && (notDbg x && sh nm N e sc v))
    | _ => false)
  | .try1 _ _ _ _, _, _ => false
  | .pass, _, st => (match st with
    | .Pass _ => true
    | _ => false)
def shB (nm : Nm) (N : List Str) : List Sm → Scope → List Stmt → Bool
  | [], _, xs => (match xs with | [] => true | _ => false)
  | m :: ms, sc, xs => (match xs with
    | x :: r => shS nm N m sc x && shB nm N ms sc r
    | [] => false)
end
/-- a body's context -/
structure XS (G : Gx) (X : Cx) (k : Nat) (W : WX) : Prop where
  ok : XOk G X k
  tk : Takes X W
  loc : LocOk X X.env.scope
  pa : PassesOwn (model X.prog X.w) X.A X.env X.xe
section
variable {α β : Type} {G : Gx} {W : WX} {w : Wd} {e : Env} {s : Store} {σ : L2.St} {H : Hp} {U : Ends} {Φ : Cal} {X : Cx} {k : Nat}
theorem TFat.bind0 {rel : RelF α β} {m : M α} {f : α → M Mi.Flow} (r : Rel G w e s σ H) (h : TFat G W w e s (M.bind m f) σ H U) :
    TM G W rel m σ H (fun b H1 => ∃ a w1 e1 s1, Rel G w1 e1 s1 σ H1 ∧ rel H w1 e1 σ H1 a b ∧ Ext w e σ H w1 e1 σ H1 ∧ TFat G W w e s (fun _ _ => f a e1 s1) σ H U) := by
  refine ⟨w, e, s, r, ?_⟩
  unfold TMat
  unfold TFat M.bind at h
  cases q : m e s with
  | bad => rw [q] at h; exact h
  | exc c d e' s' =>
    rw [q] at h
    exact fun w' H' dd x r' z => h w' σ H' dd x r' z
  | ok a e' s' =>
    rw [q, Res.bind_ok] at h
    exact fun w1 H1 b x1 r1 l1 => ⟨a, w1, e', s', r1, l1, x1, h⟩
theorem _root_.L2.PS.imp {st : Stmt} {t t' : TS} (h : PS X st t) (f : ∀ U σ H, t' U σ H → t U σ H) : PS X st t' := ⟨fun pins s σ H U I q => h.run pins s σ H U I (f U σ H q)⟩
theorem _root_.L2.PSs.imp {st : List Stmt} {t t' : TS} (h : PSs X st t) (f : ∀ U σ H, t' U σ H → t U σ H) : PSs X st t' := ⟨fun pins s σ H U I q => h.run pins s σ H U I (f U σ H q)⟩
/-- name = value -/
theorem set_of {i : Nat} {a : Ex} (h : TF G W (evS G.pr Φ (.set i a)) U σ H) : TR G W (ev G.pr Φ a) σ H fun x H1 => gName i x σ H1 U.nx := by
  obtain ⟨w, e, s, r, q⟩ := h
  rw [evS] at q
  refine (TFat.bind0 (rel := RepR G) r q).mono fun v H1 ⟨r1, w1, e1, s1, rl1, hr, x1, q1⟩ => ?_
  show U.nx (σ.set i (some v)) H1
  rcases put_ok (i := i) rl1 x1 hr with z | ⟨e2, w2, z, r2, x2⟩
  · unfold TFat M.bind at q1
    dsimp only at q1
    rw [z] at q1
    exact q1.elim
  · unfold TFat M.bind at q1
    dsimp only at q1
    rw [z] at q1
    exact q1 w2 _ H1 x2 r2
theorem sw_false {v : Expr} {t : Option Expr} {l : Nat} {env : PySem.Env} (h : isComp v = false) : swapsWith v t l env = pure false := by
  cases v <;> first | rfl | cases h
theorem s_set {i : Nat} {a : Ex} {x : Str} {v : Expr} {py pos : Pos} (hS : XS G X k W) (hN : X.N[i]? = some x) (hl : locB X.env.scope x = true) (hc : isComp v = false) (ha : PE X v (TR G W (ev G.pr Φ a))) : PS X (.Assign [.Name x py] v pos) (TF G W (evS G.pr Φ (.set i a))) := by
  obtain ⟨h1, h2⟩ := hS.loc x hl
  exact (ps_set hS.ok.nd hN h1 ha (sw_false hc) h2).imp fun U σ H h => set_of h
/-- several targets -/
theorem s_tgt {t : Tg} {a : Ex} {es : List Expr} {j : Nat} {v : Expr} {p pos : Pos} (hS : XS G X k W) (hc : isComp v = false) (ht : isTupE v = false) (hg : shT X.N X.env.scope t (.Tuple es j p) = true) (ha : PE X v (TR G W (ev G.pr Φ a))) : PS X (.Assign [.Tuple es j p] v pos) (TF G W (evS G.pr Φ (.tgt t a))) := by
  refine (ps_asg (esc_pe ha) (sndG t X X.env.scope _ hS.ok hS.loc hg) (show swapsWith v (some (.Tuple es j p)) pos.line X.env = pure false from sw_false hc) (by cases v <;> first | rfl | cases ht)).imp fun U σ H h => ?_
  obtain ⟨w, e, s, r, q⟩ := h
  rw [evS, ← bind_assoc] at q
  refine (TFat.bind (rel := RepD G) r q).mono fun v H1 ⟨d, w1, e1, s1, rl1, hd, x1, q1⟩ => ?_
  rcases bind_took t d e1 σ v rl1 hd with z | ⟨e2, σ2, z1, z2, z3⟩
  · unfold TFat M.bind at q1
    rw [z] at q1
    exact q1.elim
  · unfold TFat M.bind at q1
    rw [z1] at q1
    exact z3 _ (q1 w1 σ2 H1 z2.ext z2.rel)
/-- o[i] = value -/
theorem s_setIx {o i a : Ex} {x y v : Expr} {p pos : Pos} (hS : XS G X k W) (hc : isComp v = false) (hy : okE y = true) (ho : PE X x (TR G W (ev G.pr Φ o))) (hi : PE X y (TR G W (ev G.pr Φ i))) (ha : PE X v (TR G W (ev G.pr Φ a))) : PS X (.Assign [.Subscript x y p] v pos) (TF G W (evS G.pr Φ (.setIx o i a))) := by
  refine (ps_asg (esc_pe ha) (pg_sub ho hi set_list (fun _ => by cases y <;> first | rfl | cases hy)) (show swapsWith v (some (.Subscript x y p)) pos.line X.env = pure false from sw_false hc) (by cases v <;> rfl) rfl).imp fun U σ H h => ?_
  obtain ⟨w, e, s, r, q⟩ := h
  rw [evS, ← bind_assoc] at q
  refine (TFat.bind (rel := RepD G) r q).mono fun v H1 ⟨d, w1, e1, s1, rl1, hd, x1, q1⟩ => ?_
  have hd : Rep G w1 d v := hd
  refine (TFat.bind (rel := RepR G) rl1 q1).mono fun vo H2 ⟨r2, w2, e2, s2, rl2, hr2, x2, q2⟩ => ?_
  refine (TFat.bind (rel := RepR G) rl2 q2).mono fun vi H3 ⟨r3, w3, e3, s3, rl3, hr3, x3, q3⟩ => ?_
  have hr2' := hr2.ext x3
  obtain ⟨d4, hde, hd4, q4⟩ := q3.deref rl3 hr2'
  obtain ⟨d5, _, hd5, q5⟩ := q4.deref rl3 hr3
  have hv3 := Rep.mono (x2.le.trans x3.le) d v hd
  cases d4 with
  | lst xs =>
    cases d5 with
    | int j =>
      cases red_int hd5
      dsimp only at q5
      obtain ⟨a4, vs, rfl, hH, hrs⟩ := hd4
      cases hj : Mi.ixN xs.length j with
      | none => rw [hj] at q5; exact (show False from q5).elim
      | some n =>
        rw [hj] at q5
        dsimp only at q5
        have hj' : L2.ixN vs.length j = some n := by rw [hrs.length, ← ixN_eq]; exact hj
        refine ⟨a4, vs, j, n, rfl, rfl, hH, hj', ?_⟩
        have hold : Holds G w3 (upd H3 a4 (.lst (vs.set n v))) a4 (.lst (xs.set n d)) := ⟨vs.set n v, upd_same, Reps.set n hv3 hrs⟩
        unfold TFat M.bind store at q5
        cases r2 with
        | v z =>
          cases z with
          | ref b =>
            dsimp only at q5
            by_cases hb : b < s3.length
            · rw [if_pos hb] at q5
              have ha : w3.mu[b]? = some a4 := by
                have : Rep G w3 (.ref b) (.ref a4) := hr2'
                simp only [Rep] at this
                obtain ⟨a', e', h'⟩ := this
                cases e'
                exact h'
              obtain ⟨r6, x6⟩ := rl3.storeB hb ha hold
              exact q5 w3 σ _ x6 r6
            · rw [if_neg hb] at q5
              exact q5.elim
          | _ => exact q5.elim
        | fr z => exact q5.elim
        | bor b =>
          dsimp only at q5
          cases hb : e3[b]? with
          | none => rw [hb] at q5; exact q5.elim
          | some ob =>
            cases ob with
            | none => rw [hb] at q5; exact q5.elim
            | some sl =>
              cases sl with
              | v z => rw [hb] at q5; exact q5.elim
              | own z =>
                rw [hb] at q5
                obtain ⟨r6, x6⟩ := rl3.storeO hb hr2' hold
                exact q5 w3 σ _ x6 r6
    | _ => exact (show False from q5).elim
  | _ => cases d5 <;> exact (show False from q5).elim
theorem s_exp {a : Ex} {v : Expr} {pos : Pos} (hc : isComp v = false) (ha : PE X v (TR G W (ev G.pr Φ a))) : PS X (.Expr v pos) (TF G W (evS G.pr Φ (.exp a))) := by
  refine (ps_expr ha (sw_false hc)).imp fun U σ H ⟨w, e, s, r, q⟩ => ?_
  rw [evS] at q
  refine (TFat.bind (rel := RepR G) r q).mono fun v H1 ⟨r1, w1, e1, s1, rl1, hr, x1, q1⟩ => q1 w1 σ H1 Ext.refl rl1
theorem s_ret {a : Ex} {v : Expr} {pos : Pos} (ha : PE X v (TR G W (ev G.pr Φ a))) : PS X (.Return (some v) pos) (TF G W (evS G.pr Φ (.ret a))) := by
  refine (ps_ret (esc_pe ha)).imp fun U σ H ⟨w, e, s, r, q⟩ => ?_
  rw [evS, ← bind_assoc] at q
  refine (TFat.bind (rel := RepD G) r q).mono fun v H1 ⟨d, w1, e1, s1, rl1, hd, x1, q1⟩ => q1 w1 σ H1 v Ext.refl rl1 hd
theorem evS_ite {c : Ex} {a b : List Sm} : evS G.pr Φ (.ite c a b) = M.bind (evT G.pr Φ c) fun t => if t = true then evB G.pr Φ a else evB G.pr Φ b := by
  funext e s
  unfold evT
  rw [evS]
  unfold M.bind
  cases ev G.pr Φ c e s with
  | bad => rfl
  | exc _ _ _ _ => rfl
  | ok r e1 s1 =>
    simp only [Res.bind_ok]
    cases deref r e1 s1 with
    | bad => rfl
    | exc _ _ _ _ => rfl
    | ok d e2 s2 =>
      simp only [Res.bind_ok]
      unfold truthM
      cases d.truth with
      | none => rfl
      | some t => cases t <;> rfl
theorem s_ite {c : Ex} {a b : List Sm} {t : Expr} {x y : List Stmt} {pos : Pos} (hc : PT X t (TB G W (evT G.pr Φ c))) (ha : PSs X x (TF G W (evB G.pr Φ a))) (hb : PSs X y (TF G W (evB G.pr Φ b))) : PS X (.If t x y pos) (TF G W (evS G.pr Φ (.ite c a b))) := by
  refine (ps_if hc ha hb).imp fun U σ H ⟨w, e, s, r, q⟩ => ?_
  rw [evS_ite] at q
  refine (TFat.bind (rel := EqR) r q).mono fun v H1 ⟨t, w1, e1, s1, rl1, rx, x1, q1⟩ => ?_
  have rx : t = v := rx
  subst rx
  cases t with
  | true => exact ⟨w1, e1, s1, rl1, q1⟩
  | false => exact ⟨w1, e1, s1, rl1, q1⟩
/-- one statement, then others -/
def seqF (k : M Mi.Flow) : Mi.Flow → M Mi.Flow
  | .next => k
  | .ret d => .ret (.ret d)
theorem TFat.seq {m k : M Mi.Flow} {U2 : Ends} (hn : ∀ w' σ' H' e' s', Ext w e σ H w' e' σ' H' → Rel G w' e' s' σ' H' → TFat G W w' e' s' k σ' H' U → U2.nx σ' H') (hr : U2.rt = U.rt) (h : TFat G W w e s (M.bind m (seqF k)) σ H U) : TFat G W w e s m σ H U2 := by
  unfold TFat M.bind at h
  unfold TFat
  cases q : m e s with
  | bad => rw [q] at h; exact h
  | exc c d e' s' => rw [q] at h; exact h
  | ok fl e' s' =>
    rw [q, Res.bind_ok] at h
    cases fl with
    | next => exact fun w' σ' H' x r' => hn w' σ' H' e' s' x r' (TFat.from (s0 := s) x (show TFat G W w e s (fun _ _ => k e' s') σ H U from h) rfl)
    | ret d =>
      rw [hr]
      exact h
theorem b_cons {m : Sm} {ms : List Sm} {x : Stmt} {xs : List Stmt} (h1 : PS X x (TF G W (evS G.pr Φ m))) (h2 : PSs X xs (TF G W (evB G.pr Φ ms))) : PSs X (x :: xs) (TF G W (evB G.pr Φ (m :: ms))) :=
  (pss_cons h1 h2).imp fun U σ H ⟨w, e, s, r, q⟩ => by
    rw [evB] at q
    exact ⟨w, e, s, r, TFat.seq (k := evB G.pr Φ ms) (fun w' σ' H' e' s' x r' t => ⟨w', e', s', r', t⟩) rfl q⟩
theorem b_nil : PSs X [] (TF G W (evB G.pr Φ [])) := pss_nil.imp fun U σ H ⟨w, e, s, r, q⟩ => by
  rw [evB] at q
  exact q w σ H Ext.refl r
theorem s_pass {pos : Pos} : PS X (.Pass pos) (TF G W (evS G.pr Φ .pass)) := ps_pass.imp fun U σ H ⟨w, e, s, r, q⟩ => by
  rw [evS] at q
  exact q w σ H Ext.refl r
/-! ### loops -/
theorem s_for {t : Tg} {it : Mi.It} {b : List Sm} {tg iter : Expr} {x : List Stmt} {pos : Pos} (hS : XS G X k W) (hi : PI X tg iter (TII G W (evIt G.pr Φ it))) (ho : okE iter = true) (hg : shT X.N X.env.scope t tg = true) (hb : PSs X x (TF G W (evB G.pr Φ b))) :
    PS X (.For tg iter x [] pos) (TF G W (evS G.pr Φ (.for t it b))) := by
  refine (ps_for hS.pa hS.ok.calm hi (sndG t X X.env.scope tg hS.ok hS.loc hg) hb (ok_fold ho)).imp fun U σ H ⟨w, e, s, r, q⟩ => ?_
  rw [evS] at q
  refine (TFat.bind (rel := ItR G) r q).mono fun J H1 ⟨xs, w1, e1, s1, rl1, hJ, x1, q1⟩ => ?_
  clear q r x1
  have hJ : ItOf G w1 xs J := hJ
  refine ⟨fun i m σ H => m = xs.length - i ∧ i ≤ xs.length ∧ ∃ wi ei si, Rel G wi ei si σ H ∧ WLe w1 wi ∧ TFat G W wi ei si (forLoop (bindT t) (evB G.pr Φ b) (xs.drop i)) σ H U, ⟨xs.length, by simp, Nat.zero_le _, w1, e1, s1, rl1, WLe.refl _, by rw [List.drop_zero]; exact q1⟩, ?_⟩
  rintro i m σ H ⟨rfl, hi, wi, ei, si, rl2, l2, q2⟩
  have hit := hJ wi l2 H rl2.pe i
  cases hx : xs[i]? with
  | none =>
    have hdrop : xs.drop i = [] := List.drop_eq_nil_of_le (List.getElem?_eq_none_iff.mp hx)
    rw [hdrop, forLoop] at q2
    exact .inl ⟨hit.2 hx, q2 wi σ H Ext.refl rl2⟩
  | some d =>
    obtain ⟨hgo, hyld⟩ := hit.1 d hx
    have hilt := (List.getElem?_eq_some_iff.mp hx).1
    have hdrop : xs.drop i = d :: xs.drop (i + 1) := by
      rw [List.drop_eq_getElem_cons hilt, (List.getElem?_eq_some_iff.mp hx).2]
    refine .inr ⟨hgo, _, fun σ' H' n => ⟨xs.length - (i + 1), by omega, n⟩, fun x H3 hy => ?_⟩
    obtain ⟨w3, g3, rx⟩ := hyld x H3 hy
    have rl3 := rl2.gro g3
    have x3 := g3.ext (G := G) (s := si) (e := ei) (σ := σ)
    rw [hdrop] at q2
    rcases bind_took t d ei σ x rl3 rx with z | ⟨e4, σ4, z1, z2, z3⟩
    · unfold TFat at q2
      have e1 : forLoop (bindT t) (evB G.pr Φ b) (d :: xs.drop (i + 1)) ei si = .bad := by
        rw [forLoop]
        show (bindT t d ei si).bind _ = _
        rw [z]
        rfl
      rw [e1] at q2
      exact q2.elim
    · refine z3 _ ⟨w3, e4, si, z2.rel, ?_⟩
      have e1 : forLoop (bindT t) (evB G.pr Φ b) (d :: xs.drop (i + 1)) ei si = M.bind (evB G.pr Φ b) (seqF (forLoop (bindT t) (evB G.pr Φ b) (xs.drop (i + 1)))) e4 si := by
        rw [forLoop]
        show (bindT t d ei si).bind _ = _
        rw [z1]
        rfl
      have q3 : TFat G W w3 e4 si (M.bind (evB G.pr Φ b) (seqF (forLoop (bindT t) (evB G.pr Φ b) (xs.drop (i + 1))))) σ4 H3 U := by
        refine TFat.from (s0 := si) (x3.trans z2.ext) (r := M.bind (evB G.pr Φ b) (seqF (forLoop (bindT t) (evB G.pr Φ b) (xs.drop (i + 1)))) e4 si) ?_ rfl
        unfold TFat at q2 ⊢
        rw [e1] at q2
        exact q2
      exact TFat.seq (fun w' σ' H' e' s' x r' t' => ⟨rfl, hilt, w', e', s', r', (l2.trans g3.le).trans x.le, t'⟩) rfl q3
theorem s_whl {c : Ex} {b : List Sm} {t : Expr} {x : List Stmt} {pos : Pos} (hS : XS G X k W) (hc : PT X t (TB G W (evT G.pr Φ c))) (hb : PSs X x (TF G W (evB G.pr Φ b))) : PS X (.While t x [] pos) (TF G W (evS G.pr Φ (.whl c b))) := by
  refine (ps_while hS.pa hc hb).imp fun U σ H ⟨w, e, s, r, q⟩ => ?_
  rw [evS] at q
  refine ⟨fun m σ H => ∃ w e s, Rel G w e s σ H ∧ TFat G W w e s (whileLoop (evT G.pr Φ c) (evB G.pr Φ b) m) σ H U, ⟨1000000, w, e, s, r, q⟩, ?_⟩
  rintro m σ H ⟨w, e, s, r, q⟩
  cases m with
  | zero => exact (show False from q).elim
  | succ m =>
    rw [whileLoop] at q
    refine (TFat.bind (rel := EqR) r q).mono fun v H1 ⟨t, w1, e1, s1, rl1, rx, x1, q1⟩ => ?_
    have rx : t = v := rx
    subst rx
    cases t with
    | false =>
      rw [if_neg (by decide)]
      exact q1 w1 σ H1 Ext.refl rl1
    | true =>
      rw [if_pos rfl]
      refine ⟨TF G W (whileLoop (evT G.pr Φ c) (evB G.pr Φ b) m) U, fun σ' H' n => ⟨m, Nat.lt_succ_self m, n⟩, w1, e1, s1, rl1, ?_⟩
      exact TFat.seq (k := whileLoop (evT G.pr Φ c) (evB G.pr Φ b) m) (fun w' σ' H' e' s' x r' t => ⟨w', e', s', r', t⟩) rfl q1
end
end Mi
set_option linter.all false
set_option maxRecDepth 100000
set_option maxHeartbeats 4000000
/-! S22: every statement of the shape. -/
namespace Mi
open PySem PySem.Spec PyProof.Rows L2
section
variable {G : Gx} {W : WX} {w : Wd} {e : Env} {s : Store} {σ : L2.St} {H : Hp} {U : Ends} {Φ : Cal} {X : Cx} {k : Nat}
/-- name = [..] on one line -/
theorem s_setLc {i : Nat} {x : Str} {py : Pos} {t : Tg} {it : Mi.It} {c a : Ex} {y tg iter : Expr} {ifs : List Expr} {scope : Scope} {pos spos : Pos} (hS : XS G X k W) (hN : X.N[i]? = some x) (hw : swOk X.env.scope x py (.ListComp y [⟨tg, iter, ifs, 0⟩] scope pos) = true)
    (hb : blkC X.N X.env.scope scope (ownOf X.N t) = true) (ho : okE iter = true) (hi : PI X tg iter (TII G W (evIt G.pr Φ it)))
    (hg : shT X.N scope t tg = true) (ht : ∀ Y : Cx, XOk G Y k → Takes Y NoX → Y.N = X.N → Y.env.scope = relS scope X.env.scope → PTs Y ifs (TB G NoX (evC G.pr Φ c)))
    (he : ∀ Y : Cx, XOk G Y k → Takes Y NoX → Y.N = X.N → Y.env.scope = relS scope X.env.scope → PE Y y (TR G NoX (ev G.pr Φ a))) : PS X (.Assign [.Name x py] (.ListComp y [⟨tg, iter, ifs, 0⟩] scope pos) spos) (TF G W (evS G.pr Φ (.set i (.lc t it c a)))) := by
  simp only [swOk, Bool.and_eq_true] at hw
  obtain ⟨w1, w2, w3, w4⟩ := hw
  have k1 : X.env.scope.kind = .function := by
    split at w1
    · assumption
    · cases w1
  have k2 : X.env.scope.names.lookup x = some .local := by
    split at w2
    · assumption
    · cases w2
  have hX := hS.ok
  have := ps_setLc (X := X) (i := i) (y := x) (py := py) (elt := y) (ifs := ifs) (pos := pos) (spos := spos) hX.calm hX.nd hN k2 (sw_true k1 k2 w3 (by simpa using w4)) hi (blkOk_by hb) (fun s H C cl fp => sndG t (X.blk s H scope (compEnvC scope cl C X.env) fp) scope tg (blk_ok hX) blk_loc hg) (fun s H C cl fp => ht _ (blk_ok hX) (takes_nox rfl) rfl rfl) (fun s H C cl fp => esc_pe (he _ (blk_ok hX) (takes_nox rfl) rfl rfl)) (ok_fold ho)
  rw [own_slots] at this
  exact this.imp fun U σ H h => lc_of (set_of h)
/-- raise C(value) -/
theorem s_raise {c : Nat} {a : Ex} {n : Str} {v : Expr} {p p2 pos : Pos} (hG : GOk G) (hS : XS G X k W) (hxb : G.nm.exB c = true) (hn : n = G.nm.cnm c) (hg : globB X.env.scope n = true) (hd : notDbg n = true) (hp : plainE v = true) (ha : PE X v (TR G W (ev G.pr Φ a))) :
    PS X (.Raise (some (.Call (.Name n p) [v] [] p2)) none pos) (TF G W (evS G.pr Φ (.raise c a))) := by
  have hX := hS.ok
  obtain ⟨hT, D0, fI, h1, h2⟩ := hG.exc c (hG.exb c hxb)
  have e1 : X.prog = G.P := hX.hP
  have e2 : X.K = G.K := hX.hK
  have mk := pmk_exc (X := X) (C := G.cad c) (D := D0) (fI := fI) (k := k) (x := n) (p := p) (pos := p2) (by rw [e1, e2]; exact h1) (by rw [e2]; exact h2) (by rw [hX.hm]; exact hG.sup) (by rw [e2]; exact hT.kp) (raises_own (by rw [e2]; exact hT.sb) (by rw [e2]; exact hT.ty)) hX.room.room (gl_of hg) (by rw [hX.hm, hn]; exact hG.cls c) (pa_cons (esc_pe ha) pa_nil (star_cons hp)) (dbg_of hd).1 hp
  refine (ps_raise (pos := pos) hX.calm hS.tk mk).imp fun U σ H ⟨w, e, s, r, q⟩ => ?_
  rw [evS, ← bind_assoc] at q
  refine (TFat.bind (rel := RepD G) r q).mono fun v H1 ⟨d, w1, e1, s1, rl1, rv, x1, q1⟩ => ?_
  have rv : Rep G w1 d v := rv
  refine ⟨v, rfl, fun dd hdd => ?_⟩
  have g1 := Gro.newP (o := .xd [(("value" : Str), v)]) rl1.pe hdd
  refine q1 _ σ _ dd (g1.ext (G := G) (s := s1)) (rl1.gro g1) ⟨v, ?_, Rep.mono g1.le d v rv⟩
  show upd w1.pe dd _ dd = _
  rw [upd_same, hG.val]
theorem noComp {sc : Scope} {x : Str} {py : Pos} {v : Expr} {m : Ex} {nm : Nm} {N : List Str} {sc2 : Scope} (h : sh nm N m sc2 v = true) (hm : ∀ t it c a, m ≠ .lc t it c a) : isComp v = false := by
  cases v with
  | ListComp y gs scope p =>
    cases m with
    | lc t it c a => exact absurd rfl (hm t it c a)
    | _ => simp [sh] at h
  | SetComp y gs scope p => cases m <;> simp [sh] at h
  | DictComp y z gs scope p => cases m <;> simp [sh] at h
  | _ => rfl
end
section
variable {G : Gx} {k : Nat} {Φ : Cal} (hG : GOk G) (hC : CallOk G Φ k)
include hG hC
theorem snd_set {X : Cx} {W : WX} {i : Nat} {a : Ex} {x : Str} {py pos : Pos} {v : Expr} (hS : XS G X k W) (hN : X.N[i]? = some x) (hl : locB X.env.scope x = true) (hw : swOk X.env.scope x py v = true) (h : sh G.nm X.N a X.env.scope v = true) : PS X (.Assign [.Name x py] v pos) (TF G W (evS G.pr Φ (.set i a))) := by
  by_cases hm : ∀ t it c a', a ≠ .lc t it c a'
  · exact s_set hS hN hl (noComp (sc := X.env.scope) (x := x) (py := py) h hm) (sndE hG hC a X W v hS.ok hS.tk h).pe
  · have : ∃ t it c a', a = .lc t it c a' := by
      cases a with
      | lc t it c a' => exact ⟨t, it, c, a', rfl⟩
      | _ => exact absurd (fun t it c a' z => by cases z) hm
    obtain ⟨t, it, c, a', rfl⟩ := this
    have hX := hS.ok
    rw [sh.eq_def] at h
    dsimp only at h
    split at h
    · rename_i y tg iter ifs scope p
      simp only [Bool.and_eq_true] at h
      obtain ⟨h1, h2, h3, h4, h5⟩ := h
      obtain ⟨i1, i2⟩ := sndIt hG hC it X W tg iter hX hS.tk h1
      refine s_setLc hS hN hw h2 i2 i1 h3 (fun Y hY tY eN eS => ?_) fun Y hY tY eN eS => (sndE hG hC a' Y NoX _ hY tY (by rw [eN, eS]; exact h5)).pe
      split at h4
      · rw [isOmit_eq h4]
        exact ⟨fun pins s σ H Q I q => pts_nil.run pins s σ H Q I (by
          obtain ⟨w, e, s, r, q⟩ := q
          exact TMat.ret q w H true Ext.refl r rfl)⟩
      · rw [evC_ne (sh_omit h4)]
        exact pts_one (sndE hG hC c Y NoX _ hY tY (by rw [eN, eS]; exact h4)).pt
      · cases h4
    · cases h
mutual
theorem sndS : ∀ (m : Sm) (X : Cx) (W : WX) (st : Stmt), XS G X k W → shS G.nm X.N m X.env.scope st = true → PS X st (TF G W (evS G.pr Φ m))
  | .set i a, X, W, st, hS, h => by
    rw [shS.eq_def] at h
    dsimp only at h
    split at h
    · simp only [Bool.and_eq_true, decide_eq_true_eq] at h
      exact snd_set hG hC hS h.1 h.2.1 h.2.2.1 h.2.2.2
    · cases h
  | .tgt t a, X, W, st, hS, h => by
    rw [shS.eq_def] at h
    dsimp only at h
    split at h
    · simp only [Bool.and_eq_true, Bool.not_eq_true'] at h
      exact s_tgt hS h.1 h.2.1 h.2.2.1 (sndE hG hC a X W _ hS.ok hS.tk h.2.2.2).pe
    · cases h
  | .par _ _, X, W, st, hS, h => by simp [shS] at h
  | .setIx o i a, X, W, st, hS, h => by
    rw [shS.eq_def] at h
    dsimp only at h
    split at h
    · simp only [Bool.and_eq_true, Bool.not_eq_true'] at h
      exact s_setIx hS h.1 (sh_ok h.2.2.1) (sndE hG hC o X W _ hS.ok hS.tk h.2.1).pe (sndE hG hC i X W _ hS.ok hS.tk h.2.2.1).pe (sndE hG hC a X W _ hS.ok hS.tk h.2.2.2).pe
    · cases h
  | .setAt _ _ _, X, W, st, hS, h => by simp [shS] at h
  | .exp a, X, W, st, hS, h => by
    rw [shS.eq_def] at h
    dsimp only at h
    split at h
    · simp only [Bool.and_eq_true, Bool.not_eq_true'] at h
      exact s_exp h.1 (sndE hG hC a X W _ hS.ok hS.tk h.2).pe
    · cases h
  | .ret a, X, W, st, hS, h => by
    rw [shS.eq_def] at h
    dsimp only at h
    split at h
    · exact s_ret (sndE hG hC a X W _ hS.ok hS.tk h).pe
    · cases h
  | .ite c a b, X, W, st, hS, h => by
    rw [shS.eq_def] at h
    dsimp only at h
    split at h
    · simp only [Bool.and_eq_true] at h
      exact s_ite (sndE hG hC c X W _ hS.ok hS.tk h.1).pt (sndB a X W _ hS h.2.1) (sndB b X W _ hS h.2.2)
    · cases h
  | .whl c b, X, W, st, hS, h => by
    rw [shS.eq_def] at h
    dsimp only at h
    split at h
    · simp only [Bool.and_eq_true] at h
      exact s_whl hS (sndE hG hC c X W _ hS.ok hS.tk h.1).pt (sndB b X W _ hS h.2)
    · cases h
  | .for t it b, X, W, st, hS, h => by
    rw [shS.eq_def] at h
    dsimp only at h
    split at h
    · simp only [Bool.and_eq_true] at h
      obtain ⟨i1, i2⟩ := sndIt hG hC it X W _ _ hS.ok hS.tk h.1
      exact s_for hS i1 i2 h.2.1 (sndB b X W _ hS h.2.2)
    · cases h
  | .raise c a, X, W, st, hS, h => by
    rw [shS.eq_def] at h
    dsimp only at h
    split at h
    · simp only [Bool.and_eq_true, decide_eq_true_eq] at h
      exact s_raise hG hS h.1.1 h.1.2 h.2.1 h.2.2.1 (ok_plain (sh_ok h.2.2.2)) (sndE hG hC a X W _ hS.ok hS.tk h.2.2.2).pe
    · cases h
  | .try1 _ _ _ _, X, W, st, hS, h => by simp [shS] at h
  | .pass, X, W, st, hS, h => by
    rw [shS.eq_def] at h
    dsimp only at h
    split at h
    · exact s_pass
    · cases h
theorem sndB : ∀ (ms : List Sm) (X : Cx) (W : WX) (st : List Stmt), XS G X k W → shB G.nm X.N ms X.env.scope st = true → PSs X st (TF G W (evB G.pr Φ ms))
  | [], X, W, st, hS, h => by
    cases st with
    | nil => exact b_nil
    | cons _ _ => simp [shB] at h
  | m :: ms, X, W, st, hS, h => by
    cases st with
    | nil => simp [shB] at h
    | cons x xs =>
      simp only [shB, Bool.and_eq_true] at h
      exact b_cons (sndS m X W x hS h.1) (sndB ms X W xs hS h.2)
end
end
/-! ### defs -/
/-- a def of the text, as the top has left it -/
structure FnT (G : Gx) (f : Nat) (fn : Fn) : Prop where
  ex : ∃ (N ps : List Str) (name qual : Str) (params : Arguments) (body : List Stmt) (scope : Scope) (dV kV doc pm cdv ct oc : Value) (an od : Option Addr) (osl : Array (Option Value)),
    G.K.lookup (G.fad f) = some ⟨oc, od, .func (PySem.W.fnOf name qual params body scope dV kV doc pm an cdv ct), osl⟩ ∧ PySem.W.codeIn G.K cdv qual = true ∧ FnScope N ps scope ∧ N.length = fn.ns ∧ ps.length = fn.np ∧
      (∀ us : List Value, us.length = ps.length → bindArgs (PySem.W.fnOf name qual params body scope dV kV doc pm an cdv ct) ⟨us, []⟩ = pure (ps.zip us)) ∧ shB G.nm N fn.body scope body = true
theorem entry_v {n : Nat} {ds : List D} {i : Nat} {x : Sl} (h : (entry n ds)[i]? = some (some x)) : ∃ d, ds[i]? = some d ∧ x = .v d := by
  unfold entry at h
  by_cases hi : i < ds.length
  · rw [List.getElem?_append_left (by simpa using hi), List.getElem?_map, List.getElem?_eq_getElem hi] at h
    exact ⟨ds[i], List.getElem?_eq_getElem hi, (Option.some.inj (Option.some.inj h)).symm⟩
  · rw [List.getElem?_append_right (by simpa using hi), List.getElem?_replicate] at h
    split at h <;> cases h
theorem rel_start {G : Gx} {w : Wd} {S : Store} {H : Hp} {ds : List D} {vs : List V} {N : List Str} (r : Rel G w [] S [] H) (hd : Reps G w ds vs) (hl : ds.length ≤ N.length) : Rel G w (entry N.length ds) S (start N vs) H := by
  have hn : ∀ {i : Nat} {d : D}, (entry N.length ds)[i]? ≠ some (some (.own d)) := fun {i d} h => by
    obtain ⟨_, _, z⟩ := entry_v h
    cases z
  refine ⟨?_, r.pe, fun i d h => ?_, fun i d h => (hn h).elim, fun i j d1 d2 a h1 => (hn h1).elim, r.bl, r.bx, r.nd⟩
  · unfold entry L2.start
    simp [hd.length]
  · obtain ⟨d', h1, z⟩ := entry_v h
    cases z
    obtain ⟨v, hv, rv⟩ := hd.get h1
    refine ⟨v, ?_, rv⟩
    unfold L2.start
    rw [List.getElem?_append_left (by simpa using (List.getElem?_eq_some_iff.mp hv).1), List.getElem?_map, hv]
    rfl
theorem no_own {n : Nat} {ds : List D} {σ : L2.St} {a : Addr} : ¬ Own (entry n ds) σ a := fun ⟨i, d, h, _⟩ => by
  obtain ⟨_, _, z⟩ := entry_v h
  cases z
theorem Ext.bare {w w' : Wd} {n : Nat} {ds : List D} {e' : Env} {σ σ' : L2.St} {H H' : Hp} (x : Ext w (entry n ds) σ H w' e' σ' H') : Ext w [] [] H w' [] [] H' :=
  ⟨x.le, fun a o h _ m => x.keep a o h no_own m, fun a o h _ p => x.cap a o h no_own p, x.capm, fun a h => (own_nil h).elim, x.tk⟩
theorem loc_of {sc : Scope} {x : Str} (h : locB sc x = true) : Loc sc x := by
  unfold locB at h
  split at h
  · exact .inl (by assumption)
  · exact .inr (by assumption)
  · cases h
/-- one level more -/
theorem call_step {G : Gx} {Φ : Cal} {k : Nat} (hG : GOk G) (hC : CallOk G Φ k) (hF : ∀ f fn, G.pr.fn f = some fn → FnT G f fn) : CallOk G (fun f ds s => match G.pr.fn f with | some fn => runFn G.pr Φ fn ds s | none => .bad) (k + 1) := by
  intro f ds S w A outer s H us vs Q E hr e0 rv rd rl h
  dsimp only at h
  cases hf : G.pr.fn f with
  | none => rw [hf] at h; exact h.elim
  | some fn =>
    rw [hf] at h
    dsimp only at h
    obtain ⟨N, ps, name, qual, params, body, scope, dV, kV, doc, pm, cdv, ct, oc, an, od, osl, lk, hcd, hSc, hN, hps, hbd, hsh⟩ := (hF f fn hf).ex
    unfold runFn at h
    by_cases hlen : ds.length = fn.np
    · rw [if_pos hlen] at h
      have lv : vs.length = ps.length := by rw [rd.length, hlen, hps]
      have lu : us.length = ps.length := by rw [← rv.length, lv]
      have hpn : ps.length ≤ N.length := by
        have := congrArg List.length hSc.pre
        rw [List.length_take] at this
        omega
      have kin := e0.mod.kin.keeps fun b o q => (e0.bs b o q).1
      have nolim := e0.mod.nolimit.keeps fun b o q => (e0.bs b o q).1
      refine codeAny_call_function hr.room.depth (kin _ _ lk) rfl hSc.co hSc.gen rfl (PySem.W.codeRec_of kin hcd) (BindsTo.of_eq (hbd us lu) _ _ _ _ ?_)
      refine wpAny_newFunctionEnv_cells hSc.kind (fun ⟨n, v⟩ hy => ?_) fun env he s1 xc => ?_
      · rcases hSc.par n (List.of_mem_zip hy).1 with q | q
        · exact .inl q
        · exact .inr ⟨q, PySem.W.cellsFrom_some _ _ _ (.inl q)⟩
      subst he
      refine ⟨nolim.keeps xc.toInCall.keep, codeAny_func ?_⟩
      have I := inv_start (CX := L2.CX G.P G.w) (w := G.w) (E := E) (cd := cdv) (f := G.fad f) hSc hr.room.hd e0 lv rv xc
      have hX : XOk G (cxOf (L2.CX G.P G.w) G.P G.w G.K G.mg G.base N qual scope (G.fad f) cdv A outer s H E) k := ⟨rfl, rfl, rfl, rfl, rfl, rfl, hSc.nd, hr.deeper _⟩
      have hS : XS G (cxOf (L2.CX G.P G.w) G.P G.w G.K G.mg G.base N qual scope (G.fad f) cdv A outer s H E) k (fun cls d _ H => E cls d H) := ⟨hX, takes_of rfl rfl rfl rfl, fun x hx => ⟨loc_of hx, .inl rfl⟩, passes_of rfl⟩
      have hB := sndB hG hC fn.body _ _ body hS hsh
      have rl0 : Rel G w (entry fn.ns ds) S (start N vs) H := by
        rw [← hN]
        exact rel_start rl rd (by rw [hlen, ← hps]; exact hpn)
      have goal : TF G (fun cls d _ H => E cls d H) (evB G.pr Φ fn.body) { nx := fun _ H' => Q .non H', rt := Q } (start N vs) H := by
        refine ⟨w, entry fn.ns ds, S, rl0, ?_⟩
        unfold TFat
        unfold RCat at h
        cases q : evB G.pr Φ fn.body (entry fn.ns ds) S with
        | bad => rw [q] at h; exact h
        | exc c d e' s' =>
          rw [q] at h
          exact fun w' σ' H' dd x r z => h w' H' dd x.bare r.bare z
        | ok fl e' s' =>
          rw [q] at h
          cases fl with
          | next => exact fun w' σ' H' x r => h w' H' .non x.bare r.bare (by simp [Rep])
          | ret d => exact fun w' σ' H' v x r z => h w' H' v x.bare r.bare z
      refine wpAny_mono (hB.run [] s1 (start N vs) H _ I goal) (fun fl s' hs => ?_) fun _ _ hs => hs
      cases fl with
      | ret u =>
        obtain ⟨v, _, H', J, ru, q⟩ := hs
        exact ⟨v, H', J.os, J.bare, J.base, J.hok, ru, q⟩
      | next =>
        obtain ⟨_, H', J, q⟩ := hs
        exact ⟨.non, H', J.os, J.bare, J.base, J.hok, rfl, q⟩
      | brk => exact hs.choose_spec.choose_spec.2.elim
      | cont => exact hs.choose_spec.choose_spec.2.elim
    · rw [if_neg hlen] at h
      exact h.elim
theorem calls_ok {G : Gx} (hG : GOk G) (hF : ∀ f fn, G.pr.fn f = some fn → FnT G f fn) : ∀ n, CallOk G (run G.pr n) n
  | 0 => fun f ds S w A outer s H us vs Q E hr e0 rv rd rl h => h.elim
  | n + 1 => call_step hG (calls_ok hG hF n) hF
end Mi
set_option linter.all false
set_option maxRecDepth 100000
set_option maxHeartbeats 4000000
/-! S23: the law's end: the call of law(script) behind the top. -/
namespace Mi
open PySem PySem.Spec PyProof.Rows L2
/-- the script in the abstract heap: known to its object, if it is not one of the text's own -/
def scrH (K : PySem.W.Frag) (a : Addr) (o : Obj) (xs : List V) : Hp := fun b => if b = a ∧ K.lookup a = none then some (.frz o (.lst xs)) else none
theorem law_run {P : Program} {w : World} {K : PySem.W.Frag} {mg mb : Str → Option Value} {pr : Pr} {fad cad : Nat → Addr} {nm : Nm} {k fl : Nat} {a : Addr} {s₁ : Shared} {vs : List Value} {ns : List Int}
    (kin : K.In s₁.heap) (hmg : s₁.heap.Ns mainGlobals mg) (hmb : s₁.heap.Ns builtinsNs mb) (hboot : ∀ x : Str, x ≠ "__name__" → mb x = bootBuiltins x) (nolim : s₁.heap.NoLimit) (nogen : s₁.gens = #[])
    (obj : s₁.heap.get? a = some { cls := .type "list", data := .seq vs.toArray }) (hin : IntsAre vs ns) (len : ns.length ≤ sizeLine) (room : Room k callerA)
    (F : ∀ base : Heap, K.In base → base.Ns mainGlobals mg → CallOk ⟨P, w, K, mg, base, pr, fad, cad, nm⟩ (run pr k) k) (S : Store) (pure : run pr k fl [.scr ns] [] = .ok (.bl true) S) :
    codeAny (model P w) callerA (.call (.ref (fad fl)) ⟨[.ref a], []⟩) (fun r s' => r = .ok (.ret (.bool true)) ∧ OldK s₁.heap s'.heap ∧ s'.os = s₁.os ∧ AllBare s'.gens) s₁ := by
  have rv := vals_ints hin
  let H : Hp := scrH K a { cls := .type "list", data := .seq vs.toArray } (ns.map V.int)
  have hH : ∀ {b : Addr} {u : HO}, H b = some u → b = a ∧ K.lookup a = none ∧ u = .frz { cls := .type "list", data := .seq vs.toArray } (.lst (ns.map V.int)) := fun {b u} q => by
    have q' : (if b = a ∧ K.lookup a = none then some (HO.frz { cls := .type "list", data := .seq vs.toArray } (.lst (ns.map V.int))) else none) = some u := q
    split at q'
    · rename_i c
      exact ⟨c.1, c.2, (Option.some.inj q').symm⟩
    · cases q'
  have sq : SqL K H a (ns.map V.int) := by
    cases z : K.lookup a with
    | none => exact .inl (.inr ⟨{ cls := .type "list", data := .seq vs.toArray }, if_pos ⟨rfl, z⟩⟩)
    | some o =>
      have e := kin a o z
      rw [obj] at e
      cases e
      exact .inr ⟨_, vs.toArray, _, z, rfl, rfl, rfl, by rw [List.size_toArray, hin.length]; exact len, by simpa using rv⟩
  have hok : HOk P w H s₁.heap := fun b u q => by
    obtain ⟨rfl, _, rfl⟩ := hH q
    exact ⟨obj, by rw [List.length_map]; exact len, vs, _, rv, obj⟩
  have free : ∀ {b : Addr} {o : Obj}, s₁.heap.get? b = some o → (b = a → K.lookup a = none → False) → (hidT s₁.heap H).get? b = some o := fun {b o} q n => hidT_get q (by
    cases z : H b with
    | none => rfl
    | some u =>
      obtain ⟨e1, e2, _⟩ := hH z
      exact (n e1 e2).elim)
  have spaces : ∀ {b : Addr} {m : Str → Option Value}, s₁.heap.Ns b m → (hidT s₁.heap H).Ns b m := fun {b m} ⟨o, es, ep, e1, e2, e3⟩ => ⟨o, es, ep, free e1 (fun z _ => by
    subst z
    rw [obj] at e1
    cases e1
    cases e2), e2, e3⟩
  have kinB : K.In (hidT s₁.heap H) := fun b o q => free (kin b o q) fun z y => by
    subst z
    rw [y] at q
    cases q
  obtain ⟨mc, l1, l2⟩ := nolim
  have e0 : Env0 P w K mg (hidT s₁.heap H) callerA [] s₁ H := ⟨rfl, ⟨kinB, spaces hmg, ⟨mb, spaces hmb, hboot⟩, ⟨mc, spaces l1, l2⟩⟩, fun b o q => of_hidT q, Nat.le_of_eq (hidT_size _ _), trivial, fun b z => absurd z (List.not_mem_nil), hok, .of_eq nogen⟩
  have call := F _ kinB (spaces hmg) fl [.scr ns] [] ⟨[], H⟩ callerA [] s₁ H [.ref a] [.ref a] (fun v _ => v = .bl true) (fun _ _ _ => False) ⟨room, rfl⟩ e0 (.cons rfl .nil) (by
    simp only [Reps, Rep]
    exact ⟨_, _, rfl, ⟨a, rfl, sq⟩, rfl⟩) ⟨rfl, fun _ _ q => q, fun i d h => by simp at h, fun i d h => by simp at h, fun i j d d' c h => by simp at h, rfl, fun i d h => by simp at h, List.nodup_nil⟩ (by
    rw [pure]
    intro w' H' v _ _ hv
    simpa [Rep] using hv)
  refine codeAny_mono call fun r s' h => ?_
  cases r with
  | error u =>
    obtain ⟨_, _, _, _, _, _, _, _, _, _, _, _, z⟩ := h
    exact z.elim
  | ok fl =>
    cases fl with
    | next => exact False.elim h
    | brk => exact False.elim h
    | cont => exact False.elim h
    | ret u =>
      obtain ⟨v, H', os, bare, un, hok', ru, q⟩ := h
      have q : v = .bl true := q
      subst q
      obtain rfl : u = Value.bool true := ru
      refine ⟨rfl, OldK.of_keep fun b o e => ?_, os, bare⟩
      cases z : H b with
      | none => exact un.keep b o e z (List.not_mem_nil) (by simp)
      | some t =>
        obtain ⟨rfl, _, rfl⟩ := hH z
        obtain ⟨e2, _⟩ := hok' b _ (un.frzs b _ _ z)
        rw [obj] at e
        cases e
        exact e2
/-- a law: what stands behind the top, and that the evaluation answers True -/
theorem walk_mi {l : PySem.W.OpenLaw} {n k fl : Nat} {q : Program} {loose : List Str} {XP : (Str → Option Value) → Heap → Prop} {YP : World → Heap → Prop} {d : DefRec} {pr : Pr} {nm : Nm}
    (hn : l.most = some n) (hn2 : n ≤ sizeLine) (hdf : d.params.defaults = []) (hr : Room k callerA) (hname : d.name = nm.fnm fl)
    (F : ∀ (w : World) (mg : Str → Option Value) (h : Heap), YP w h → h.Ns mainGlobals mg →
      ∃ (K : PySem.W.Frag) (fad cad : Nat → Addr), K.In h ∧ ∀ base : Heap, K.In base → base.Ns mainGlobals mg → GOk ⟨l.prog, w, K, mg, base, pr, fad, cad, nm⟩ ∧ ∀ f fn, pr.fn f = some fn → FnT ⟨l.prog, w, K, mg, base, pr, fad, cad, nm⟩ f fn)
    (pure : ∀ ns : List Int, ns.length ≤ n → ∃ S, run pr k fl [.scr ns] [] = .ok (.bl true) S) :
    PySem.W.WalkO q loose XP YP l.row.toRowW d [] (fun f vs => PySem.call f vs) := by
  refine Att.attach_call hn hdf fun w s₀ s₁ mg mb fa o pm cd doc a vs ns T Y ho hd hcd hmg hobj hints hlen hg => ?_
  obtain ⟨K, fad, cad, kin, hF⟩ := F w mg _ Y T.T.g
  obtain ⟨S, hS⟩ := pure ns hlen
  have e : fa = fad fl := by
    have z := ((hF _ kin T.T.g).1.fmg fl).1
    have z : mg (nm.fnm fl) = some (.ref (fad fl)) := z
    rw [← hname, hmg] at z
    cases z
    rfl
  subst e
  exact law_run kin T.T.g T.T.b T.T.builtins T.T.nolimit hg hobj hints (Nat.le_trans hlen hn2) hr (fun base kb gb => calls_ok (hF base kb gb).1 (hF base kb gb).2 k) S hS
end Mi
set_option linter.all false
set_option maxRecDepth 100000
set_option maxHeartbeats 4000000
/-! S24: what the top leaves, read by a Hook: classes of errors, defs. -/
namespace Mi
open PySem PySem.Spec PyProof.Rows L2
/-- a text: its classes of errors (the first is the base, its __init__ the statement ini), its defs with their slots' names -/
structure Tx where
  cl : List Str
  ini : Stmt
  fs : List He.DefD
  nms : List (List Str)
  val : Nat → Str
  con : Nat → Str
abbrev Tx.nm (T : Tx) : Nm := ⟨fun f => (T.fs.map (·.name)).getD f (T.fs.headD default).name, fun c => T.cl.getD c (T.cl.headD ""), T.con, T.val, fun c => decide (c < T.cl.length)⟩
where default : He.DefD := ⟨("", none), "", "", ⟨[], [], none, [], [], none, []⟩, [], ⟨.function, [], false, false, []⟩, [], []⟩
abbrev Tx.fad (T : Tx) (K : PySem.W.Frag) : Nat → Addr := fun f => He.ga K (T.nm.fnm f)
abbrev Tx.cad (T : Tx) (K : PySem.W.Frag) : Nat → Addr := fun c => He.ga K (T.nm.cnm c)
def eqV (a b : Option (Option Value)) : Bool := decide (a = b)
theorem eqV_ok {a b : Option (Option Value)} (h : eqV a b = true) : a = b := of_decide_eq_true h
/-- a class of errors -/
def objB (K : PySem.W.Frag) (D C : Addr) : Bool := match K.lookup C with
  | some ⟨.type "type", _, .cls cd, sl⟩ => (match cd.mro, sl.toList with
    | .ref C' :: bm, [_, _, _, _, some (.builtin n), _] => (C' == C) && ((n == "ValueError.__new__") && ((!cd.hasDel) && (cd.hasDict && (PySem.HandSPX.refsVE bm && eqV (PySem.W.alongIn K "__init__" (((Value.ref C :: bm).dropWhile (· != .ref D)).drop 1)) (some (some (.builtin "ValueError.__init__")))))))
    | _, _ => false)
  | _ => false
theorem objB_ok {K : PySem.W.Frag} {D C : Addr} (h : objB K D C = true) : ∃ nm q N bs bm sn sub ab col dd k0 k1 k2 k3 k5, K.lookup C = some (excClassObj nm q C N bs bm true sn sub ab col dd k0 k1 k2 k3 k5 "ValueError.__new__") ∧ PySem.HandSPX.refsVE bm = true ∧
    PySem.W.alongIn K "__init__" (((Value.ref C :: bm).dropWhile (· != .ref D)).drop 1) = some (some (.builtin "ValueError.__init__")) := by
  unfold objB at h
  split at h
  · rename_i dd cd sl ho
    split at h
    · rename_i C' bm k0 k1 k2 k3 n k5 hm hs
      simp only [Bool.and_eq_true, beq_iff_eq, Bool.not_eq_true'] at h
      obtain ⟨rfl, rfl, h1, h2, h3, h4⟩ := h
      obtain ⟨nm, bs, mro, ns, qn, hd, sn, sub, ab, col, del⟩ := cd
      dsimp only at hm h1 h2
      subst hm h1 h2
      have hsl : sl = #[k0, k1, k2, k3, some (.builtin "ValueError.__new__"), k5] := by
        obtain ⟨l⟩ := sl
        simp only at hs
        rw [hs]
      subst hsl
      exact ⟨nm, qn, ns, bs, bm, sn, sub, ab, col, dd, k0, k1, k2, k3, k5, ho, h3, eqV_ok h4⟩
    · cases h
  · cases h
def clsB (K : PySem.W.Frag) (D fI C : Addr) : Bool := objB K D C && (
  (PySem.W.clsIn K C).isSome && (
  eqV (PySem.W.findIn K (.ref C) "__getattribute__") (some (some (.builtin "BaseException.__getattribute__"))) && (
  eqV (PySem.W.findIn K (.ref C) "__getattr__") (some none) && (
  decide (PySem.W.subIn K (.ref C) (.type "BaseException") = some true) && (
  eqV (PySem.W.findIn K (.ref C) "__class__") (some (some (.builtin "object.__class__"))) && (
  eqV (PySem.W.specialIn K (.builtin "object.__class__") "__get__") (some (some (.builtin "getset_descriptor.__get__"))) && (
  decide (PySem.W.takesIn K (.builtin "object.__class__") = some true) && (
  decide (PySem.W.mroIn K C (.type "object") = some true) && (
  PySem.W.hasDictIn K C && (
  eqV (PySem.W.findIn K (.ref C) "value") (some none) && (
  decide (PySem.W.typeIn K (.ref C) = some (.type "type")) && (
  PySem.W.keepIn K (.ref C) && (
  decide (PySem.W.mroIn K C (.ref D) = some true) && (
  decide (PySem.W.subIn K (.ref C) (.type "ValueError") = some true) && (
  eqV (PySem.W.findIn K (.ref C) "__setattr__") (some (some (.builtin "object.__setattr__"))) &&
  eqV (PySem.W.findIn K (.ref C) "__init__") (some (some (.ref fI))))))))))))))))))
def baseB (K : PySem.W.Frag) (D fI : Addr) : Bool := (PySem.W.clsIn K D).isSome && (decide (PySem.W.typeIn K (.ref fI) = some (.type "function")) && eqV (PySem.W.nsIn K cStatics "thirdparty.any") (some none))
theorem clsB_ok {K : PySem.W.Frag} {D fI C : Addr} (h : clsB K D fI C = true) (hb : baseB K D fI = true) : ExcT K C ∧ PySem.Ber.ClsTxt K C D fI := by
  unfold clsB at h
  unfold baseB at hb
  simp only [Bool.and_eq_true, decide_eq_true_eq] at h hb
  obtain ⟨h1, h2, h3, h4, h5, h6, h7, h8, h9, h10, h11, h12, h13, h14, h15, h16, h17⟩ := h
  obtain ⟨b1, b2, b3⟩ := hb
  exact ⟨⟨h2, eqV_ok h3, eqV_ok h4, h5, eqV_ok h6, eqV_ok h7, h8, h9, h10, eqV_ok h11, h12, h13⟩, ⟨objB_ok h1, b1, h14, h15, eqV_ok h16, eqV_ok h11, eqV_ok h17, b2, eqV_ok b3⟩⟩
/-! ### its __init__ -/
abbrev IniV : Type := Option (Arguments × FuncBody × Scope × Addr × List Str × Value × Addr)
def iniObs (K : PySem.W.Frag) (fI : Addr) : IniV := match K.lookup fI with
  | some ⟨_, _, .func fd, _⟩ => some (fd.params, fd.body, fd.scope, fd.globals, fd.closure.map (·.1), fd.defaults, fd.builtins)
  | _ => none
def iniVal (st : Stmt) : IniV := some (defArgs st, .stmts (defBody st), defScope st, mainGlobals, ["__class__"], .none, builtinsNs)
def codeFile (K : PySem.W.Frag) (cd : Addr) (file : Str) : Bool := match K.lookup cd with
  | some ⟨_, _, .fields vs, _⟩ => (match (vs[2]? : Option Value) with
    | some (.str f _) => file == f
    | _ => false)
  | _ => false
def cellAt (K : PySem.W.Frag) (cc D : Addr) : Bool := match K.lookup cc with
  | some ⟨_, _, .cell (some (.ref d)), _⟩ => d == D
  | _ => false
def iniB (K : PySem.W.Frag) (file : Str) (D fI : Addr) : Bool := match K.lookup fI with
  | some ⟨_, _, .func fd, _⟩ => (match fd.code, fd.closure with
    | .ref cd, [(_, cc)] => PySem.W.codeIn K (.ref cd) fd.qualname && (codeFile K cd file && cellAt K cc D)
    | _, _ => false)
  | _ => false
theorem ini_ok {P : Program} {K : PySem.W.Frag} {D fI : Addr} {st : Stmt} (e : iniObs K fI = iniVal st) (h : iniB K P.main.file D fI = true) (hb : ∃ p0 p1 p2 p3 p4 p5 p6 p7 p8 p9, defBody st = PySem.Ber.iBody p0 p1 p2 p3 p4 p5 p6 p7 p8 p9 ∧ (p2.endLine == p4.line) = true)
    (ha : ∃ p1 p2, defArgs st = PySem.Ber.iArgs p1 p2) (hs : defScope st = PySem.Ber.iScope) (ht : (P.main.scope.names.lookup ("super" : Str)).isSome = false) : PySem.Ber.InitTxt P K D fI := by
  refine ⟨?_, ht⟩
  unfold iniObs iniVal at e
  unfold iniB at h
  obtain ⟨p0, p1, p2, p3, p4, p5, p6, p7, p8, p9, eb, hl⟩ := hb
  obtain ⟨pa1, pa2, ea⟩ := ha
  rw [eb, ea, hs] at e
  cases q : K.lookup fI with
  | none => rw [q] at h; cases h
  | some o =>
    obtain ⟨oc, od, dt, osl⟩ := o
    rw [q] at h e
    cases dt with
    | func fd =>
      obtain ⟨n1, n2, n3, n4, n5, n6, n7, n8, n9, n10, n11, n12, n13, n14, n15⟩ := fd
      dsimp only at h e
      simp only [Option.some.injEq, Prod.mk.injEq] at e
      obtain ⟨e3, e4, e5, e6, e7, e8, e15⟩ := e
      subst e3 e4 e5 e6 e8 e15
      cases n13 with
      | ref cd =>
        cases n7 with
        | nil => cases h
        | cons c r =>
          cases r with
          | cons _ _ => cases h
          | nil =>
            obtain ⟨cn, cc⟩ := c
            have ec : cn = "__class__" := by simpa using e7
            subst ec
            dsimp only at h
            simp only [Bool.and_eq_true] at h
            obtain ⟨h1, h2, h3⟩ := h
            refine ⟨oc, od, n1, n2, pa1, pa2, p0, p1, p2, p3, p4, p5, p6, p7, p8, p9, .none, n9, n10, n11, n12, cd, cc, n14, osl, rfl, h1, hl, ?_, ?_⟩
            · unfold codeFile at h2
              split at h2
              · rename_i ccl cdd vs ccs hcd
                split at h2
                · rename_i f tf hv
                  exact ⟨ccl, cdd, vs, ccs, f, tf, hcd, hv, h2⟩
                · cases h2
              · cases h2
            · unfold cellAt at h3
              split at h3
              · rename_i cl cld d csl hcc
                have ed : d = D := by simpa using h3
                subst ed
                exact ⟨cl, cld, csl, hcc⟩
              · cases h3
      | _ => cases h
    | _ => cases h
/-! ### isinstance's table -/
def tagC (cad : Nat → Addr) : D → Option Value
  | .non => some (.type "NoneType")
  | .bl _ => some (.type "bool")
  | .int _ => some (.type "int")
  | .str _ => some (.type "str")
  | .tup _ => some (.type "tuple")
  | .lst _ => some (.type "list")
  | .dct _ _ => some (.type "dict")
  | .exc c _ => some (.ref (cad c))
  | _ => none
theorem tagC_eq {G : Gx} {d : D} : tagV G d = tagC G.cad d := by cases d <;> rfl
def clC (cad : Nat → Addr) : Cl → Value
  | .int => .type "int"
  | .str => .type "str"
  | .tuple => .type "tuple"
  | .list => .type "list"
  | .bool => .type "bool"
  | .dict => .type "dict"
  | .valueError => .type "ValueError"
  | .own c => .ref (cad c)
theorem clC_eq {G : Gx} {c : Cl} : clV G c = clC G.cad c := by cases c <;> rfl
def kinds (n : Nat) : List D := [.non, .bl false, .int 0, .str [], .tup [], .lst [], .dct [] []] ++ (List.range n).map fun c => .exc c .non
def clss (n : Nat) : List Cl := [.int, .str, .tuple, .list, .bool, .dict, .valueError] ++ (List.range n).map .own
def kitB (K : PySem.W.Frag) (g : ClsG) (cad : Nat → Addr) (n : Nat) : Bool := (kinds n).all fun d => (clss n).all fun c => match tagC cad d, d.isi g c with
  | some t, some b => decide (PySem.W.kitOne K t (clC cad c) = some b)
  | _, _ => true
theorem kit_ok {K : PySem.W.Frag} {g : ClsG} {cad : Nat → Addr} {n : Nat} (hg : ∀ c, g.isExc c = true → c < n) (h : kitB K g cad n = true) {d : D} {t : Value} {c : Cl} {b : Bool} (ht : tagC cad d = some t) (hi : d.isi g c = some b) : PySem.W.kitOne K t (clC cad c) = some b := by
  have hc : c ∈ clss n := by
    unfold D.isi at hi
    split at hi
    · rename_i ho
      rw [Bool.and_eq_true] at ho
      cases c with
      | own k => exact List.mem_append_right _ (List.mem_map.mpr ⟨k, List.mem_range.mpr (hg k ho.1), rfl⟩)
      | _ => exact List.mem_append_left _ (by simp)
    · cases hi
  have key : ∀ r ∈ kinds n, tagC cad r = some t → r.isi g c = some b → PySem.W.kitOne K t (clC cad c) = some b := fun r hr h1 h2 => by
    have z := List.all_eq_true.mp (List.all_eq_true.mp h r hr) c hc
    rw [h1, h2] at z
    exact of_decide_eq_true z
  have low : ∀ {r : D}, r ∈ [D.non, .bl false, .int 0, .str [], .tup [], .lst [], .dct [] []] → r ∈ kinds n := fun hr => List.mem_append_left _ hr
  cases d with
  | non => exact key .non (low (by simp)) ht hi
  | bl x => exact key (.bl false) (low (by simp)) ht (by cases c <;> exact hi)
  | int x => exact key (.int 0) (low (by simp)) ht (by cases c <;> exact hi)
  | str x => exact key (.str []) (low (by simp)) ht (by cases c <;> exact hi)
  | tup x => exact key (.tup []) (low (by simp)) ht (by cases c <;> exact hi)
  | lst x => exact key (.lst []) (low (by simp)) ht (by cases c <;> exact hi)
  | dct x y => exact key (.dct [] []) (low (by simp)) ht (by cases c <;> exact hi)
  | exc k x =>
    refine key (.exc k .non) ?_ ht (by cases c <;> exact hi)
    unfold D.isi at hi
    split at hi
    · rename_i ho
      rw [Bool.and_eq_true] at ho
      exact List.mem_append_right _ (List.mem_map.mpr ⟨k, List.mem_range.mpr (hg k ho.2), rfl⟩)
    · cases hi
  | _ => cases ht
/-! ### all together -/
def chk (T : Tx) (g : ClsG) (file : Str) (K : PySem.W.Frag) : Bool :=
  let D := He.ga K (T.cl.headD "")
  let fI := He.ma K D "__init__"
  (((("super" : Str) :: blts)).all fun x => eqV (PySem.W.nsIn K mainGlobals x) (some none)) && (
  (match K.lookup sysModules with | some o => decide (o.cls = .type "dict") | none => false) && (
  (T.cl.all fun x => eqV (PySem.W.nsIn K mainGlobals x) (some (some (.ref (He.ga K x)))) && clsB K D fI (He.ga K x)) && (
  baseB K D fI && (iniB K file D fI && (
  (T.fs.all fun d => eqV (PySem.W.nsIn K mainGlobals d.name) (some (some (.ref (He.ga K d.name)))) && d.ok K) && kitB K g (T.cad K) T.cl.length)))))
abbrev AlM : Type := Bool × IniV × List He.FnW
def obsM (T : Tx) (g : ClsG) (file : Str) (K : PySem.W.Frag) : AlM := (chk T g file K, iniObs K (He.ma K (He.ga K (T.cl.headD "")) "__init__"), T.fs.map fun d => He.fnW K d.at_)
def valM (T : Tx) : AlM := (true, iniVal T.ini, T.fs.map He.DefD.val)
/-- the part of the heap that is looked at: the text's names, and what they reach -/
def partM (T : Tx) (g : Addr → Option Obj) : PySem.W.Frag :=
  let K0 := He.frG g [mainGlobals]
  let A := (T.cl ++ T.fs.map (·.name)).map (He.ga K0)
  He.frG g (He.growD g (He.growD g (He.growD g A)) ++ [mainGlobals, sysModules, cStatics])
def obsMG (T : Tx) (g : ClsG) (file : Str) (get : Addr → Option Obj) : AlM := obsM T g file (partM T get)
def hookM (T : Tx) (g : ClsG) (file : Str) : PySem.W.Hook where
  α := AlM
  obs := fun s => obsMG T g file s.heap.get?
  val := fun _ => valM T
  says := fun _ h => ∃ K : PySem.W.Frag, K.In h ∧ obsM T g file K = valM T
  of := fun _ _ e => ⟨_, He.frG_in, e⟩
  keeps := fun _ _ _ ⟨K, hK, c⟩ k => ⟨K, PySem.W.Frag.In.keeps hK k, c⟩
theorem obsM_eq {T : Tx} {g : ClsG} {file : Str} (s : PySem.W.SharedT) : obsMG T g file (HandSHeadRun.getT s) = (hookM T g file).obs s.abs := by
  have e : HandSHeadRun.getT s = s.abs.heap.get? := funext (HandSHeadRun.getT_eq s)
  rw [e]
  rfl
end Mi
set_option linter.all false
set_option maxRecDepth 100000
set_option maxHeartbeats 4000000
/-! S25: from what the Hook has read to what the walk leans on. -/
namespace Mi
open PySem PySem.Spec PyProof.Rows L2
theorem getD_mem {α : Type} {l : List α} (h : l ≠ []) (d : α) (hd : d ∈ l) (i : Nat) : l.getD i d ∈ l := by
  rw [List.getD_eq_getElem?_getD]
  cases e : l[i]? with
  | none => exact hd
  | some x => exact List.mem_of_getElem? e
theorem headD_mem {α : Type} {l : List α} (h : l ≠ []) (d : α) : l.headD d ∈ l := by
  cases l with
  | nil => exact absurd rfl h
  | cons a r => exact List.mem_cons_self
/-- a def's datum beside its mini text -/
structure FnD (T : Tx) (f : Nat) (fn : Fn) : Prop where
  ex : ∃ (N ps : List Str) (d : He.DefD), T.fs[f]? = some d ∧ d.dfl = [] ∧ d.kwd = [] ∧ FnScope N ps d.scope ∧ N.length = fn.ns ∧ ps.length = fn.np ∧
    (∀ (kV doc pm : Value) (an : Option Addr) (cdv ct : Value) (us : List Value), us.length = ps.length → bindArgs (PySem.W.fnOf d.name d.qual d.params d.body d.scope .none kV doc pm an cdv ct) ⟨us, []⟩ = pure (ps.zip us)) ∧ shB T.nm N fn.body d.scope d.body = true
/-- what is to be seen of the text itself -/
structure TxOk (P : Program) (T : Tx) (pr : Pr) : Prop where
  c0 : T.cl ≠ []
  f0 : T.fs ≠ []
  at_ : ∀ d ∈ T.fs, d.at_ = (d.name, none)
  val : T.val pr.val = "value"
  rep : pr.rep = repOf
  con : ∀ k, pr.con k = none
  ex : ∀ c, pr.isExc c = decide (c < T.cl.length)
  ib : ∃ p0 p1 p2 p3 p4 p5 p6 p7 p8 p9, defBody T.ini = PySem.Ber.iBody p0 p1 p2 p3 p4 p5 p6 p7 p8 p9 ∧ (p2.endLine == p4.line) = true
  ia : ∃ p1 p2, defArgs T.ini = PySem.Ber.iArgs p1 p2
  isc : defScope T.ini = PySem.Ber.iScope
  sup : (P.main.scope.names.lookup ("super" : Str)).isSome = false
section
variable {P : Program} {w : World} {K : PySem.W.Frag} {mg : Str → Option Value} {base : Heap} {T : Tx} {pr : Pr}
theorem gok_of (tx : TxOk P T pr) (kin : K.In base) (gns : base.Ns mainGlobals mg) (c : obsM T pr.toClsG P.main.file K = valM T) : GOk ⟨P, w, K, mg, base, pr, T.fad K, T.cad K, T.nm⟩ := by
  have c1 : chk T pr.toClsG P.main.file K = true := congrArg (fun z : AlM => z.1) c
  have c2 : iniObs K (He.ma K (He.ga K (T.cl.headD "")) "__init__") = iniVal T.ini := congrArg (fun z : AlM => z.2.1) c
  unfold chk at c1
  simp only [Bool.and_eq_true] at c1
  obtain ⟨h1, h2, h3, h4, h5, h6, h7⟩ := c1
  have hfree : ∀ x ∈ (("super" : Str) :: blts), mg x = none := fun x hx => PySem.W.mg_none_of kin gns (eqV_ok (List.all_eq_true.mp h1 x hx))
  have hcl : ∀ x ∈ T.cl, mg x = some (.ref (He.ga K x)) ∧ clsB K (He.ga K (T.cl.headD "")) (He.ma K (He.ga K (T.cl.headD "")) "__init__") (He.ga K x) = true := fun x hx => by
    have z := List.all_eq_true.mp h3 x hx
    rw [Bool.and_eq_true] at z
    exact ⟨PySem.W.mg_of kin gns (eqV_ok z.1), z.2⟩
  have cmem : ∀ i, T.nm.cnm i ∈ T.cl := fun i => getD_mem tx.c0 _ (headD_mem tx.c0 _) i
  have fmem : ∀ i, ∃ d ∈ T.fs, d.name = T.nm.fnm i := fun i => by
    have z : T.nm.fnm i ∈ T.fs.map (·.name) := by
      refine getD_mem (by intro z; exact tx.f0 (List.map_eq_nil_iff.mp z)) _ ?_ i
      exact List.mem_map.mpr ⟨_, headD_mem tx.f0 _, rfl⟩
    obtain ⟨d, h1, h2⟩ := List.mem_map.mp z
    exact ⟨d, h1, h2⟩
  refine ⟨hfree _ List.mem_cons_self, fun x hx => hfree x (List.mem_cons_of_mem _ hx), tx.val, tx.rep, ?_, fun k d hk => ?_, fun c hc => ?_, fun c hc => ?_, fun c => (hcl _ (cmem c)).1, fun d t cl b ht hi => ?_, fun f => ?_⟩
  · split at h2
    · rename_i o ho
      exact ⟨o, ho, of_decide_eq_true h2⟩
    · cases h2
  · have hk : pr.con k = some d := hk
    rw [tx.con k] at hk
    cases hk
  · obtain ⟨z1, z2⟩ := clsB_ok (hcl _ (cmem c)).2 h4
    exact ⟨z1, _, _, ini_ok c2 h5 tx.ib tx.ia tx.isc tx.sup, z2⟩
  · show pr.isExc c = true
    rw [tx.ex c]
    exact hc
  · rw [clC_eq]
    rw [tagC_eq] at ht
    exact kit_ok (n := T.cl.length) (fun k hk => of_decide_eq_true (by rw [← tx.ex k]; exact hk)) h7 ht hi
  · obtain ⟨d, hd, en⟩ := fmem f
    have z := List.all_eq_true.mp h6 d hd
    rw [Bool.and_eq_true] at z
    have k1 := PySem.W.mg_of kin gns (eqV_ok z.1)
    have k2 := (He.ba z.2).1
    have ea : He.fAd K d.at_ = He.ga K d.name := by rw [tx.at_ d hd]; rfl
    rw [ea, en] at k2
    rw [en] at k1
    exact ⟨k1, k2⟩
theorem fnt_of (tx : TxOk P T pr) (c : obsM T pr.toClsG P.main.file K = valM T) {f : Nat} {fn : Fn} (h : FnD T f fn) : FnT ⟨P, w, K, mg, base, pr, T.fad K, T.cad K, T.nm⟩ f fn := by
  have c1 : chk T pr.toClsG P.main.file K = true := congrArg (fun z : AlM => z.1) c
  have c3 : (T.fs.map fun d => He.fnW K d.at_) = T.fs.map He.DefD.val := congrArg (fun z : AlM => z.2.2) c
  unfold chk at c1
  simp only [Bool.and_eq_true] at c1
  obtain ⟨h1, h2, h3, h4, h5, h6, h7⟩ := c1
  obtain ⟨N, ps, d, hd, e1, e2, hS, l1, l2, hb, hs⟩ := h.ex
  have hm : d ∈ T.fs := List.mem_of_getElem? hd
  have z := List.all_eq_true.mp h6 d hm
  rw [Bool.and_eq_true] at z
  have e3 : He.fnW K d.at_ = d.val := by
    have := congrArg (fun l => l[f]?) c3
    simp only [List.getElem?_map, hd] at this
    exact Option.some.inj this
  obtain ⟨fd, F⟩ := He.DefD.funD e3 z.2
  obtain ⟨oc, od, dV, kV, doc, pm, an, cdv, ct, osl, rfl, lk, hcd, hD, _⟩ := F.ex
  have ea : He.fAd K d.at_ = T.fad K f := by
    rw [tx.at_ d hm]
    show He.ga K d.name = He.ga K (T.nm.fnm f)
    congr 1
    show d.name = (T.fs.map (·.name)).getD f _
    rw [List.getD_eq_getElem?_getD, List.getElem?_map, hd]
    rfl
  have ed : dV = .none := by
    rcases hD with ⟨_, q⟩ | ⟨q, _⟩
    · exact q
    · exfalso
      apply q
      unfold He.DefD.dvs
      rw [e1]
      rfl
  subst ed
  rw [ea] at lk
  exact ⟨N, ps, d.name, d.qual, d.params, d.body, d.scope, .none, kV, doc, pm, cdv, ct, oc, an, od, osl, lk, hcd, hS, l1, l2, hb kV doc pm an cdv ct, hs⟩
end
end Mi
set_option Elab.async false
set_option linter.all false
set_option maxRecDepth 100000
set_option maxHeartbeats 0
namespace K00
open PySem PySem.Spec PyProof.Rows L2 Mi
def loose : List PySem.Str := (["BorderError", "BadCondition", "BadWorld", "NoName", "BadOther", "Wide", "BadNames", "BadClause", "BadClauses", "NoCut", "BadForm", "BadForms", "BadBook", "NoPart", "NoCondition", "Has", "Full", "BadName", "Held", "Last", "BadPaper", "BadGoals", "BadParts", "BadContracts", "BadTree", "BadPromises", "Same", "BadNumbers", "Torn", "BadChange"] : List PySem.Str) ++ (["BadChanges", "BadOffers", "BadChoice", "BadWishes", "BadWish", "NoPledge", "NotGiven", "Broken", "NothingToUndo", "NothingToRedo", "NoTrial", "BadJournal", "BadLine", "_law_pot", "_law_take", "_law_of", "_law_cells", "_law_odd", "_law_bent", "_law_errors", "_law_marks", "_law_right"] : List PySem.Str)
abbrev R : PySem.W.OpenRow := PySem.W.OpenLaw.row PySem.Challenge.rw_keptborders_k00_errors_and_what_they_kee
def top (i : Nat) : Stmt := PySem.Challenge.pw_keptborders_k00_errors_and_what_they_kee.main.body.getD i (.Pass ⟨0, 0, 0, 0⟩)
def clsBody : Stmt → List Stmt
  | .ClassDef _ _ _ b _ _ _ _ _ _ _ => b
  | _ => []
def ini : Stmt := (clsBody (top 1)).getD 0 (.Pass ⟨0, 0, 0, 0⟩)
def dd (i : Nat) (x : Str) : He.DefD := ⟨(x, none), x, x, defArgs (top i), defBody (top i), defScope (top i), [], []⟩
def cl : List Str := (["BorderError", "BadCondition", "BadWorld", "NoName", "BadOther", "Wide", "BadNames", "BadClause", "BadClauses", "NoCut", "BadForm", "BadForms", "BadBook", "NoPart", "NoCondition", "Has", "Full", "BadName", "Held", "Last", "BadPaper", "BadGoals", "BadParts", "BadContracts", "BadTree", "BadPromises", "Same", "BadNumbers", "Torn", "BadChange"] : List Str) ++ (["BadChanges", "BadOffers", "BadChoice", "BadWishes", "BadWish", "NoPledge", "NotGiven", "Broken", "NothingToUndo", "NothingToRedo", "NoTrial", "BadJournal", "BadLine"] : List Str)
def fs : List He.DefD := ([dd 45 "_law_pot", dd 46 "_law_take", dd 47 "_law_of", dd 48 "_law_cells", dd 49 "_law_odd", dd 50 "_law_bent", dd 51 "_law_errors", dd 52 "_law_marks", dd 53 "_law_right", dd 54 "law"] : List He.DefD)
def T : Tx := ⟨cl, ini, fs, [], fun _ => "value", fun _ => ""⟩
def g : ClsG := ⟨fun c => if c = 0 then [0] else [c, 0], fun c => decide (c < 43)⟩
def file : Str := "/claim/cut.py"
abbrev hk : PySem.W.Hook := hookM T g file
def ob (s : PySem.W.SharedT) : AlM := obsMG T g file (HandSHeadRun.getT s)
theorem ob_eq (s : PySem.W.SharedT) : ob s = hk.obs s.abs := obsM_eq s
end K00
set_option Elab.async false
set_option linter.all false
set_option maxRecDepth 100000
set_option maxHeartbeats 0
namespace K00
open PySem PySem.Spec PyProof.Rows L2 Mi
/-- _law_pot (0 _law_script, 1 _law_place, 2 _law_cell, 3 _law_big, 4 _law_small) -/
def f__law_pot : Fn where
  np := 2
  ns := 5
  body := [.set 2 (.ite (.p2 .lt (.var 1) (.p1 .len (.var 0))) (.ix (.var 0) (.var 1)) (.p2 .add (.p2 .mul (.lit (.int 331)) (.var 1)) (.lit (.int 171)))), .set 3 (.p2 .mul (.p2 .mod (.p1 .int (.p1 .abs (.var 2))) (.p2 .pow (.p2 .pow (.lit (.int 10)) (.lit (.int 60))) (.lit (.int 5)))) (.p1 .int (.p2 .ge (.p1 .abs (.var 2)) (.p2 .pow (.lit (.int 10)) (.lit (.int 18)))))), .set 4 (.p2 .mod (.p1 .int (.var 2)) (.lit (.int 2305843009213693951))), .ret (.box [(.var 3), (.p2 .mod (.p1 .int (.p2 .add (.p2 .add (.p2 .mul (.var 4) (.lit (.int 77503))) (.p2 .mul (.p2 .mul (.lit (.int 8017)) (.var 1)) (.var 1))) (.lit (.int 223)))) (.lit (.int 2305843009213693921))), (.lit (.int 0))])]
/-- _law_take (0 _law_pot_here, 1 _law_upto, 2 _law_prime, 3 _law_blend, 4 _law_digit) -/
def f__law_take : Fn where
  np := 2
  ns := 5
  body := [.ite (.p2 .gt (.ix (.var 0) (.lit (.int 0))) (.lit (.int 0))) [.set 4 (.p2 .mod (.p1 .int (.ix (.var 0) (.lit (.int 0)))) (.var 1)), .setIx (.var 0) (.lit (.int 0)) (.p2 .fdiv (.ix (.var 0) (.lit (.int 0))) (.var 1)), .ret (.var 4)] [], .setIx (.var 0) (.lit (.int 2)) (.p2 .add (.ix (.var 0) (.lit (.int 2))) (.lit (.int 1))), .set 2 (.ix (.lst [(.lit (.int 2147483647)), (.lit (.int 2147483629)), (.lit (.int 2147483587)), (.lit (.int 2147483579)), (.lit (.int 2147483563))]) (.p2 .mod (.p1 .int (.ix (.var 0) (.lit (.int 2)))) (.lit (.int 5)))), .set 3 (.p2 .mod (.p1 .int (.p2 .pow (.p1 .int (.p2 .add (.p2 .add (.ix (.var 0) (.lit (.int 1))) (.p2 .mul (.p2 .mul (.lit (.int 98017)) (.ix (.var 0) (.lit (.int 2)))) (.ix (.var 0) (.lit (.int 2))))) (.lit (.int 131)))) (.lit (.int 3)))) (.var 2)), .set 3 (.p2 .mod (.p1 .int (.p2 .mul (.var 3) (.p2 .add (.p2 .mod (.p1 .int (.var 3)) (.lit (.int 10159))) (.p2 .mul (.lit (.int 181)) (.ix (.var 0) (.lit (.int 2))))))) (.lit (.int 2305843009213693907))), .ret (.p2 .mod (.p1 .int (.p2 .fdiv (.var 3) (.lit (.int 167)))) (.var 1))]
/-- _law_of (0 _law_pot_here, 1 _law_some) -/
def f__law_of : Fn where
  np := 2
  ns := 2
  body := [.ret (.ix (.var 1) (.call 1 [(.var 0), (.p1 .len (.var 1))]))]
/-- _law_cells (0 _law_script, 1 _law_limit) -/
def f__law_cells : Fn where
  np := 2
  ns := 2
  body := [.ret (.list (.rng1 (.p2 .max2 (.lit (.int 1)) (.p2 .min2 (.var 1) (.p1 .len (.var 0))))))]
/-- _law_odd (0 _law_pot_here, 1 _law_some) -/
def f__law_odd : Fn where
  np := 1
  ns := 2
  body := [.set 1 (.lst [(.lit .non), (.lit (.bl true)), (.lit (.bl false)), (.lit (.int 0)), (.lit (.int 1)), (.p1 .neg (.lit (.int 1))), (.p2 .pow (.lit (.int 10)) (.lit (.int 8))), (.lit (.str [])), (.lit (.str [97])), (.lit (.str [121, 101, 115])), (.lit (.str [45, 97])), (.tup []), (.lst []), (.dct [] []), (.tup [(.lit (.int 0))]), (.tup [(.tup [])]), (.lst [(.lit (.int 0))]), (.tup [(.lit (.int 1)), (.lit (.int 0))]), (.lit (.str [65]))]), .ret (.call 2 [(.var 0), (.p2 .add (.var 1) (.lst [(.tup [(.lit (.str [97]))]), (.tup [(.lit (.str [45, 97]))]), (.tup [(.lit (.str [97])), (.lit (.str [98]))]), (.tup [(.tup [(.lit (.str [97]))])]), (.tup [(.lit .non)]), (.dct [(.str [97])] [(.lit (.int 1))]), (.tup [(.lit (.str [116, 111, 108, 100])), (.lit (.int 0))]), (.tup [(.lit (.bl true))])]))])]
/-- _law_bent (0 _law_pot_here, 1 _law_value, 2 _law_at, 3 _law_some) -/
def f__law_bent : Fn where
  np := 2
  ns := 4
  body := [.ite (.and (.isi (.var 1) [.tuple]) (.and (.p2 .ne (.var 1) (.tup [])) (.p2 .gt (.call 1 [(.var 0), (.lit (.int 6))]) (.lit (.int 0))))) [.set 2 (.call 1 [(.var 0), (.p1 .len (.var 1))]), .ret (.p2 .add (.p2 .add (.sl (.var 1) .omit (.var 2)) (.tup [(.call 5 [(.var 0), (.ix (.var 1) (.var 2))])])) (.sl (.var 1) (.p2 .add (.var 2) (.lit (.int 1))) .omit))] [], .ite (.isi (.var 1) [.tuple]) [.set 3 (.lst [(.p1 .list (.var 1)), (.sl (.var 1) (.lit (.int 1)) .omit), (.sl (.var 1) .omit (.p1 .neg (.lit (.int 1)))), (.p2 .add (.var 1) (.sl (.var 1) (.p1 .neg (.lit (.int 1))) .omit)), (.p1 .rev (.var 1)), (.tup []), (.lit .non), (.p2 .add (.var 1) (.tup [(.lit (.int 0))]))]), .ret (.call 2 [(.var 0), (.var 3)])] [], .ite (.isi (.var 1) [.bool]) [.ret (.call 2 [(.var 0), (.lst [(.p1 .not (.var 1)), (.p1 .int (.var 1)), (.lit .non)])])] [], .ite (.isi (.var 1) [.int]) [.ret (.call 2 [(.var 0), (.lst [(.p2 .add (.var 1) (.lit (.int 1))), (.p2 .sub (.var 1) (.lit (.int 1))), (.p2 .eq (.var 1) (.lit (.int 1))), (.p1 .neg (.var 1)), (.lit (.str [49])), (.lit (.int 0)), (.lit .non), (.tup [(.var 1)])])])] [], .ite (.isi (.var 1) [.str]) [.ret (.call 2 [(.var 0), (.lst [(.p2 .add (.var 1) (.lit (.str [120]))), (.sl (.var 1) .omit (.p1 .neg (.lit (.int 1)))), (.p2 .add (.lit (.str [45])) (.var 1)), (.sl (.var 1) (.lit (.int 1)) .omit), (.m0 .upper (.var 1)), (.lst [(.var 1)]), (.lit (.str [97])), (.lit (.str [98])), (.lit .non)])])] [], .ret (.call 4 [(.var 0)])]
/-- _law_errors (0 _law_value, 1 _law_found) -/
def f__law_errors : Fn where
  np := 1
  ns := 2
  body := [.set 1 (.lst [(.mk 1 [(.var 0)]), (.mk 2 [(.var 0)]), (.mk 3 [(.var 0)]), (.mk 4 [(.var 0)]), (.mk 5 [(.var 0)])]), .set 1 (.p2 .add (.var 1) (.lst [(.mk 6 [(.var 0)]), (.mk 7 [(.var 0)]), (.mk 8 [(.var 0)]), (.mk 9 [(.var 0)]), (.mk 10 [(.var 0)])])), .set 1 (.p2 .add (.var 1) (.lst [(.mk 11 [(.var 0)]), (.mk 12 [(.var 0)]), (.mk 13 [(.var 0)]), (.mk 14 [(.var 0)]), (.mk 15 [(.var 0)])])), .set 1 (.p2 .add (.var 1) (.lst [(.mk 16 [(.var 0)]), (.mk 17 [(.var 0)]), (.mk 18 [(.var 0)]), (.mk 19 [(.var 0)]), (.mk 20 [(.var 0)]), (.mk 21 [(.var 0)])])), .set 1 (.p2 .add (.var 1) (.lst [(.mk 22 [(.var 0)]), (.mk 23 [(.var 0)]), (.mk 24 [(.var 0)]), (.mk 25 [(.var 0)]), (.mk 26 [(.var 0)])])), .set 1 (.p2 .add (.var 1) (.lst [(.mk 27 [(.var 0)]), (.mk 28 [(.var 0)]), (.mk 29 [(.var 0)]), (.mk 30 [(.var 0)]), (.mk 31 [(.var 0)])])), .set 1 (.p2 .add (.var 1) (.lst [(.mk 32 [(.var 0)]), (.mk 33 [(.var 0)]), (.mk 34 [(.var 0)]), (.mk 35 [(.var 0)]), (.mk 36 [(.var 0)])])), .set 1 (.p2 .add (.var 1) (.lst [(.mk 37 [(.var 0)]), (.mk 38 [(.var 0)]), (.mk 39 [(.var 0)]), (.mk 40 [(.var 0)])])), .set 1 (.p2 .add (.var 1) (.lst [(.mk 41 [(.var 0)]), (.mk 42 [(.var 0)])])), .ret (.var 1)]
/-- _law_marks (0 _law_error, 1 _law_found) -/
def f__law_marks : Fn where
  np := 1
  ns := 2
  body := [.set 1 (.lst [(.isi (.var 0) [(.own 1)]), (.isi (.var 0) [(.own 2)]), (.isi (.var 0) [(.own 3)])]), .set 1 (.p2 .add (.var 1) (.lst [(.isi (.var 0) [(.own 4)]), (.isi (.var 0) [(.own 5)]), (.isi (.var 0) [(.own 6)])])), .set 1 (.p2 .add (.var 1) (.lst [(.isi (.var 0) [(.own 7)]), (.isi (.var 0) [(.own 8)]), (.isi (.var 0) [(.own 9)])])), .set 1 (.p2 .add (.var 1) (.lst [(.isi (.var 0) [(.own 10)]), (.isi (.var 0) [(.own 11)]), (.isi (.var 0) [(.own 12)])])), .set 1 (.p2 .add (.var 1) (.lst [(.isi (.var 0) [(.own 13)]), (.isi (.var 0) [(.own 14)]), (.isi (.var 0) [(.own 15)])])), .set 1 (.p2 .add (.var 1) (.lst [(.isi (.var 0) [(.own 16)]), (.isi (.var 0) [(.own 17)]), (.isi (.var 0) [(.own 18)])])), .set 1 (.p2 .add (.var 1) (.lst [(.isi (.var 0) [(.own 19)]), (.isi (.var 0) [(.own 20)]), (.isi (.var 0) [(.own 21)])])), .set 1 (.p2 .add (.var 1) (.lst [(.isi (.var 0) [(.own 22)]), (.isi (.var 0) [(.own 23)]), (.isi (.var 0) [(.own 24)])])), .set 1 (.p2 .add (.var 1) (.lst [(.isi (.var 0) [(.own 25)]), (.isi (.var 0) [(.own 26)]), (.isi (.var 0) [(.own 27)])])), .set 1 (.p2 .add (.var 1) (.lst [(.isi (.var 0) [(.own 28)]), (.isi (.var 0) [(.own 29)]), (.isi (.var 0) [(.own 30)])])), .set 1 (.p2 .add (.var 1) (.lst [(.isi (.var 0) [(.own 31)]), (.isi (.var 0) [(.own 32)]), (.isi (.var 0) [(.own 33)])])), .set 1 (.p2 .add (.var 1) (.lst [(.isi (.var 0) [(.own 34)]), (.isi (.var 0) [(.own 35)]), (.isi (.var 0) [(.own 36)])])), .set 1 (.p2 .add (.var 1) (.lst [(.isi (.var 0) [(.own 37)]), (.isi (.var 0) [(.own 38)])])), .set 1 (.p2 .add (.var 1) (.lst [(.isi (.var 0) [(.own 39)]), (.isi (.var 0) [(.own 40)])])), .set 1 (.p2 .add (.var 1) (.lst [(.isi (.var 0) [(.own 41)]), (.isi (.var 0) [(.own 42)])])), .ret (.var 1)]
/-- _law_right (0 _law_pot_here, 1 _law_rows, 2 _law_values, 3 _law_value, 4 _law_plain, 5 _law_at, 6 _law_error, 7 _law_place) -/
def f__law_right : Fn where
  np := 1
  ns := 8
  body := [.set 1 (.tup [(.tup [(.lit (.str [45, 97])), (.lit (.str [98]))]), (.tup [(.lit (.str [99, 117, 116])), (.lit (.int 1)), (.lit (.int 0)), (.lit (.str [97]))])]), .set 2 (.lst [(.call 4 [(.var 0)]), (.call 5 [(.var 0), (.var 1)]), (.call 5 [(.var 0), (.tup [(.lit (.str [115, 101, 116])), (.lit (.int 2)), (.lit (.str [105, 102, 40, 97, 44, 98, 41]))])])]), .for (.nm 3) (.seq (.var 2)) [.for (.tp [(.nm 5), (.nm 6)]) (.enum (.call 6 [(.var 3)])) [.ite (.or (.p1 .not (.isi (.var 6) [(.own 0)])) (.p1 .not (.isi (.var 6) [.valueError]))) [.ret (.lit (.bl false))] [], .ite (.or (.p2 .ne (.p1 .repr (.at (.var 6) 0)) (.p1 .repr (.var 3))) (.p2 .ne (.call 7 [(.var 6)]) (.lc (.nm 7) (.rng1 (.lit (.int 42))) .omit (.p2 .eq (.var 7) (.var 5))))) [.ret (.lit (.bl false))] []], .set 4 (.mk 0 [(.var 3)]), .ite (.or (.p2 .ne (.p1 .repr (.at (.var 4) 0)) (.p1 .repr (.var 3))) (.or (.p1 .not (.isi (.var 4) [.valueError])) (.p1 .any (.call 7 [(.var 4)])))) [.ret (.lit (.bl false))] []], .ret (.lit (.bl true))]
/-- law (0 _law_script, 1 _law_place) -/
def f_law : Fn where
  np := 1
  ns := 2
  body := [.ret (.p1 .all (.lc (.nm 1) (.seq (.call 3 [(.var 0), (.lit (.int 2))])) .omit (.call 8 [(.call 0 [(.var 0), (.var 1)])])))]
def fns : Nat → Option Fn
  | 0 => some f__law_pot
  | 1 => some f__law_take
  | 2 => some f__law_of
  | 3 => some f__law_cells
  | 4 => some f__law_odd
  | 5 => some f__law_bent
  | 6 => some f__law_errors
  | 7 => some f__law_marks
  | 8 => some f__law_right
  | 9 => some f_law
  | _ => none
theorem d__law_pot : FnD T 0 f__law_pot := ⟨["_law_script", "_law_place", "_law_cell", "_law_big", "_law_small"], ["_law_script", "_law_place"], dd 45 "_law_pot", rfl, rfl, rfl, C8.fnScope_by (by decide +kernel), rfl, rfl, fun _ _ _ _ _ _ us hl => match us, hl with | [_, _], _ => rfl, by decide +kernel⟩
theorem d__law_take : FnD T 1 f__law_take := ⟨["_law_pot_here", "_law_upto", "_law_prime", "_law_blend", "_law_digit"], ["_law_pot_here", "_law_upto"], dd 46 "_law_take", rfl, rfl, rfl, C8.fnScope_by (by decide +kernel), rfl, rfl, fun _ _ _ _ _ _ us hl => match us, hl with | [_, _], _ => rfl, by decide +kernel⟩
theorem d__law_of : FnD T 2 f__law_of := ⟨["_law_pot_here", "_law_some"], ["_law_pot_here", "_law_some"], dd 47 "_law_of", rfl, rfl, rfl, C8.fnScope_by (by decide +kernel), rfl, rfl, fun _ _ _ _ _ _ us hl => match us, hl with | [_, _], _ => rfl, by decide +kernel⟩
theorem d__law_cells : FnD T 3 f__law_cells := ⟨["_law_script", "_law_limit"], ["_law_script", "_law_limit"], dd 48 "_law_cells", rfl, rfl, rfl, C8.fnScope_by (by decide +kernel), rfl, rfl, fun _ _ _ _ _ _ us hl => match us, hl with | [_, _], _ => rfl, by decide +kernel⟩
theorem d__law_odd : FnD T 4 f__law_odd := ⟨["_law_pot_here", "_law_some"], ["_law_pot_here"], dd 49 "_law_odd", rfl, rfl, rfl, C8.fnScope_by (by decide +kernel), rfl, rfl, fun _ _ _ _ _ _ us hl => match us, hl with | [_], _ => rfl, by decide +kernel⟩
theorem d__law_bent : FnD T 5 f__law_bent := ⟨["_law_pot_here", "_law_value", "_law_at", "_law_some"], ["_law_pot_here", "_law_value"], dd 50 "_law_bent", rfl, rfl, rfl, C8.fnScope_by (by decide +kernel), rfl, rfl, fun _ _ _ _ _ _ us hl => match us, hl with | [_, _], _ => rfl, by decide +kernel⟩
theorem d__law_errors : FnD T 6 f__law_errors := ⟨["_law_value", "_law_found"], ["_law_value"], dd 51 "_law_errors", rfl, rfl, rfl, C8.fnScope_by (by decide +kernel), rfl, rfl, fun _ _ _ _ _ _ us hl => match us, hl with | [_], _ => rfl, by decide +kernel⟩
theorem d__law_marks : FnD T 7 f__law_marks := ⟨["_law_error", "_law_found"], ["_law_error"], dd 52 "_law_marks", rfl, rfl, rfl, C8.fnScope_by (by decide +kernel), rfl, rfl, fun _ _ _ _ _ _ us hl => match us, hl with | [_], _ => rfl, by decide +kernel⟩
theorem d__law_right : FnD T 8 f__law_right := ⟨["_law_pot_here", "_law_rows", "_law_values", "_law_value", "_law_plain", "_law_at", "_law_error", "_law_place"], ["_law_pot_here"], dd 53 "_law_right", rfl, rfl, rfl, C8.fnScope_by (by decide +kernel), rfl, rfl, fun _ _ _ _ _ _ us hl => match us, hl with | [_], _ => rfl, by decide +kernel⟩
theorem d_law : FnD T 9 f_law := ⟨["_law_script", "_law_place"], ["_law_script"], dd 54 "law", rfl, rfl, rfl, C8.fnScope_by (by decide +kernel), rfl, rfl, fun _ _ _ _ _ _ us hl => match us, hl with | [_], _ => rfl, by decide +kernel⟩
theorem d_all : ∀ f fn, fns f = some fn → FnD T f fn := fun f fn h => match f, h with
  | 0, h => by cases h; exact d__law_pot
  | 1, h => by cases h; exact d__law_take
  | 2, h => by cases h; exact d__law_of
  | 3, h => by cases h; exact d__law_cells
  | 4, h => by cases h; exact d__law_odd
  | 5, h => by cases h; exact d__law_bent
  | 6, h => by cases h; exact d__law_errors
  | 7, h => by cases h; exact d__law_marks
  | 8, h => by cases h; exact d__law_right
  | 9, h => by cases h; exact d_law
  | n + 10, h => by cases h
end K00
set_option linter.all false
set_option maxRecDepth 100000
/-! Y1: the evaluation step by step, applied to a state: rows for simp. -/
namespace Mi
theorem Res.bind_cong {α β : Type} {r r' : Res α} {f : α → M β} (h : r = r') : r.bind f = r'.bind f := by rw [h]
@[simp] theorem bind_app {α β : Type} (m : M α) (f : α → M β) (e : Env) (s : Store) : M.bind m f e s = (m e s).bind f := rfl
@[simp] theorem ret_app {α : Type} (a : α) (e : Env) (s : Store) : M.ret a e s = .ok a e s := rfl
@[simp] theorem bad_app {α : Type} (e : Env) (s : Store) : (M.bad : M α) e s = .bad := rfl
@[simp] theorem opt_some {α : Type} (a : α) (e : Env) (s : Store) : M.opt (some a) e s = .ok a e s := rfl
@[simp] theorem opt_none {α : Type} (e : Env) (s : Store) : M.opt (none : Option α) e s = .bad := rfl
def D.isObj : D → Bool
  | .obj _ _ => true
  | _ => false
def D.isRef : D → Bool
  | .ref _ => true
  | _ => false
theorem isObj_int (i : Int) : (D.int i).isObj = false := rfl
theorem isObj_bl (i : Bool) : (D.bl i).isObj = false := rfl
theorem isObj_non : D.non.isObj = false := rfl
theorem isObj_str (s : List Nat) : (D.str s).isObj = false := rfl
theorem isObj_tup (s : List D) : (D.tup s).isObj = false := rfl
theorem isObj_lst (s : List D) : (D.lst s).isObj = false := rfl
theorem isObj_dct (s t : List D) : (D.dct s t).isObj = false := rfl
theorem isObj_exc (c : Nat) (d : D) : (D.exc c d).isObj = false := rfl
theorem isObj_scr (s : List Int) : (D.scr s).isObj = false := rfl
theorem isRef_int (i : Int) : (D.int i).isRef = false := rfl
theorem isRef_bl (i : Bool) : (D.bl i).isRef = false := rfl
theorem isRef_non : D.non.isRef = false := rfl
theorem isRef_str (s : List Nat) : (D.str s).isRef = false := rfl
theorem isRef_tup (s : List D) : (D.tup s).isRef = false := rfl
theorem isRef_lst (s : List D) : (D.lst s).isRef = false := rfl
theorem isRef_dct (s t : List D) : (D.dct s t).isRef = false := rfl
theorem isRef_exc (c : Nat) (d : D) : (D.exc c d).isRef = false := rfl
theorem isRef_scr (s : List Int) : (D.scr s).isRef = false := rfl
theorem deref_v (d : D) (e : Env) (s : Store) (h : d.isRef = false) : deref (.v d) e s = .ok d e s := by
  cases d <;> first | rfl | cases h
@[simp] theorem deref_ref (i : Nat) (e : Env) (s : Store) : deref (.v (.ref i)) e s = match s[i]? with | some d => .ok d e s | none => .bad := rfl
@[simp] theorem deref_fr (d : D) (e : Env) (s : Store) : deref (.fr d) e s = .ok d e s := rfl
@[simp] theorem deref_bor (i : Nat) (e : Env) (s : Store) : deref (.bor i) e s = match e[i]? with | some (some (.own d)) => .ok d e s | _ => .bad := rfl
@[simp] theorem esc_v (d : D) (e : Env) (s : Store) : esc (.v d) e s = .ok d e s := rfl
@[simp] theorem esc_fr (d : D) (e : Env) (s : Store) : esc (.fr d) e s = .ok d e s := rfl
@[simp] theorem esc_bor (i : Nat) (e : Env) (s : Store) : esc (.bor i) e s = match e[i]? with | some (some (.own d)) => .ok d (e.set i (some (.v d))) s | _ => .bad := rfl
@[simp] theorem putVar_v (i : Nat) (d : D) (e : Env) (s : Store) : putVar i (.v d) e s = if i < e.length then .ok () (e.set i (some (.v d))) s else .bad := rfl
@[simp] theorem putVar_fr (i : Nat) (d : D) (e : Env) (s : Store) : putVar i (.fr d) e s = if i < e.length then .ok () (e.set i (some (.own d))) s else .bad := rfl
@[simp] theorem store_ref (i : Nat) (d : D) (e : Env) (s : Store) : store (.v (.ref i)) d e s = if i < s.length then .ok () e (s.set i d) else .bad := rfl
@[simp] theorem alloc_app (d : D) (e : Env) (s : Store) : alloc d e s = .ok (.v (.ref s.length)) e (s ++ [d]) := rfl
section
variable (P : Pr) (Φ : Cal) (e : Env) (s : Store)
theorem un1_op (p : P1) (d : D) (h : d.isObj = false) : un1 P Φ p d = .opt (op1 P p d) := by
  cases d <;> first | (cases p <;> rfl) | cases h
theorem bin2_op (p : P2) (a b : D) (h1 : a.isObj = false) (h2 : b.isObj = false) : bin2 P Φ p a b = .opt (op2 p a b) := by
  cases a with
  | obj c fs => cases h1
  | _ =>
    cases b with
    | obj c fs => cases h2
    | _ => cases p <;> rfl
@[simp] theorem ev_lit (d : D) : ev P Φ (.lit d) e s = .ok (.v d) e s := by rw [ev]; rfl
@[simp] theorem ev_var (i : Nat) : ev P Φ (.var i) e s = match e[i]? with
  | some (some (.v d)) => .ok (.v d) e s
  | some (some (.own _)) => .ok (.bor i) e s
  | _ => .bad := by rw [ev]; rfl
@[simp] theorem ev_p1 (p : P1) (a : Ex) : ev P Φ (.p1 p a) e s = (ev P Φ a e s).bind fun r e s => (deref r e s).bind fun d e s => un1 P Φ p d e s := by rw [ev]; rfl
@[simp] theorem ev_p2 (p : P2) (a b : Ex) : ev P Φ (.p2 p a b) e s = (ev P Φ a e s).bind fun r e s => (ev P Φ b e s).bind fun q e s => (deref r e s).bind fun x e s => (deref q e s).bind fun y e s => bin2 P Φ p x y e s := by rw [ev]; rfl
@[simp] theorem ev_and (a b : Ex) : ev P Φ (.and a b) e s = (ev P Φ a e s).bind fun r e s => (deref r e s).bind fun x e s => match x with
    | .bl true => ev P Φ b e s
    | .bl false => .ok (.v (.bl false)) e s
    | _ => .bad := by
  rw [ev]
  unfold M.bind
  congr 1
  funext r e s
  congr 1
  funext x e s
  cases x <;> try rfl
  rename_i b
  cases b <;> rfl
@[simp] theorem ev_or (a b : Ex) : ev P Φ (.or a b) e s = (ev P Φ a e s).bind fun r e s => (deref r e s).bind fun x e s => match x with
    | .bl true => .ok (.v (.bl true)) e s
    | .bl false => ev P Φ b e s
    | _ => .bad := by
  rw [ev]
  unfold M.bind
  congr 1
  funext r e s
  congr 1
  funext x e s
  cases x <;> try rfl
  rename_i b
  cases b <;> rfl
@[simp] theorem ev_ite' (c a b : Ex) : ev P Φ (.ite c a b) e s = (ev P Φ c e s).bind fun r e s => (deref r e s).bind fun x e s => (M.opt x.truth e s).bind fun t e s => match t with
    | true => ev P Φ a e s
    | false => ev P Φ b e s := by
  rw [ev]
  unfold M.bind
  congr 1
  funext r e s
  congr 1
  funext x e s
  unfold truthM
  congr 1
  funext t e s
  cases t <;> rfl
@[simp] theorem ev_tup (es : List Ex) : ev P Φ (.tup es) e s = (evs P Φ es e s).bind fun ds e s => M.opt (newTup ds) e s := by rw [ev]; rfl
@[simp] theorem ev_lst (es : List Ex) : ev P Φ (.lst es) e s = (evs P Φ es e s).bind fun ds e s => M.opt (fresh ds) e s := by rw [ev]; rfl
@[simp] theorem ev_box (es : List Ex) : ev P Φ (.box es) e s = (evs P Φ es e s).bind fun ds e s => if ds.length ≤ SZ then .ok (.v (.ref s.length)) e (s ++ [.lst ds]) else .bad := by
  rw [ev]
  unfold M.bind
  congr 1
  funext ds e s
  split <;> rfl
@[simp] theorem ev_dct (ks : List D) (es : List Ex) : ev P Φ (.dct ks es) e s = (evs P Φ es e s).bind fun ds e s => M.opt (opDct ks ds) e s := by rw [ev]; rfl
@[simp] theorem ev_call (f : Nat) (es : List Ex) : ev P Φ (.call f es) e s = (evs P Φ es e s).bind fun ds e s => calM Φ f ds e s := by rw [ev]; rfl
@[simp] theorem ev_mk (c : Nat) (es : List Ex) : ev P Φ (.mk c es) e s = (evs P Φ es e s).bind fun ds e s => make P Φ c ds e s := by rw [ev]; rfl
@[simp] theorem ev_isi (a : Ex) (cs : List Cl) : ev P Φ (.isi a cs) e s = (ev P Φ a e s).bind fun r e s => (deref r e s).bind fun d e s => (M.opt (isiL P d cs) e s).bind fun b e s => .ok (.v (.bl b)) e s := by rw [ev]; rfl
@[simp] theorem ev_ix (a b : Ex) : ev P Φ (.ix a b) e s = (ev P Φ a e s).bind fun r e s => (ev P Φ b e s).bind fun q e s => (deref r e s).bind fun x e s => (deref q e s).bind fun y e s => M.opt (opIx x y) e s := by rw [ev]; rfl
@[simp] theorem ev_sl' (a lo hi : Ex) : ev P Φ (.sl a lo hi) e s = (ev P Φ a e s).bind fun r e s => (evO P Φ lo e s).bind fun l e s => (evO P Φ hi e s).bind fun h e s => (deref r e s).bind fun x e s => M.opt (opSl x l h) e s := by rw [ev_sl]; rfl
@[simp] theorem evO_omit : evO P Φ .omit e s = .ok none e s := rfl
theorem evO_some (a : Ex) (h : a.isOmit = false) : evO P Φ a e s = (ev P Φ a e s).bind fun r e s => (deref r e s).bind fun d e s => match d with
    | .int i => .ok (some (.int i)) e s
    | _ => .bad := by
  unfold evO
  rw [h]
  show (ev P Φ a e s).bind _ = _
  congr 1
  funext r e s
  show (deref r e s).bind _ = _
  congr 1
  funext d e s
  cases d <;> rfl
@[simp] theorem ev_m0 (m : M0) (a : Ex) : ev P Φ (.m0 m a) e s = (ev P Φ a e s).bind fun r e s => (deref r e s).bind fun d e s => M.opt (opM0 m d) e s := by rw [ev]; rfl
@[simp] theorem ev_at (a : Ex) (n : Nat) : ev P Φ (.at a n) e s = (ev P Φ a e s).bind fun r e s => (deref r e s).bind fun d e s => attrM P Φ n d e s := by rw [ev]; rfl
@[simp] theorem ev_lc' (t : Tg) (it : It) (c a : Ex) : ev P Φ (.lc t it c a) e s = (evIt P Φ it e s).bind fun xs e s => lcRun t.slots (bindT t) (evC P Φ c) (M.bind (ev P Φ a) esc) xs e s := by rw [ev_lc]; rfl
@[simp] theorem ev_list (it : It) : ev P Φ (.list it) e s = (evIt P Φ it e s).bind fun xs e s => M.opt (fresh xs) e s := by rw [ev]; rfl
@[simp] theorem evs_nil : evs P Φ [] e s = .ok [] e s := by rw [evs]; rfl
@[simp] theorem evs_cons (a : Ex) (es : List Ex) : evs P Φ (a :: es) e s = (ev P Φ a e s).bind fun r e s => (esc r e s).bind fun d e s => (evs P Φ es e s).bind fun ds e s => .ok (d :: ds) e s := by rw [evs]; rfl
@[simp] theorem evIt_seq (a : Ex) : evIt P Φ (.seq a) e s = (ev P Φ a e s).bind fun r e s => (esc r e s).bind fun d e s => M.opt (seqOf d) e s := by rw [evIt]; rfl
@[simp] theorem evIt_rng1 (a : Ex) : evIt P Φ (.rng1 a) e s = (ev P Φ a e s).bind fun r e s => (deref r e s).bind fun d e s => match d with
    | .int n => if -two62 ≤ n ∧ n < two62 then .ok (rangeL 0 n.toNat) e s else .bad
    | _ => .bad := by
  rw [evIt]
  unfold M.bind
  congr 1
  funext r e s
  congr 1
  funext d e s
  cases d <;> try rfl
  dsimp only
  split <;> rfl
@[simp] theorem evIt_enum (a : Ex) : evIt P Φ (.enum a) e s = (ev P Φ a e s).bind fun r e s => (esc r e s).bind fun d e s => match d with
    | .lst xs => .ok (pairs 0 xs) e s
    | _ => .bad := by
  rw [evIt]
  unfold M.bind
  congr 1
  funext r e s
  congr 1
  funext d e s
  cases d <;> rfl
@[simp] theorem evB_nil : evB P Φ [] e s = .ok .next e s := by rw [evB]; rfl
@[simp] theorem evB_cons (m : Sm) (ms : List Sm) : evB P Φ (m :: ms) e s = (evS P Φ m e s).bind fun f e s => match f with
    | .next => evB P Φ ms e s
    | .ret d => .ok (.ret d) e s := by
  rw [evB]
  unfold M.bind
  congr 1
  funext f e s
  cases f <;> rfl
@[simp] theorem evS_set (i : Nat) (a : Ex) : evS P Φ (.set i a) e s = (ev P Φ a e s).bind fun r e s => (putVar i r e s).bind fun _ e s => .ok .next e s := by rw [evS]; rfl
@[simp] theorem evS_ret (a : Ex) : evS P Φ (.ret a) e s = (ev P Φ a e s).bind fun r e s => (esc r e s).bind fun d e s => .ok (.ret d) e s := by rw [evS]; rfl
@[simp] theorem evS_ite' (c : Ex) (a b : List Sm) : evS P Φ (.ite c a b) e s = (ev P Φ c e s).bind fun r e s => (deref r e s).bind fun x e s => (M.opt x.truth e s).bind fun t e s => match t with
    | true => evB P Φ a e s
    | false => evB P Φ b e s := by
  rw [evS]
  unfold M.bind
  congr 1
  funext r e s
  congr 1
  funext x e s
  unfold truthM
  congr 1
  funext t e s
  cases t <;> rfl
@[simp] theorem evS_setIx (o i a : Ex) : evS P Φ (.setIx o i a) e s = (ev P Φ a e s).bind fun r e s => (esc r e s).bind fun x e s => (ev P Φ o e s).bind fun r e s => (ev P Φ i e s).bind fun q e s => (deref r e s).bind fun d e s => (deref q e s).bind fun k e s => match d, k with
    | .lst xs, .int j => (match ixN xs.length j with
      | some m => (store r (.lst (xs.set m x)) e s).bind fun _ e s => .ok .next e s
      | none => .bad)
    | _, _ => .bad := by
  rw [evS]
  unfold M.bind
  congr 1
  funext r e s
  congr 1
  funext x e s
  congr 1
  funext r e s
  congr 1
  funext q e s
  congr 1
  funext d e s
  congr 1
  funext k e s
  cases d <;> try (cases k <;> rfl)
  cases k <;> try rfl
  rename_i xs j
  show (match ixN xs.length j with | some m => M.bind (store r (.lst (xs.set m x))) fun _ => M.ret Flow.next | none => M.bad) e s = (match ixN xs.length j with | some m => (store r (.lst (xs.set m x)) e s).bind fun _ e s => .ok .next e s | none => .bad)
  cases ixN xs.length j <;> rfl
@[simp] theorem evS_for (t : Tg) (it : It) (b : List Sm) : evS P Φ (.for t it b) e s = (evIt P Φ it e s).bind fun xs e s => forLoop (bindT t) (evB P Φ b) xs e s := by rw [evS]; rfl
theorem forLoop_nil (bd : D → M Unit) (b : M Flow) : forLoop bd b [] e s = .ok .next e s := by rw [forLoop]; rfl
theorem forLoop_cons (bd : D → M Unit) (b : M Flow) (x : D) (xs : List D) : forLoop bd b (x :: xs) e s = (bd x e s).bind fun _ e s => (b e s).bind fun f e s => match f with
    | .next => forLoop bd b xs e s
    | .ret d => .ok (.ret d) e s := by
  rw [forLoop]
  unfold M.bind
  congr 1
  funext u e s
  congr 1
  funext f e s
  cases f <;> rfl
@[simp] theorem calM_app (f : Nat) (ds : List D) : calM Φ f ds e s = match Φ f ds s with
    | .ok d s' => .ok (.v d) e s'
    | .exc c d s' => .exc c d e s'
    | .bad => .bad := rfl
theorem runFn_app (fn : Fn) (ds : List D) (h : ds.length = fn.np) : runFn P Φ fn ds s = match evB P Φ fn.body (entry fn.ns ds) s with
    | .ok (.ret d) _ s' => .ok d s'
    | .ok .next _ s' => .ok .non s'
    | .exc c d _ s' => .exc c d s'
    | .bad => .bad := by unfold runFn; rw [if_pos h] <;> rfl
end
@[simp] theorem deref_int (i : Int) (e : Env) (s : Store) : deref (.v (.int i)) e s = .ok (.int i) e s := rfl
@[simp] theorem un1_int (P : Pr) (Φ : Cal) (p : P1) (i : Int) : un1 P Φ p (.int i) = .opt (op1 P p (.int i)) := un1_op P Φ p _ rfl
@[simp] theorem deref_bl (i : Bool) (e : Env) (s : Store) : deref (.v (.bl i)) e s = .ok (.bl i) e s := rfl
@[simp] theorem un1_bl (P : Pr) (Φ : Cal) (p : P1) (i : Bool) : un1 P Φ p (.bl i) = .opt (op1 P p (.bl i)) := un1_op P Φ p _ rfl
@[simp] theorem deref_non  (e : Env) (s : Store) : deref (.v .non) e s = .ok .non e s := rfl
@[simp] theorem un1_non (P : Pr) (Φ : Cal) (p : P1)  : un1 P Φ p .non = .opt (op1 P p .non) := un1_op P Φ p _ rfl
@[simp] theorem deref_str (i : List Nat) (e : Env) (s : Store) : deref (.v (.str i)) e s = .ok (.str i) e s := rfl
@[simp] theorem un1_str (P : Pr) (Φ : Cal) (p : P1) (i : List Nat) : un1 P Φ p (.str i) = .opt (op1 P p (.str i)) := un1_op P Φ p _ rfl
@[simp] theorem deref_tup (i : List D) (e : Env) (s : Store) : deref (.v (.tup i)) e s = .ok (.tup i) e s := rfl
@[simp] theorem un1_tup (P : Pr) (Φ : Cal) (p : P1) (i : List D) : un1 P Φ p (.tup i) = .opt (op1 P p (.tup i)) := un1_op P Φ p _ rfl
@[simp] theorem deref_lst (i : List D) (e : Env) (s : Store) : deref (.v (.lst i)) e s = .ok (.lst i) e s := rfl
@[simp] theorem un1_lst (P : Pr) (Φ : Cal) (p : P1) (i : List D) : un1 P Φ p (.lst i) = .opt (op1 P p (.lst i)) := un1_op P Φ p _ rfl
@[simp] theorem deref_dct (i j : List D) (e : Env) (s : Store) : deref (.v (.dct i j)) e s = .ok (.dct i j) e s := rfl
@[simp] theorem un1_dct (P : Pr) (Φ : Cal) (p : P1) (i j : List D) : un1 P Φ p (.dct i j) = .opt (op1 P p (.dct i j)) := un1_op P Φ p _ rfl
@[simp] theorem deref_exc (i : Nat) (d : D) (e : Env) (s : Store) : deref (.v (.exc i d)) e s = .ok (.exc i d) e s := rfl
@[simp] theorem un1_exc (P : Pr) (Φ : Cal) (p : P1) (i : Nat) (d : D) : un1 P Φ p (.exc i d) = .opt (op1 P p (.exc i d)) := un1_op P Φ p _ rfl
@[simp] theorem deref_scr (i : List Int) (e : Env) (s : Store) : deref (.v (.scr i)) e s = .ok (.scr i) e s := rfl
@[simp] theorem un1_scr (P : Pr) (Φ : Cal) (p : P1) (i : List Int) : un1 P Φ p (.scr i) = .opt (op1 P p (.scr i)) := un1_op P Φ p _ rfl
@[simp] theorem bin2_int_int (P : Pr) (Φ : Cal) (p : P2) (i : Int) (k : Int) : bin2 P Φ p (.int i) (.int k) = .opt (op2 p (.int i) (.int k)) := bin2_op P Φ p _ _ rfl rfl
@[simp] theorem bin2_int_bl (P : Pr) (Φ : Cal) (p : P2) (i : Int) (k : Bool) : bin2 P Φ p (.int i) (.bl k) = .opt (op2 p (.int i) (.bl k)) := bin2_op P Φ p _ _ rfl rfl
@[simp] theorem bin2_bl_int (P : Pr) (Φ : Cal) (p : P2) (i : Bool) (k : Int) : bin2 P Φ p (.bl i) (.int k) = .opt (op2 p (.bl i) (.int k)) := bin2_op P Φ p _ _ rfl rfl
@[simp] theorem bin2_bl_bl (P : Pr) (Φ : Cal) (p : P2) (i : Bool) (k : Bool) : bin2 P Φ p (.bl i) (.bl k) = .opt (op2 p (.bl i) (.bl k)) := bin2_op P Φ p _ _ rfl rfl
@[simp] theorem bin2_str_str (P : Pr) (Φ : Cal) (p : P2) (i : List Nat) (k : List Nat) : bin2 P Φ p (.str i) (.str k) = .opt (op2 p (.str i) (.str k)) := bin2_op P Φ p _ _ rfl rfl
@[simp] theorem bin2_tup_tup (P : Pr) (Φ : Cal) (p : P2) (i : List D) (k : List D) : bin2 P Φ p (.tup i) (.tup k) = .opt (op2 p (.tup i) (.tup k)) := bin2_op P Φ p _ _ rfl rfl
@[simp] theorem bin2_lst_lst (P : Pr) (Φ : Cal) (p : P2) (i : List D) (k : List D) : bin2 P Φ p (.lst i) (.lst k) = .opt (op2 p (.lst i) (.lst k)) := bin2_op P Φ p _ _ rfl rfl
/-! ints -/
section
variable (P : Pr) (i j : Int)
@[simp] theorem op_add : op2 .add (.int i) (.int j) = some (.v (.int (i + j))) := rfl
@[simp] theorem op_sub : op2 .sub (.int i) (.int j) = some (.v (.int (i - j))) := rfl
@[simp] theorem op_mul : op2 .mul (.int i) (.int j) = if sm i && sm j then some (.v (.int (i * j))) else none := rfl
@[simp] theorem op_fdiv : op2 .fdiv (.int i) (.int j) = if 0 < j ∧ j < 1073741824 then some (.v (.int (i / j))) else none := rfl
@[simp] theorem op_mod : op2 .mod (.int i) (.int j) = if 0 < j then some (.v (.int (i % j))) else none := rfl
@[simp] theorem op_pow : op2 .pow (.int i) (.int j) = if 0 ≤ j ∧ j ≤ 100 ∧ i.natAbs < 2 ^ 1000 then some (.v (.int (i ^ j.toNat))) else none := rfl
@[simp] theorem op_lt : op2 .lt (.int i) (.int j) = some (.v (.bl (decide (i < j)))) := rfl
@[simp] theorem op_le : op2 .le (.int i) (.int j) = some (.v (.bl (decide (i ≤ j)))) := rfl
@[simp] theorem op_gt : op2 .gt (.int i) (.int j) = some (.v (.bl (decide (j < i)))) := rfl
@[simp] theorem op_ge : op2 .ge (.int i) (.int j) = some (.v (.bl (decide (j ≤ i)))) := rfl
@[simp] theorem op_max2 : op2 .max2 (.int i) (.int j) = some (.v (.int (if j > i then j else i))) := rfl
@[simp] theorem op_min2 : op2 .min2 (.int i) (.int j) = some (.v (.int (if j < i then j else i))) := rfl
@[simp] theorem op_int : op1 P .int (.int i) = some (.v (.int i)) := rfl
@[simp] theorem op_intb (b : Bool) : op1 P .int (.bl b) = some (.v (.int (b2i b))) := rfl
@[simp] theorem op_abs : op1 P .abs (.int i) = some (.v (.int (if i < 0 then -i else i))) := rfl
@[simp] theorem op_neg : op1 P .neg (.int i) = some (.v (.int (-i))) := rfl
@[simp] theorem op_len_lst (xs : List D) : op1 P .len (.lst xs) = some (.v (.int xs.length)) := rfl
@[simp] theorem op_len_tup (xs : List D) : op1 P .len (.tup xs) = some (.v (.int xs.length)) := rfl
@[simp] theorem op_len_scr (xs : List Int) : op1 P .len (.scr xs) = some (.v (.int xs.length)) := rfl
@[simp] theorem op_not (d : D) : op1 P .not d = d.truth.map fun b => .v (.bl (!b)) := by cases d <;> rfl
@[simp] theorem op_repr (d : D) : op1 P .repr d = (P.rep d).map fun s => .v (.str s) := by cases d <;> rfl
@[simp] theorem ix_lst (xs : List D) : opIx (.lst xs) (.int i) = (atI xs i).map .v := rfl
@[simp] theorem ix_tup (xs : List D) : opIx (.tup xs) (.int i) = (atI xs i).map .v := rfl
@[simp] theorem ix_scr (xs : List Int) : opIx (.scr xs) (.int i) = (atI xs i).map fun z => .v (.int z) := rfl
@[simp] theorem truth_bl (b : Bool) : (D.bl b).truth = some b := rfl
end
end Mi
set_option linter.all false
set_option maxRecDepth 100000
set_option maxHeartbeats 4000000
namespace K00
open Mi
def pr : Pr where
  toClsG := g
  fn := fns
  con _ := none
  init _ := none
  slots _ := 0
  attr _ _ := none
  meth _ _ := none
  spec _ _ := none
  val := 0
  rep := repOf
theorem run1 {n f : Nat} {fn : Fn} (h : fns f = some fn) (ds : List D) (S : Store) : Mi.run pr (n + 1) f ds S = runFn pr (Mi.run pr n) fn ds S := by
  show (match pr.fn f with | some fn => runFn pr (Mi.run pr n) fn ds S | none => .bad) = _
  rw [show pr.fn f = some fn from h]
theorem take_big {Φ : Cal} {S : Store} {i : Nat} {a b c u : Int} (hS : S[i]? = some (.lst [.int a, .int b, .int c])) (ha : 0 < a) (hu : 0 < u) (hu2 : u < 1073741824) :
    runFn pr Φ f__law_take [.ref i, .int u] S = .ok (.int (a % u)) (S.set i (.lst [.int (a / u), .int b, .int c])) := by
  obtain ⟨hi, hG⟩ := List.getElem?_eq_some_iff.mp hS
  rw [runFn_app _ _ _ _ _ rfl]
  simp [f__law_take, entry, hG, ha, hu, hu2, hi, Mi.atI, Mi.ixN]
theorem atN {α : Type} {xs : List α} {i : Nat} {x : α} (h : xs[i]? = some x) : Mi.atI xs (i : Int) = some x := by
  have hi := (List.getElem?_eq_some_iff.mp h).1
  unfold Mi.atI Mi.ixN
  rw [if_pos (by omega), if_pos (by omega)]
  exact h
theorem at0 {α : Type} (x : α) (xs : List α) : Mi.atI (x :: xs) 0 = some x := atN (i := 0) rfl
theorem at1 {α : Type} (x y : α) (xs : List α) : Mi.atI (x :: y :: xs) 1 = some y := atN (i := 1) rfl
theorem at2 {α : Type} (x y z : α) (xs : List α) : Mi.atI (x :: y :: z :: xs) 2 = some z := atN (i := 2) rfl
theorem ix30 : Mi.ixN 3 0 = some 0 := rfl
theorem ix32 : Mi.ixN 3 2 = some 2 := rfl
theorem sm_of {i : Int} (h1 : -(2 ^ 300) < i) (h2 : i < 2 ^ 300) : sm i = true := by
  refine decide_eq_true ?_
  have h3 : i.natAbs < 2 ^ 300 := by omega
  exact Nat.lt_trans h3 (Nat.pow_lt_pow_right (by decide) (by decide))
theorem prime_of (c : Int) : ∃ p : Int, Mi.atI [D.int 2147483647, D.int 2147483629, D.int 2147483587, D.int 2147483579, D.int 2147483563] (c % 5) = some (.int p) ∧ 0 < p ∧ p < 2147483648 := by
  have h1 : 0 ≤ c % 5 := Int.emod_nonneg _ (by decide)
  have h2 : c % 5 < 5 := Int.emod_lt_of_pos _ (by decide)
  have : c % 5 = 0 ∨ c % 5 = 1 ∨ c % 5 = 2 ∨ c % 5 = 3 ∨ c % 5 = 4 := by omega
  rcases this with h | h | h | h | h <;> rw [h]
  · exact ⟨2147483647, rfl, by decide, by decide⟩
  · exact ⟨2147483629, rfl, by decide, by decide⟩
  · exact ⟨2147483587, rfl, by decide, by decide⟩
  · exact ⟨2147483579, rfl, by decide, by decide⟩
  · exact ⟨2147483563, rfl, by decide, by decide⟩
theorem take_small {Φ : Cal} {S : Store} {i : Nat} {a b c u : Int} (hS : S[i]? = some (.lst [.int a, .int b, .int c])) (ha : ¬ 0 < a) (hb : 0 ≤ b) (hb2 : b < 2 ^ 62) (hc : 0 ≤ c) (hc2 : c < 2 ^ 63) (hu : 0 < u) :
    ∃ r, runFn pr Φ f__law_take [.ref i, .int u] S = .ok (.int (r % u)) (S.set i (.lst [.int a, .int b, .int (c + 1)])) := by
  obtain ⟨hi, hG⟩ := List.getElem?_eq_some_iff.mp hS
  obtain ⟨p, hp, hp1, hp2⟩ := prime_of (c + 1)
  generalize hk : c + 1 = k at hp
  have hk0 : 0 ≤ k := by omega
  have hk1 : k < 2 ^ 64 := by omega
  have s1 : sm 98017 = true := by decide +kernel
  have s2 : sm 181 = true := by decide +kernel
  have s3 : sm k = true := sm_of (by omega) (by omega)
  have s4 : sm (98017 * k) = true := sm_of (by omega) (by omega)
  have q0 : 0 ≤ 98017 * k * k := Int.mul_nonneg (by omega) hk0
  have q1 : 98017 * k * k ≤ 98017 * k * 2 ^ 64 := Int.mul_le_mul_of_nonneg_left (by omega) (by omega)
  have s5 : (b + 98017 * k * k + 131).natAbs < 2 ^ 1000 := by
    have h3 : (b + 98017 * k * k + 131).natAbs < 2 ^ 200 := by omega
    exact Nat.lt_trans h3 (Nat.pow_lt_pow_right (by decide) (by decide))
  generalize hw : (b + 98017 * k * k + 131) ^ 3 % p = w
  have w0 : 0 ≤ w := by rw [← hw]; exact Int.emod_nonneg _ (by omega)
  have w1 : w < p := by rw [← hw]; exact Int.emod_lt_of_pos _ hp1
  have v0 : 0 ≤ w % 10159 := Int.emod_nonneg _ (by decide)
  have v1 : w % 10159 < 10159 := Int.emod_lt_of_pos _ (by decide)
  have s6 : sm w = true := sm_of (by omega) (by omega)
  have s7 : sm (w % 10159 + 181 * k) = true := sm_of (by omega) (by omega)
  refine ⟨(w * (w % 10159 + 181 * k)) % 2305843009213693907 / 167, ?_⟩
  rw [runFn_app _ _ _ _ _ rfl]
  simp [f__law_take, entry, hG, ha, hu, hi, at0, at1, at2, ix30, ix32, hk, hp, hp1, s1, s2, s3, s4, s5, hw, s6, s7, fresh, SZ]
end K00
set_option linter.all false
set_option maxRecDepth 100000
set_option maxHeartbeats 4000000
namespace K00
open Mi
/-- the pot at i, drawn from at most m times -/
def Pot (S : Store) (i m : Nat) : Prop := ∃ a b c : Int, S[i]? = some (.lst [.int a, .int b, .int c]) ∧ 0 ≤ b ∧ b < 2 ^ 62 ∧ 0 ≤ c ∧ c ≤ m
theorem take_ok {n : Nat} {S : Store} {i m : Nat} {u : Int} (h : Pot S i m) (hm : m < 1000000) (hu : 0 < u) (hu2 : u < 1073741824) :
    ∃ r S', Mi.run pr (n + 1) 1 [.ref i, .int u] S = .ok (.int r) S' ∧ 0 ≤ r ∧ r < u ∧ Pot S' i (m + 1) := by
  obtain ⟨a, b, c, hS, hb, hb2, hc, hc2⟩ := h
  have hi := (List.getElem?_eq_some_iff.mp hS).1
  rw [run1 (fn := f__law_take) rfl]
  by_cases ha : 0 < a
  · exact ⟨_, _, take_big hS ha hu hu2, Int.emod_nonneg _ (by omega), Int.emod_lt_of_pos _ hu, _, _, _, List.getElem?_set_self hi, hb, hb2, hc, by omega⟩
  · obtain ⟨r, hr⟩ := take_small (Φ := Mi.run pr n) hS ha hb hb2 hc (by omega) hu
    exact ⟨_, _, hr, Int.emod_nonneg _ (by omega), Int.emod_lt_of_pos _ hu, _, _, _, List.getElem?_set_self hi, hb, hb2, by omega, by omega⟩
theorem at_of {α : Type} {xs : List α} {r : Int} (h0 : 0 ≤ r) (h1 : r < xs.length) : ∃ x ∈ xs, Mi.atI xs r = some x := by
  have hr : r.toNat < xs.length := by omega
  refine ⟨xs[r.toNat], List.getElem_mem hr, ?_⟩
  have := atN (i := r.toNat) (List.getElem?_eq_getElem hr)
  rwa [Int.toNat_of_nonneg h0] at this
/-- one of a list, drawn -/
theorem of_ok {n : Nat} {S : Store} {i m : Nat} {xs : List D} (h : Pot S i m) (hm : m < 1000000) (h0 : xs ≠ []) (hl : xs.length < 1000000) :
    ∃ x ∈ xs, ∃ S', Mi.run pr (n + 2) 2 [.ref i, .lst xs] S = .ok x S' ∧ Pot S' i (m + 1) := by
  have hpos : 0 < xs.length := List.length_pos_iff.mpr h0
  obtain ⟨r, S', h1, h2, h3, h4⟩ := take_ok (n := n) (u := (xs.length : Int)) h hm (by omega) (by omega)
  obtain ⟨x, hx, hat⟩ := at_of h2 h3
  refine ⟨x, hx, S', ?_, h4⟩
  rw [run1 (fn := f__law_of) rfl, runFn_app _ _ _ _ _ rfl]
  simp [f__law_of, entry, h1, hat]
/-- the pot's making -/
theorem pot_ok {n : Nat} {S : Store} {ns : List Int} {p : Int} (h0 : 0 ≤ p) (h1 : p < 1000) : ∃ S', Mi.run pr (n + 1) 0 [.scr ns, .int p] S = .ok (.ref S.length) S' ∧ Pot S' S.length 0 := by
  rw [run1 (fn := f__law_pot) rfl, runFn_app _ _ _ _ _ rfl]
  have cell : ∃ z, ev pr (Mi.run pr n) (.ite (.p2 .lt (.var 1) (.p1 .len (.var 0))) (.ix (.var 0) (.var 1)) (.p2 .add (.p2 .mul (.lit (.int 331)) (.var 1)) (.lit (.int 171)))) [some (.v (.scr ns)), some (.v (.int p)), none, none, none] S = .ok (.v (.int z)) [some (.v (.scr ns)), some (.v (.int p)), none, none, none] S := by
    have s1 : sm 331 = true := by decide +kernel
    have s2 : sm p = true := sm_of (by omega) (by omega)
    by_cases hp : p < (ns.length : Int)
    · obtain ⟨x, _, hat⟩ := at_of h0 hp
      exact ⟨x, by simp [hp, hat]⟩
    · exact ⟨331 * p + 171, by simp [hp, s1, s2]⟩
  obtain ⟨z, hz⟩ := cell
  generalize hbig : (if z < 0 then -z else z) = y
  have p1 : op2 .pow (.int 10) (.int 60) = some (.v (.int 1000000000000000000000000000000000000000000000000000000000000)) := rfl
  have p2 : op2 .pow (.int 1000000000000000000000000000000000000000000000000000000000000) (.int 5) = some (.v (.int 1000000000000000000000000000000000000000000000000000000000000000000000000000000000000000000000000000000000000000000000000000000000000000000000000000000000000000000000000000000000000000000000000000000000000000000000000000000000000000000000000000000000000000000000000000000000000000000000000000000000000)) := rfl
  have p3 : op2 .pow (.int 10) (.int 18) = some (.v (.int 1000000000000000000)) := rfl
  have p4 : (0 : Int) < 1000000000000000000000000000000000000000000000000000000000000000000000000000000000000000000000000000000000000000000000000000000000000000000000000000000000000000000000000000000000000000000000000000000000000000000000000000000000000000000000000000000000000000000000000000000000000000000000000000000000000 := by decide
  have y0 : 0 ≤ y % 1000000000000000000000000000000000000000000000000000000000000000000000000000000000000000000000000000000000000000000000000000000000000000000000000000000000000000000000000000000000000000000000000000000000000000000000000000000000000000000000000000000000000000000000000000000000000000000000000000000000000 := Int.emod_nonneg _ (by decide)
  have y1 : y % 1000000000000000000000000000000000000000000000000000000000000000000000000000000000000000000000000000000000000000000000000000000000000000000000000000000000000000000000000000000000000000000000000000000000000000000000000000000000000000000000000000000000000000000000000000000000000000000000000000000000000 < 1000000000000000000000000000000000000000000000000000000000000000000000000000000000000000000000000000000000000000000000000000000000000000000000000000000000000000000000000000000000000000000000000000000000000000000000000000000000000000000000000000000000000000000000000000000000000000000000000000000000000 := Int.emod_lt_of_pos _ p4
  have s3 : sm (y % 1000000000000000000000000000000000000000000000000000000000000000000000000000000000000000000000000000000000000000000000000000000000000000000000000000000000000000000000000000000000000000000000000000000000000000000000000000000000000000000000000000000000000000000000000000000000000000000000000000000000000) = true := by
    refine decide_eq_true ?_
    have e : (y % 1000000000000000000000000000000000000000000000000000000000000000000000000000000000000000000000000000000000000000000000000000000000000000000000000000000000000000000000000000000000000000000000000000000000000000000000000000000000000000000000000000000000000000000000000000000000000000000000000000000000000).natAbs < 1000000000000000000000000000000000000000000000000000000000000000000000000000000000000000000000000000000000000000000000000000000000000000000000000000000000000000000000000000000000000000000000000000000000000000000000000000000000000000000000000000000000000000000000000000000000000000000000000000000000000 := by omega
    exact Nat.lt_trans e (by decide +kernel)
  generalize hv : y % 1000000000000000000000000000000000000000000000000000000000000000000000000000000000000000000000000000000000000000000000000000000000000000000000000000000000000000000000000000000000000000000000000000000000000000000000000000000000000000000000000000000000000000000000000000000000000000000000000000000000000 = v at s3
  have s4 : ∀ b : Bool, sm (b2i b) = true := by decide +kernel
  generalize hx : z % 2305843009213693951 = x
  have x0 : 0 ≤ x := by rw [← hx]; exact Int.emod_nonneg _ (by decide)
  have x1 : x < 2305843009213693951 := by rw [← hx]; exact Int.emod_lt_of_pos _ (by decide)
  have s5 : sm x = true := sm_of (by omega) (by omega)
  have s6 : sm 77503 = true := by decide +kernel
  have s7 : sm 8017 = true := by decide +kernel
  have s8 : sm p = true := sm_of (by omega) (by omega)
  have s9 : sm (8017 * p) = true := sm_of (by omega) (by omega)
  refine ⟨S ++ [.lst [.int (v * b2i (decide (1000000000000000000 ≤ y))), .int ((x * 77503 + 8017 * p * p + 223) % 2305843009213693921), .int 0]], ?_, _, _, _, List.getElem?_concat_length .., Int.emod_nonneg _ (by decide), ?_, by decide, by decide⟩
  · simp [f__law_pot, entry, hz, hbig, -op_pow, p1, p2, p3, p4, hv, s3, s4, hx, s5, s6, s7, s8, s9, SZ]
  · have := Int.emod_lt_of_pos (x * 77503 + 8017 * p * p + 223) (show (0 : Int) < 2305843009213693921 by decide)
    omega
end K00
set_option linter.all false
set_option maxRecDepth 100000
set_option maxHeartbeats 4000000
namespace K00
open Mi
def oddL : List D := [.non, .bl true, .bl false, .int 0, .int 1, .int (-1), .int 100000000, .str [], .str [97], .str [121, 101, 115], .str [45, 97], .tup [], .lst [], .dct [] [], .tup [.int 0], .tup [.tup []], .lst [.int 0], .tup [.int 1, .int 0], .str [65], .tup [.str [97]], .tup [.str [45, 97]], .tup [.str [97], .str [98]], .tup [.tup [.str [97]]], .tup [.non], .dct [.str [97]] [.int 1], .tup [.str [116, 111, 108, 100], .int 0], .tup [.bl true]]
theorem add_lst (a b : List D) : op2 .add (.lst a) (.lst b) = if (a ++ b).length ≤ SZ then some (.fr (.lst (a ++ b))) else none := rfl
theorem add_tup (a b : List D) : op2 .add (.tup a) (.tup b) = if (a ++ b).length ≤ SZ then some (.v (.tup (a ++ b))) else none := rfl
theorem add_str (a b : List Nat) : op2 .add (.str a) (.str b) = if a.length + b.length ≤ SZ then some (.v (.str (a ++ b))) else none := rfl
theorem pow8 : op2 .pow (.int 10) (.int 8) = some (.v (.int 100000000)) := rfl
theorem dct0 : opDct [] [] = some (.fr (.dct [] [])) := rfl
theorem dct1 : opDct [D.str [97]] [D.int 1] = some (.fr (.dct [.str [97]] [.int 1])) := rfl
theorem odd_ok {n : Nat} {S : Store} {i m : Nat} (h : Pot S i m) (hm : m < 1000000) : ∃ x ∈ oddL, ∃ S', Mi.run pr (n + 3) 4 [.ref i] S = .ok x S' ∧ Pot S' i (m + 1) := by
  obtain ⟨x, hx, S', h1, h2⟩ := of_ok (n := n) (xs := oddL) h hm (by decide) (by decide)
  refine ⟨x, hx, S', ?_, h2⟩
  unfold oddL at h1
  rw [run1 (fn := f__law_odd) rfl, runFn_app _ _ _ _ _ rfl]
  simp [f__law_odd, entry, -op_pow, pow8, newTup, fresh, SZ, dct0, dct1, add_lst, h1]
def intO (r : Res Mi.R) : Res (Option D) := Res.bind (β := Option D) r fun r e s => Res.bind (β := Option D) (deref r e s) fun d e s => match d with
  | .int i => .ok (some (.int i)) e s
  | _ => .bad
section
variable (P : Pr) (Φ : Cal) (e : Env) (s : Store)
theorem evO_var (i : Nat) : evO P Φ (.var i) e s = intO (ev P Φ (.var i) e s) := evO_some P Φ e s _ rfl
theorem evO_lit (d : D) : evO P Φ (.lit d) e s = intO (ev P Φ (.lit d) e s) := evO_some P Φ e s _ rfl
theorem evO_p1 (p : P1) (a : Ex) : evO P Φ (.p1 p a) e s = intO (ev P Φ (.p1 p a) e s) := evO_some P Φ e s _ rfl
theorem evO_p2 (p : P2) (a b : Ex) : evO P Φ (.p2 p a b) e s = intO (ev P Φ (.p2 p a b) e s) := evO_some P Φ e s _ rfl
theorem intO_int (i : Int) : intO (.ok (.v (.int i)) e s) = .ok (some (.int i)) e s := rfl
end
theorem sl_lo (xs : List D) (r : Int) : opSl (.tup xs) none (some (.int r)) = some (.v (.tup (Mi.cut xs none (some r)))) := rfl
theorem sl_hi (xs : List D) (r : Int) : opSl (.tup xs) (some (.int r)) none = some (.v (.tup (Mi.cut xs (some r) none))) := rfl
theorem sl_slo (xs : List Nat) (r : Int) : opSl (.str xs) none (some (.int r)) = some (.v (.str (Mi.cut xs none (some r)))) := rfl
theorem sl_shi (xs : List Nat) (r : Int) : opSl (.str xs) (some (.int r)) none = some (.v (.str (Mi.cut xs (some r) none))) := rfl
theorem i_tt (xs : List D) : isiL pr (.tup xs) [.tuple] = some true := rfl
theorem i_st (s : List Nat) : isiL pr (.str s) [.tuple] = some false := rfl
theorem i_sb (s : List Nat) : isiL pr (.str s) [.bool] = some false := rfl
theorem i_si (s : List Nat) : isiL pr (.str s) [.int] = some false := rfl
theorem i_ss (s : List Nat) : isiL pr (.str s) [.str] = some true := rfl
theorem i_it (s : Int) : isiL pr (.int s) [.tuple] = some false := rfl
theorem i_ib (s : Int) : isiL pr (.int s) [.bool] = some false := rfl
theorem i_ii (s : Int) : isiL pr (.int s) [.int] = some true := rfl
def strL (s : List Nat) : List D := [.str (s ++ [120]), .str (Mi.cut s none (some (-1))), .str (45 :: s), .str (Mi.cut s (some 1) none), .str (s.map up1), .lst [.str s], .str [97], .str [98], .non]
theorem bent_str {n : Nat} {S : Store} {i m : Nat} {s : List Nat} (h : Pot S i m) (hm : m < 1000000) (hl : s.length < 1000) (ha : (s.all fun c => decide (c < 128)) = true) :
    ∃ x ∈ strL s, ∃ S', Mi.run pr (n + 3) 5 [.ref i, .str s] S = .ok x S' ∧ Pot S' i (m + 1) := by
  obtain ⟨x, hx, S', h1, h2⟩ := of_ok (n := n) (xs := strL s) h hm (fun z => nomatch z) (by show 9 < 1000000; decide)
  refine ⟨x, hx, S', ?_, h2⟩
  unfold strL at h1
  have up : opM0 .upper (.str s) = some (.v (.str (s.map up1))) := by
    show (if s.length ≤ 5592405 ∧ (s.all fun c => decide (c < 128)) = true then _ else _) = _
    rw [if_pos ⟨by omega, ha⟩]
  have l1 : s.length + 1 ≤ 16777216 := by omega
  have l2 : 1 + s.length ≤ 16777216 := by omega
  rw [run1 (fn := f__law_bent) rfl, runFn_app _ _ _ _ _ rfl]
  simp [f__law_bent, entry, i_st, i_sb, i_si, i_ss, evO_p1, evO_lit, intO_int, newTup, fresh, SZ, add_str, sl_slo, sl_shi, up, l1, l2, h1]
def intL (s : Int) : List D := [.int (s + 1), .int (s - 1), .bl (decide (s = 1)), .int (-s), .str [49], .int 0, .non, .tup [.int s]]
theorem bent_int {n : Nat} {S : Store} {i m : Nat} {s : Int} (h : Pot S i m) (hm : m < 1000000) :
    ∃ x ∈ intL s, ∃ S', Mi.run pr (n + 3) 5 [.ref i, .int s] S = .ok x S' ∧ Pot S' i (m + 1) := by
  obtain ⟨x, hx, S', h1, h2⟩ := of_ok (n := n) (xs := intL s) h hm (fun z => nomatch z) (by show 8 < 1000000; decide)
  refine ⟨x, hx, S', ?_, h2⟩
  unfold intL at h1
  have eq1 : op2 .eq (.int s) (.int 1) = some (.v (.bl (decide (s = 1)))) := rfl
  rw [run1 (fn := f__law_bent) rfl, runFn_app _ _ _ _ _ rfl]
  simp [f__law_bent, entry, i_it, i_ib, i_ii, eq1, newTup, fresh, SZ, h1]
end K00
set_option linter.all false
set_option maxRecDepth 100000
set_option maxHeartbeats 4000000
namespace K00
open Mi
theorem Pot.mono {S : Store} {i m k : Nat} (h : Pot S i m) (l : m ≤ k) : Pot S i k := by
  obtain ⟨a, b, c, h1, h2, h3, h4, h5⟩ := h
  exact ⟨a, b, c, h1, h2, h3, h4, by omega⟩
theorem cut_len {α : Type} (xs : List α) (lo hi : Option Int) : (Mi.cut xs lo hi).length ≤ xs.length := by
  unfold Mi.cut
  simp
  omega
theorem list_tup (xs : List D) : op1 pr .list (.tup xs) = some (.fr (.lst xs)) := rfl
theorem rev_tup (xs : List D) : op1 pr .rev (.tup xs) = some (.v (.tup xs.reverse)) := rfl
def tupE (xs : List D) : List D := [.lst xs, .tup (Mi.cut xs (some 1) none), .tup (Mi.cut xs none (some (-1))), .tup (xs ++ Mi.cut xs (some (-1)) none), .tup xs.reverse, .tup [], .non, .tup (xs ++ [.int 0])]
def tupL (R : D → List D) (xs : List D) : List D := ((List.range xs.length).flatMap fun (r : Nat) => (R (xs.getD r .non)).map fun y => .tup (Mi.cut xs none (some (r : Int)) ++ [y] ++ Mi.cut xs (some ((r : Int) + 1)) none)) ++ tupE xs
theorem ne_nil {xs : List D} (h0 : xs ≠ []) (hp : plains 59 xs = true) : op2 .ne (.tup xs) (.tup []) = some (.v (.bl true)) := by
  show (if (D.tup xs).plain 60 && (D.tup []).plain 60 then some (Mi.R.v (.bl (!(D.tup xs).eqv (.tup [])))) else none) = _
  have e1 : (D.tup xs).plain 60 = true := by rw [D.plain]; exact hp
  have e2 : (D.tup []).plain 60 = true := by rw [D.plain, plains]
  have e3 : (D.tup xs).eqv (.tup []) = false := by
    rw [D.eqv]
    cases xs with
    | nil => exact absurd rfl h0
    | cons x r => rfl
  rw [e1, e2, e3]
  rfl
theorem bent_tup {n : Nat} {S : Store} {i m K : Nat} {xs : List D} {R : D → List D} (h : Pot S i m) (hm : m + K + 5 < 1000000) (h0 : xs ≠ []) (hl : xs.length < 1000) (hp : plains 59 xs = true)
    (ih : ∀ x ∈ xs, ∀ S m', Pot S i m' → m' ≤ m + 2 → ∃ y ∈ R x, ∃ S', Mi.run pr (n + 3) 5 [.ref i, x] S = .ok y S' ∧ Pot S' i (m' + K)) :
    ∃ x ∈ tupL R xs, ∃ S', Mi.run pr (n + 4) 5 [.ref i, .tup xs] S = .ok x S' ∧ Pot S' i (m + K + 2) := by
  have hpos : 0 < xs.length := List.length_pos_iff.mpr h0
  obtain ⟨r6, S1, h1, h2, h3, h4⟩ := take_ok (n := n + 2) (u := 6) h (by omega) (by decide) (by decide)
  have hne := ne_nil h0 hp
  by_cases hr : 0 < r6
  · obtain ⟨r, S2, k1, k2, k3, k4⟩ := take_ok (n := n + 2) (u := (xs.length : Int)) h4 (by omega) (by omega) (by omega)
    have hrn : r.toNat < xs.length := by omega
    have hat : Mi.atI xs r = some xs[r.toNat] := by
      have := atN (i := r.toNat) (List.getElem?_eq_getElem hrn)
      rwa [Int.toNat_of_nonneg k2] at this
    obtain ⟨y, hy, S3, q1, q2⟩ := ih xs[r.toNat] (List.getElem_mem hrn) S2 (m + 2) k4 (Nat.le_refl _)
    refine ⟨.tup (Mi.cut xs none (some r) ++ [y] ++ Mi.cut xs (some (r + 1)) none), ?_, S3, ?_, q2.mono (by omega)⟩
    · refine List.mem_append_left _ (List.mem_flatMap.mpr ⟨r.toNat, List.mem_range.mpr hrn, List.mem_map.mpr ⟨y, ?_, ?_⟩⟩)
      · rw [List.getD_eq_getElem?_getD, List.getElem?_eq_getElem hrn]
        exact hy
      · rw [Int.toNat_of_nonneg k2]
    · have c1 := cut_len xs none (some r)
      have c2 := cut_len xs (some (r + 1)) none
      have l1 : (Mi.cut xs none (some r)).length + 1 ≤ 16777216 := by omega
      have l2 : (Mi.cut xs none (some r)).length + ((Mi.cut xs (some (r + 1)) none).length + 1) ≤ 16777216 := by omega
      rw [run1 (fn := f__law_bent) rfl, runFn_app _ _ _ _ _ rfl]
      simp [f__law_bent, entry, i_tt, hne, h1, hr, k1, hat, q1, evO_var, evO_p2, intO_int, newTup, fresh, SZ, add_tup, sl_lo, sl_hi, l1, l2]
  · obtain ⟨x, hx, S2, k1, k2⟩ := of_ok (n := n + 1) (xs := tupE xs) h4 (by omega) (fun z => nomatch z) (by show 8 < 1000000; decide)
    refine ⟨x, List.mem_append_right _ hx, S2, ?_, k2.mono (by omega)⟩
    unfold tupE at k1
    have c1 := cut_len xs (some (-1)) none
    have l1 : xs.length + (Mi.cut xs (some (-1)) none).length ≤ 16777216 := by omega
    have l2 : xs.length + 1 ≤ 16777216 := by omega
    rw [run1 (fn := f__law_bent) rfl, runFn_app _ _ _ _ _ rfl]
    simp [f__law_bent, entry, i_tt, hne, h1, hr, evO_lit, evO_p1, intO_int, newTup, fresh, SZ, add_tup, sl_lo, sl_hi, list_tup, rev_tup, l1, l2, k1]
end K00
set_option linter.all false
set_option maxRecDepth 100000
set_option maxHeartbeats 4000000
namespace K00
open Mi
def markL (c : Nat) : List D := (List.range 42).map fun j => D.bl (decide (c = j + 1))
def errL (v : D) : List D := (List.range 42).map fun j => D.exc (j + 1) v
theorem isi_own {c k : Nat} {v : D} (hc : c < 43) (hk : k + 1 < 43) : isiL pr (.exc c v) [.own (k + 1)] = some (decide (c = k + 1)) := by
  have e : D.isi pr.toClsG (.exc c v) (.own (k + 1)) = some (decide (c = k + 1)) := by
    show (if (decide (k + 1 < 43)) && (decide (c < 43)) then some (((if c = 0 then [0] else [c, 0]) : List Nat).contains (k + 1)) else none) = _
    rw [decide_eq_true hk, decide_eq_true hc]
    by_cases h0 : c = 0
    · subst h0
      simp
    · simp [h0]
      exact eq_comm
  show (match D.isi pr.toClsG (.exc c v) (.own (k + 1)) with | some true => some true | some false => isiL pr (.exc c v) [] | none => none) = _
  rw [e]
  cases decide (c = k + 1) <;> rfl
theorem errors_ok {Φ : Cal} {S : Store} {v : D} : runFn pr Φ f__law_errors [v] S = .ok (.lst (errL v)) S := by
  kernel_rfl
theorem marks_ok {Φ : Cal} {S : Store} {c : Nat} {v : D} (hc : c < 43) : runFn pr Φ f__law_marks [.exc c v] S = .ok (.lst (markL c)) S := by
  have h : ∀ k, k + 1 < 43 → isiL pr (.exc c v) [.own (k + 1)] = some (decide (c = k + 1)) := fun k hk => isi_own hc hk
  have e : markL c = [.bl (decide (c = 1)), .bl (decide (c = 2)), .bl (decide (c = 3)), .bl (decide (c = 4)), .bl (decide (c = 5)), .bl (decide (c = 6)), .bl (decide (c = 7)), .bl (decide (c = 8)), .bl (decide (c = 9)), .bl (decide (c = 10)), .bl (decide (c = 11)), .bl (decide (c = 12)), .bl (decide (c = 13)), .bl (decide (c = 14)), .bl (decide (c = 15)), .bl (decide (c = 16)), .bl (decide (c = 17)), .bl (decide (c = 18)), .bl (decide (c = 19)), .bl (decide (c = 20)), .bl (decide (c = 21)), .bl (decide (c = 22)), .bl (decide (c = 23)), .bl (decide (c = 24)), .bl (decide (c = 25)), .bl (decide (c = 26)), .bl (decide (c = 27)), .bl (decide (c = 28)), .bl (decide (c = 29)), .bl (decide (c = 30)), .bl (decide (c = 31)), .bl (decide (c = 32)), .bl (decide (c = 33)), .bl (decide (c = 34)), .bl (decide (c = 35)), .bl (decide (c = 36)), .bl (decide (c = 37)), .bl (decide (c = 38)), .bl (decide (c = 39)), .bl (decide (c = 40)), .bl (decide (c = 41)), .bl (decide (c = 42))] := rfl
  rw [e, runFn_app _ _ _ _ _ rfl]
  simp [f__law_marks, entry, fresh, SZ, add_lst, h 0 (by decide), h 1 (by decide), h 2 (by decide), h 3 (by decide), h 4 (by decide), h 5 (by decide), h 6 (by decide), h 7 (by decide), h 8 (by decide), h 9 (by decide), h 10 (by decide), h 11 (by decide), h 12 (by decide), h 13 (by decide), h 14 (by decide), h 15 (by decide), h 16 (by decide), h 17 (by decide), h 18 (by decide), h 19 (by decide), h 20 (by decide), h 21 (by decide), h 22 (by decide), h 23 (by decide), h 24 (by decide), h 25 (by decide), h 26 (by decide), h 27 (by decide), h 28 (by decide), h 29 (by decide), h 30 (by decide), h 31 (by decide), h 32 (by decide), h 33 (by decide), h 34 (by decide), h 35 (by decide), h 36 (by decide), h 37 (by decide), h 38 (by decide), h 39 (by decide), h 40 (by decide), h 41 (by decide)]
theorem plains_bl (n : Nat) : ∀ l : List Bool, plains n (l.map .bl) = true
  | [] => by rw [List.map_nil, plains]
  | b :: l => by
    rw [List.map_cons, plains, plains_bl n l]
    cases n <;> rfl
theorem eqvs_bl : ∀ l : List Bool, eqvs (l.map .bl) (l.map .bl) = true
  | [] => rfl
  | b :: l => by
    rw [List.map_cons, eqvs, eqvs_bl l]
    show ((b == b) && true) = true
    simp
theorem ne_bls (l : List Bool) : op2 .ne (.lst (l.map .bl)) (.lst (l.map .bl)) = some (.v (.bl false)) := by
  show (if (D.lst (l.map .bl)).plain 60 && (D.lst (l.map .bl)).plain 60 then some (Mi.R.v (.bl (!(D.lst (l.map .bl)).eqv (.lst (l.map .bl))))) else none) = _
  have e1 : (D.lst (l.map .bl)).plain 60 = true := by rw [D.plain]; exact plains_bl 59 l
  have e3 : (D.lst (l.map .bl)).eqv (.lst (l.map .bl)) = true := by rw [D.eqv]; exact eqvs_bl l
  rw [e1, e3]
  rfl
theorem ne_str (s : List Nat) : op2 .ne (.str s) (.str s) = some (.v (.bl false)) := by
  show (if (D.str s).plain 60 && (D.str s).plain 60 then some (Mi.R.v (.bl (!(D.str s).eqv (.str s)))) else none) = _
  have e1 : (D.str s).plain 60 = true := rfl
  have e3 : (D.str s).eqv (.str s) = true := by
    rw [D.eqv]
    exact decide_eq_true rfl
  rw [e1, e3]
  rfl
/-- [place == at for place in range(42)] -/
theorem lc_loop {Φ : Cal} {S : Store} {a b c d f h : Option Sl} {k : Int} : ∀ (n : Nat) (lo : Int), lcLoop [7] (bindT (.nm 7)) (evC pr Φ .omit) (M.bind (ev pr Φ (.p2 .eq (.var 7) (.var 5))) esc) (rangeL lo n) [a, b, c, d, f, some (.v (.int k)), h, none] S = .ok ((List.range n).map fun j => D.bl (decide (lo + (j : Nat) = k))) [a, b, c, d, f, some (.v (.int k)), h, none] S
  | 0, lo => by rw [rangeL, lcLoop]; rfl
  | n + 1, lo => by
    have eq1 : op2 .eq (.int lo) (.int k) = some (.v (.bl (decide (lo = k)))) := rfl
    have ih := lc_loop (Φ := Φ) (S := S) (a := a) (b := b) (c := c) (d := d) (f := f) (h := h) (k := k) n (lo + 1)
    have ec : ∀ e s, evC pr Φ .omit e s = .ok true e s := fun _ _ => rfl
    rw [rangeL, lcLoop, List.range_succ_eq_map]
    have bn : ∀ d e s, bindT (.nm 7) d e s = putVar 7 (.v d) e s := fun _ _ _ => rfl
    simp [bn, ec, eq1, wipeE, ih]
    intro j _
    omega
theorem lc_ok {Φ : Cal} {S : Store} {a b c d f h : Option Sl} {k : Nat} : ev pr Φ (.lc (.nm 7) (.rng1 (.lit (.int 42))) .omit (.p2 .eq (.var 7) (.var 5))) [a, b, c, d, f, some (.v (.int (k : Int))), h, none] S = .ok (.fr (.lst (markL (k + 1)))) [a, b, c, d, f, some (.v (.int (k : Int))), h, none] S := by
  have e : ((List.range 42).map fun j => D.bl (decide ((0 : Int) + (j : Nat) = (k : Int)))) = markL (k + 1) := by
    unfold markL
    refine List.map_congr_left fun j _ => ?_
    congr 1
    exact decide_eq_decide.mpr (by omega)
  have l := lc_loop (Φ := Φ) (S := S) (a := a) (b := b) (c := c) (d := d) (f := f) (h := h) (k := (k : Int)) 42 0
  rw [e] at l
  have t : -two62 ≤ (42 : Int) ∧ (42 : Int) < two62 := by decide
  have rl : (rangeL 0 42).length = 42 := rfl
  have sl : Tg.slots (.nm 7) = [7] := rfl
  simp [t, lcRun, rl, SZ, sl, wipeE, restE, l]
end K00
set_option linter.all false
set_option maxRecDepth 100000
set_option maxHeartbeats 4000000
namespace K00
open Mi
theorem isi_b {c : Nat} {v : D} (hc : c < 43) : isiL pr (.exc c v) [.own 0] = some true := by
  have e : D.isi pr.toClsG (.exc c v) (.own 0) = some true := by
    show (if (decide (0 < 43)) && (decide (c < 43)) then some (((if c = 0 then [0] else [c, 0]) : List Nat).contains 0) else none) = _
    rw [decide_eq_true hc]
    by_cases h0 : c = 0
    · subst h0
      rfl
    · simp [h0]
  show (match D.isi pr.toClsG (.exc c v) (.own 0) with | some true => some true | some false => isiL pr (.exc c v) [] | none => none) = _
  rw [e]
theorem isi_v {c : Nat} {v : D} (hc : c < 43) : isiL pr (.exc c v) [.valueError] = some true := by
  have e : D.isi pr.toClsG (.exc c v) .valueError = some true := by
    show (if true && (decide (c < 43)) then some true else none) = _
    rw [decide_eq_true hc]
    rfl
  show (match D.isi pr.toClsG (.exc c v) .valueError with | some true => some true | some false => isiL pr (.exc c v) [] | none => none) = _
  rw [e]
theorem at_ok {Φ : Cal} {c : Nat} {v : D} (hc : c < 43) (e : Env) (s : Store) : attrM pr Φ 0 (.exc c v) e s = .ok (.v v) e s := by
  show (if 0 = pr.val ∧ pr.isExc c = true then M.ret (Mi.R.v v) else M.bad) e s = _
  rw [if_pos ⟨rfl, decide_eq_true hc⟩]
  rfl
theorem mk_ok {Φ : Cal} {c : Nat} {v : D} (hc : c < 43) (e : Env) (s : Store) : make pr Φ c [v] e s = .ok (.v (.exc c v)) e s := by
  unfold make
  rw [if_pos (show pr.isExc c = true from decide_eq_true hc)]
  rfl
theorem markL_bl (c : Nat) : markL c = ((List.range 42).map fun j => decide (c = j + 1)).map .bl := by
  unfold markL
  rw [List.map_map]
  rfl
theorem ne_marks (c : Nat) : op2 .ne (.lst (markL c)) (.lst (markL c)) = some (.v (.bl false)) := by
  rw [markL_bl]
  exact ne_bls _
theorem any_marks : op1 pr .any (.lst (markL 0)) = some (.v (.bl false)) := rfl
/-- one error looked at -/
def body1 : List Sm := [.ite (.or (.p1 .not (.isi (.var 6) [(.own 0)])) (.p1 .not (.isi (.var 6) [.valueError]))) [.ret (.lit (.bl false))] [], .ite (.or (.p2 .ne (.p1 .repr (.at (.var 6) 0)) (.p1 .repr (.var 3))) (.p2 .ne (.call 7 [(.var 6)]) (.lc (.nm 7) (.rng1 (.lit (.int 42))) .omit (.p2 .eq (.var 7) (.var 5))))) [.ret (.lit (.bl false))] []]
theorem body1_ok {n : Nat} {S : Store} {a b c f : Option Sl} {v : D} {t : List Nat} {k : Nat} (hk : k < 42) (hr : repOf v = some t) (hv : v.isRef = false) (ho : v.isObj = false) :
    evB pr (Mi.run pr (n + 1)) body1 [a, b, c, some (.v v), f, some (.v (.int (k : Int))), some (.v (.exc (k + 1) v)), none] S = .ok .next [a, b, c, some (.v v), f, some (.v (.int (k : Int))), some (.v (.exc (k + 1) v)), none] S := by
  have hc : k + 1 < 43 := by omega
  have hm : Mi.run pr (n + 1) 7 [.exc (k + 1) v] S = .ok (.lst (markL (k + 1))) S := by
    rw [run1 (fn := f__law_marks) rfl]
    exact marks_ok hc
  have hp : pr.rep v = some t := hr
  have d1 : ∀ e s, deref (.v v) e s = .ok v e s := fun e s => deref_v v e s hv
  have d2 : ∀ p, un1 pr (Mi.run pr (n + 1)) p v = .opt (op1 pr p v) := fun p => un1_op _ _ p v ho
  simp [body1, isi_b hc, isi_v hc, at_ok hc, d1, d2, hp, ne_str, hm, -ev_lc', lc_ok, ne_marks, D.truth]
theorem loop1_ok {n : Nat} {S : Store} {a b c f : Option Sl} {v : D} {t : List Nat} (hr : repOf v = some t) (hv : v.isRef = false) (ho : v.isObj = false) : ∀ (m k : Nat) (x y : Option Sl), k + m = 42 → ∃ x' y', forLoop (bindT (.tp [.nm 5, .nm 6])) (evB pr (Mi.run pr (n + 1)) body1) (pairs k (((List.range m).map fun j => D.exc (k + j + 1) v))) [a, b, c, some (.v v), f, x, y, none] S = .ok .next [a, b, c, some (.v v), f, x', y', none] S
  | 0, k, x, y, _ => ⟨x, y, by rw [List.range_zero, List.map_nil, pairs, forLoop_nil]⟩
  | m + 1, k, x, y, h => by
    obtain ⟨x', y', ih⟩ := loop1_ok (n := n) (S := S) (a := a) (b := b) (c := c) (f := f) hr hv ho m (k + 1) (some (.v (.int (k : Int)))) (some (.v (.exc (k + 1) v))) (by omega)
    refine ⟨x', y', ?_⟩
    have e1 : ((List.range m).map fun j => D.exc (k + (j + 1) + 1) v) = (List.range m).map fun j => D.exc (k + 1 + j + 1) v := by
      refine List.map_congr_left fun j _ => ?_
      congr 1
      omega
    have hb := body1_ok (n := n) (S := S) (a := a) (b := b) (c := c) (f := f) (k := k) (by omega) hr hv ho
    rw [List.range_succ_eq_map, List.map_cons, List.map_map, pairs, forLoop_cons]
    have bd : bindT (.tp [.nm 5, .nm 6]) (.tup [.int (k : Int), .exc (k + 0 + 1) v]) [a, b, c, some (.v v), f, x, y, none] S = .ok () [a, b, c, some (.v v), f, some (.v (.int (k : Int))), some (.v (.exc (k + 1) v)), none] S := rfl
    rw [bd, Res.bind_ok, hb, Res.bind_ok]
    show forLoop _ _ (pairs (k + 1) ((List.range m).map ((fun j => D.exc (k + j + 1) v) ∘ Nat.succ))) _ _ = _
    have e2 : ((fun j => D.exc (k + j + 1) v) ∘ Nat.succ) = fun j => D.exc (k + (j + 1) + 1) v := rfl
    rw [e2, e1]
    exact ih
/-- one value looked at -/
def body2 : List Sm := [.for (.tp [(.nm 5), (.nm 6)]) (.enum (.call 6 [(.var 3)])) body1, .set 4 (.mk 0 [(.var 3)]), .ite (.or (.p2 .ne (.p1 .repr (.at (.var 4) 0)) (.p1 .repr (.var 3))) (.or (.p1 .not (.isi (.var 4) [.valueError])) (.p1 .any (.call 7 [(.var 4)])))) [.ret (.lit (.bl false))] []]
theorem body2_ok {n : Nat} {S : Store} {a b c f x y : Option Sl} {v : D} {t : List Nat} (hr : repOf v = some t) (hv : v.isRef = false) (ho : v.isObj = false) :
    ∃ f' x' y', evB pr (Mi.run pr (n + 1)) body2 [a, b, c, some (.v v), f, x, y, none] S = .ok .next [a, b, c, some (.v v), f', x', y', none] S := by
  obtain ⟨x', y', hl⟩ := loop1_ok (n := n) (S := S) (a := a) (b := b) (c := c) (f := f) hr hv ho 42 0 x y rfl
  have e1 : ((List.range 42).map fun j => D.exc (0 + j + 1) v) = errL v := by
    unfold errL
    refine List.map_congr_left fun j _ => ?_
    congr 1
    omega
  rw [e1] at hl
  have he : Mi.run pr (n + 1) 6 [v] S = .ok (.lst (errL v)) S := by
    rw [run1 (fn := f__law_errors) rfl]
    exact errors_ok
  have hm : Mi.run pr (n + 1) 7 [.exc 0 v] S = .ok (.lst (markL 0)) S := by
    rw [run1 (fn := f__law_marks) rfl]
    exact marks_ok (by decide)
  have hp : pr.rep v = some t := hr
  have d1 : ∀ e s, deref (.v v) e s = .ok v e s := fun e s => deref_v v e s hv
  have d2 : ∀ p, un1 pr (Mi.run pr (n + 1)) p v = .opt (op1 pr p v) := fun p => un1_op _ _ p v ho
  refine ⟨some (.v (.exc 0 v)), x', y', ?_⟩
  simp [body2, he, hl, mk_ok (c := 0) (v := v) (by decide), isi_v (c := 0) (v := v) (by decide), at_ok (c := 0) (v := v) (by decide), d1, d2, hp, ne_str, hm, any_marks, D.truth]
theorem loop2_ok {n : Nat} {S : Store} {a b c : Option Sl} : ∀ (vs : List D) (d f x y : Option Sl), (∀ v ∈ vs, (∃ t, repOf v = some t) ∧ v.isRef = false ∧ v.isObj = false) → ∃ d' f' x' y', forLoop (bindT (.nm 3)) (evB pr (Mi.run pr (n + 1)) body2) vs [a, b, c, d, f, x, y, none] S = .ok .next [a, b, c, d', f', x', y', none] S
  | [], d, f, x, y, _ => ⟨d, f, x, y, by rw [forLoop_nil]⟩
  | v :: vs, d, f, x, y, h => by
    obtain ⟨⟨t, hr⟩, hv, ho⟩ := h v List.mem_cons_self
    obtain ⟨f', x', y', hb⟩ := body2_ok (n := n) (S := S) (a := a) (b := b) (c := c) (f := f) (x := x) (y := y) hr hv ho
    obtain ⟨d2, f2, x2, y2, ih⟩ := loop2_ok (n := n) (S := S) (a := a) (b := b) (c := c) vs (some (.v v)) f' x' y' fun u hu => h u (List.mem_cons_of_mem _ hu)
    refine ⟨d2, f2, x2, y2, ?_⟩
    have bd : bindT (.nm 3) v [a, b, c, d, f, x, y, none] S = .ok () [a, b, c, some (.v v), f, x, y, none] S := rfl
    rw [forLoop_cons, bd, Res.bind_ok, hb, Res.bind_ok]
    exact ih
end K00
set_option linter.all false
set_option maxRecDepth 100000
set_option maxHeartbeats 4000000
namespace K00
open Mi
def row0 : List D := [.str [45, 97], .str [98]]
def row1 : List D := [.str [99, 117, 116], .int 1, .int 0, .str [97]]
def rows : List D := [.tup row0, .tup row1]
def three : List D := [.str [115, 101, 116], .int 2, .str [105, 102, 40, 97, 44, 98, 41]]
def leafR : D → List D
  | .str s => strL s
  | .int i => intL i
  | _ => []
def leafB : D → Bool
  | .str s => decide (s.length < 1000) && s.all fun c => decide (c < 128)
  | .int _ => true
  | _ => false
theorem bent_leaf {n : Nat} {S : Store} {i m : Nat} {x : D} (h : Pot S i m) (hm : m < 1000000) (hx : leafB x = true) : ∃ y ∈ leafR x, ∃ S', Mi.run pr (n + 3) 5 [.ref i, x] S = .ok y S' ∧ Pot S' i (m + 1) := by
  cases x with
  | str s =>
    simp only [leafB, Bool.and_eq_true, decide_eq_true_eq] at hx
    exact bent_str h hm hx.1 hx.2
  | int j => exact bent_int h hm
  | _ => cases hx
theorem bent_row {n : Nat} {S : Store} {i m : Nat} {xs : List D} (h : Pot S i m) (hm : m < 900000) (h0 : xs ≠ []) (hl : xs.length < 1000) (hp : plains 59 xs = true) (hx : xs.all leafB = true) :
    ∃ y ∈ tupL leafR xs, ∃ S', Mi.run pr (n + 4) 5 [.ref i, .tup xs] S = .ok y S' ∧ Pot S' i (m + 3) := by
  obtain ⟨y, hy, S', h1, h2⟩ := bent_tup (n := n) (K := 1) (R := leafR) h (by omega) h0 hl hp fun x hx' S2 m' hp' hm' => bent_leaf (n := n) hp' (by omega) (List.all_eq_true.mp hx x hx')
  exact ⟨y, hy, S', h1, h2⟩
def rowR : D → List D
  | .tup xs => tupL leafR xs
  | _ => []
theorem bent_rows {n : Nat} {S : Store} {i m : Nat} (h : Pot S i m) (hm : m < 800000) : ∃ y ∈ tupL rowR rows, ∃ S', Mi.run pr (n + 5) 5 [.ref i, .tup rows] S = .ok y S' ∧ Pot S' i (m + 5) := by
  obtain ⟨y, hy, S', h1, h2⟩ := bent_tup (n := n + 1) (K := 3) (R := rowR) (xs := rows) h (by omega) (fun z => nomatch z) (by decide) (by decide +kernel) fun x hx' S2 m' hp' hm' => by
    have e : x = .tup row0 ∨ x = .tup row1 := by simpa [rows] using hx'
    rcases e with rfl | rfl
    · exact bent_row (n := n) hp' (by omega) (fun z => nomatch z) (by decide) (by decide +kernel) (by decide +kernel)
    · exact bent_row (n := n) hp' (by omega) (fun z => nomatch z) (by decide) (by decide +kernel) (by decide +kernel)
  exact ⟨y, hy, S', h1, h2⟩
def vals : List D := oddL ++ (tupL rowR rows ++ tupL leafR three)
def fine (v : D) : Bool := (repOf v).isSome && (!v.isRef && !v.isObj)
theorem vals_fine : vals.all fine = true := by decide +kernel
theorem fine_of {v : D} (h : v ∈ vals) : (∃ t, repOf v = some t) ∧ v.isRef = false ∧ v.isObj = false := by
  have z := List.all_eq_true.mp vals_fine v h
  simp only [fine, Bool.and_eq_true, Bool.not_eq_true'] at z
  exact ⟨Option.isSome_iff_exists.mp z.1, z.2⟩
theorem right_ok {n : Nat} {S : Store} {i : Nat} (h : Pot S i 0) : ∃ S', Mi.run pr (n + 6) 8 [.ref i] S = .ok (.bl true) S' := by
  obtain ⟨v1, hv1, S1, h1, p1⟩ := odd_ok (n := n + 2) h (by decide)
  obtain ⟨v2, hv2, S2, h2, p2⟩ := bent_rows (n := n) p1 (by decide)
  obtain ⟨v3, hv3, S3, h3, p3⟩ := bent_row (n := n + 1) (xs := three) p2 (by decide) (fun z => nomatch z) (by decide) (by decide +kernel) (by decide +kernel)
  have q1 : Mi.run pr (n + 5) 4 [.ref i] S = .ok v1 S1 := h1
  have q2 : Mi.run pr (n + 5) 5 [.ref i, .tup rows] S1 = .ok v2 S2 := h2
  have q3 : Mi.run pr (n + 5) 5 [.ref i, .tup three] S2 = .ok v3 S3 := h3
  obtain ⟨d', f', x', y', hl⟩ := loop2_ok (n := n + 4) (S := S3) (a := some (.v (.ref i))) (b := some (.v (.tup rows))) (c := some (.v (.lst [v1, v2, v3]))) [v1, v2, v3] none none none none fun v hv => fine_of (by
    have e : v = v1 ∨ v = v2 ∨ v = v3 := by simpa using hv
    rcases e with rfl | rfl | rfl
    · exact List.mem_append_left _ hv1
    · exact List.mem_append_right _ (List.mem_append_left _ hv2)
    · exact List.mem_append_right _ (List.mem_append_right _ hv3))
  refine ⟨S3, ?_⟩
  unfold rows row0 row1 at q2 hl
  unfold three at q3
  rw [run1 (fn := f__law_right) rfl, runFn_app _ _ _ _ _ rfl]
  have hb : f__law_right.body = [.set 1 (.tup [(.tup [(.lit (.str [45, 97])), (.lit (.str [98]))]), (.tup [(.lit (.str [99, 117, 116])), (.lit (.int 1)), (.lit (.int 0)), (.lit (.str [97]))])]), .set 2 (.lst [(.call 4 [(.var 0)]), (.call 5 [(.var 0), (.var 1)]), (.call 5 [(.var 0), (.tup [(.lit (.str [115, 101, 116])), (.lit (.int 2)), (.lit (.str [105, 102, 40, 97, 44, 98, 41]))])])]), .for (.nm 3) (.seq (.var 2)) body2, .ret (.lit (.bl true))] := rfl
  have hs : f__law_right.ns = 8 := rfl
  rw [hb, hs]
  simp [entry, newTup, fresh, SZ, q1, q2, q3, seqOf, hl]
/-- the places -/
theorem cells_ok {n : Nat} {S : Store} {ns : List Int} : ∃ k : Nat, k < 2 ∧ Mi.run pr (n + 1) 3 [.scr ns, .int 2] S = .ok (.lst (rangeL 0 (k + 1))) S := by
  have t : ∀ k : Nat, k < 2 → -two62 ≤ ((k : Int) + 1) ∧ ((k : Int) + 1) < two62 := by
    intro k hk
    unfold two62
    omega
  rw [run1 (fn := f__law_cells) rfl, runFn_app _ _ _ _ _ rfl]
  have l : ∀ k, (rangeL 0 k).length = k := fun k => Mi.rangeL_len k 0
  by_cases h2 : (ns.length : Int) < 2
  · refine ⟨0, by decide, ?_⟩
    have h1 : ¬ ((ns.length : Int) > 1) := by omega
    have t0 := t 0 (by decide)
    simp [f__law_cells, entry, h2, h1, two62, fresh, l, SZ]
  · refine ⟨1, by decide, ?_⟩
    have t1 := t 1 (by decide)
    simp [f__law_cells, entry, h2, two62, fresh, l, SZ]
end K00
set_option linter.all false
set_option maxRecDepth 100000
set_option maxHeartbeats 4000000
namespace K00
open Mi
theorem law_loop {n : Nat} {ns : List Int} {a : Option Sl} (ha : a = some (.v (.scr ns))) : ∀ (m : Nat) (lo : Int) (S : Store), 0 ≤ lo → lo + m < 1000 → ∃ S', lcLoop [1] (bindT (.nm 1)) (evC pr (Mi.run pr (n + 6)) .omit) (M.bind (ev pr (Mi.run pr (n + 6)) (.call 8 [(.call 0 [(.var 0), (.var 1)])])) esc) (rangeL lo m) [a, none] S = .ok (List.replicate m (.bl true)) [a, none] S'
  | 0, lo, S, _, _ => ⟨S, by rw [rangeL, lcLoop]; rfl⟩
  | m + 1, lo, S, h0, h1 => by
    subst ha
    obtain ⟨S1, p1, p2⟩ := pot_ok (n := n + 5) (S := S) (ns := ns) (p := lo) h0 (by omega)
    obtain ⟨S2, r1⟩ := right_ok (n := n) p2
    obtain ⟨S3, ih⟩ := law_loop (n := n) (ns := ns) rfl m (lo + 1) S2 (by omega) (by omega)
    have q1 : Mi.run pr (n + 6) 0 [.scr ns, .int lo] S = .ok (.ref S.length) S1 := p1
    have bn : ∀ d e s, bindT (.nm 1) d e s = putVar 1 (.v d) e s := fun _ _ _ => rfl
    have ec : ∀ e s, evC pr (Mi.run pr (n + 6)) .omit e s = .ok true e s := fun _ _ => rfl
    refine ⟨S3, ?_⟩
    rw [rangeL, lcLoop]
    simp [bn, ec, q1, r1, wipeE, ih, List.replicate_succ]
theorem bls_rep : ∀ m : Nat, D.bls (List.replicate m (.bl true)) = some (List.replicate m true)
  | 0 => rfl
  | m + 1 => by
    rw [List.replicate_succ, List.replicate_succ, D.bls, bls_rep m]
    rfl
theorem answers : ∀ ns : List Int, ns.length ≤ 63 → ∃ S, Mi.run pr 20 9 [.scr ns] [] = .ok (.bl true) S := by
  intro ns _
  obtain ⟨k, hk, hc⟩ := cells_ok (n := 18) (S := []) (ns := ns)
  obtain ⟨S, hl⟩ := law_loop (n := 13) (ns := ns) rfl (k + 1) 0 [] (by decide) (by omega)
  refine ⟨S, ?_⟩
  have q1 : Mi.run pr 19 3 [.scr ns, .int 2] [] = .ok (.lst (rangeL 0 (k + 1))) [] := hc
  have q2 : lcLoop [1] (bindT (.nm 1)) (evC pr (Mi.run pr 19) .omit) (M.bind (ev pr (Mi.run pr 19) (.call 8 [(.call 0 [(.var 0), (.var 1)])])) esc) (rangeL 0 (k + 1)) [some (.v (.scr ns)), none] [] = .ok (List.replicate (k + 1) (.bl true)) [some (.v (.scr ns)), none] S := hl
  have sl : Tg.slots (.nm 1) = [1] := rfl
  have ln : (rangeL 0 (k + 1)).length = k + 1 := Mi.rangeL_len _ _
  have lt : k + 1 < 16777216 := by omega
  have al : op1 pr .all (.lst (List.replicate (k + 1) (.bl true))) = some (.v (.bl true)) := by
    show (D.bls (List.replicate (k + 1) (.bl true))).map (fun bs => Mi.R.v (.bl (bs.all id))) = _
    rw [bls_rep]
    simp
  have e0 : Mi.run pr 20 9 [.scr ns] [] = runFn pr (Mi.run pr 19) f_law [.scr ns] [] := run1 (n := 19) (fn := f_law) rfl _ _
  rw [e0, runFn_app _ _ _ _ _ rfl]
  simp [f_law, entry, q1, seqOf, lcRun, ln, lt, SZ, sl, wipeE, q2, restE, al]
end K00
set_option Elab.async false
set_option linter.all false
set_option maxRecDepth 100000
set_option maxHeartbeats 0
namespace K00
open PySem PySem.Spec PyProof.Rows L2 Mi
theorem run (w : World) : HandSHeadRun.RunEq R (PySem.W.view R.prog [54]) hk ob 20000 loose w := by
  intro os
  kernel_rfl
end K00
set_option Elab.async false
set_option linter.all false
set_option maxRecDepth 100000
set_option maxHeartbeats 0
namespace K00
open PySem PySem.Spec PyProof.Rows L2 Mi
theorem tx : TxOk PySem.Challenge.pw_keptborders_k00_errors_and_what_they_kee T pr where
  c0 := by intro z; cases z
  f0 := by intro z; cases z
  at_ := by decide +kernel
  val := rfl
  rep := rfl
  con := fun _ => rfl
  ex := fun _ => rfl
  ib := ⟨_, _, _, _, _, _, _, _, _, _, rfl, rfl⟩
  ia := ⟨_, _, rfl⟩
  isc := rfl
  sup := by decide +kernel
end K00
open PySem PySem.W PySem.Calls PyProof.Rows
theorem PySem.Challenge.cw_keptborders_k00_errors_and_what_they_kee_holds : PySem.Challenge.rw_keptborders_k00_errors_and_what_they_kee.Holds := by
  w_on; o_law
  refine HandSHeadRun.head_any (r := OpenLaw.row PySem.Challenge.rw_keptborders_k00_errors_and_what_they_kee) (q := view (OpenLaw.row PySem.Challenge.rw_keptborders_k00_errors_and_what_they_kee).prog [54]) (H := K00.hk) (ob := K00.ob) (M := 20000) (loose := K00.loose) (d := HandSHeadRun.topDef (OpenLaw.row PySem.Challenge.rw_keptborders_k00_errors_and_what_they_kee).prog 54) (kwd := []) K00.ob_eq
    (by kernel_rfl) (fun s => by kernel_rfl) K00.run (by kernel_rfl) (by kernel_rfl) (by kernel_rfl) (by rfl) (by first | assumption | decide +kernel) (by decide +kernel) ⟨rfl, rfl, rfl, rfl, rfl, by decide +kernel⟩ ?hw ?hc
  case hw => w_witness2
  case hc =>
    refine Mi.walk_mi (l := PySem.Challenge.rw_keptborders_k00_errors_and_what_they_kee) (n := 63) (k := 20) (fl := 9) (pr := K00.pr) (nm := K00.T.nm) rfl (by decide) (by kernel_rfl) ⟨rfl, by decide, by decide⟩ (by kernel_rfl) ?F K00.answers
    rintro w mg h ⟨K, KX, c⟩ G
    exact ⟨K, K00.T.fad K, K00.T.cad K, KX, fun base kb gb => ⟨Mi.gok_of K00.tx kb gb c, fun f fn hf => Mi.fnt_of K00.tx c (K00.d_all f fn hf)⟩⟩
