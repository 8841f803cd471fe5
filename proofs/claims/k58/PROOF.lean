import PyProof.Rows.All
import Wide.All
import OpenK.AllK
import Wide.FinOn
import KE.KStateDown
import KE.KExcSuper
import HandS.ForMost
import HandS.ForExc
import HandS.Defaults
import HandS.Head0
import HandS.Head1
import HandS.Head2
import HandS.HeadEnd
import HandS.HeadHook1
import HandS.HeadHook2
import PySem.Challenge.RW_forkflags_k58_whole_parse_and_format
import HandS.ExcSuper
import HandS.HotCalls
import HandS.ExcIs
import HandS.IsInst
import HandS.ClsMeth
import HandS.FStr
import HandS.Wide
import HandS.TupAny
import HandS.EndBits
import HandS.ExcValue
set_option Elab.async false
set_option linter.all false
set_option maxRecDepth 100000
set_option maxHeartbeats 0
namespace K58
open PySem PySem.Spec PyProof.Rows L2
def top (i : Nat) : Stmt := PySem.Challenge.pw_forkflags_k58_whole_parse_and_format.main.body.getD i (.Pass ⟨0, 0, 0, 0⟩)
abbrev R : PySem.W.OpenRow := PySem.W.OpenLaw.row PySem.Challenge.rw_forkflags_k58_whole_parse_and_format
end K58
set_option Elab.async false
set_option linter.all false
set_option maxRecDepth 100000
set_option maxHeartbeats 4000000
/-! InvalidLine(m): its __init__ says super().__init__(m); no dict. -/
namespace K58
open PySem PySem.W PySem.Calls PyProof.Rows
abbrev VEi : String := "ValueError.__init__"
section
variable {prog : Program} {w : World} {A : Around} {E : Value → Shared → Prop} {h : Heap} {g : Array GenState} {d : Drawn} {t : Nat} {os : OsState}
/-- the bound built-in __init__ is called -/
theorem mw_call {u e t0 C : Addr} {v : Value} {Q : Value → Shared → Prop}
    {nm q : PySem.Str} {N : Addr} {bs bm : List Value} {hdct : Bool} {sn : List PySem.Str} {sub : List Value} {ab : Bool} {col : Option Bool} {dd : Option Addr} {k0 k1 k2 k3 k5 : Option Value}
    (hC : h.get? C = some (excClassObj nm q C N bs bm hdct sn sub ab col dd k0 k1 k2 k3 k5 "ValueError.__new__")) (he : h.get? e = some (HandSPX.excO C t0))
    (hu : h.get? u = some (kxs_mw VEi e))
    (hq : ∀ h' t1, (∀ b o, b ≠ e → h.get? b = some o → h'.get? b = some o) → h'.get? e = some (HandSPX.excO C t1) → Q .none ⟨h', g, d, t, os⟩) :
    wpAny (model prog w) A (call (.ref u) [v]) Q E ⟨h, g, d, t, os⟩ := by
  have FB := PySem.F.excBase_ValueError
  have y1 : (Value.type "method-wrapper" == Value.type "method" || Value.type "method-wrapper" == Value.type "builtin_function_or_method" || Value.type "method-wrapper" == Value.type "method-wrapper") = true := by decide
  refine wpAny_call (M := model prog w) (codeAny_of_tree ?_)
  show wpAny _ A.in1 (callAny (.ref u) ⟨[v], []⟩) _ _ _
  simp only [callAny]
  refine wpAny_bind (wpAny_load (M := model prog w) hu ?_)
  simp only [kxs_mw, y1, if_true]
  refine KFB.if_so (by decide) ?_
  refine wpAny_bind (check_bound_init (M := model prog w) FB.toExcCallFacts hC he rfl ?_)
  refine wpAny_bind (M := model prog w) (wpAny_pure (wpAny_pure ?_))
  refine ⟨plainId_quiet FB.init.plain _, codeAny_builtin FB.initEntry ?_⟩
  exact exc_init_tree (cls := .ref C) (t0 := t0) (dv := none) (c2 := .none) (c3 := .none) (b4 := .bool false) he (by show 1 ≤ sizeLine; rw [sizeLine_eq]; decide) fun h' k he' _ => hq h' _ k he'
end
/-! ### the class, its __init__ -/
abbrev sLine : Stmt := L2.inClass (top 31) 0
abbrev lnFd (T cda cc : Addr) (kV doc pm : Value) (an : Option Addr) (ct : Value) : FuncData := ksFn "__init__" "InvalidLine.__init__" (L2.defArgs sLine) (L2.defBody sLine) (L2.defScope sLine) (.ref T) kV doc pm an (.ref cda) ct cc
/-- what the written part says of InvalidLine at C, of its __init__ at fI, of the cell __class__ at cc -/
structure LineTxt (P : Program) (K : Frag) (C fI cc : Addr) : Prop where
  ei : excInitIn K C HandSPX.veTail "ValueError.__new__" = true
  iC : findIn K (.ref C) "__init__" = some (some (.ref fI))
  tI : typeIn K (.ref fI) = some (.type "function")
  kC : keepIn K (.ref C) = true
  exC : subIn K (.ref C) (.type "BaseException") = some true
  veC : subIn K (.ref C) (.type "ValueError") = some true
  tyC : typeIn K (.ref C) = some (.type "type")
  clC : isClsIn K C = true
  sup : ks_superIn K C C "__init__" = some (some (.builtin VEi))
  own : mroIn K C (.ref C) = some true
  fn : ∃ oc od T kV doc pm an cda ct osl, K.lookup fI = some ⟨oc, od, .func (lnFd T cda cc kV doc pm an ct), osl⟩ ∧ codeIn K (.ref cda) "InvalidLine.__init__" = true ∧
    (∃ ot v0 n, K.lookup T = some ot ∧ ot.data = .seq #[v0] n) ∧ ∃ ccl cdd vs ccs file tf, K.lookup cda = some ⟨ccl, cdd, .fields vs, ccs⟩ ∧ vs[2]? = some (.str file tf) ∧ ((P.main.file : PySem.Str) == file) = true
  cell : ∃ cl cld csl, K.lookup cc = some ⟨cl, cld, .cell (some (.ref C)), csl⟩
  opq : nsIn K cStatics "thirdparty.any" = some none
  noS : nsIn K mainGlobals "super" = some none
  topS : (P.main.scope.names.lookup ("super" : PySem.Str)).isSome = false
section
variable {prog : Program} {w : World} {A : Around} {R : Result → Shared → Prop} {s : Shared} {K : Frag} {C fI cc : Addr}
theorem line_nocell : ∀ y ∈ (L2.defScope sLine).names, y.2 ≠ NameKind.cell := by decide +kernel
theorem line_self : (L2.defScope sLine).names.lookup ("self" : PySem.Str) = some .local := by decide +kernel
theorem line_msg : (L2.defScope sLine).names.lookup ("message" : PySem.Str) = some .local := by decide +kernel
theorem line_locs {u v : Value} : ∀ y ∈ ([("self", u), ("message", v)] : List (PySem.Str × Value)), (L2.defScope sLine).names.lookup y.1 = some .local := fun y hy => by
  rcases List.mem_cons.mp hy with e | hy
  · rw [e]; exact line_self
  · rw [List.mem_singleton.mp hy]; exact line_msg
theorem line_binds (T : LineTxt prog K C fI cc) (X : K.In s.heap) {x : Addr} {v : Value} {Td cda : Addr} {kV doc pm : Value} {an : Option Addr} {ct : Value} {ot : Obj} {v0 : Value} {n : Nat} (lT : K.lookup Td = some ot) (oT : ot.data = .seq #[v0] n) :
    BindsTo s (lnFd Td cda cc kV doc pm an ct) ⟨[.ref x, v], []⟩ [("self", .ref x), ("message", v)] := by
  refine L2.BindsTo.of_looks fun M => ?_
  have e : ∃ k : Option (Array Value) → Sem (List (PySem.Str × Value)), bindArgs (lnFd Td cda cc kV doc pm an ct) ⟨[.ref x, v], []⟩ = seqItems? (.ref Td) >>= k ∧ k (some #[v0]) = pure ([("self", .ref x), ("message", v)] : List (PySem.Str × Value)) := ⟨_, rfl, by kernel_rfl⟩
  obtain ⟨k, e1, e2⟩ := e
  rw [e1]
  exact L2.looks_items X lT oT (.of_pure e2)
theorem line_init (T : LineTxt prog K C fI cc) {x t0 : Addr} {v : Value} (X : K.In s.heap) {mg mb : PySem.Str → Option Value} (hg : s.heap.Ns mainGlobals mg) (hnS : mg "super" = none) (hb : s.heap.Ns builtinsNs mb) (hbS : mb "super" = some (.type "super"))
    (hlim : s.heap.NoLimit) (hx : s.heap.get? x = some (HandSPX.excO C t0)) (hroom : A.depth < recursionLimit)
    (hq : ∀ h' tk t1, (∀ b o, b ≠ x → s.heap.get? b = some o → h'.get? b = some o) → h'.get? x = some (HandSPX.excO C t1) → R (.ok (.ret .none)) { s with heap := h', toks := tk }) :
    codeAny (model prog w) A (.call (.ref fI) ⟨[.ref x, v], []⟩) R s := by
  obtain ⟨oc, od, Td, kV, doc, pm, an, cda, ct, osl, lk, hcd, ⟨ot, v0, n, lT, oT⟩, ccl, cdd, vs, ccs, file, tf, lcd, hvs, hfile⟩ := T.fn
  obtain ⟨cl, cld, csl, lcc⟩ := T.cell
  refine ks_codeAny_call_defAt (body := L2.defBody sLine) (binds := [("self", .ref x), ("message", v)]) hroom (X _ _ lk) rfl hlim (codeRec_of X hcd) rfl (line_binds T X lT oT) line_nocell (line_locs (u := .ref x) (v := v)) (fun h₁ hns hk₁ => ?_) rfl rfl rfl
  obtain ⟨hh, g, d, t, os⟩ := s
  have X1 : K.In h₁ := X.keeps hk₁
  have hx1 : h₁.get? x = some (HandSPX.excO C t0) := hk₁ _ _ hx
  obtain ⟨cd, hcls⟩ := Option.isSome_iff_exists.mp (show (clsIn K C).isSome = true from T.clC)
  obtain ⟨oC, hC1, hC2⟩ : ∃ oC, K.lookup C = some oC ∧ oC.data = .cls cd := by
    unfold clsIn at hcls
    split at hcls
    · rename_i c d cd' sl ho
      cases hcls
      exact ⟨_, ho, rfl⟩
    · cases hcls
  have xC : x ≠ C := fun z => by
    have y := X _ _ hC1
    rw [← z, hx] at y
    cases y
    cases hC2
  have hsup : alongIn K "__init__" ((cd.mro.dropWhile (· != .ref C)).drop 1) = some (some (.builtin VEi)) := by
    have z := T.sup
    unfold ks_superIn at z
    rw [hcls] at z
    exact z
  refine ks_wpAt_execs_cons ?_
  refine ks_wpAt_Expr_any ?_
  refine ks_wpAt_MethodCall ?_
  refine ks_wpAt_super_base (f := fI) (fd := lnFd Td cda cc kV doc pm an ct) (cc := cda) (vs := vs) (by kernel_rfl) (by kernel_rfl) (by decide) rfl (X1 _ _ lk) rfl (by rfl) rfl (X1 _ _ lcd) rfl hvs hfile T.topS ?_
  refine ks_loadName_global rfl (by kernel_rfl) (loadGlobal_builtin (hg.keeps hk₁) hnS (hb.keeps hk₁) hbS ⟨rfl, ?_⟩)
  refine wpAny_loadName_free (c := cc) rfl (by kernel_rfl) (by kernel_rfl) ⟨_, X1 _ _ lcc, rfl⟩ ?_
  refine wpAny_loadName_local (v := .ref x) rfl (by kernel_rfl) hns (by kernel_rfl) ?_
  refine ks_wpAny_isType_cls (X1 _ _ hC1) hC2 ⟨rfl, ?_⟩
  refine ks_wpAny_call_super (X1 _ _ hC1) hC2 hx1 rfl (fun c e => nomatch e) (looks_mroIn X1 T.own) (fun h2 e2 k2 => ?_)
  have X2 : K.In h2 := X1.keeps k2
  have hx2 := k2 _ _ hx1
  have I2 : InstAt h2 x (HandSPX.excO C t0) C none := ⟨hx2, rfl, rfl, trivial⟩
  refine kxs_getMethod kxs_ValueError e2 (looks_opaque X2 T.opq) (l₀ := cd.mro) (fun A Q E s k q => wpAny_bind ((looks_clsIn X2 hcls) A _ E s k (wpAny_pure q))) rfl X2 hsup (I2.type.andThen (looks_subIn X2 T.veC)) xC (by decide) ?_
  have k3 : ∀ b o, h₁.get? b = some o → (h2.push (kxs_mw VEi x)).get? b = some o := fun b o e => Heap.get?_push_of_some _ (k2 b o e)
  have X3 : K.In (h2.push (kxs_mw VEi x)) := X1.keeps k3
  obtain ⟨nm, N', qn, bs, bm, hdct, sn, sub, ab, col, dd, k0, k1, k2', k3', k5, hCx, _⟩ := excInit_of X3 T.ei
  have hu : (h2.push (kxs_mw VEi x)).get? h2.objs.size = some (kxs_mw VEi x) := Heap.get?_push_size _ rfl
  refine kxs_callWith (i := VEi) (x := x) (by rfl) (evalArgs_plain ?_)
  refine PySem.Calls.spliced_cons (ESX.ldL (v := v) (hns.keeps k3) (by kernel_rfl) ?_ rfl (by kernel_rfl))
  refine PySem.Calls.spliced_nil ⟨hu, ?_⟩
  refine mw_call (t0 := t0) hCx (Heap.get?_push_of_some _ hx2) hu fun h' t1 kk hx' => ?_
  have kz : ∀ b o, b ≠ x → hh.get? b = some o → h'.get? b = some o := fun b o hb e => kk b o hb (k3 b o (hk₁ b o e))
  exact wpAt_of_wpAny (wpAny_execs_nil (hq h' _ t1 kz hx'))
end
end K58
namespace K58
open PySem PySem.Spec PyProof.Rows L2
theorem boot_super : bootBuiltins ("super" : Str) = some (.type "super") := by decide +kernel
/-- InvalidLine(e), to be raised -/
theorem pmk_line {X : Cx} {C fI cc : Addr} {e : Expr} {ta : TA} {p pos : Pos} {k : Nat} (T : LineTxt X.prog X.K C fI cc) (gC : X.mg "InvalidLine" = some (.ref C)) (hr : Room k X.A) (ha : PA X [e] ta) (hg : Gl X "InvalidLine" := by rfl)
    (he : starEach (e :: []) X.env = (false, eval e X.env) :: starEach [] X.env := by rfl) (hpl : (backTo pos (starEach [] X.env)).any (·.1) = false := by rfl) :
    PMk X (.Call (.Name "InvalidLine" p) [e] [] pos) (fun σ H Q => ta σ H fun vs H1 => vs.length = 1 ∧ Q (.ref C) none H1) := by
  intro pins s σ H Q I h
  refine wpAny_Call_Name_kw (ld_glob I hg gC ?_)
  refine PySem.W.callWith_K (h₀ := X.base) I.ok.mod.kin T.kC (thn (ha.run pos pins s σ H _ I h) fun us s1 ⟨vs, H1, I1, r1, hv1, q1⟩ => ⟨I1.kIn, ?_⟩) he hpl
  have hlu : us.length = 1 := by rw [← r1.length]; exact hv1
  obtain ⟨v, rfl⟩ : ∃ v, us = [v] := by
    cases us with
    | nil => cases hlu
    | cons a r =>
      cases r with
      | nil => exact ⟨a, rfl⟩
      | cons b r => cases hlu
  show wpAny _ _ (call (.ref C) [v]) _ _ _
  have hlim := I1.nolimit
  have XK := I1.kIn
  obtain ⟨mb, hb1, hb2⟩ := I1.mod.blt
  have hbase := I1.bk
  obtain ⟨hp, g, dr, tk, os⟩ := s1
  obtain ⟨nm, N', qn, bs, bm, hdct, sn, sub, ab, col, dd, k0, k1, k2, k3, k5, hCx, hT⟩ := PySem.W.excInit_of XK T.ei
  have kk : ∀ b o, hp.get? b = some o → ((hp.push (PySem.W.kdv_tup [v])).push (PySem.HandSPX.excO C hp.objs.size)).get? b = some o := fun b o z => Heap.get?_push_of_some _ (Heap.get?_push_of_some _ z)
  have hget : ((hp.push (PySem.W.kdv_tup [v])).push (PySem.HandSPX.excO C hp.objs.size)).get? (hp.objs.size + 1) = some (PySem.HandSPX.excO C hp.objs.size) := by heap_get
  have hsz : [v].length ≤ sizeLine := by rw [sizeLine_eq]; exact (by decide : 1 ≤ 16777216)
  refine wpAny_call (PySem.HandSPX.call_own PySem.F.excBase_ValueError hT hCx (PySem.W.looks_findIn XK T.iC) (fun self => PySem.W.bind_fn XK self T.tI) hsz ?_)
  refine line_init T (s := ⟨(hp.push (PySem.W.kdv_tup [v])).push (PySem.HandSPX.excO C hp.objs.size), g, dr, tk, os⟩) (XK.keeps kk) ((I1.mod.glob.keeps hbase).keeps kk) (PySem.W.mg_none_of I1.mod.kin I1.mod.glob T.noS) ((hb1.keeps hbase).keeps kk) ((hb2 _ (by decide)).trans boot_super)
    (hlim.keeps kk) hget ?_ fun h' tk' t1 k' hx => ?_
  · have z := hr.dp
    show X.A.depth + 1 < recursionLimit
    omega
  · have old : ∀ b o, hp.get? b = some o → h'.get? b = some o := fun b o z => k' b o (Nat.ne_of_lt (Nat.lt_succ_of_lt (Heap.lt_size z))) (kk b o z)
    obtain ⟨G, g1, g2⟩ := restrict h' fun b => decide (b ≠ hp.objs.size + 1)
    have gk : ∀ b, b ≠ hp.objs.size + 1 → G.get? b = h'.get? b := fun b hb => g1 b (decide_eq_true hb)
    have ge : G.get? (hp.objs.size + 1) = none := g2 _ (by simp)
    have J := I1.kept (h' := G) (t' := tk') fun b o z => (gk b (Nat.ne_of_lt (Nat.lt_succ_of_lt (Heap.lt_size z)))).trans (old b o z)
    refine ⟨rfl, ?_⟩
    show MkP X pins σ Q (.ref (hp.objs.size + 1)) ⟨h', g, dr, tk', os⟩
    refine ⟨hp.objs.size + 1, _, _, ⟨G, g, dr, tk', os⟩, H1, .ref C, none, rfl, J, fun b o z => ?_, ge, hx, ⟨rfl, rfl⟩, rfl, rfl, I1.hok.fresh (Nat.le_succ _), rfl, I1.bare, raises_own T.exC T.tyC, q1⟩
    by_cases hb : b = hp.objs.size + 1
    · have z' : G.get? b = some o := z
      rw [hb, ge] at z'
      cases z'
    · exact (gk b hb).symm.trans z
end K58
set_option Elab.async false
set_option linter.all false
set_option maxRecDepth 100000
set_option maxHeartbeats 4000000
/-! Rules of this proof's own: a text times a number, list.count of flat items, a def called in an except suite with the exception as its argument, isinstance of it. -/
namespace K58
open PySem PySem.Spec PyProof.Rows L2 TL
section
variable {X : Cx}
/-- z * n, 2 ≤ n, z not empty -/
def repS (z : Str) (n : Nat) : Str := ⟨(List.replicate n z.cps).foldl (· ++ ·) #[]⟩
theorem fold_app (a : Array Nat) : ∀ (n : Nat) (acc : Array Nat), ((List.replicate n a).foldl (· ++ ·) acc).toList = acc.toList ++ (List.replicate n a.toList).flatten
  | 0, acc => by simp
  | n + 1, acc => by
    rw [List.replicate_succ, List.foldl_cons, fold_app a n (acc ++ a), List.replicate_succ, List.flatten_cons, Array.toList_append, List.append_assoc]
theorem tl_rep (z : Str) (n : Nat) : tl (repS z n) = (List.replicate n (tl z)).flatten := by
  have h := fold_app z.cps n #[]
  simpa [repS, tl] using h
def rMulS : R2 := fun x y H Q => ∃ (z : Str) (n : Nat), x = .str z ∧ y = .int (n : Int) ∧ 2 ≤ n ∧ n ≤ 1000 ∧ 1 ≤ z.length ∧ z.length ≤ 1000 ∧ Q (.str (repS z n)) H
theorem op_mulS : OpR X (binaryOp .Mult) rMulS := by
  intro pins s σ H x y v u Q I rx ry h
  obtain ⟨z, n, rfl, rfl, h2, h1000, hz, hz2, q⟩ := h
  obtain ⟨t, rfl⟩ := rx
  obtain ⟨t', rfl⟩ := ry
  have a1 : ¬ ((n : Int) < -(2 ^ 63 : Int)) := by omega
  have a2 : ¬ ((n : Int) ≥ 2 ^ 63) := by omega
  have hlen : z.length * n ≤ 1000000 := Nat.le_trans (Nat.mul_le_mul hz2 h1000) (by decide)
  refine PySem.P.mul_str (by rw [decide_eq_false a1, decide_eq_false a2]; rfl) (fun _ _ => ?_) (fun _ _ => short24 (by rw [Int.toNat_natCast]; omega)) ?_
  · have e : (1000 : Int) ≤ (2 ^ 63 - 1) / (n : Int) := (Int.le_ediv_iff_mul_le (by omega)).mpr (by omega)
    omega
  · rw [if_neg (show ¬ ((n : Int) < 1) by omega), if_neg]
    · refine ⟨?_, .str (repS z n), H, I.tok _, ⟨_, rfl⟩, ?_⟩
      · have e : (repS z n).length = z.length * n := by
          rw [len_tl, tl_rep, List.length_flatten, List.map_replicate, List.sum_replicate_nat, len_tl, Nat.mul_comm]
        have e2 : (⟨(List.replicate (n : Int).toNat z.cps).foldl (· ++ ·) #[]⟩ : Str) = repS z n := by rw [Int.toNat_natCast]; rfl
        rw [e2]
        have e3 : (repS z n).length ≤ sizeLine := by rw [e, sizeLine_eq]; omega
        exact e3
      · exact q
    · intro c
      rw [Bool.or_eq_true, beq_iff_eq, beq_iff_eq] at c
      rcases c with c | c <;> omega
/-- xs.count(y), flat items -/
def rCntF (K : PySem.W.Frag) : V → List V → Hp → VK → Prop := fun x xs H Q => ∃ (p : Addr) (ys : List V) (y : V), x = .ref p ∧ xs = [y] ∧ SqL K H p ys ∧ flatV y = true ∧ ys.all flatV = true ∧ Q (.int (ys.countP (fun z => eqV z y) : Nat)) H
theorem countP_eqU {y : V} : ∀ {ys : List V} {us : List Value}, Vals ys us → ys.all flatV = true → us.countP (eqU y) = ys.countP (fun z => eqV z y)
  | _, _, .nil, _ => rfl
  | a :: ys, u :: us, .cons r t, f => by
    rw [List.all_cons, Bool.and_eq_true] at f
    rw [List.countP_cons, List.countP_cons, countP_eqU t f.2, eqU_of r f.1]
theorem mt_countF : MtR X "list.count" (rCntF X.K) := by
  intro pins s σ H x xs v us Q I rx rxs h
  obtain ⟨p, ys, y, rfl, rfl, hs, fy, fys, q⟩ := h
  cases rx
  obtain ⟨u, rfl, ru⟩ := rxs.one
  obtain ⟨its, rv, ⟨⟨cls, dd, data, sl⟩, n, ho, hc, hdn, hd⟩, hlen⟩ := I.list hs
  simp only at hc hd
  subst hc hd
  have key := countP_eqU (y := y) rv fys
  refine call_meets PySem.F.slot_list_count ⟨_, ho, rfl⟩ PySem.F.entry_list_count (PySem.F.args_list_count_2 _ _)
    (SeqAt.list_countAt p its.toArray n dd sl u (eqU y)) ⟨ho, fun w hw => mem_eqAt ru fy rv fys w (by simpa using hw), ?_⟩
  exact ⟨.int (ys.countP (fun z => eqV z y) : Nat), H, I.tok _, ⟨s.toks, by rw [← key]⟩, q⟩
end

/-! ### a def that is called in an except suite, the exception among its arguments: sp p tells of the exception p -/
abbrev SpE : Type := Addr × Obj → Sp
structure FnE (P : Program) (w : World) (K : PySem.W.Frag) (mg : Str → Option Value) (base : Heap) (k : Nat) (f : Addr) (fd : FuncData) (ps : List Str) (sp : SpE) : Prop where
  len : ∀ p vs H Q E, sp p vs H Q E → vs.length = ps.length
  run : ∀ (A : Around) (outer : List Env) (s : Shared) (H : Hp) (us : List Value) (vs : List V) (Q : VK) (p : Addr × Obj), L2H.RoomH k A → L2H.PinOk outer H s p → Env0 P w K mg base A outer s H → BindsTo s fd ⟨us, []⟩ (ps.zip us) → Vals vs us → sp p vs H Q E0 →
    codeAny (model P w) A (.call (.ref f) ⟨us, []⟩) (CR CX0 outer P w H s Q E0) s
section
variable {P : Program} {w : World} {K : PySem.W.Frag} {mg : Str → Option Value} {base : Heap} {x qual : Str} {params : Arguments} {body : List Stmt} {scope : Scope} {dvs : List V} {kws : List (Str × V)} {f : Addr} {fd : FuncData}
/-- the rule for such a def, by its body -/
theorem fnE_ok {N ps : List Str} {k : Nat} {sp : SpE} (F : FunD K x qual params body scope dvs kws f fd) (S : FnScope N ps scope) (len : ∀ p vs H Q E, sp p vs H Q E → vs.length = ps.length)
    (hbody : ∀ (cdv : Value) (A : Around) (outer : List Env) (s : Shared) (H : Hp) (vs : List V) (Q : VK) (p : Addr × Obj), L2H.RoomH k (A.deeper (envOfC qual scope s.heap.objs.size f cdv)) → sp p vs H Q E0 →
      ∃ t, PSs (L2H.cxH CX0 P w K mg base N qual scope f cdv A outer s H E0 p) body t ∧ t { nx := fun _ H' => Q .non H', rt := Q } (L2.start N vs) H) :
    FnE P w K mg base (k + 1) f fd ps sp := by
  obtain ⟨oc, od, dV, kV, doc, pm, an, cdv, ct, osl, rfl, lk, hcd, _, _⟩ := F.ex
  refine ⟨len, fun A outer s H us vs Q p hr hpin e0 hb r hsp => ?_⟩
  have KX : K.In s.heap := e0.mod.kin.keeps fun b o e => (e0.bs b o e).1
  have lim : s.heap.NoLimit := e0.mod.nolimit.keeps fun b o e => (e0.bs b o e).1
  have hloc : ∀ y ∈ ps.zip us, scope.names.lookup y.1 = some .local ∨ (scope.names.lookup y.1 = some .cell ∧ ((cellsFrom (s.heap.objs.size + 1) scope.names []).lookup y.1).isSome = true) := fun y hy =>
    (S.par y.1 (List.of_mem_zip (show (y.1, y.2) ∈ ps.zip us from hy)).1).imp id fun q => ⟨q, PySem.W.cellsFrom_some _ _ _ (.inl q)⟩
  refine codeAny_call_function hr.depth (KX _ _ lk) rfl S.co S.gen rfl (PySem.W.codeRec_of KX hcd) (hb _ _ _ _ ?_)
  refine wpAny_newFunctionEnv_cells S.kind hloc fun env he s1 z => ?_
  subst he
  refine ⟨lim.keeps z.toInCall.keep, codeAny_func ?_⟩
  obtain ⟨t, ht, hq⟩ := hbody cdv A outer s H vs Q p (hr.deeper _) hsp
  have I : Inv (L2H.cxH CX0 P w K mg base N qual scope f cdv A outer s H E0 p) [] (L2.start N vs) H s1 := L2H.inv_startH S hpin e0 (len _ _ _ _ _ hsp) r z
  refine wpAny_mono (ht.run [] s1 (L2.start N vs) H _ I hq) (fun fl s' hs => ?_) fun e s' hs => hs
  cases fl with
  | ret u => exact (fun ⟨v, _, H', J, rv, q⟩ => ⟨v, H', J.os, J.bare, J.base, J.hok, rv, q⟩ : (∃ v σ' H', Inv _ [] σ' H' s' ∧ RelV v u ∧ Q v H') → CE outer P w H s Q u s') hs
  | next => exact (fun ⟨_, H', J, q⟩ => ⟨V.non, H', J.os, J.bare, J.base, J.hok, rfl, q⟩ : (∃ σ' H', Inv _ [] σ' H' s' ∧ Q .non H') → CE outer P w H s Q .none s') hs
  | brk => exact (fun ⟨_, _, _, q⟩ => False.elim q : (∃ σ' H', Inv _ [] σ' H' s' ∧ False) → _) hs
  | cont => exact (fun ⟨_, _, _, q⟩ => False.elim q : (∃ σ' H', Inv _ [] σ' H' s' ∧ False) → _) hs
end
/-- f(e) in the suite that holds the exception a -/
theorem pe_callE {X : Cx} {k : Nat} {f a : Addr} {oe : Obj} {pn : List (Addr × Obj)} {fd : FuncData} {ps : List Str} {sp : SpE} {x : Str} {q pos : Pos} {e : Expr} {t : TA}
    (F : FnE X.prog X.w X.K X.mg X.base k f fd ps sp) (hr : Room k X.A) (hg : Gl X x) (hm : X.mg x = some (.ref f)) (hk : PySem.W.keepIn X.K (.ref f) = true) (hb : Binds X.K fd ps [])
    (ha : PA (X.suite a ((a, oe) :: pn)) [e] t) (hdb : (x == ("__debug__" : Str)) = false := by decide) (he : starEach (e :: []) X.env = (false, eval e X.env) :: starEach [] X.env := by rfl) (hpl : (backTo pos (starEach [] X.env)).any (·.1) = false := by rfl) :
    PE (X.suite a ((a, oe) :: pn)) (.Call (.Name x q) [e] [] pos) (fun σ H Q => t σ H fun vs H1 => sp (a, oe) vs H1 Q E0) := by
  refine ⟨fun pins s σ H Q I h => ?_⟩
  refine wpAny_Call_Name_kw (ld_glob (X := X.suite a ((a, oe) :: pn)) I hg hm ?_ hdb)
  refine PySem.W.callWith_K (h₀ := X.base) I.ok.mod.kin hk (thn (ha.run pos pins s σ H _ I h) fun us s1 ⟨vs, H1, I1, r, z⟩ => ⟨I1.kIn, ?_⟩) he hpl
  have hl : us.length = ps.length := by rw [← r.length]; exact F.len _ _ _ _ _ z
  have b := hb s1 us I1.kIn (by rw [List.append_nil]; exact hl)
  rw [List.append_nil] at b
  have P1 := I1.pin (a, oe) (List.mem_append_left _ List.mem_cons_self)
  have hpin : L2H.PinOk X.stack H1 s1 (a, oe) := ⟨P1.1, P1.2.1, fun hm => (List.mem_cons.mp (I1.stkSub a hm)).elim P1.2.2.1 P1.2.2.2.1, P1.2.2.2.2⟩
  have hrm : L2H.RoomH k (X.A.mark (some (.ref a))) := ⟨hr.dp, hr.un⟩
  refine wpAny_call (codeAny_mono (F.run (X.A.mark (some (.ref a))) X.stack s1 H1 us vs Q (a, oe) hrm hpin I1.env0 b r z) fun r s' hq => ?_)
  cases r with
  | error e => exact False.elim hq
  | ok fl =>
    cases fl with
    | ret u => exact I1.after hq
    | next => exact False.elim hq
    | brk => exact False.elim hq
    | cont => exact False.elim hq
/-- isinstance(e, c), e an exception that is pinned -/
theorem call_isP {X : Cx} {a D : Addr} {oe : Obj} (C : ExcC X.K D) (hz : Zc (.ref D) none oe) (hf : ∃ vs, oe.data = .fields vs) (hp : (a, oe) ∈ X.pn) : CallR X (.builtin "isinstance") (rIsE X.K D a) := by
  intro pins s σ H xs us Q I r h
  obtain ⟨c, cv, b, rfl, hcv, e, q⟩ := h
  obtain ⟨u1, u2, rfl, r1, r2⟩ := vals2 r
  cases (show u1 = Value.ref a from r1)
  cases hcv _ r2
  have hget := (I.pin (a, oe) (List.mem_append_left _ hp)).1
  obtain ⟨vs, hv⟩ := hf
  obtain ⟨oc, od, oda, osl⟩ := oe
  obtain ⟨h1, h2⟩ := hz
  dsimp only at h1 h2 hv
  subst h1 h2 hv
  have J : PySem.W.InstAt s.heap a { cls := .ref D, dict := none, data := .fields vs, slots := osl } D none := ⟨hget, rfl, rfl, trivial⟩
  exact PySem.W.kia_one (PySem.W.handS_kitx_exc C.hg C.hk C.hs C.hd C.ha C.hn C.ht C.hm) I.kIn J e (fun z => nomatch z) fun tk => ⟨.bl b, H, I.kept (t' := tk) fun _ _ z => z, rfl, q⟩
end K58
set_option Elab.async false
set_option linter.all false
set_option maxRecDepth 100000
set_option maxHeartbeats 4000000
namespace K58
open PySem PySem.Spec PyProof.Rows L2
/-! what the walk asks of the written part (printed by genhead.py) -/
abbrev s_is_name : Stmt := top 35
abbrev s_is_record : Stmt := top 39
abbrev s_split_word : Stmt := top 49
abbrev s_read_name : Stmt := top 50
abbrev s_read_record : Stmt := top 51
abbrev s_read_steps : Stmt := top 52
abbrev s_parse_write : Stmt := top 53
abbrev s_parse_cut : Stmt := top 54
abbrev s_parse_admit : Stmt := top 55
abbrev s_parse_line : Stmt := top 56
abbrev s_format_line : Stmt := top 57
abbrev s_l_refusal : Stmt := top 97
abbrev s_l_box : Stmt := top 98
abbrev s_l_draw : Stmt := top 99
abbrev s_l_name : Stmt := top 100
abbrev s_l_is_name : Stmt := top 101
abbrev s_l_signs : Stmt := top 102
abbrev s_l_is_record : Stmt := top 103
abbrev s_l_number : Stmt := top 104
abbrev s_l_read : Stmt := top 105
abbrev s_l_line : Stmt := top 106
abbrev s_l_text : Stmt := top 107
abbrev s_l_deed : Stmt := top 108
abbrev s_l_spoilt : Stmt := top 109
abbrev s_l_odd_line : Stmt := top 110
abbrev s_l_call : Stmt := top 111
abbrev s_l_is_deed : Stmt := top 112
abbrev s_l_reads : Stmt := top 113
abbrev s_law : Stmt := top 114
abbrev FnP (K : PySem.W.Frag) (x : Str) (st : Stmt) (f : Addr) (fd : FuncData) : Prop := FunD K x x (defArgs st) (defBody st) (defScope st) [] [] f fd
abbrev lnC (K : PySem.W.Frag) : Addr := He.ga K "InvalidLine"
structure Txt (P : Program) (K : PySem.W.Frag) (mg : Str → Option Value) : Prop where
  g_is_name : mg "is_name" = some (.ref (He.ga K "is_name"))
  d_is_name : ∃ fd, FnP K "is_name" s_is_name (He.ga K "is_name") fd
  g_is_record : mg "is_record" = some (.ref (He.ga K "is_record"))
  d_is_record : ∃ fd, FnP K "is_record" s_is_record (He.ga K "is_record") fd
  g_split_word : mg "split_word" = some (.ref (He.ga K "split_word"))
  d_split_word : ∃ fd, FnP K "split_word" s_split_word (He.ga K "split_word") fd
  g_read_name : mg "read_name" = some (.ref (He.ga K "read_name"))
  d_read_name : ∃ fd, FnP K "read_name" s_read_name (He.ga K "read_name") fd
  g_read_record : mg "read_record" = some (.ref (He.ga K "read_record"))
  d_read_record : ∃ fd, FnP K "read_record" s_read_record (He.ga K "read_record") fd
  g_read_steps : mg "read_steps" = some (.ref (He.ga K "read_steps"))
  d_read_steps : ∃ fd, FnP K "read_steps" s_read_steps (He.ga K "read_steps") fd
  g_parse_write : mg "parse_write" = some (.ref (He.ga K "parse_write"))
  d_parse_write : ∃ fd, FnP K "parse_write" s_parse_write (He.ga K "parse_write") fd
  g_parse_cut : mg "parse_cut" = some (.ref (He.ga K "parse_cut"))
  d_parse_cut : ∃ fd, FnP K "parse_cut" s_parse_cut (He.ga K "parse_cut") fd
  g_parse_admit : mg "parse_admit" = some (.ref (He.ga K "parse_admit"))
  d_parse_admit : ∃ fd, FnP K "parse_admit" s_parse_admit (He.ga K "parse_admit") fd
  g_parse_line : mg "parse_line" = some (.ref (He.ga K "parse_line"))
  d_parse_line : ∃ fd, FnP K "parse_line" s_parse_line (He.ga K "parse_line") fd
  g_format_line : mg "format_line" = some (.ref (He.ga K "format_line"))
  d_format_line : ∃ fd, FnP K "format_line" s_format_line (He.ga K "format_line") fd
  g_l_refusal : mg "_law_refusal" = some (.ref (He.ga K "_law_refusal"))
  d_l_refusal : ∃ fd, FnP K "_law_refusal" s_l_refusal (He.ga K "_law_refusal") fd
  g_l_box : mg "_law_box" = some (.ref (He.ga K "_law_box"))
  d_l_box : ∃ fd, FnP K "_law_box" s_l_box (He.ga K "_law_box") fd
  g_l_draw : mg "_law_draw" = some (.ref (He.ga K "_law_draw"))
  d_l_draw : ∃ fd, FnP K "_law_draw" s_l_draw (He.ga K "_law_draw") fd
  g_l_name : mg "_law_name" = some (.ref (He.ga K "_law_name"))
  d_l_name : ∃ fd, FnP K "_law_name" s_l_name (He.ga K "_law_name") fd
  g_l_is_name : mg "_law_is_name" = some (.ref (He.ga K "_law_is_name"))
  d_l_is_name : ∃ fd, FnP K "_law_is_name" s_l_is_name (He.ga K "_law_is_name") fd
  g_l_signs : mg "_law_signs" = some (.ref (He.ga K "_law_signs"))
  d_l_signs : ∃ fd, FnP K "_law_signs" s_l_signs (He.ga K "_law_signs") fd
  g_l_is_record : mg "_law_is_record" = some (.ref (He.ga K "_law_is_record"))
  d_l_is_record : ∃ fd, FnP K "_law_is_record" s_l_is_record (He.ga K "_law_is_record") fd
  g_l_number : mg "_law_number" = some (.ref (He.ga K "_law_number"))
  d_l_number : ∃ fd, FnP K "_law_number" s_l_number (He.ga K "_law_number") fd
  g_l_read : mg "_law_read" = some (.ref (He.ga K "_law_read"))
  d_l_read : ∃ fd, FnP K "_law_read" s_l_read (He.ga K "_law_read") fd
  g_l_line : mg "_law_line" = some (.ref (He.ga K "_law_line"))
  d_l_line : ∃ fd, FnP K "_law_line" s_l_line (He.ga K "_law_line") fd
  g_l_text : mg "_law_text" = some (.ref (He.ga K "_law_text"))
  d_l_text : ∃ fd, FnP K "_law_text" s_l_text (He.ga K "_law_text") fd
  g_l_deed : mg "_law_deed" = some (.ref (He.ga K "_law_deed"))
  d_l_deed : ∃ fd, FnP K "_law_deed" s_l_deed (He.ga K "_law_deed") fd
  g_l_spoilt : mg "_law_spoilt" = some (.ref (He.ga K "_law_spoilt"))
  d_l_spoilt : ∃ fd, FnP K "_law_spoilt" s_l_spoilt (He.ga K "_law_spoilt") fd
  g_l_odd_line : mg "_law_odd_line" = some (.ref (He.ga K "_law_odd_line"))
  d_l_odd_line : ∃ fd, FnP K "_law_odd_line" s_l_odd_line (He.ga K "_law_odd_line") fd
  g_l_call : mg "_law_call" = some (.ref (He.ga K "_law_call"))
  d_l_call : ∃ fd, FnP K "_law_call" s_l_call (He.ga K "_law_call") fd
  g_l_is_deed : mg "_law_is_deed" = some (.ref (He.ga K "_law_is_deed"))
  d_l_is_deed : ∃ fd, FnP K "_law_is_deed" s_l_is_deed (He.ga K "_law_is_deed") fd
  g_l_reads : mg "_law_reads" = some (.ref (He.ga K "_law_reads"))
  d_l_reads : ∃ fd, FnP K "_law_reads" s_l_reads (He.ga K "_law_reads") fd
  g_law : mg "law" = some (.ref (He.ga K "law"))
  d_law : ∃ fd, FnP K "law" s_law (He.ga K "law") fd
  g_DuplicateWriter : mg "DuplicateWriter" = some (.ref (He.ga K "DuplicateWriter"))
  g_InvalidBudget : mg "InvalidBudget" = some (.ref (He.ga K "InvalidBudget"))
  g_InvalidEvent : mg "InvalidEvent" = some (.ref (He.ga K "InvalidEvent"))
  g_InvalidImage : mg "InvalidImage" = some (.ref (He.ga K "InvalidImage"))
  g_InvalidLine : mg "InvalidLine" = some (.ref (He.ga K "InvalidLine"))
  g_InvalidName : mg "InvalidName" = some (.ref (He.ga K "InvalidName"))
  g_InvalidRecord : mg "InvalidRecord" = some (.ref (He.ga K "InvalidRecord"))
  g_InvalidShare : mg "InvalidShare" = some (.ref (He.ga K "InvalidShare"))
  g_InvalidSizes : mg "InvalidSizes" = some (.ref (He.ga K "InvalidSizes"))
  g_InvalidState : mg "InvalidState" = some (.ref (He.ga K "InvalidState"))
  g_InvalidTable : mg "InvalidTable" = some (.ref (He.ga K "InvalidTable"))
  g_InvalidText : mg "InvalidText" = some (.ref (He.ga K "InvalidText"))
  g_InvalidTown : mg "InvalidTown" = some (.ref (He.ga K "InvalidTown"))
  g_InvalidTree : mg "InvalidTree" = some (.ref (He.ga K "InvalidTree"))
  g_LastWriter : mg "LastWriter" = some (.ref (He.ga K "LastWriter"))
  g_NoFlagLeft : mg "NoFlagLeft" = some (.ref (He.ga K "NoFlagLeft"))
  g_NoRight : mg "NoRight" = some (.ref (He.ga K "NoRight"))
  g_NoStory : mg "NoStory" = some (.ref (He.ga K "NoStory"))
  g_NothingToRedo : mg "NothingToRedo" = some (.ref (He.ga K "NothingToRedo"))
  g_NothingToUndo : mg "NothingToUndo" = some (.ref (He.ga K "NothingToUndo"))
  g_StillTold : mg "StillTold" = some (.ref (He.ga K "StillTold"))
  g_SumTooGreat : mg "SumTooGreat" = some (.ref (He.ga K "SumTooGreat"))
  g_TooMany : mg "TooMany" = some (.ref (He.ga K "TooMany"))
  g_TooManyTurns : mg "TooManyTurns" = some (.ref (He.ga K "TooManyTurns"))
  g_UnknownFork : mg "UnknownFork" = some (.ref (He.ga K "UnknownFork"))
  g_UnknownHall : mg "UnknownHall" = some (.ref (He.ga K "UnknownHall"))
  g_UnknownWriter : mg "UnknownWriter" = some (.ref (He.ga K "UnknownWriter"))
  g_UnlikePlans : mg "UnlikePlans" = some (.ref (He.ga K "UnlikePlans"))
  g_ForkError : mg "ForkError" = some (.ref (He.ga K "ForkError"))
  g_Desk : mg "Desk" = some (.ref (He.ga K "Desk"))
  f_isinstance : mg "isinstance" = none
  f_len : mg "len" = none
  f_int : mg "int" = none
  f_str : mg "str" = none
  f_range : mg "range" = none
  f_all : mg "all" = none
  f_bool : mg "bool" = none
  f_ValueError : mg "ValueError" = none
  f_super : mg "super" = none
  f_tuple : mg "tuple" = none
  c_LETTERS : ∃ t, mg "_LETTERS" = some (.str "abcdefghijklmnopqrstuvwxyz" t)
  c_DIGITS : ∃ t, mg "DIGITS" = some (.str "0123456789" t)
  c_MOST_LETTERS : ∃ t, mg "_MOST_LETTERS" = some (.int 8 t)
  c_RECORD_LIMIT : ∃ t, mg "RECORD_LIMIT" = some (.int 200 t)
  c_STEP_LIMIT : ∃ t, mg "STEP_LIMIT" = some (.int 400 t)
  line : ∃ fI cc, LineTxt P K (lnC K) fI cc
  fork : PySem.W.exmOne K (.ref (lnC K)) (.ref (He.ga K "ForkError")) = some true
  exc : ExcC K (lnC K)
  k_DuplicateWriter : PySem.W.kitOne K (.ref (lnC K)) (.ref (He.ga K "DuplicateWriter")) = some false
  k_InvalidBudget : PySem.W.kitOne K (.ref (lnC K)) (.ref (He.ga K "InvalidBudget")) = some false
  k_InvalidEvent : PySem.W.kitOne K (.ref (lnC K)) (.ref (He.ga K "InvalidEvent")) = some false
  k_InvalidImage : PySem.W.kitOne K (.ref (lnC K)) (.ref (He.ga K "InvalidImage")) = some false
  k_InvalidLine : PySem.W.kitOne K (.ref (lnC K)) (.ref (He.ga K "InvalidLine")) = some true
  k_InvalidName : PySem.W.kitOne K (.ref (lnC K)) (.ref (He.ga K "InvalidName")) = some false
  k_InvalidRecord : PySem.W.kitOne K (.ref (lnC K)) (.ref (He.ga K "InvalidRecord")) = some false
  k_InvalidShare : PySem.W.kitOne K (.ref (lnC K)) (.ref (He.ga K "InvalidShare")) = some false
  k_InvalidSizes : PySem.W.kitOne K (.ref (lnC K)) (.ref (He.ga K "InvalidSizes")) = some false
  k_InvalidState : PySem.W.kitOne K (.ref (lnC K)) (.ref (He.ga K "InvalidState")) = some false
  k_InvalidTable : PySem.W.kitOne K (.ref (lnC K)) (.ref (He.ga K "InvalidTable")) = some false
  k_InvalidText : PySem.W.kitOne K (.ref (lnC K)) (.ref (He.ga K "InvalidText")) = some false
  k_InvalidTown : PySem.W.kitOne K (.ref (lnC K)) (.ref (He.ga K "InvalidTown")) = some false
  k_InvalidTree : PySem.W.kitOne K (.ref (lnC K)) (.ref (He.ga K "InvalidTree")) = some false
  k_LastWriter : PySem.W.kitOne K (.ref (lnC K)) (.ref (He.ga K "LastWriter")) = some false
  k_NoFlagLeft : PySem.W.kitOne K (.ref (lnC K)) (.ref (He.ga K "NoFlagLeft")) = some false
  k_NoRight : PySem.W.kitOne K (.ref (lnC K)) (.ref (He.ga K "NoRight")) = some false
  k_NoStory : PySem.W.kitOne K (.ref (lnC K)) (.ref (He.ga K "NoStory")) = some false
  k_NothingToRedo : PySem.W.kitOne K (.ref (lnC K)) (.ref (He.ga K "NothingToRedo")) = some false
  k_NothingToUndo : PySem.W.kitOne K (.ref (lnC K)) (.ref (He.ga K "NothingToUndo")) = some false
  k_StillTold : PySem.W.kitOne K (.ref (lnC K)) (.ref (He.ga K "StillTold")) = some false
  k_SumTooGreat : PySem.W.kitOne K (.ref (lnC K)) (.ref (He.ga K "SumTooGreat")) = some false
  k_TooMany : PySem.W.kitOne K (.ref (lnC K)) (.ref (He.ga K "TooMany")) = some false
  k_TooManyTurns : PySem.W.kitOne K (.ref (lnC K)) (.ref (He.ga K "TooManyTurns")) = some false
  k_UnknownFork : PySem.W.kitOne K (.ref (lnC K)) (.ref (He.ga K "UnknownFork")) = some false
  k_UnknownHall : PySem.W.kitOne K (.ref (lnC K)) (.ref (He.ga K "UnknownHall")) = some false
  k_UnknownWriter : PySem.W.kitOne K (.ref (lnC K)) (.ref (He.ga K "UnknownWriter")) = some false
  k_UnlikePlans : PySem.W.kitOne K (.ref (lnC K)) (.ref (He.ga K "UnlikePlans")) = some false
  k_VE : PySem.W.kitOne K (.ref (lnC K)) (.type "ValueError") = some true
  desk : ClX.CRead K (He.ga K "Desk") (.type "type")
  most : ∃ u, ClX.CVal K (He.ga K "Desk") (.type "type") "MOST_STEPS" (.int 400) u
end K58
set_option Elab.async false
set_option linter.all false
set_option maxRecDepth 100000
set_option maxHeartbeats 0
namespace K58
open PySem PySem.Spec PyProof.Rows L2
/-! the head: the top's run, and the facts read off it (printed by genhead.py) -/
def dvals (g : Addr → Option Obj) (a : Addr) : List Addr := match g a with
  | some ⟨_, _, .dict es _, _⟩ => es.toList.flatMap fun e => He.refV e.val
  | _ => []
def sub1 (g : Addr → Option Obj) (a : Addr) : List Addr := match g a with
  | some ⟨_, _, .func fd, _⟩ => He.refV fd.code
  | some ⟨_, _, .cls cd, _⟩ => [cd.ns]
  | _ => []
def lnAs (g : Addr → Option Obj) : List Addr := match g (He.ga (He.frG g [mainGlobals]) "InvalidLine") with
  | some ⟨_, _, .cls cd, _⟩ => (dvals g cd.ns).flatMap fun f => f :: (match g f with
    | some ⟨_, _, .func fd, _⟩ => He.refV fd.code ++ (He.refV fd.defaults ++ fd.closure.map (·.2))
    | _ => [])
  | _ => []
def asY (g : Addr → Option Obj) : List Addr := [mainGlobals, cStatics] ++ (lnAs g ++ (dvals g mainGlobals ++ (dvals g mainGlobals).flatMap (sub1 g)))
def lnI (K : PySem.W.Frag) : Addr := He.ma K (lnC K) "__init__"
abbrev LnV : Type := Option (Str × Str × Arguments × FuncBody × Scope × Addr × Addr)
def lnObs (K : PySem.W.Frag) : LnV := match K.lookup (lnI K) with
  | some ⟨_, _, .func fd, _⟩ => some (fd.name, fd.qualname, fd.params, fd.body, fd.scope, fd.globals, fd.builtins)
  | _ => none
def lnVal : LnV := some ("__init__", "InvalidLine.__init__", defArgs sLine, .stmts (defBody sLine), defScope sLine, mainGlobals, builtinsNs)
def lnFn (K : PySem.W.Frag) : Bool := match K.lookup (lnI K) with
  | some ⟨_, _, .func fd, _⟩ => (match fd.closure, fd.code, fd.defaults with
    | [(n, c)], .ref cda, .ref T => decide (n = "__class__") && (PySem.W.codeIn K (.ref cda) "InvalidLine.__init__" && ((match K.lookup T with
        | some ⟨_, _, .seq its _, _⟩ => decide (its.size = 1)
        | _ => false) && ((match K.lookup cda with
        | some ⟨_, _, .fields vs, _⟩ => (match vs[2]? with
          | some (Value.str f _) => ("/claim/cut.py" : Str) == f
          | _ => false)
        | _ => false) && (match K.lookup c with
        | some ⟨_, _, .cell (some (.ref D)), _⟩ => decide (D = lnC K)
        | _ => false))))
    | _, _, _ => false)
  | _ => false
def eqB (a : Option Bool) : Bool := decide (a = some true)
def lnB (K : PySem.W.Frag) : List Bool := [PySem.W.excInitIn K (lnC K) PySem.HandSPX.veTail "ValueError.__new__", He.eqO (PySem.W.findIn K (.ref (lnC K)) "__init__") (some (some (.ref (lnI K)))), decide (PySem.W.typeIn K (.ref (lnI K)) = some (.type "function")),
  PySem.W.keepIn K (.ref (lnC K)), eqB (PySem.W.subIn K (.ref (lnC K)) (.type "BaseException")), eqB (PySem.W.subIn K (.ref (lnC K)) (.type "ValueError")), decide (PySem.W.typeIn K (.ref (lnC K)) = some (.type "type")), PySem.W.isClsIn K (lnC K),
  He.eqO (PySem.W.ks_superIn K (lnC K) (lnC K) "__init__") (some (some (.builtin VEi))), eqB (PySem.W.mroIn K (lnC K) (.ref (lnC K))), He.eqO (PySem.W.nsIn K cStatics "thirdparty.any") (some none), lnFn K]
def xcB (K : PySem.W.Frag) : List Bool := [He.eqO (PySem.W.findIn K (.ref (lnC K)) "__getattribute__") (some (some (.builtin "BaseException.__getattribute__"))), He.eqO (PySem.W.findIn K (.ref (lnC K)) "__getattr__") (some none), PySem.W.hasDictIn K (lnC K),
  He.eqO (PySem.W.findIn K (.ref (lnC K)) "__class__") (some (some (.builtin "object.__class__"))), He.eqO (PySem.W.specialIn K (.builtin "object.__class__") "__get__") (some (some (.builtin "getset_descriptor.__get__"))), eqB (PySem.W.takesIn K (.builtin "object.__class__")), eqB (PySem.W.mroIn K (lnC K) (.type "object")),
  eqB (PySem.W.kitOne K (.ref (lnC K)) (.type "ValueError"))]
def dkB (K : PySem.W.Frag) : List Bool := [PySem.W.readsIn K (He.ga K "Desk") (.type "type"), He.eqO (PySem.W.specialIn K (.ref (He.ga K "Desk")) "__getattribute__") (some (some (.builtin "type.__getattribute__"))),
  (match PySem.W.findCls K (.ref (He.ga K "Desk")) (.type "type") "MOST_STEPS" with
    | some (.val (.int i _)) => decide (i = 400)
    | _ => false)]
def kd0 : List Str := ["DuplicateWriter", "InvalidBudget", "InvalidEvent", "InvalidImage", "InvalidLine", "InvalidName", "InvalidRecord", "InvalidShare", "InvalidSizes", "InvalidState"]
def kd1 : List Str := ["InvalidTable", "InvalidText", "InvalidTown", "InvalidTree", "LastWriter", "NoFlagLeft", "NoRight", "NoStory", "NothingToRedo", "NothingToUndo"]
def kd2 : List Str := ["StillTold", "SumTooGreat", "TooMany", "TooManyTurns", "UnknownFork", "UnknownHall", "UnknownWriter", "UnlikePlans"]
def kd : List Str := kd0 ++ (kd1 ++ (kd2))
def kdB (K : PySem.W.Frag) : Bool := kd.all fun x => decide (PySem.W.kitOne K (.ref (lnC K)) (.ref (He.ga K x)) = some (decide (x = "InvalidLine")))
def exB (K : PySem.W.Frag) : Bool := (lnB K).all id && ((xcB K).all id && ((dkB K).all id && kdB K))
def fa0 : List He.Fa := [.glo "is_name", .glo "is_record", .glo "split_word", .glo "read_name", .glo "read_record", .glo "read_steps", .glo "parse_write", .glo "parse_cut", .glo "parse_admit", .glo "parse_line", .glo "format_line", .glo "_law_refusal", .glo "_law_box", .glo "_law_draw"]
def fa1 : List He.Fa := [.glo "_law_name", .glo "_law_is_name", .glo "_law_signs", .glo "_law_is_record", .glo "_law_number", .glo "_law_read", .glo "_law_line", .glo "_law_text", .glo "_law_deed", .glo "_law_spoilt", .glo "_law_odd_line", .glo "_law_call", .glo "_law_is_deed", .glo "_law_reads"]
def fa2 : List He.Fa := [.glo "law", .glo "DuplicateWriter", .glo "InvalidBudget", .glo "InvalidEvent", .glo "InvalidImage", .glo "InvalidLine", .glo "InvalidName", .glo "InvalidRecord", .glo "InvalidShare", .glo "InvalidSizes", .glo "InvalidState", .glo "InvalidTable", .glo "InvalidText", .glo "InvalidTown"]
def fa3 : List He.Fa := [.glo "InvalidTree", .glo "LastWriter", .glo "NoFlagLeft", .glo "NoRight", .glo "NoStory", .glo "NothingToRedo", .glo "NothingToUndo", .glo "StillTold", .glo "SumTooGreat", .glo "TooMany", .glo "TooManyTurns", .glo "UnknownFork", .glo "UnknownHall", .glo "UnknownWriter"]
def fa4 : List He.Fa := [.glo "UnlikePlans", .glo "ForkError", .glo "Desk", .free "isinstance", .free "len", .free "int", .free "str", .free "range", .free "all", .free "bool", .free "ValueError", .free "super", .free "tuple", .str "_LETTERS" "abcdefghijklmnopqrstuvwxyz"]
def fa5 : List He.Fa := [.str "DIGITS" "0123456789", .int "_MOST_LETTERS" 8, .int "RECORD_LIMIT" 200, .int "STEP_LIMIT" 400, .exm "InvalidLine" "ForkError" true]
def fa : List He.Fa := fa0 ++ (fa1 ++ (fa2 ++ (fa3 ++ (fa4 ++ (fa5)))))
def D_is_name : He.DefD := ⟨("is_name", none), "is_name", "is_name", defArgs s_is_name, defBody s_is_name, defScope s_is_name, [], []⟩
def D_is_record : He.DefD := ⟨("is_record", none), "is_record", "is_record", defArgs s_is_record, defBody s_is_record, defScope s_is_record, [], []⟩
def D_split_word : He.DefD := ⟨("split_word", none), "split_word", "split_word", defArgs s_split_word, defBody s_split_word, defScope s_split_word, [], []⟩
def D_read_name : He.DefD := ⟨("read_name", none), "read_name", "read_name", defArgs s_read_name, defBody s_read_name, defScope s_read_name, [], []⟩
def D_read_record : He.DefD := ⟨("read_record", none), "read_record", "read_record", defArgs s_read_record, defBody s_read_record, defScope s_read_record, [], []⟩
def D_read_steps : He.DefD := ⟨("read_steps", none), "read_steps", "read_steps", defArgs s_read_steps, defBody s_read_steps, defScope s_read_steps, [], []⟩
def D_parse_write : He.DefD := ⟨("parse_write", none), "parse_write", "parse_write", defArgs s_parse_write, defBody s_parse_write, defScope s_parse_write, [], []⟩
def D_parse_cut : He.DefD := ⟨("parse_cut", none), "parse_cut", "parse_cut", defArgs s_parse_cut, defBody s_parse_cut, defScope s_parse_cut, [], []⟩
def D_parse_admit : He.DefD := ⟨("parse_admit", none), "parse_admit", "parse_admit", defArgs s_parse_admit, defBody s_parse_admit, defScope s_parse_admit, [], []⟩
def D_parse_line : He.DefD := ⟨("parse_line", none), "parse_line", "parse_line", defArgs s_parse_line, defBody s_parse_line, defScope s_parse_line, [], []⟩
def D_format_line : He.DefD := ⟨("format_line", none), "format_line", "format_line", defArgs s_format_line, defBody s_format_line, defScope s_format_line, [], []⟩
def D_l_refusal : He.DefD := ⟨("_law_refusal", none), "_law_refusal", "_law_refusal", defArgs s_l_refusal, defBody s_l_refusal, defScope s_l_refusal, [], []⟩
def D_l_box : He.DefD := ⟨("_law_box", none), "_law_box", "_law_box", defArgs s_l_box, defBody s_l_box, defScope s_l_box, [], []⟩
def D_l_draw : He.DefD := ⟨("_law_draw", none), "_law_draw", "_law_draw", defArgs s_l_draw, defBody s_l_draw, defScope s_l_draw, [], []⟩
def D_l_name : He.DefD := ⟨("_law_name", none), "_law_name", "_law_name", defArgs s_l_name, defBody s_l_name, defScope s_l_name, [], []⟩
def D_l_is_name : He.DefD := ⟨("_law_is_name", none), "_law_is_name", "_law_is_name", defArgs s_l_is_name, defBody s_l_is_name, defScope s_l_is_name, [], []⟩
def D_l_signs : He.DefD := ⟨("_law_signs", none), "_law_signs", "_law_signs", defArgs s_l_signs, defBody s_l_signs, defScope s_l_signs, [], []⟩
def D_l_is_record : He.DefD := ⟨("_law_is_record", none), "_law_is_record", "_law_is_record", defArgs s_l_is_record, defBody s_l_is_record, defScope s_l_is_record, [], []⟩
def D_l_number : He.DefD := ⟨("_law_number", none), "_law_number", "_law_number", defArgs s_l_number, defBody s_l_number, defScope s_l_number, [], []⟩
def D_l_read : He.DefD := ⟨("_law_read", none), "_law_read", "_law_read", defArgs s_l_read, defBody s_l_read, defScope s_l_read, [], []⟩
def D_l_line : He.DefD := ⟨("_law_line", none), "_law_line", "_law_line", defArgs s_l_line, defBody s_l_line, defScope s_l_line, [], []⟩
def D_l_text : He.DefD := ⟨("_law_text", none), "_law_text", "_law_text", defArgs s_l_text, defBody s_l_text, defScope s_l_text, [], []⟩
def D_l_deed : He.DefD := ⟨("_law_deed", none), "_law_deed", "_law_deed", defArgs s_l_deed, defBody s_l_deed, defScope s_l_deed, [], []⟩
def D_l_spoilt : He.DefD := ⟨("_law_spoilt", none), "_law_spoilt", "_law_spoilt", defArgs s_l_spoilt, defBody s_l_spoilt, defScope s_l_spoilt, [], []⟩
def D_l_odd_line : He.DefD := ⟨("_law_odd_line", none), "_law_odd_line", "_law_odd_line", defArgs s_l_odd_line, defBody s_l_odd_line, defScope s_l_odd_line, [], []⟩
def D_l_call : He.DefD := ⟨("_law_call", none), "_law_call", "_law_call", defArgs s_l_call, defBody s_l_call, defScope s_l_call, [], []⟩
def D_l_is_deed : He.DefD := ⟨("_law_is_deed", none), "_law_is_deed", "_law_is_deed", defArgs s_l_is_deed, defBody s_l_is_deed, defScope s_l_is_deed, [], []⟩
def D_l_reads : He.DefD := ⟨("_law_reads", none), "_law_reads", "_law_reads", defArgs s_l_reads, defBody s_l_reads, defScope s_l_reads, [], []⟩
def D_law : He.DefD := ⟨("law", none), "law", "law", defArgs s_law, defBody s_law, defScope s_law, [], []⟩
def fn0 : List He.DefD := [D_is_name, D_is_record, D_split_word, D_read_name, D_read_record, D_read_steps, D_parse_write, D_parse_cut, D_parse_admit, D_parse_line, D_format_line, D_l_refusal]
def fn1 : List He.DefD := [D_l_box, D_l_draw, D_l_name, D_l_is_name, D_l_signs, D_l_is_record, D_l_number, D_l_read, D_l_line, D_l_text, D_l_deed, D_l_spoilt]
def fn2 : List He.DefD := [D_l_odd_line, D_l_call, D_l_is_deed, D_l_reads, D_law]
def fn : List He.DefD := fn0 ++ (fn1 ++ (fn2))
abbrev AlY : Type := He.AlD × Bool × LnV
def obsY (g : Addr → Option Obj) : AlY := (He.obsD fa fn (He.frG g (asY g)), exB (He.frG g (asY g)), lnObs (He.frG g (asY g)))
def valY : AlY := (He.valD fn, true, lnVal)
structure SaysY (K : PySem.W.Frag) : Prop where
  d : He.SaysD fa fn K
  ex : exB K = true
  ln : lnObs K = lnVal
def hk : PySem.W.Hook where
  α := AlY
  obs := fun s => obsY s.heap.get?
  val := fun _ => valY
  says := fun _ h => ∃ K : PySem.W.Frag, K.In h ∧ SaysY K
  of := fun _ _ e => ⟨_, He.frG_in, congrArg (fun z : AlY => z.1) e, congrArg (fun z : AlY => z.2.1) e, congrArg (fun z : AlY => z.2.2) e⟩
  keeps := fun _ _ _ ⟨K, hK, c⟩ k => ⟨K, PySem.W.Frag.In.keeps hK k, c⟩
def ob (s : PySem.W.SharedT) : AlY := obsY (HandSHeadRun.getT s)
theorem ob_eq (s : PySem.W.SharedT) : ob s = hk.obs s.abs := by
  have e : HandSHeadRun.getT s = s.abs.heap.get? := funext fun a => HandSHeadRun.getT_eq s a
  show obsY (HandSHeadRun.getT s) = obsY s.abs.heap.get?
  rw [e]
def nm0 : List Str := ["_wall", "_shown", "ForkError", "InvalidName", "InvalidShare", "InvalidTree", "InvalidText", "InvalidBudget", "SumTooGreat", "UnknownWriter", "DuplicateWriter", "UnknownFork", "UnknownHall", "InvalidState", "TooManyTurns", "InvalidEvent", "TooMany", "LastWriter"]
def nm1 : List Str := ["UnlikePlans", "InvalidSizes", "NoRight", "InvalidTown", "InvalidTable", "NoStory", "InvalidRecord", "InvalidImage", "StillTold", "NoFlagLeft", "NothingToUndo", "NothingToRedo", "InvalidLine", "_LETTERS", "_MOST_LETTERS", "is_name", "RECORD_LIMIT", "EMPTY_SLOTS"]
def nm2 : List Str := ["is_record", "good_slot", "spare_slot", "fill_spare", "turn_pointer", "slot_steps", "slots_after", "STEP_LIMIT", "DIGITS", "split_word", "read_name", "read_record", "read_steps", "parse_write", "parse_cut", "parse_admit", "parse_line", "format_line"]
def nm3 : List Str := ["LEAF_LIMIT", "is_tree", "check_tree", "subtrees_of", "leaf_names", "ways_of", "way_of", "forks_of", "format_tree", "_spelled", "is_below", "Plan", "flags_by_fork", "ForkPlan", "subtree_at", "with_subtree", "mirror", "graft"]
def nm4 : List Str := ["prune", "marks_by_cell", "state_from_marks", "admitted", "level_without", "tree_without", "dismissed", "Store", "check_depths", "store_with_writer", "store_without_writer", "Desk", "_law_refusal", "_law_box", "_law_draw", "_law_name", "_law_is_name", "_law_signs"]
def nm5 : List Str := ["_law_is_record", "_law_number", "_law_read", "_law_line", "_law_text", "_law_deed", "_law_spoilt", "_law_odd_line", "_law_call", "_law_is_deed", "_law_reads"]
def names : List Str := nm0 ++ (nm1 ++ (nm2 ++ (nm3 ++ (nm4 ++ (nm5)))))
noncomputable abbrev topEnd (r : PySem.W.OpenRow) (M : Nat) (w : World) (os : OsState) : Option PySem.W.SharedT := HandSHeadRun.endF (HandSHeadRun.stepQ (HandSHeadRun.denQ HandSHeadRun.tabQ) r.prog w) M r.prog w os
def EndLooks (r : PySem.W.OpenRow) (M : Nat) (w : World) : Prop := ∀ os : OsState, (topEnd r M w os).map (fun s => HandSHeadRun.looksF r.prog (PySem.W.boot_heap w.params) s.abs) = some true
def EndSeen (r : PySem.W.OpenRow) (q : Program) (M : Nat) (loose : List Str) (w : World) : Prop := ∀ os : OsState, (topEnd r M w os).map (fun s => HandSHeadRun.seenQ q loose (importedModules r.prog.main.body) (fun s => PySem.W.xlAt q [] s && PySem.W.recOk r.toRowW.records s) s.abs) = some (PySem.W.openGood q loose)
def EndOb (r : PySem.W.OpenRow) (H : PySem.W.Hook) (ob : PySem.W.SharedT → H.α) (M : Nat) (w : World) : Prop := ∀ os : OsState, (topEnd r M w os).map (fun s => ob s) = some (H.val w)
theorem map3 {α β γ δ : Type} {x : Option α} {f : α → β} {g : α → γ} {h : α → δ} {b : β} {c : γ} {d : δ} (e1 : x.map f = some b) (e2 : x.map g = some c) (e3 : x.map h = some d) : x.map (fun a => (f a, g a, h a)) = some (b, c, d) := by
  cases x with
  | none => cases e1
  | some a =>
    cases e1
    cases e2
    cases e3
    rfl
theorem runEq_of {r : PySem.W.OpenRow} {q : Program} {H : PySem.W.Hook} {ob : PySem.W.SharedT → H.α} {M : Nat} {loose : List Str} {w : World} (h1 : EndLooks r M w) (h2 : EndSeen r q M loose w) (h3 : EndOb r H ob M w) : HandSHeadRun.RunEq r q H ob M loose w :=
  fun os => map3 (h1 os) (h2 os) (h3 os)
theorem run_looks (w : World) : EndLooks R 13500 w := by
  intro os
  kernel_rfl
theorem run_seen (w : World) : EndSeen R (PySem.W.view R.prog [114]) 13500 names w := by
  intro os
  kernel_rfl
theorem run_ob (w : World) : EndOb R hk ob 13500 w := by
  intro os
  kernel_rfl
theorem run (w : World) : HandSHeadRun.RunEq R (PySem.W.view R.prog [114]) hk ob 13500 names w := runEq_of (run_looks w) (run_seen w) (run_ob w)
end K58
set_option Elab.async false
set_option linter.all false
set_option maxRecDepth 100000
set_option maxHeartbeats 4000000
/-! The plain law: texts, deeds, what the program reads and what the law's own reader reads. No program in sight. -/
namespace K58
open PySem PySem.Spec PyProof.Rows L2 TL
def letS : Str := "abcdefghijklmnopqrstuvwxyz"
def digS : Str := "0123456789"
def sig1 : Str := " !\"#$&'()*+,-./0123456789:;<=>?@ABCDEFGHIJKLMNOPQRSTUVWXYZ[\\]^_`"
def sig2 : Str := "abcdefghijklmnopqrstuvwxyz{|}~"
def sigS : Str := sig1 ++ sig2
def nameB (s : Str) : Bool := decide (1 ≤ s.length) && (decide (s.length ≤ 8) && (tl s).all fun c => decide (c ∈ tl letS))
def recP (s : Str) : Bool := decide (s.length ≤ 200) && (tl s).all fun c => decide (32 ≤ c) && decide (c ≤ 126)
def recL (s : Str) : Bool := decide (s.length ≤ 200) && (tl s).all fun c => decide (c ∈ tl sigS)
def digB (s : Str) : Bool := decide (1 ≤ s.length) && (decide (s.length ≤ 3) && (tl s).all fun c => decide (c ∈ tl digS))
def valN (s : Str) : Nat := NumText.digitsVal (tl s)
/-- the number of steps that a word writes -/
def numM (s : Str) : Option Nat := if digB s = true then (if (tl s).head? = some 48 ∧ s ≠ "0" then none else if 400 < valN s then none else some (valN s)) else none

/-! ### signs -/
theorem sig_small : ∀ c ∈ tl sigS, c < 128 := by decide +kernel
theorem sig_tab : ∀ c < 128, c ≠ 37 → decide (c ∈ tl sigS) = (decide (32 ≤ c) && decide (c ≤ 126)) := by decide +kernel
theorem sig_iff {c : Nat} (h : c ≠ 37) : decide (c ∈ tl sigS) = (decide (32 ≤ c) && decide (c ≤ 126)) := by
  by_cases hc : c < 128
  · exact sig_tab c hc h
  · rw [decide_eq_false fun m => hc (sig_small c m), decide_eq_false (show ¬ c ≤ 126 by omega), Bool.and_false]
theorem sig_37 : 37 ∉ tl sigS := by decide +kernel
theorem let_37 : 37 ∉ tl letS := by decide +kernel
theorem let_32 : 32 ∉ tl letS := by decide +kernel
theorem dig_37 : 37 ∉ tl digS := by decide +kernel
theorem dig_tab : ∀ c < 128, decide (c ∈ tl digS) = (decide (48 ≤ c) && decide (c ≤ 57)) := by decide +kernel
theorem dig_small : ∀ c ∈ tl digS, 48 ≤ c ∧ c ≤ 57 := by decide +kernel
theorem dig_of {c : Nat} (h : 48 ≤ c ∧ c ≤ 57) : c ∈ tl digS := by
  have z := dig_tab c (by omega)
  rw [decide_eq_true h.1, decide_eq_true h.2] at z
  exact of_decide_eq_true z
theorem recs {s : Str} (h : 37 ∉ tl s) : recL s = recP s := by
  unfold recL recP
  congr 1
  have key : ∀ l : List Nat, 37 ∉ l → (l.all fun c => decide (c ∈ tl sigS)) = l.all fun c => decide (32 ≤ c) && decide (c ≤ 126) := by
    intro l
    induction l with
    | nil => intro _; rfl
    | cons a r ih =>
      intro h
      rw [List.all_cons, List.all_cons, ih fun m => h (List.mem_cons_of_mem _ m), sig_iff fun e => h (by rw [e]; exact List.mem_cons_self)]
  exact key _ h

/-! ### partition at the space -/
theorem tl_sp : tl (" " : Str) = [32] := by decide +kernel
theorem tl_nil : tl (Str.empty : Str) = [] := rfl
theorem split_first (l : List Nat) : 32 ∉ l ∨ ∃ a c, 32 ∉ a ∧ l = a ++ ([32] ++ c) := by
  induction l with
  | nil => exact .inl (by simp)
  | cons x r ih =>
    by_cases hx : x = 32
    · exact .inr ⟨[], r, by simp, by simp [hx]⟩
    · rcases ih with h | ⟨a, c, h1, h2⟩
      · exact .inl (by simp [h, Ne.symm hx])
      · exact .inr ⟨x :: a, c, by simp [h1, Ne.symm hx], by simp [h2]⟩
abbrev part (s : Str) : Str × Str × Str := Txt.partition s " "
theorem part_cases (s : Str) : (32 ∉ tl s ∧ part s = (s, Str.empty, Str.empty)) ∨ ∃ a c, 32 ∉ tl a ∧ s = a ++ " " ++ c ∧ part s = (a, (" " : Str), c) := by
  rcases split_first (tl s) with h | ⟨a, c, h1, h2⟩
  · exact .inl ⟨h, partition_none tl_sp h⟩
  · have e : s = ⟨a.toArray⟩ ++ " " ++ ⟨c.toArray⟩ := ext_tl (by rw [tl_append, tl_append, tl_sp, h2]; simp [tl])
    refine .inr ⟨⟨a.toArray⟩, ⟨c.toArray⟩, by simpa [tl] using h1, e, ?_⟩
    rw [e]
    exact partition_app tl_sp (by simpa [tl] using h1)
theorem part_app {a b : Str} (h : 32 ∉ tl a) : part (a ++ " " ++ b) = (a, (" " : Str), b) := partition_app tl_sp h
theorem part_no {a : Str} (h : 32 ∉ tl a) : part a = (a, Str.empty, Str.empty) := partition_none tl_sp h
theorem sp_ne : ¬ ((" " : Str) = Str.empty) := by decide +kernel
end K58
set_option Elab.async false
set_option linter.all false
set_option maxRecDepth 100000
set_option maxHeartbeats 4000000
namespace K58
open PySem PySem.Spec PyProof.Rows L2 TL
/-! ### what is read -/
def pWrite (r : Str) : Option (List V) := if (part r).2.1 = Str.empty then none else if nameB (part r).1 = true ∧ recP (part r).2.2 = true then some [.str "write", .str (part r).1, .str (part r).2.2] else none
def pCut (r : Str) : Option (List V) := if (part r).2.1 = Str.empty then none else if (part (part r).2.2).2.1 = Str.empty then none else
  match numM (part (part r).2.2).1 with
  | none => none
  | some n => if nameB (part r).1 = true ∧ recP (part (part r).2.2).2.2 = true then some [.str "cut", .str (part r).1, .str (part (part r).2.2).2.2, .int (n : Int)] else none
def pAdmit (r : Str) : Option (List V) := if (part r).2.1 = Str.empty then none else if nameB (part r).1 = true ∧ nameB (part r).2.2 = true then some [.str "admit", .str (part r).1, .str (part r).2.2] else none
/-- the program's reader -/
def parseM (s : Str) : Option (List V) := if s = "undo" ∨ s = "redo" then some [.str s] else if (part s).1 = "write" then pWrite (part s).2.2 else if (part s).1 = "cut" then pCut (part s).2.2 else if (part s).1 = "admit" then pAdmit (part s).2.2 else
  if (part s).1 = "dismiss" then (if nameB (part s).2.2 = true then some [.str "dismiss", .str (part s).2.2] else none) else none
/-- the law's own reader; h the head's rest cut at its first space, t the rest of that -/
def readM3 (w a b : Str) : Option (List V) := match numM (part b).1 with
  | some n => if w = "cut" ∧ (part b).2.1 = " " ∧ recL (part b).2.2 = true then some [.str "cut", .str a, .str (part b).2.2, .int (n : Int)] else none
  | none => none
def readM2 (w r : Str) : Option (List V) := if (part r).2.1 = Str.empty ∨ nameB (part r).1 = false then none else if w = "admit" ∧ nameB (part r).2.2 = true then some [.str "admit", .str (part r).1, .str (part r).2.2] else
  if w = "write" ∧ recL (part r).2.2 = true then some [.str "write", .str (part r).1, .str (part r).2.2] else readM3 w (part r).1 (part r).2.2
def readM (s : Str) : Option (List V) := if s = "undo" ∨ s = "redo" then some [.str s] else if (part s).1 = "dismiss" ∧ nameB (part s).2.2 = true then some [.str "dismiss", .str (part s).2.2] else readM2 (part s).1 (part s).2.2
theorem part_37 {s : Str} (h : 37 ∉ tl s) : 37 ∉ tl (part s).1 ∧ 37 ∉ tl (part s).2.2 := by
  rcases part_cases s with ⟨_, e⟩ | ⟨a, c, _, e, e2⟩
  · rw [e]
    exact ⟨h, by simp [tl_nil]⟩
  · rw [e2]
    rw [e, tl_append, tl_append] at h
    simp only [List.mem_append, not_or] at h
    exact ⟨h.1.1, h.2⟩
theorem part_mid (s : Str) : (part s).2.1 = Str.empty ∨ (part s).2.1 = " " := by
  rcases part_cases s with ⟨_, e⟩ | ⟨a, c, _, _, e⟩
  · rw [e]; exact .inl rfl
  · rw [e]; exact .inr rfl
theorem mid_iff (s : Str) : (part s).2.1 = " " ↔ ¬ (part s).2.1 = Str.empty := by
  rcases part_mid s with h | h
  · rw [h]; exact ⟨fun e => absurd e.symm sp_ne, fun n => absurd rfl n⟩
  · rw [h]; exact ⟨fun _ => sp_ne, fun _ => rfl⟩
theorem ne_words : ¬ (("dismiss" : Str) = "write") ∧ ¬ (("dismiss" : Str) = "cut") ∧ ¬ (("dismiss" : Str) = "admit") ∧ ¬ (("admit" : Str) = "write") ∧ ¬ (("admit" : Str) = "cut") ∧ ¬ (("write" : Str) = "admit") ∧ ¬ (("cut" : Str) = "admit") ∧ ¬ (("cut" : Str) = "write") ∧ ¬ (("write" : Str) = "cut") ∧
    ¬ (("write" : Str) = "dismiss") ∧ ¬ (("cut" : Str) = "dismiss") ∧ ¬ (("admit" : Str) = "dismiss") := by decide +kernel
theorem agree {s : Str} (h : 37 ∉ tl s) : readM s = parseM s := by
  obtain ⟨n1, n2, n3, n4, n5, n6, n7, n8, n9, n10, n11, n12⟩ := ne_words
  unfold readM parseM
  by_cases h0 : s = "undo" ∨ s = "redo"
  · rw [if_pos h0, if_pos h0]
  · rw [if_neg h0, if_neg h0]
    have h2 := (part_37 h).2
    have h3 := (part_37 h2).2
    have h4 := (part_37 h3).2
    have r3 := recs h3
    have r4 := recs h4
    generalize hw : (part s).1 = w
    generalize (part s).2.2 = r at h2 h3 h4 r3 r4
    by_cases w1 : w = "write"
    · subst w1
      unfold readM2 pWrite readM3
      simp only [n10, n6, n9, false_and, if_false, if_true, true_and, r3]
      by_cases e : (part r).2.1 = Str.empty
      · simp [e]
      · cases nb : nameB (part r).1
        · simp [e]
        · cases rb : recP (part r).2.2
          · simp [e]
            split <;> rfl
          · simp [e]
    · by_cases w2 : w = "cut"
      · subst w2
        unfold readM2 pCut readM3
        simp only [n11, n7, n8, false_and, if_false, if_true, true_and, r4, mid_iff]
        by_cases e : (part r).2.1 = Str.empty
        · simp [e]
        · by_cases e2 : (part (part r).2.2).2.1 = Str.empty
          · cases numM (part (part r).2.2).1 <;> simp [e, e2]
          · cases numM (part (part r).2.2).1 <;> cases nb : nameB (part r).1 <;> simp [e, e2, nb]
      · by_cases w3 : w = "admit"
        · subst w3
          unfold readM2 pAdmit readM3
          simp only [n12, n4, n5, false_and, if_false, if_true, true_and]
          by_cases e : (part r).2.1 = Str.empty
          · simp [e]
          · cases nb : nameB (part r).1
            · simp [e]
            · cases rb : nameB (part r).2.2
              · simp [e]
                split <;> rfl
              · simp [e]
        · rw [if_neg w1, if_neg w2, if_neg w3]
          by_cases w4 : w = "dismiss"
          · subst w4
            cases nb : nameB r
            · unfold readM2 readM3
              simp [n1, n2, n3]
              intro _ _
              split <;> simp [n2]
            · simp
          · rw [if_neg w4, if_neg (fun z => w4 z.1)]
            unfold readM2 readM3
            simp [w1, w2, w3]
            intro _ _
            split <;> rfl
end K58
set_option Elab.async false
set_option linter.all false
set_option maxRecDepth 100000
set_option maxHeartbeats 4000000
namespace K58
open PySem PySem.Spec PyProof.Rows L2 TL
/-! ### numbers as texts -/
abbrev numS (n : Nat) : Str := Str.ofString (toString ((n : Nat) : Int))
theorem tl_numS (n : Nat) : tl (numS n) = numL n := tl_num n
theorem digB_all {s : Str} (h : digB s = true) : NumText.AllDigits (tl s) ∧ 1 ≤ s.length ∧ s.length ≤ 3 := by
  unfold digB at h
  rw [Bool.and_eq_true, Bool.and_eq_true, decide_eq_true_eq, decide_eq_true_eq, List.all_eq_true] at h
  exact ⟨fun c hc => dig_small c (of_decide_eq_true (h.2.2 c hc)), h.1, h.2.1⟩
theorem digB_of {s : Str} (h : NumText.AllDigits (tl s)) (h1 : 1 ≤ s.length) (h3 : s.length ≤ 3) : digB s = true := by
  unfold digB
  rw [decide_eq_true h1, decide_eq_true h3]
  exact List.all_eq_true.mpr fun c hc => decide_eq_true (dig_of (h c hc))
theorem zero_tl : tl ("0" : Str) = [48] := by decide +kernel
theorem char_back {c : Nat} (h : 48 ≤ c ∧ c ≤ 57) : (Char.ofNat c).toNat = c := by
  have tab : ∀ c ≤ 57, 48 ≤ c → (Char.ofNat c).toNat = c := by decide
  exact tab c h.2 h.1
theorem numM_back {s : Str} {n : Nat} (h : numM s = some n) : numS n = s ∧ n ≤ 400 ∧ digB s = true ∧ intText? s = some (n : Int) ∧ ¬ ((tl s).head? = some 48 ∧ s ≠ "0") ∧ valN s = n := by
  unfold numM at h
  by_cases hd : digB s = true
  · rw [if_pos hd] at h
    by_cases h0 : (tl s).head? = some 48 ∧ s ≠ "0"
    · rw [if_pos h0] at h; cases h
    · rw [if_neg h0] at h
      by_cases h4 : 400 < valN s
      · rw [if_pos h4] at h; cases h
      · rw [if_neg h4] at h
        have e : valN s = n := Option.some.inj h
        obtain ⟨ad, l1, l3⟩ := digB_all hd
        have hne : tl s ≠ [] := fun z => by rw [len_tl, z] at l1; simp at l1
        refine ⟨ext_tl ?_, by omega, hd, ?_, h0, e⟩
        · rw [tl_numS, ← e]
          have key : Nat.toDigits 10 (NumText.digitsVal (tl s)) = (tl s).map Char.ofNat := by
            refine NumText.toDigits_digitsVal ((tl s).length - 1) (tl s) (by rw [len_tl] at l1; omega) ad ?_
            cases hs : tl s with
            | nil => exact absurd hs hne
            | cons c r =>
              by_cases hc : c = 48
              · refine .inl ?_
                have hz : s = "0" := Classical.byContradiction fun z => h0 ⟨by rw [hs, hc]; rfl, z⟩
                rw [hz, zero_tl] at hs
                cases hs
                rfl
              · exact .inr ⟨c, r, rfl, by have := (ad c (by rw [hs]; exact List.mem_cons_self)).1; omega⟩
          show (Nat.toDigits 10 (NumText.digitsVal (tl s))).map Char.toNat = tl s
          rw [key, List.map_map]
          exact (List.map_congr_left fun c hc => char_back (ad c hc)).trans (List.map_id _)
        · rw [← e]
          exact intText_digits ad hne (by omega)
  · rw [if_neg hd] at h; cases h
theorem head_tab : ∀ n ≤ 400, (numL n).head? = some 48 → n = 0 := by decide +kernel
theorem len_numS {n : Nat} (h : n < 1000) : (numS n).length ≤ 3 := by
  rw [len_tl, tl_numS]
  exact numL_len (k := 3) (by decide) (by omega)
theorem numS_pos (n : Nat) : 1 ≤ (numS n).length := by
  rw [len_tl, tl_numS]
  exact List.length_pos_iff.mpr (numL_ne n)
theorem valN_num (n : Nat) : valN (numS n) = n := by
  unfold valN
  rw [tl_numS]
  exact numL_val n
theorem zero_num : numS 0 = "0" := by decide +kernel
theorem numM_num {n : Nat} (h : n ≤ 400) : numM (numS n) = some n := by
  have hd : digB (numS n) = true := digB_of (by rw [tl_numS]; exact numL_digits n) (numS_pos n) (len_numS (by omega))
  unfold numM
  rw [if_pos hd, if_neg, valN_num, if_neg (by omega)]
  rintro ⟨h1, h2⟩
  rw [tl_numS] at h1
  have e := head_tab n h h1
  rw [e] at h2
  exact h2 zero_num
theorem num_free {n s : Nat} (h : s < 48 ∨ 57 < s) : s ∉ tl (numS n) := by
  rw [tl_numS]
  exact numL_free h
theorem numM_free {s : Str} {n c : Nat} (h : numM s = some n) (hc : c < 48 ∨ 57 < c) : c ∉ tl s := by
  rw [← (numM_back h).1]
  exact num_free hc

/-! ### deeds and their lines -/
inductive Deed : List V → Str → Prop
  | one (w : Str) (h : w ≠ "cut") : Deed [.str w] w
  | two (w a : Str) (h : w ≠ "cut") : Deed [.str w, .str a] (w ++ " " ++ a)
  | three (w a b : Str) (h : w ≠ "cut") : Deed [.str w, .str a, .str b] (w ++ " " ++ (a ++ " " ++ b))
  | cut (a b : Str) (n : Nat) (h : n < 1000) : Deed [.str "cut", .str a, .str b, .int (n : Int)] ("cut" ++ " " ++ (a ++ " " ++ (numS n ++ " " ++ b)))
/-- a deed as the law draws them, and its line -/
inductive GDeed : List V → Str → Prop
  | undo : GDeed [.str "undo"] "undo"
  | redo : GDeed [.str "redo"] "redo"
  | dismiss (a : Str) (h : nameB a = true) : GDeed [.str "dismiss", .str a] ("dismiss" ++ " " ++ a)
  | admit (a b : Str) (h : nameB a = true) (h2 : nameB b = true) : GDeed [.str "admit", .str a, .str b] ("admit" ++ " " ++ (a ++ " " ++ b))
  | write (a t : Str) (h : nameB a = true) (h2 : recP t = true) (h3 : 37 ∉ tl t) : GDeed [.str "write", .str a, .str t] ("write" ++ " " ++ (a ++ " " ++ t))
  | cut (a t : Str) (n : Nat) (h : nameB a = true) (h2 : recP t = true) (h3 : 37 ∉ tl t) (h4 : n ≤ 400) : GDeed [.str "cut", .str a, .str t, .int (n : Int)] ("cut" ++ " " ++ (a ++ " " ++ (numS n ++ " " ++ t)))
theorem name_tl {a : Str} (h : nameB a = true) : (∀ c ∈ tl a, c ∈ tl letS) ∧ 1 ≤ a.length ∧ a.length ≤ 8 := by
  unfold nameB at h
  rw [Bool.and_eq_true, Bool.and_eq_true, decide_eq_true_eq, decide_eq_true_eq, List.all_eq_true] at h
  exact ⟨fun c hc => of_decide_eq_true (h.2.2 c hc), h.1, h.2.1⟩
theorem name_32 {a : Str} (h : nameB a = true) : 32 ∉ tl a := fun m => let_32 ((name_tl h).1 _ m)
theorem name_37 {a : Str} (h : nameB a = true) : 37 ∉ tl a := fun m => let_37 ((name_tl h).1 _ m)
theorem rec_len {t : Str} (h : recP t = true) : t.length ≤ 200 := by
  unfold recP at h
  rw [Bool.and_eq_true, decide_eq_true_eq] at h
  exact h.1
theorem w_32 : 32 ∉ tl ("dismiss" : Str) ∧ 32 ∉ tl ("admit" : Str) ∧ 32 ∉ tl ("write" : Str) ∧ 32 ∉ tl ("cut" : Str) := by decide +kernel
theorem not_bare {w r : Str} : ¬ (w ++ " " ++ r = "undo" ∨ w ++ " " ++ r = "redo") := by
  have e1 : 32 ∉ tl ("undo" : Str) ∧ 32 ∉ tl ("redo" : Str) := by decide +kernel
  have m : 32 ∈ tl (w ++ " " ++ r) := by
    rw [tl_append, tl_append, tl_sp]
    simp
  rintro (h | h)
  · exact e1.1 (h ▸ m)
  · exact e1.2 (h ▸ m)
theorem gdeed_parse {ys : List V} {L : Str} (h : GDeed ys L) : parseM L = some ys := by
  obtain ⟨n1, n2, n3, n4, n5, n6, n7, n8, n9, n10, n11, n12⟩ := ne_words
  obtain ⟨d1, d2, d3, d4⟩ := w_32
  cases h with
  | undo => unfold parseM; rw [if_pos (.inl rfl)]
  | redo => unfold parseM; rw [if_pos (.inr rfl)]
  | dismiss a ha =>
    unfold parseM
    rw [if_neg not_bare, part_app d1, if_neg n1, if_neg n2, if_neg n3, if_pos rfl, if_pos ha]
  | admit a b ha hb =>
    unfold parseM
    rw [if_neg not_bare, part_app d2, if_neg n4, if_neg n5, if_pos rfl]
    unfold pAdmit
    rw [part_app (name_32 ha), if_neg sp_ne, if_pos ⟨ha, hb⟩]
  | write a t ha ht _ =>
    unfold parseM
    rw [if_neg not_bare, part_app d3, if_pos rfl]
    unfold pWrite
    rw [part_app (name_32 ha), if_neg sp_ne, if_pos ⟨ha, ht⟩]
  | cut a t n ha ht _ hn =>
    unfold parseM
    rw [if_neg not_bare, part_app d4, if_neg n8, if_pos rfl]
    unfold pCut
    rw [part_app (name_32 ha), if_neg sp_ne]
    dsimp only
    rw [part_app (num_free (by decide)), if_neg sp_ne]
    dsimp only
    rw [numM_num hn]
    dsimp only
    rw [if_pos ⟨ha, ht⟩]
theorem gdeed_deed {ys : List V} {L : Str} (h : GDeed ys L) : Deed ys L := by
  obtain ⟨n1, n2, n3, n4, n5, n6, n7, n8, n9, n10, n11, n12⟩ := ne_words
  have u : ¬ (("undo" : Str) = "cut") ∧ ¬ (("redo" : Str) = "cut") := by decide +kernel
  cases h with
  | undo => exact .one _ u.1
  | redo => exact .one _ u.2
  | dismiss a ha => exact .two _ _ n2
  | admit a b ha hb => exact .three _ _ _ n5
  | write a t ha ht _ => exact .three _ _ _ n9
  | cut a t n ha ht _ hn => exact .cut _ _ _ (by omega)
theorem gdeed_line {ys : List V} {L : Str} (h : GDeed ys L) : 37 ∉ tl L ∧ L.length ≤ 300 := by
  have w : 37 ∉ tl ("dismiss" : Str) ∧ 37 ∉ tl ("admit" : Str) ∧ 37 ∉ tl ("write" : Str) ∧ 37 ∉ tl ("cut" : Str) ∧ 37 ∉ tl ("undo" : Str) ∧ 37 ∉ tl ("redo" : Str) := by decide +kernel
  have l : (tl ("dismiss" : Str)).length = 7 ∧ (tl ("admit" : Str)).length = 5 ∧ (tl ("write" : Str)).length = 5 ∧ (tl ("cut" : Str)).length = 3 ∧ (tl ("undo" : Str)).length = 4 ∧ (tl ("redo" : Str)).length = 4 := by decide +kernel
  obtain ⟨w1, w2, w3, w4, w5, w6⟩ := w
  obtain ⟨l1, l2, l3, l4, l5, l6⟩ := l
  have nl : ∀ {a : Str}, nameB a = true → (tl a).length ≤ 8 := fun {a} ha => by rw [← len_tl]; exact (name_tl ha).2.2
  have rl : ∀ {a : Str}, recP a = true → (tl a).length ≤ 200 := fun {a} ha => by rw [← len_tl]; exact rec_len ha
  rw [len_tl]
  cases h with
  | undo => exact ⟨w5, by omega⟩
  | redo => exact ⟨w6, by omega⟩
  | dismiss a ha =>
    have := nl ha
    simp only [tl_append, tl_sp, List.mem_append, List.length_append, not_or, List.length_cons, List.length_nil]
    exact ⟨⟨⟨w1, by decide⟩, name_37 ha⟩, by omega⟩
  | admit a b ha hb =>
    have := nl ha
    have := nl hb
    simp only [tl_append, tl_sp, List.mem_append, List.length_append, not_or, List.length_cons, List.length_nil]
    exact ⟨⟨⟨w2, by decide⟩, ⟨name_37 ha, by decide⟩, name_37 hb⟩, by omega⟩
  | write a t ha ht h3 =>
    have := nl ha
    have := rl ht
    simp only [tl_append, tl_sp, List.mem_append, List.length_append, not_or, List.length_cons, List.length_nil]
    exact ⟨⟨⟨w3, by decide⟩, ⟨name_37 ha, by decide⟩, h3⟩, by omega⟩
  | cut a t n ha ht h3 hn =>
    have := nl ha
    have := rl ht
    have h9 : (tl (numS n)).length ≤ 3 := by rw [← len_tl]; exact len_numS (by omega)
    simp only [tl_append, tl_sp, List.mem_append, List.length_append, not_or, List.length_cons, List.length_nil]
    exact ⟨⟨⟨w4, by decide⟩, ⟨name_37 ha, by decide⟩, ⟨num_free (by decide), by decide⟩, h3⟩, by omega⟩
/-- what is read is a deed, and the line is its line -/
theorem parse_deed {s : Str} {ys : List V} (h : parseM s = some ys) : Deed ys s := by
  obtain ⟨n1, n2, n3, n4, n5, n6, n7, n8, n9, n10, n11, n12⟩ := ne_words
  have u : ¬ (("undo" : Str) = "cut") ∧ ¬ (("redo" : Str) = "cut") := by decide +kernel
  unfold parseM at h
  by_cases h0 : s = "undo" ∨ s = "redo"
  · rw [if_pos h0] at h
    cases h
    rcases h0 with e | e
    · rw [e]; exact .one _ u.1
    · rw [e]; exact .one _ u.2
  · rw [if_neg h0] at h
    rcases part_cases s with ⟨hs, e⟩ | ⟨w, r, hw, es, e⟩
    · rw [e] at h
      have en : part Str.empty = (Str.empty, Str.empty, Str.empty) := part_no (by rw [tl_nil]; simp)
      have nn : nameB Str.empty = false := by decide +kernel
      simp only [pWrite, pCut, pAdmit, en, nn, if_true, Bool.false_eq_true, if_false] at h
      split at h
      · cases h
      · split at h
        · cases h
        · split at h
          · cases h
          · split at h <;> cases h
    · rw [e] at h
      dsimp only at h
      subst es
      by_cases w1 : w = "write"
      · subst w1
        rw [if_pos rfl] at h
        unfold pWrite at h
        rcases part_cases r with ⟨hr, e2⟩ | ⟨a, t, ha, er, e2⟩
        · rw [e2, if_pos rfl] at h; cases h
        · rw [e2, if_neg sp_ne] at h
          dsimp only at h
          split at h
          · cases h; subst er; exact .three _ _ _ n9
          · cases h
      · rw [if_neg w1] at h
        by_cases w2 : w = "cut"
        · subst w2
          rw [if_pos rfl] at h
          unfold pCut at h
          rcases part_cases r with ⟨hr, e2⟩ | ⟨a, b, ha, er, e2⟩
          · rw [e2, if_pos rfl] at h; cases h
          · rw [e2, if_neg sp_ne] at h
            dsimp only at h
            rcases part_cases b with ⟨hb, e3⟩ | ⟨k, t, hk, eb, e3⟩
            · rw [e3, if_pos rfl] at h; cases h
            · rw [e3, if_neg sp_ne] at h
              dsimp only at h
              cases hn : numM k with
              | none => rw [hn] at h; cases h
              | some n =>
                rw [hn] at h
                dsimp only at h
                split at h
                · cases h
                  subst er eb
                  obtain ⟨z1, z2, _⟩ := numM_back hn
                  have z := Deed.cut a t n (by omega)
                  rw [z1] at z
                  exact z
                · cases h
        · rw [if_neg w2] at h
          by_cases w3 : w = "admit"
          · subst w3
            rw [if_pos rfl] at h
            unfold pAdmit at h
            rcases part_cases r with ⟨hr, e2⟩ | ⟨a, t, ha, er, e2⟩
            · rw [e2, if_pos rfl] at h; cases h
            · rw [e2, if_neg sp_ne] at h
              dsimp only at h
              split at h
              · cases h; subst er; exact .three _ _ _ n5
              · cases h
          · rw [if_neg w3] at h
            by_cases w4 : w = "dismiss"
            · subst w4
              rw [if_pos rfl] at h
              split at h
              · cases h; exact .two _ _ n2
              · cases h
            · rw [if_neg w4] at h; cases h
end K58
set_option Elab.async false
set_option linter.all false
set_option maxRecDepth 100000
set_option maxHeartbeats 4000000
/-! Words that the defs share. -/
namespace K58
open PySem PySem.Spec PyProof.Rows L2 TL
/-- the def x keeps the promise sp, and stands where it stands -/
structure DefOk (P : Program) (w : World) (K : PySem.W.Frag) (mg : Str → Option Value) (base : Heap) (CX : CXT) (k : Nat) (x : Str) (ps : List Str) (sp : Sp) : Prop where
  ex : ∃ fd, FnOk P w K mg base CX k (He.ga K x) fd ps sp ∧ Binds K fd ps []
  g : mg x = some (.ref (He.ga K x))
  kp : PySem.W.keepIn K (.ref (He.ga K x)) = true
section
variable {X : Cx} {CX : CXT} {k : Nat} {x : Str} {ps : List Str} {sp : Sp} {E : XK} {p pos : Pos} {e : Expr} {es : List Expr} {t : TA}
theorem pe_D (D : DefOk X.prog X.w X.K X.mg X.base CX k x ps sp) (hr : Room k X.A) (hx : Passes CX X E) (ha : PA X (e :: es) t) (hg : Gl X x := by rfl)
    (hdb : (x == ("__debug__" : Str)) = false := by decide) (he : starEach (e :: es) X.env = (false, eval e X.env) :: starEach es X.env := by rfl) (hpl : (backTo pos (starEach es X.env)).any (·.1) = false := by rfl) :
    PE X (.Call (.Name x p) (e :: es) [] pos) (tCall sp [] E t) := by
  obtain ⟨fd, F, b⟩ := D.ex
  exact pe_call F hr hg D.g D.kp b .nil hx ha hdb he hpl
theorem pe_D0 (D : DefOk X.prog X.w X.K X.mg X.base CX k x ps sp) (hr : Room k X.A) (hx : Passes CX X E) (hg : Gl X x := by rfl) (hdb : (x == ("__debug__" : Str)) = false := by decide) :
    PE X (.Call (.Name x p) [] [] pos) (tCall sp [] E tNil) := by
  obtain ⟨fd, F, b⟩ := D.ex
  exact pe_call0 F hr hg D.g D.kp b .nil hx hdb
/-- a call of a def that may raise, in the body of a def that lets it out -/
theorem passE {X : Cx} {E : XK} (tk : Takes X (fun cls d _ H => E cls d H)) : Passes (L2.CX X.prog X.w) X E := fun pins σ H s e s' I c => passes_call tk (fun _ _ _ _ h => h) pins σ H s e s' I c
end
section
variable {z : Str} {g : TG} {D : Ends} {σ : L2.St} {H : Hp}
theorem at_tl {z : Str} {i : Nat} {c : Nat} (h : z.cps[i]? = some c) : (tl z)[i]? = some c := by
  show z.cps.toList[i]? = some c
  rw [Array.getElem?_toList]
  exact h
/-- for c in z -/
theorem for_text {tb : TS} (Pv : Nat → L2.St → Hp → Prop) (h0 : Pv 0 σ H)
    (hs : ∀ i c σ H, (tl z)[i]? = some c → Pv i σ H → g (.str ⟨#[c]⟩) σ H fun σ2 H2 => tb { D with nx := Pv (i + 1), ct := Pv (i + 1), bk := D.nx } σ2 H2) (hd : ∀ σ H, Pv z.length σ H → D.nx σ H) :
    ∃ W : Nat → Nat → L2.St → Hp → Prop, (∃ m, W 0 m σ H) ∧ ∀ i m σ H, W i m σ H →
      ((Its z).stop i H ∧ D.nx σ H) ∨ ((Its z).go i H ∧ ∃ N : L2.St → Hp → Prop, (∀ σ' H', N σ' H' → ∃ m', m' < m ∧ W (i + 1) m' σ' H') ∧ ∀ x H', (Its z).yld i H x H' → g x σ H' fun σ2 H2 => tb { D with nx := N, ct := N, bk := D.nx } σ2 H2) := by
  refine ⟨fun i m σ H => m = z.length - i ∧ i ≤ z.length ∧ Pv i σ H, ⟨z.length, by simp, Nat.zero_le _, h0⟩, ?_⟩
  rintro i m σ H ⟨em, hi, pp⟩
  by_cases hlt : i < z.length
  · refine .inr ⟨hlt, Pv (i + 1), fun σ' H' p' => ⟨z.length - (i + 1), by omega, rfl, hlt, p'⟩, fun x H' y => ?_⟩
    obtain ⟨e, c, hc, ev⟩ := y
    rw [e, ev]
    exact hs i c σ H (at_tl hc) pp
  · have e : i = z.length := by omega
    rw [e] at pp
    exact .inl ⟨(by omega : z.length ≤ i), hd σ H pp⟩
/-- [.. for c in z] -/
theorem lc_text {tt : TT} {te : TE} {vs : List Nat} {L : Addr} {Qd : Hp → Prop} (Pv : Nat → Hp → Prop) (h0 : Pv 0 (upd H L (.lst [])))
    (hs : ∀ i c H, (tl z)[i]? = some c → Pv i H → g (.str ⟨#[c]⟩) (wipe σ vs) H fun σ2 H2 => wipe σ2 vs = wipe σ vs ∧ tt σ2 H2 fun b H3 =>
      if b = true then te σ2 H3 fun y H4 => ∃ acc, H4 L = some (.lst acc) ∧ acc.length < sizeLine ∧ Pv (i + 1) (upd H4 L (.lst (acc ++ [y]))) else Pv (i + 1) H3) (hd : ∀ H, Pv z.length H → Qd H) :
    ∃ W : Nat → Nat → Hp → Prop, (∃ m, W 0 m (upd H L (.lst []))) ∧ ∀ i m H, W i m H →
      ((Its z).stop i H ∧ Qd H) ∨ ((Its z).go i H ∧ ∃ Nx : Hp → Prop, (∀ H', Nx H' → ∃ m', m' < m ∧ W (i + 1) m' H') ∧ ∀ x H', (Its z).yld i H x H' → g x (wipe σ vs) H' fun σ2 H2 => wipe σ2 vs = wipe σ vs ∧ tt σ2 H2 fun b H3 =>
        if b = true then te σ2 H3 fun y H4 => ∃ acc, H4 L = some (.lst acc) ∧ acc.length < sizeLine ∧ Nx (upd H4 L (.lst (acc ++ [y]))) else Nx H3) := by
  refine ⟨fun i m H => m = z.length - i ∧ i ≤ z.length ∧ Pv i H, ⟨z.length, by simp, Nat.zero_le _, h0⟩, ?_⟩
  rintro i m H ⟨em, hi, pp⟩
  by_cases hlt : i < z.length
  · have nx : ∀ H', (z.length - (i + 1) = z.length - (i + 1) ∧ i + 1 ≤ z.length ∧ Pv (i + 1) H') → ∃ m', m' < m ∧ m' = z.length - (i + 1) ∧ i + 1 ≤ z.length ∧ Pv (i + 1) H' := fun H' q => ⟨z.length - (i + 1), by omega, rfl, q.2⟩
    refine .inr ⟨hlt, Pv (i + 1), fun H' p' => nx H' ⟨rfl, hlt, p'⟩, fun x H' y => ?_⟩
    obtain ⟨e, c, hc, ev⟩ := y
    rw [e, ev]
    exact hs i c H (at_tl hc) pp
  · have e : i = z.length := by omega
    rw [e] at pp
    exact .inl ⟨(by omega : z.length ≤ i), hd H pp⟩
theorem take_next {l : List Nat} {i c : Nat} (h : l[i]? = some c) : l.take (i + 1) = l.take i ++ [c] := by
  rw [List.take_add_one, h]
  rfl
theorem all_next {f : Nat → Bool} {l : List Nat} {i c : Nat} (h : l[i]? = some c) : (l.take (i + 1)).all f = ((l.take i).all f && f c) := by
  rw [take_next h, List.all_append]
  simp
theorem all_len {f : Nat → Bool} {z : Str} : ((tl z).take z.length).all f = (tl z).all f := by rw [len_tl, List.take_length]
theorem all_not {f : Nat → Bool} {l : List Nat} {i c : Nat} (h : l[i]? = some c) (hf : f c = false) : l.all f = false := by
  cases q : l.all f with
  | false => rfl
  | true =>
    rw [List.all_eq_true.mp q c (List.mem_of_getElem? h)] at hf
    cases hf
end
/-- what is left to do is said once, and reached by several ways -/
theorem with_rest {G : Prop} {A R : Hp → Prop} (main : (∀ H, A H → R H) → G) (rest : ∀ H, A H → R H) : G := main rest
end K58
set_option Elab.async false
set_option linter.all false
set_option maxRecDepth 100000
set_option maxHeartbeats 4000000
namespace K58
open PySem PySem.Spec PyProof.Rows L2 TL
/-! is_name, _law_is_name, is_record, _law_signs, _law_is_record -/
section
variable {P : Program} {w : World} {K : PySem.W.Frag} {mg : Str → Option Value} {base : Heap}
/-- a text's question, answered by a Bool; objects that were tracked stand -/
def spB (f : Str → Bool) : Sp := fun vs H Q _ => ∃ s : Str, vs = [.str s] ∧ s.length ≤ 100000 ∧ ∀ H', Same H H' → Q (.bl (f s)) H'
theorem small_line {n : Nat} (h : n ≤ 100000) : n ≤ sizeLine := by rw [sizeLine_eq]; omega
theorem nameB_len {z : Str} (h : ¬ (1 ≤ z.length ∧ z.length ≤ 8)) : nameB z = false := by
  cases q : nameB z with
  | false => rfl
  | true => exact absurd (name_tl q).2 h
theorem nameB_all {z : Str} (h : 1 ≤ z.length) (h8 : z.length ≤ 8) : nameB z = (tl z).all fun c => decide (c ∈ tl letS) := by
  unfold nameB
  rw [decide_eq_true h, decide_eq_true h8]
  rfl
theorem recP_len {z : Str} (h : ¬ z.length ≤ 200) : recP z = false := by
  unfold recP
  rw [decide_eq_false h]
  rfl
theorem recP_all {z : Str} (h : z.length ≤ 200) : recP z = (tl z).all fun c => decide (32 ≤ c) && decide (c ≤ 126) := by
  unfold recP
  rw [decide_eq_true h]
  rfl
theorem recL_len {z : Str} (h : ¬ z.length ≤ 200) : recL z = false := by
  unfold recL
  rw [decide_eq_false h]
  rfl
theorem recL_all {z : Str} (h : z.length ≤ 200) : recL z = (tl z).all fun c => decide (c ∈ tl sigS) := by
  unfold recL
  rw [decide_eq_true h]
  rfl
/-- a loop over signs that leaves with False at the first that is not in S -/
theorem scan_step {S : Str} {l : List Nat} {i c : Nat} (hc : l[i]? = some c) (ha : (l.take i).all (fun c => decide (c ∈ tl S)) = true) :
    (c ∈ tl S → (l.take (i + 1)).all (fun c => decide (c ∈ tl S)) = true) ∧ (c ∉ tl S → l.all (fun c => decide (c ∈ tl S)) = false) :=
  ⟨fun h => by rw [all_next hc, ha, decide_eq_true h] <;> rfl, fun h => all_not hc (decide_eq_false h)⟩
theorem sc_is_name : FnScope ["value", "letter"] ["value"] (defScope s_is_name) := ⟨rfl, rfl, rfl, by decide +kernel, rfl, by decide +kernel, by decide +kernel⟩
theorem ok_is_name (T : Txt P K mg) : DefOk P w K mg base CX0 1 "is_name" ["value"] (spB nameB) := by
  obtain ⟨fd, F⟩ := T.d_is_name
  refine ⟨⟨fd, F.ok sc_is_name (fun vs H Q E h => ?_) (fun cdv A outer s H vs Q E hr h => ?_), F.bindsN fun _ _ _ _ _ _ us hl => match us, hl with | [_], _ => rfl⟩, T.g_is_name, F.kp⟩
  · obtain ⟨s, rfl, _⟩ := h
    rfl
  · obtain ⟨z, rfl, hz, hQ⟩ := h
    refine ⟨_, PSs.nox (pss_cons (ps_if (pt_not (pt_val (pe_callB call_isi rfl T.f_isinstance (by decide +kernel) (pa_cons (pv 0) (pa_cons (pe_bltn (v := .ty "str") rfl T.f_str (by decide +kernel) rfl) pa_nil)))))
      (pss_one (ps_ret pe_bl))
      pss_nil)
    (pss_cons (ps_if (pt_not (pt_chain op_le op_le pe_int (pe_callB call_len_str rfl T.f_len PySem.boot_len (pa_cons (pv 0) pa_nil)) (pe_glob (v := .int 8) rfl T.c_MOST_LETTERS.choose_spec ⟨_, rfl⟩)))
      (pss_one (ps_ret pe_bl))
      pss_nil)
    (pss_cons (ps_for PassesOwn.never rfl (pi_str (pv 0)) (pg_name (i := 1) sc_is_name.nd rfl (Or.inl rfl))
      (pss_one (ps_if (pt_cmpR op_notIn_sign (pv 1) (pe_glob (v := .str "abcdefghijklmnopqrstuvwxyz") rfl T.c_LETTERS.choose_spec ⟨_, rfl⟩) rfl)
        (pss_one (ps_ret pe_bl))
        pss_nil)))
    (pss_one (ps_ret pe_bl))))), ?_⟩
    refine ⟨_, rfl, _, _, _, _, true, rfl, .ty _, .base (.str _), kit_ty (by decide +kernel), true, rfl, ?_⟩
    refine iteF ?_
    refine ⟨_, rfl, z, rfl, small_line hz, _, _, rfl, rfl, _, rfl, ite2 (fun c1 => ?_) (fun c1 => ?_)⟩
    · have h1 : 1 ≤ z.length := by have := of_decide_eq_true c1; omega
      refine ⟨_, _, rfl, rfl, _, rfl, ?_⟩
      show if (!decide ((z.length : Int) ≤ 8)) = true then _ else _
      refine ite2 (fun c2 => ?_) (fun c2 => ?_)
      · have h8 : ¬ z.length ≤ 8 := fun q => by
          rw [decide_eq_true (show (z.length : Int) ≤ 8 by omega)] at c2
          cases c2
        have e := nameB_len (z := z) fun q => h8 q.2
        rw [e] at hQ
        exact hQ H (Same.refl H)
      · have h8 : z.length ≤ 8 := by
          by_cases q : (z.length : Int) ≤ 8
          · omega
          · rw [decide_eq_false q] at c2
            exact absurd rfl c2
        have en := nameB_all h1 h8
        refine ⟨_, rfl, z, rfl, for_text (fun i σ H' => H' = H ∧ (∃ v, σ = [some (.str z), v]) ∧ ((tl z).take i).all (fun c => decide (c ∈ tl letS)) = true) ⟨rfl, ⟨_, rfl⟩, rfl⟩ ?_ ?_⟩
        · rintro i c σ H' hc ⟨rfl, ⟨v, rfl⟩, ha⟩
          refine ⟨_, rfl, c, _, rfl, rfl, _, rfl, ?_⟩
          show if (!decide (c ∈ tl letS)) = true then _ else _
          have st := scan_step (S := letS) hc ha
          by_cases hm : c ∈ tl letS
          · rw [decide_eq_true hm]
            refine iteF ?_
            exact ⟨rfl, ⟨_, rfl⟩, st.1 hm⟩
          · rw [decide_eq_false hm]
            refine iteT ?_
            rw [en, st.2 hm] at hQ
            exact hQ H' (Same.refl H')
        · rintro σ H' ⟨rfl, ⟨v, rfl⟩, ha⟩
          rw [all_len] at ha
          rw [en, ha] at hQ
          exact hQ H' (Same.refl H')
    · refine ⟨_, rfl, ?_⟩
      refine iteT ?_
      have h1 : ¬ 1 ≤ z.length := fun q => c1 (decide_eq_true (by omega))
      have e := nameB_len (z := z) fun q => h1 q.1
      rw [e] at hQ
      exact hQ H (Same.refl H)
theorem sc_l_is_name : FnScope ["_law_text_here", "_law_sign"] ["_law_text_here"] (defScope s_l_is_name) := ⟨rfl, rfl, rfl, by decide +kernel, rfl, by decide +kernel, by decide +kernel⟩
theorem ok_l_is_name (T : Txt P K mg) : DefOk P w K mg base CX0 1 "_law_is_name" ["_law_text_here"] (spB nameB) := by
  obtain ⟨fd, F⟩ := T.d_l_is_name
  refine ⟨⟨fd, F.ok sc_l_is_name (fun vs H Q E h => ?_) (fun cdv A outer s H vs Q E hr h => ?_), F.bindsN fun _ _ _ _ _ _ us hl => match us, hl with | [_], _ => rfl⟩, T.g_l_is_name, F.kp⟩
  · obtain ⟨s, rfl, _⟩ := h
    rfl
  · obtain ⟨z, rfl, hz, hQ⟩ := h
    refine ⟨_, PSs.nox (pss_cons (ps_if (pt_not (pt_chain op_le op_le pe_int (pe_callB call_len_str rfl T.f_len PySem.boot_len (pa_cons (pv 0) pa_nil)) pe_int))
      (pss_one (ps_ret pe_bl))
      pss_nil)
    (pss_cons (ps_for PassesOwn.never rfl (pi_str (pv 0)) (pg_name (i := 1) sc_l_is_name.nd rfl (Or.inl rfl))
      (pss_one (ps_if (pt_cmpR op_notIn_sign (pv 1) pe_str rfl)
        (pss_one (ps_ret pe_bl))
        pss_nil)))
    (pss_one (ps_ret pe_bl)))), ?_⟩
    refine ⟨_, rfl, z, rfl, small_line hz, _, _, rfl, rfl, _, rfl, ite2 (fun c1 => ?_) (fun c1 => ?_)⟩
    · have h1 : 1 ≤ z.length := by have := of_decide_eq_true c1; omega
      refine ⟨_, _, rfl, rfl, _, rfl, ?_⟩
      show if (!decide ((z.length : Int) ≤ 8)) = true then _ else _
      refine ite2 (fun c2 => ?_) (fun c2 => ?_)
      · have h8 : ¬ z.length ≤ 8 := fun q => by
          rw [decide_eq_true (show (z.length : Int) ≤ 8 by omega)] at c2
          cases c2
        have e := nameB_len (z := z) fun q => h8 q.2
        rw [e] at hQ
        exact hQ H (Same.refl H)
      · have h8 : z.length ≤ 8 := by
          by_cases q : (z.length : Int) ≤ 8
          · omega
          · rw [decide_eq_false q] at c2
            exact absurd rfl c2
        have en := nameB_all h1 h8
        refine ⟨_, rfl, z, rfl, for_text (fun i σ H' => H' = H ∧ (∃ v, σ = [some (.str z), v]) ∧ ((tl z).take i).all (fun c => decide (c ∈ tl letS)) = true) ⟨rfl, ⟨_, rfl⟩, rfl⟩ ?_ ?_⟩
        · rintro i c σ H' hc ⟨rfl, ⟨v, rfl⟩, ha⟩
          refine ⟨_, rfl, c, _, rfl, rfl, _, rfl, ?_⟩
          show if (!decide (c ∈ tl letS)) = true then _ else _
          have st := scan_step (S := letS) hc ha
          by_cases hm : c ∈ tl letS
          · rw [decide_eq_true hm]
            refine iteF ?_
            exact ⟨rfl, ⟨_, rfl⟩, st.1 hm⟩
          · rw [decide_eq_false hm]
            refine iteT ?_
            rw [en, st.2 hm] at hQ
            exact hQ H' (Same.refl H')
        · rintro σ H' ⟨rfl, ⟨v, rfl⟩, ha⟩
          rw [all_len] at ha
          rw [en, ha] at hQ
          exact hQ H' (Same.refl H')
    · refine ⟨_, rfl, ?_⟩
      refine iteT ?_
      have h1 : ¬ 1 ≤ z.length := fun q => c1 (decide_eq_true (by omega))
      have e := nameB_len (z := z) fun q => h1 q.1
      rw [e] at hQ
      exact hQ H (Same.refl H)
def spSigns : Sp := fun vs H Q _ => vs = [] ∧ Q (.str sigS) H
theorem sc_l_signs : FnScope ["_law_signs_here"] [] (defScope s_l_signs) := ⟨rfl, rfl, rfl, by decide +kernel, rfl, by decide +kernel, by decide +kernel⟩
theorem ok_l_signs (T : Txt P K mg) : DefOk P w K mg base CX0 1 "_law_signs" [] spSigns := by
  obtain ⟨fd, F⟩ := T.d_l_signs
  refine ⟨⟨fd, F.ok sc_l_signs (fun vs H Q E h => ?_) (fun cdv A outer s H vs Q E hr h => ?_), F.bindsN fun _ _ _ _ _ _ us hl => match us, hl with | [], _ => rfl⟩, T.g_l_signs, F.kp⟩
  · rw [h.1]
    rfl
  · obtain ⟨rfl, hQ⟩ := h
    refine ⟨_, PSs.nox (pss_cons (ps_set (i := 0) sc_l_signs.nd rfl (Or.inl rfl) pe_str)
    (pss_one (ps_ret (pe_op op_add_str (pv 0) pe_str)))), ?_⟩
    exact ⟨_, rfl, _, _, rfl, rfl, by decide +kernel, hQ⟩
theorem sc_l_is_record : FnScope ["_law_text_here", "_law_signs_here", "_law_sign"] ["_law_text_here"] (defScope s_l_is_record) := ⟨rfl, rfl, rfl, by decide +kernel, rfl, by decide +kernel, by decide +kernel⟩
theorem ok_l_is_record (T : Txt P K mg) : DefOk P w K mg base CX0 2 "_law_is_record" ["_law_text_here"] (spB recL) := by
  obtain ⟨fd, F⟩ := T.d_l_is_record
  have d_l_signs := ok_l_signs (P := P) (w := w) (base := base) T
  refine ⟨⟨fd, F.ok sc_l_is_record (fun vs H Q E h => ?_) (fun cdv A outer s H vs Q E hr h => ?_), F.bindsN fun _ _ _ _ _ _ us hl => match us, hl with | [_], _ => rfl⟩, T.g_l_is_record, F.kp⟩
  · obtain ⟨s, rfl, _⟩ := h
    rfl
  · obtain ⟨z, rfl, hz, hQ⟩ := h
    refine ⟨_, PSs.nox (pss_cons (ps_if (pt_cmpR op_gt (pe_callB call_len_str rfl T.f_len PySem.boot_len (pa_cons (pv 0) pa_nil)) pe_int (nomark _))
      (pss_one (ps_ret pe_bl))
      pss_nil)
    (pss_cons (ps_set (i := 1) sc_l_is_record.nd rfl (Or.inl rfl) (pe_D0 d_l_signs hr pass0))
    (pss_cons (ps_for PassesOwn.never rfl (pi_str (pv 0)) (pg_name (i := 2) sc_l_is_record.nd rfl (Or.inl rfl))
      (pss_one (ps_if (pt_cmpR op_notIn_sign (pv 2) (pv 1) rfl)
        (pss_one (ps_ret pe_bl))
        pss_nil)))
    (pss_one (ps_ret pe_bl))))), ?_⟩
    refine ⟨_, rfl, z, rfl, small_line hz, _, _, rfl, rfl, _, rfl, ite2 (fun c1 => ?_) (fun c1 => ?_)⟩
    · have h1 : ¬ z.length ≤ 200 := by have := of_decide_eq_true c1; omega
      rw [recL_len h1] at hQ
      exact hQ H (Same.refl H)
    · have h2 : z.length ≤ 200 := by
        by_cases q : (200 : Int) < z.length
        · exact absurd (decide_eq_true q) c1
        · omega
      have en := recL_all h2
      refine ⟨rfl, _, rfl, z, rfl, for_text (fun i σ H' => H' = H ∧ (∃ v, σ = [some (.str z), some (.str sigS), v]) ∧ ((tl z).take i).all (fun c => decide (c ∈ tl sigS)) = true) ⟨rfl, ⟨_, rfl⟩, rfl⟩ ?_ ?_⟩
      · rintro i c σ H' hc ⟨rfl, ⟨v, rfl⟩, ha⟩
        refine ⟨_, rfl, _, rfl, c, _, rfl, rfl, _, rfl, ?_⟩
        show if (!decide (c ∈ tl sigS)) = true then _ else _
        have st := scan_step (S := sigS) hc ha
        by_cases hm : c ∈ tl sigS
        · rw [decide_eq_true hm]
          refine iteF ?_
          exact ⟨rfl, ⟨_, rfl⟩, st.1 hm⟩
        · rw [decide_eq_false hm]
          refine iteT ?_
          rw [en, st.2 hm] at hQ
          exact hQ H' (Same.refl H')
      · rintro σ H' ⟨rfl, ⟨v, rfl⟩, ha⟩
        rw [all_len] at ha
        rw [en, ha] at hQ
        exact hQ H' (Same.refl H')
theorem le_sp (c : Nat) : (!decide ([c] < [32])) = decide (32 ≤ c) := by
  rw [Bool.eq_iff_iff]
  simp [List.cons_lt_cons_iff]
theorem le_tilde (c : Nat) : (!decide ([126] < [c])) = decide (c ≤ 126) := by
  rw [Bool.eq_iff_iff]
  simp [List.cons_lt_cons_iff]
theorem tl_tilde : tl ("~" : Str) = [126] := by decide +kernel
theorem all_map_bl (f : Nat → Bool) (l : List Nat) : (l.map f).all id = l.all f := by rw [List.all_map]; rfl
theorem sc_is_record : FnScope ["value", "sign"] ["value"] (defScope s_is_record) := ⟨rfl, rfl, rfl, by decide +kernel, rfl, by decide +kernel, by decide +kernel⟩
theorem ok_is_record (T : Txt P K mg) : DefOk P w K mg base CX0 1 "is_record" ["value"] (spB recP) := by
  obtain ⟨fd, F⟩ := T.d_is_record
  refine ⟨⟨fd, F.ok sc_is_record (fun vs H Q E h => ?_) (fun cdv A outer s H vs Q E hr h => ?_), F.bindsN fun _ _ _ _ _ _ us hl => match us, hl with | [_], _ => rfl⟩, T.g_is_record, F.kp⟩
  · obtain ⟨s, rfl, _⟩ := h
    rfl
  · obtain ⟨z, rfl, hz, hQ⟩ := h
    refine ⟨_, PSs.nox (pss_cons (ps_if (PW.pt (pw_or (pt_not (pt_val (pe_callB call_isi rfl T.f_isinstance (by decide +kernel) (pa_cons (pv 0) (pa_cons (pe_bltn (v := .ty "str") rfl T.f_str (by decide +kernel) rfl) pa_nil))))) (pw_or1 (pt_cmpR op_gt (pe_callB call_len_str rfl T.f_len PySem.boot_len (pa_cons (pv 0) pa_nil)) (pe_glob (v := .int 200) rfl T.c_RECORD_LIMIT.choose_spec ⟨_, rfl⟩) (nomark _)))))
      (pss_one (ps_ret pe_bl))
      pss_nil)
    (pss_one (ps_ret (pe_callB (cr_all rfl) rfl T.f_all (by decide +kernel) (pa_cons (pe_lc (own := [("sign", 1)]) (g := gName 1) rfl sc_is_record.nd (pi_str (pv 0)) (blkOk_by (N := ["value", "sign"]) (sc := defScope s_is_record) (by decide +kernel)) (fun _ _ _ _ _ => pg_name (i := 1) sc_is_record.nd rfl (Or.inl rfl)) (fun _ _ _ _ _ => pts_nil) (fun _ _ _ _ _ => (pe_chain op_le_str op_le_str pe_str (pv 1) pe_str))) pa_nil))))), ?_⟩
    refine ⟨_, rfl, _, _, _, _, true, rfl, .ty _, .base (.str _), kit_ty (by decide +kernel), true, rfl, ?_⟩
    refine iteF ?_
    refine ⟨_, rfl, z, rfl, small_line hz, _, _, rfl, rfl, _, rfl, ite2 (fun c1 => ?_) (fun c1 => ?_)⟩
    · have h1 : ¬ z.length ≤ 200 := by have := of_decide_eq_true c1; omega
      rw [recP_len h1] at hQ
      exact hQ H (Same.refl H)
    · have h2 : z.length ≤ 200 := by
        by_cases q : (200 : Int) < z.length
        · exact absurd (decide_eq_true q) c1
        · omega
      have en := recP_all h2
      refine ⟨_, rfl, z, rfl, fun L new => ?_⟩
      refine lc_text (fun i H' => H' L = some (.lst ((((tl z).take i).map fun c => decide (32 ≤ c) && decide (c ≤ 126)).map V.bl)) ∧ Same H H') ⟨upd_same, fun b o e => by rw [upd_ne (ne_of_none e new)]; exact e⟩ ?_ ?_
      · rintro i c H' hc ⟨hL, sm⟩
        have hi : i < z.length := by
          have q := (List.getElem?_eq_some_iff.mp hc).1
          rw [← len_tl] at q
          exact q
        refine ⟨rfl, ?_⟩
        have fin : ∀ b, b = (decide (32 ≤ c) && decide (c ≤ 126)) → ∃ acc, H' L = some (.lst acc) ∧ acc.length < sizeLine ∧ (upd H' L (.lst (acc ++ [V.bl b]))) L = some (.lst ((((tl z).take (i + 1)).map fun c => decide (32 ≤ c) && decide (c ≤ 126)).map V.bl)) ∧ Same H (upd H' L (.lst (acc ++ [V.bl b]))) := fun b eb => by
          refine ⟨_, hL, ?_, ?_, fun b' o e => by rw [upd_ne (ne_of_none e new)]; exact sm b' o e⟩
          · rw [List.length_map, List.length_map, List.length_take, sizeLine_eq]
            omega
          · rw [upd_same, take_next hc, List.map_append, List.map_append, eb]
            rfl
        refine ⟨_, rfl, _, _, rfl, rfl, _, rfl, ?_⟩
        show if (!decide ([c] < tl (" " : Str))) = true then _ else _
        rw [tl_sp, le_sp]
        refine ite2 (fun q => ?_) (fun q => ?_)
        · refine ⟨_, _, rfl, rfl, ?_⟩
          refine fin _ ?_
          show (!decide (tl ("~" : Str) < [c])) = _
          rw [tl_tilde, le_tilde, q, Bool.true_and]
        · refine fin _ ?_
          rw [Bool.eq_false_iff.mpr q, Bool.false_and]
      · rintro H' ⟨hL, sm⟩
        refine ⟨L, _, rfl, SqL.of hL, ?_⟩
        rw [all_map_bl, all_len, ← en]
        exact hQ H' sm
end
end K58
set_option Elab.async false
set_option linter.all false
set_option maxRecDepth 100000
set_option maxHeartbeats 4000000
namespace K58
open PySem PySem.Spec PyProof.Rows L2 TL
/-! split_word, read_name, read_record, read_steps -/
/-- InvalidLine is raised -/
def LnE (K : PySem.W.Frag) (E : XK) (H : Hp) : Prop := ∀ H', Same H H' → E (.ref (lnC K)) none H'
def spSplit (K : PySem.W.Frag) : Sp := fun vs H Q E => ∃ s : Str, vs = [.str s] ∧ s.length ≤ 100000 ∧
  (¬ (part s).2.1 = Str.empty → ∀ H' p, Same H H' → H' p = some (.tup [.str (part s).1, .str (part s).2.2]) → Q (.ref p) H') ∧ ((part s).2.1 = Str.empty → LnE K E H)
def spAsk (K : PySem.W.Frag) (f : Str → Bool) : Sp := fun vs H Q E => ∃ s : Str, vs = [.str s] ∧ s.length ≤ 100000 ∧ (f s = true → ∀ H', Same H H' → Q (.str s) H') ∧ (f s = false → LnE K E H)
def spSteps (K : PySem.W.Frag) : Sp := fun vs H Q E => ∃ s : Str, vs = [.str s] ∧ s.length ≤ 100000 ∧ (∀ n, numM s = some n → ∀ H', Same H H' → Q (.int (n : Int)) H') ∧ (numM s = none → LnE K E H)
theorem same_new {H H' : Hp} {p : Addr} {o : HO} (h : Same H H') (hp : H' p = none) : Same H (upd H' p o) := fun b u e => by
  rw [upd_ne (ne_of_none (h b u e) hp)]
  exact h b u e
theorem LnE.on {K : PySem.W.Frag} {E : XK} {H H' : Hp} (h : LnE K E H) (s : Same H H') : LnE K E H' := fun H2 s2 => h H2 (s.trans s2)
section
variable {P : Program} {w : World} {K : PySem.W.Frag} {mg : Str → Option Value} {base : Heap}
theorem part_len (s : Str) : (part s).1.length ≤ s.length ∧ (part s).2.2.length ≤ s.length := by
  rcases part_cases s with ⟨_, e⟩ | ⟨a, c, _, e, e2⟩
  · rw [e]; exact ⟨Nat.le_refl _, Nat.zero_le _⟩
  · rw [e2]
    have l := congrArg List.length (congrArg tl e)
    rw [tl_append, tl_append, List.length_append, List.length_append] at l
    simp only [len_tl]
    omega
theorem sc_split_word : FnScope ["text", "word", "space", "rest"] ["text"] (defScope s_split_word) := ⟨rfl, rfl, rfl, by decide +kernel, rfl, by decide +kernel, by decide +kernel⟩
theorem ok_split_word (T : Txt P K mg) : DefOk P w K mg base (L2.CX P w) 1 "split_word" ["text"] (spSplit K) := by
  obtain ⟨fd, F⟩ := T.d_split_word
  obtain ⟨fI, cc, tl_⟩ := T.line
  refine ⟨⟨fd, F.ok sc_split_word (fun vs H Q E h => ?_) (fun cdv A outer s H vs Q E hr h => ?_), F.bindsN fun _ _ _ _ _ _ us hl => match us, hl with | [_], _ => rfl⟩, T.g_split_word, F.kp⟩
  · obtain ⟨s, rfl, _⟩ := h
    rfl
  · obtain ⟨z, rfl, hz, hQ, hE⟩ := h
    refine ⟨_, (pss_cons (ps_asg (pe_partition (pv 0) pe_str) (pg_tup rfl (pgs_cons (pg_name (i := 1) sc_split_word.nd rfl (Or.inl rfl)) (pgs_cons (pg_name (i := 2) sc_split_word.nd rfl (Or.inl rfl)) (pgs_cons (pg_name (i := 3) sc_split_word.nd rfl (Or.inl rfl)) pgs_nil)))))
    (pss_cons (ps_if (pt_cmpR op_eq (pv 2) pe_str (nomark _))
      (pss_one (ps_raise rfl (takes_of rfl rfl rfl rfl) (pmk_line tl_ T.g_InvalidLine hr (pa_cons pe_str pa_nil))))
      pss_nil)
    (pss_one (ps_ret (pe_tup (pa_cons (pv 1) (pa_cons (pv 3) pa_nil))))))), ?_⟩
    refine ⟨_, rfl, ⟨_, rfl⟩, z, " ", rfl, rfl, by decide +kernel, small_line hz, fun p new => ?_⟩
    refine ⟨p, _, rfl, SqT.of upd_same, rfl, _, _, rfl, _, _, rfl, _, _, rfl, rfl, ?_⟩
    have s1 : Same H (upd H p (.tup [.str (part z).1, .str (part z).2.1, .str (part z).2.2])) := same_new (Same.refl H) new
    refine ⟨_, rfl, rfl, _, rfl, ?_⟩
    refine ite2 (fun c => ?_) (fun c => ?_)
    · have e : (part z).2.1 = Str.empty := V.str.inj (of_decide_eq_true c)
      exact ⟨rfl, hE e _ s1⟩
    · have e : ¬ (part z).2.1 = Str.empty := fun q => c (decide_eq_true (congrArg V.str q))
      refine ⟨_, rfl, _, rfl, by show 2 ≤ sizeLine; decide, fun q nq => ?_⟩
      exact hQ e _ q (same_new s1 nq) upd_same
theorem sc_read_name : FnScope ["word"] ["word"] (defScope s_read_name) := ⟨rfl, rfl, rfl, by decide +kernel, rfl, by decide +kernel, by decide +kernel⟩
theorem ok_read_name (T : Txt P K mg) : DefOk P w K mg base (L2.CX P w) 2 "read_name" ["word"] (spAsk K nameB) := by
  obtain ⟨fd, F⟩ := T.d_read_name
  obtain ⟨fI, cc, tl_⟩ := T.line
  have d_is_name := ok_is_name (P := P) (w := w) (base := base) T
  refine ⟨⟨fd, F.ok sc_read_name (fun vs H Q E h => ?_) (fun cdv A outer s H vs Q E hr h => ?_), F.bindsN fun _ _ _ _ _ _ us hl => match us, hl with | [_], _ => rfl⟩, T.g_read_name, F.kp⟩
  · obtain ⟨s, rfl, _⟩ := h
    rfl
  · obtain ⟨z, rfl, hz, hQ, hE⟩ := h
    refine ⟨_, (pss_cons (ps_if (pt_not (pt_val (pe_D d_is_name (hr.mono (by decide)) pass0 (pa_cons (pv 0) pa_nil))))
      (pss_one (ps_raise rfl (takes_of rfl rfl rfl rfl) (pmk_line tl_ T.g_InvalidLine hr (pa_cons pe_str pa_nil))))
      pss_nil)
    (pss_one (ps_ret (pv 0)))), ?_⟩
    refine ⟨_, rfl, z, rfl, hz, fun H1 s1 => ⟨_, rfl, ?_⟩⟩
    cases hn : nameB z with
    | true => exact ⟨_, rfl, hQ hn H1 s1⟩
    | false => exact ⟨rfl, hE hn H1 s1⟩
theorem sc_read_record : FnScope ["text"] ["text"] (defScope s_read_record) := ⟨rfl, rfl, rfl, by decide +kernel, rfl, by decide +kernel, by decide +kernel⟩
theorem ok_read_record (T : Txt P K mg) : DefOk P w K mg base (L2.CX P w) 2 "read_record" ["text"] (spAsk K recP) := by
  obtain ⟨fd, F⟩ := T.d_read_record
  obtain ⟨fI, cc, tl_⟩ := T.line
  have d_is_record := ok_is_record (P := P) (w := w) (base := base) T
  refine ⟨⟨fd, F.ok sc_read_record (fun vs H Q E h => ?_) (fun cdv A outer s H vs Q E hr h => ?_), F.bindsN fun _ _ _ _ _ _ us hl => match us, hl with | [_], _ => rfl⟩, T.g_read_record, F.kp⟩
  · obtain ⟨s, rfl, _⟩ := h
    rfl
  · obtain ⟨z, rfl, hz, hQ, hE⟩ := h
    refine ⟨_, (pss_cons (ps_if (pt_not (pt_val (pe_D d_is_record (hr.mono (by decide)) pass0 (pa_cons (pv 0) pa_nil))))
      (pss_one (ps_raise rfl (takes_of rfl rfl rfl rfl) (pmk_line tl_ T.g_InvalidLine hr (pa_cons pe_str pa_nil))))
      pss_nil)
    (pss_one (ps_ret (pv 0)))), ?_⟩
    refine ⟨_, rfl, z, rfl, hz, fun H1 s1 => ⟨_, rfl, ?_⟩⟩
    cases hn : recP z with
    | true => exact ⟨_, rfl, hQ hn H1 s1⟩
    | false => exact ⟨rfl, hE hn H1 s1⟩
end
end K58
set_option Elab.async false
set_option linter.all false
set_option maxRecDepth 100000
set_option maxHeartbeats 4000000
namespace K58
open PySem PySem.Spec PyProof.Rows L2 TL
/-! read_steps -/
section
variable {P : Program} {w : World} {K : PySem.W.Frag} {mg : Str → Option Value} {base : Heap}
theorem digB_len {z : Str} (h : ¬ (1 ≤ z.length ∧ z.length ≤ 3)) : digB z = false := by
  cases q : digB z with
  | false => rfl
  | true => exact absurd (digB_all q).2 h
theorem digB_sum {z : Str} (h : 1 ≤ z.length) (h8 : z.length ≤ 3) : digB z = (tl z).all fun c => decide (c ∈ tl digS) := by
  unfold digB
  rw [decide_eq_true h, decide_eq_true h8]
  rfl
theorem numM_no {z : Str} (h : digB z = false) : numM z = none := by
  unfold numM
  rw [h, if_neg Bool.false_ne_true]
theorem numM_yes {z : Str} (h : digB z = true) : numM z = if (tl z).head? = some 48 ∧ z ≠ "0" then none else if 400 < valN z then none else some (valN z) := by
  unfold numM
  rw [if_pos h]
theorem head_of {z : Str} (h : 1 ≤ z.length) : ∃ c, (tl z)[0]? = some c ∧ (tl z).head? = some c := by
  rw [len_tl] at h
  cases q : tl z with
  | nil => rw [q] at h; simp at h
  | cons c r => exact ⟨c, rfl, rfl⟩
theorem int_of_dig {z : Str} (hd : digB z = true) : intText? z = some ((valN z : Nat) : Int) := by
  obtain ⟨ad, l1, l3⟩ := digB_all hd
  refine intText_digits ad (fun e => ?_) (by omega)
  have e2 : tl z = [] := e
  rw [len_tl, e2] at l1
  simp at l1
theorem mk1_inj {c : Nat} : ((⟨#[c]⟩ : Str) = "0") ↔ c = 48 := by
  constructor
  · intro e
    have q : tl (⟨#[c]⟩ : Str) = tl "0" := by rw [e]
    rw [zero_tl] at q
    exact (List.cons.inj q).1
  · intro e
    rw [e]
    decide +kernel
theorem sc_read_steps : FnScope ["word", "steps", "digit"] ["word"] (defScope s_read_steps) := ⟨rfl, rfl, rfl, by decide +kernel, rfl, by decide +kernel, by decide +kernel⟩
theorem ok_read_steps (T : Txt P K mg) : DefOk P w K mg base (L2.CX P w) 1 "read_steps" ["word"] (spSteps K) := by
  obtain ⟨fd, F⟩ := T.d_read_steps
  obtain ⟨fI, cc, tl_⟩ := T.line
  refine ⟨⟨fd, F.ok sc_read_steps (fun vs H Q E h => ?_) (fun cdv A outer s H vs Q E hr h => ?_), F.bindsN fun _ _ _ _ _ _ us hl => match us, hl with | [_], _ => rfl⟩, T.g_read_steps, F.kp⟩
  · obtain ⟨s, rfl, _⟩ := h
    rfl
  · obtain ⟨z, rfl, hz, hQ, hE⟩ := h
    refine ⟨_, (pss_cons (ps_if (PW.pt (pw_or (pt_cmpR op_lt (pe_callB call_len_str rfl T.f_len PySem.boot_len (pa_cons (pv 0) pa_nil)) pe_int (nomark _)) (pw_or (pt_cmpR op_gt (pe_callB call_len_str rfl T.f_len PySem.boot_len (pa_cons (pv 0) pa_nil)) pe_int (nomark _)) (pw_or1 (pt_not (pt_val (pe_callB (cr_all rfl) rfl T.f_all (by decide +kernel) (pa_cons (pe_lc (own := [("digit", 2)]) (g := gName 2) rfl sc_read_steps.nd (pi_str (pv 0)) (blkOk_by (N := ["word", "steps", "digit"]) (sc := defScope s_read_steps) (by decide +kernel)) (fun _ _ _ _ _ => pg_name (i := 2) sc_read_steps.nd rfl (Or.inl rfl)) (fun _ _ _ _ _ => pts_nil) (fun _ _ _ _ _ => (pe_cmpR op_in_sign (pv 2) (pe_glob (v := .str "0123456789") rfl T.c_DIGITS.choose_spec ⟨_, rfl⟩) rfl))) pa_nil))))))))
      (pss_one (ps_raise rfl (takes_of rfl rfl rfl rfl) (pmk_line tl_ T.g_InvalidLine hr (pa_cons pe_str pa_nil))))
      pss_nil)
    (pss_cons (ps_if (PW.pt (pw_and (pt_cmpR op_eq (pe_ix ix_str (pv 0) pe_int (fun _ _ => rfl)) pe_str (nomark _)) (pw_and1 (pt_cmpR op_ne (pv 0) pe_str (nomark _)))))
      (pss_one (ps_raise rfl (takes_of rfl rfl rfl rfl) (pmk_line tl_ T.g_InvalidLine hr (pa_cons pe_str pa_nil))))
      pss_nil)
    (pss_cons (ps_set (i := 1) sc_read_steps.nd rfl (Or.inl rfl) (pe_callTy call_int_str rfl T.f_int (by decide +kernel) (pa_cons (pv 0) pa_nil)))
    (pss_cons (ps_if (pt_cmpR op_gt (pv 1) (pe_glob (v := .int 400) rfl T.c_STEP_LIMIT.choose_spec ⟨_, rfl⟩) (nomark _))
      (pss_one (ps_raise rfl (takes_of rfl rfl rfl rfl) (pmk_line tl_ T.g_InvalidLine hr (pa_cons (pe_joined (.cons pe_str (.cons (pe_fmt (pe_glob (v := .int 400) rfl T.c_STEP_LIMIT.choose_spec ⟨_, rfl⟩)) .nil))) pa_nil))))
      pss_nil)
    (pss_one (ps_ret (pv 1))))))), ?_⟩
    refine ⟨_, rfl, z, rfl, small_line hz, _, _, rfl, rfl, _, rfl, ite2 (fun c1 => ?_) (fun c1 => ?_)⟩
    · have h1 : ¬ 1 ≤ z.length := by have := of_decide_eq_true c1; omega
      refine iteT ?_
      exact ⟨rfl, hE (numM_no (digB_len fun q => h1 q.1)) H (Same.refl H)⟩
    have h1 : 1 ≤ z.length := by
      by_cases q : (z.length : Int) < 1
      · exact absurd (decide_eq_true q) c1
      · omega
    refine ⟨_, rfl, z, rfl, small_line hz, _, _, rfl, rfl, _, rfl, ite2 (fun c2 => ?_) (fun c2 => ?_)⟩
    · have h3 : ¬ z.length ≤ 3 := by have := of_decide_eq_true c2; omega
      refine iteT ?_
      exact ⟨rfl, hE (numM_no (digB_len fun q => h3 q.2)) H (Same.refl H)⟩
    have h3 : z.length ≤ 3 := by
      by_cases q : (3 : Int) < z.length
      · exact absurd (decide_eq_true q) c2
      · omega
    have en := digB_sum h1 h3
    refine ⟨_, rfl, z, rfl, fun L new => ?_⟩
    refine lc_text (fun i H' => H' L = some (.lst ((((tl z).take i).map fun c => decide (c ∈ tl digS)).map V.bl)) ∧ Same H H') ⟨upd_same, fun b o e => by rw [upd_ne (ne_of_none e new)]; exact e⟩ ?_ ?_
    · rintro i c H' hc ⟨hL, sm⟩
      have hi : i < z.length := by
        have q := (List.getElem?_eq_some_iff.mp hc).1
        rw [← len_tl] at q
        exact q
      refine ⟨rfl, ?_⟩
      refine ⟨_, rfl, c, _, rfl, rfl, _, hL, ?_, ?_, fun b' o e => by rw [upd_ne (ne_of_none e new)]; exact sm b' o e⟩
      · rw [List.length_map, List.length_map, List.length_take, sizeLine_eq]
        omega
      · rw [upd_same, take_next hc, List.map_append, List.map_append]
        rfl
    · rintro H' ⟨hL, sm⟩
      refine ⟨L, _, rfl, SqL.of hL, ?_⟩
      rw [all_map_bl, all_len, ← en]
      refine ⟨_, rfl, ?_⟩
      cases hd : digB z with
      | false => exact ⟨rfl, hE (numM_no hd) H' sm⟩
      | true =>
        have ny := numM_yes hd
        obtain ⟨c0, e0, e1⟩ := head_of h1
        refine ⟨_, rfl, z, _, c0, rfl, rfl, small_line hz, atI_nat (j := 0) e0, rfl, _, rfl, ite2 (fun q1 => ?_) (fun q1 => ?_)⟩
        · have z0 : c0 = 48 := mk1_inj.mp (V.str.inj (of_decide_eq_true q1))
          refine ⟨_, rfl, rfl, _, rfl, ?_⟩
          by_cases q2 : z = "0"
          · rw [decide_eq_true (congrArg V.str q2)]
            refine iteF ?_
            have ny2 : numM z = if 400 < valN z then none else some (valN z) := by rw [ny, if_neg (fun k => k.2 q2)]
            refine ⟨_, rfl, z, ((valN z : Nat) : Int), rfl, int_of_dig hd, by omega, ?_⟩
            refine ⟨_, rfl, _, _, rfl, rfl, _, rfl, ite2 (fun q3 => ?_) (fun q3 => ?_)⟩
            · have q4 : 400 < valN z := by have := of_decide_eq_true q3; omega
              refine ⟨_, rfl, by decide +kernel, .inr ⟨400, rfl, by decide +kernel, _, rfl, by decide +kernel, rfl, ?_⟩⟩
              exact hE (by rw [ny2, if_pos q4]) H' sm
            · have q4 : ¬ 400 < valN z := fun q => q3 (decide_eq_true (by omega))
              exact ⟨_, rfl, hQ _ (by rw [ny2, if_neg q4]) H' sm⟩
          · rw [decide_eq_false fun e => q2 (V.str.inj e)]
            refine iteT ?_
            exact ⟨rfl, hE (by rw [ny, if_pos ⟨by rw [e1, z0], q2⟩]) H' sm⟩
        · skip
          have z0 : c0 ≠ 48 := fun e => q1 (decide_eq_true (congrArg V.str (mk1_inj.mpr e)))
          have ny2 : numM z = if 400 < valN z then none else some (valN z) := by rw [ny, if_neg (fun k => z0 (Option.some.inj (e1.symm.trans k.1)))]
          refine ⟨_, rfl, z, ((valN z : Nat) : Int), rfl, int_of_dig hd, by omega, ?_⟩
          refine ⟨_, rfl, _, _, rfl, rfl, _, rfl, ite2 (fun q3 => ?_) (fun q3 => ?_)⟩
          · have q4 : 400 < valN z := by have := of_decide_eq_true q3; omega
            refine ⟨_, rfl, by decide +kernel, .inr ⟨400, rfl, by decide +kernel, _, rfl, by decide +kernel, rfl, ?_⟩⟩
            exact hE (by rw [ny2, if_pos q4]) H' sm
          · have q4 : ¬ 400 < valN z := fun q => q3 (decide_eq_true (by omega))
            exact ⟨_, rfl, hQ _ (by rw [ny2, if_neg q4]) H' sm⟩
end
end K58
set_option Elab.async false
set_option linter.all false
set_option maxRecDepth 100000
set_option maxHeartbeats 4000000
namespace K58
open PySem PySem.Spec PyProof.Rows L2 TL
/-! parse_write, parse_cut, parse_admit, parse_line -/
def spParse (K : PySem.W.Frag) (g : Str → Option (List V)) : Sp := fun vs H Q E => ∃ s : Str, vs = [.str s] ∧ s.length ≤ 100000 ∧ (∀ ys, g s = some ys → ∀ H' p, Same H H' → H' p = some (.tup ys) → Q (.ref p) H') ∧ (g s = none → LnE K E H)
section
variable {P : Program} {w : World} {K : PySem.W.Frag} {mg : Str → Option Value} {base : Heap}
theorem ok_parse_len {g : Str → Option (List V)} : ∀ vs H Q E, spParse K g vs H Q E → vs.length = 1 := fun vs H Q E h => by
  obtain ⟨s, rfl, _⟩ := h
  rfl
theorem sc_parse_write : FnScope ["rest", "name", "text"] ["rest"] (defScope s_parse_write) := ⟨rfl, rfl, rfl, by decide +kernel, rfl, by decide +kernel, by decide +kernel⟩
theorem ok_parse_write (T : Txt P K mg) : DefOk P w K mg base (L2.CX P w) 3 "parse_write" ["rest"] (spParse K pWrite) := by
  obtain ⟨fd, F⟩ := T.d_parse_write
  have d_split_word := ok_split_word (P := P) (w := w) (base := base) T
  have d_read_name := ok_read_name (P := P) (w := w) (base := base) T
  have d_read_record := ok_read_record (P := P) (w := w) (base := base) T
  refine ⟨⟨fd, F.ok sc_parse_write ok_parse_len (fun cdv A outer s H vs Q E hr h => ?_), F.bindsN fun _ _ _ _ _ _ us hl => match us, hl with | [_], _ => rfl⟩, T.g_parse_write, F.kp⟩
  obtain ⟨z, rfl, hz, hQ, hE⟩ := h
  refine ⟨_, (pss_cons (ps_asg (pe_D d_split_word (hr.mono (by decide)) (passE (takes_of rfl rfl rfl rfl)) (pa_cons (pv 0) pa_nil)) (pg_tup rfl (pgs_cons (pg_name (i := 1) sc_parse_write.nd rfl (Or.inl rfl)) (pgs_cons (pg_name (i := 2) sc_parse_write.nd rfl (Or.inl rfl)) pgs_nil))))
    (pss_one (ps_ret (pe_tup (pa_cons pe_str (pa_cons (pe_D d_read_name (hr.mono (by decide)) (passE (takes_of rfl rfl rfl rfl)) (pa_cons (pv 1) pa_nil)) (pa_cons (pe_D d_read_record (hr.mono (by decide)) (passE (takes_of rfl rfl rfl rfl)) (pa_cons (pv 2) pa_nil)) pa_nil))))))), ?_⟩
  unfold pWrite at hQ hE
  obtain ⟨l1, l2⟩ := part_len z
  refine ⟨_, rfl, z, rfl, hz, fun em H1 p s1 hp => ?_, fun em => hE (by rw [if_pos em])⟩
  rw [if_neg em] at hQ hE
  refine ⟨p, _, rfl, SqT.of hp, rfl, _, _, rfl, _, _, rfl, rfl, ?_⟩
  refine ⟨_, rfl, (part z).1, rfl, by omega, fun n1 H2 s2 => ?_, fun n1 => (hE (by rw [if_neg fun q => by rw [n1] at q; exact Bool.false_ne_true q.1])).on s1⟩
  refine ⟨_, rfl, (part z).2.2, rfl, by omega, fun n2 H3 s3 => ?_, fun n2 => (hE (by rw [if_neg fun q => by rw [n2] at q; exact Bool.false_ne_true q.2])).on (s1.trans s2)⟩
  refine ⟨by show 3 ≤ sizeLine; decide, fun q nq => ?_⟩
  exact hQ _ (by rw [if_pos ⟨n1, n2⟩]) _ q (same_new ((s1.trans s2).trans s3) nq) upd_same
theorem sc_parse_admit : FnScope ["rest", "writer", "beside"] ["rest"] (defScope s_parse_admit) := ⟨rfl, rfl, rfl, by decide +kernel, rfl, by decide +kernel, by decide +kernel⟩
theorem ok_parse_admit (T : Txt P K mg) : DefOk P w K mg base (L2.CX P w) 3 "parse_admit" ["rest"] (spParse K pAdmit) := by
  obtain ⟨fd, F⟩ := T.d_parse_admit
  have d_split_word := ok_split_word (P := P) (w := w) (base := base) T
  have d_read_name := ok_read_name (P := P) (w := w) (base := base) T
  refine ⟨⟨fd, F.ok sc_parse_admit ok_parse_len (fun cdv A outer s H vs Q E hr h => ?_), F.bindsN fun _ _ _ _ _ _ us hl => match us, hl with | [_], _ => rfl⟩, T.g_parse_admit, F.kp⟩
  obtain ⟨z, rfl, hz, hQ, hE⟩ := h
  refine ⟨_, (pss_cons (ps_asg (pe_D d_split_word (hr.mono (by decide)) (passE (takes_of rfl rfl rfl rfl)) (pa_cons (pv 0) pa_nil)) (pg_tup rfl (pgs_cons (pg_name (i := 1) sc_parse_admit.nd rfl (Or.inl rfl)) (pgs_cons (pg_name (i := 2) sc_parse_admit.nd rfl (Or.inl rfl)) pgs_nil))))
    (pss_one (ps_ret (pe_tup (pa_cons pe_str (pa_cons (pe_D d_read_name (hr.mono (by decide)) (passE (takes_of rfl rfl rfl rfl)) (pa_cons (pv 1) pa_nil)) (pa_cons (pe_D d_read_name (hr.mono (by decide)) (passE (takes_of rfl rfl rfl rfl)) (pa_cons (pv 2) pa_nil)) pa_nil))))))), ?_⟩
  unfold pAdmit at hQ hE
  obtain ⟨l1, l2⟩ := part_len z
  refine ⟨_, rfl, z, rfl, hz, fun em H1 p s1 hp => ?_, fun em => hE (by rw [if_pos em])⟩
  rw [if_neg em] at hQ hE
  refine ⟨p, _, rfl, SqT.of hp, rfl, _, _, rfl, _, _, rfl, rfl, ?_⟩
  refine ⟨_, rfl, (part z).1, rfl, by omega, fun n1 H2 s2 => ?_, fun n1 => (hE (by rw [if_neg fun q => by rw [n1] at q; exact Bool.false_ne_true q.1])).on s1⟩
  refine ⟨_, rfl, (part z).2.2, rfl, by omega, fun n2 H3 s3 => ?_, fun n2 => (hE (by rw [if_neg fun q => by rw [n2] at q; exact Bool.false_ne_true q.2])).on (s1.trans s2)⟩
  refine ⟨by show 3 ≤ sizeLine; decide, fun q nq => ?_⟩
  exact hQ _ (by rw [if_pos ⟨n1, n2⟩]) _ q (same_new ((s1.trans s2).trans s3) nq) upd_same
theorem sc_parse_cut : FnScope ["rest", "name", "steps_and_text", "steps", "text"] ["rest"] (defScope s_parse_cut) := ⟨rfl, rfl, rfl, by decide +kernel, rfl, by decide +kernel, by decide +kernel⟩
theorem ok_parse_cut (T : Txt P K mg) : DefOk P w K mg base (L2.CX P w) 3 "parse_cut" ["rest"] (spParse K pCut) := by
  obtain ⟨fd, F⟩ := T.d_parse_cut
  have d_split_word := ok_split_word (P := P) (w := w) (base := base) T
  have d_read_name := ok_read_name (P := P) (w := w) (base := base) T
  have d_read_record := ok_read_record (P := P) (w := w) (base := base) T
  have d_read_steps := ok_read_steps (P := P) (w := w) (base := base) T
  refine ⟨⟨fd, F.ok sc_parse_cut ok_parse_len (fun cdv A outer s H vs Q E hr h => ?_), F.bindsN fun _ _ _ _ _ _ us hl => match us, hl with | [_], _ => rfl⟩, T.g_parse_cut, F.kp⟩
  obtain ⟨z, rfl, hz, hQ, hE⟩ := h
  refine ⟨_, (pss_cons (ps_asg (pe_D d_split_word (hr.mono (by decide)) (passE (takes_of rfl rfl rfl rfl)) (pa_cons (pv 0) pa_nil)) (pg_tup rfl (pgs_cons (pg_name (i := 1) sc_parse_cut.nd rfl (Or.inl rfl)) (pgs_cons (pg_name (i := 2) sc_parse_cut.nd rfl (Or.inl rfl)) pgs_nil))))
    (pss_cons (ps_asg (pe_D d_split_word (hr.mono (by decide)) (passE (takes_of rfl rfl rfl rfl)) (pa_cons (pv 2) pa_nil)) (pg_tup rfl (pgs_cons (pg_name (i := 3) sc_parse_cut.nd rfl (Or.inl rfl)) (pgs_cons (pg_name (i := 4) sc_parse_cut.nd rfl (Or.inl rfl)) pgs_nil))))
    (pss_one (ps_ret (pe_tup (pa_cons pe_str (pa_cons (pe_D d_read_name (hr.mono (by decide)) (passE (takes_of rfl rfl rfl rfl)) (pa_cons (pv 1) pa_nil)) (pa_cons (pe_D d_read_record (hr.mono (by decide)) (passE (takes_of rfl rfl rfl rfl)) (pa_cons (pv 4) pa_nil)) (pa_cons (pe_D d_read_steps (hr.mono (by decide)) (passE (takes_of rfl rfl rfl rfl)) (pa_cons (pv 3) pa_nil)) pa_nil))))))))), ?_⟩
  unfold pCut at hQ hE
  obtain ⟨l1, l2⟩ := part_len z
  obtain ⟨l3, l4⟩ := part_len (part z).2.2
  refine ⟨_, rfl, z, rfl, hz, fun em H1 p s1 hp => ?_, fun em => hE (by rw [if_pos em])⟩
  rw [if_neg em] at hQ hE
  refine ⟨p, _, rfl, SqT.of hp, rfl, _, _, rfl, _, _, rfl, rfl, ?_⟩
  refine ⟨_, rfl, (part z).2.2, rfl, by omega, fun em2 H2 p2 s2 hp2 => ?_, fun em2 => (hE (by rw [if_pos em2])).on s1⟩
  rw [if_neg em2] at hQ hE
  have s12 := s1.trans s2
  refine ⟨p2, _, rfl, SqT.of hp2, rfl, _, _, rfl, _, _, rfl, rfl, ?_⟩
  have no1 : nameB (part z).1 = false → LnE K E H := fun n1 => hE (by
    split
    · rfl
    · rw [if_neg fun q => by rw [n1] at q; exact Bool.false_ne_true q.1])
  have no2 : recP (part (part z).2.2).2.2 = false → LnE K E H := fun n1 => hE (by
    split
    · rfl
    · rw [if_neg fun q => by rw [n1] at q; exact Bool.false_ne_true q.2])
  refine ⟨_, rfl, (part z).1, rfl, by omega, fun n1 H3 s3 => ?_, fun n1 => (no1 n1).on s12⟩
  have s13 := s12.trans s3
  refine ⟨_, rfl, (part (part z).2.2).2.2, rfl, by omega, fun n2 H4 s4 => ?_, fun n2 => (no2 n2).on s13⟩
  have s14 := s13.trans s4
  refine ⟨_, rfl, (part (part z).2.2).1, rfl, by omega, fun n hn H5 s5 => ?_, fun hn => (hE (by rw [hn])).on s14⟩
  rw [hn] at hQ
  refine ⟨by show 4 ≤ sizeLine; decide, fun q nq => ?_⟩
  exact hQ _ (if_pos ⟨n1, n2⟩) _ q (same_new (s14.trans s5) nq) upd_same
theorem sc_parse_line : FnScope ["line", "word", "_", "rest"] ["line"] (defScope s_parse_line) := ⟨rfl, rfl, rfl, by decide +kernel, rfl, by decide +kernel, by decide +kernel⟩
theorem ok_parse_line (T : Txt P K mg) : DefOk P w K mg base (L2.CX P w) 4 "parse_line" ["line"] (spParse K parseM) := by
  obtain ⟨fd, F⟩ := T.d_parse_line
  obtain ⟨fI, cc, tl_⟩ := T.line
  have d_parse_write := ok_parse_write (P := P) (w := w) (base := base) T
  have d_parse_cut := ok_parse_cut (P := P) (w := w) (base := base) T
  have d_parse_admit := ok_parse_admit (P := P) (w := w) (base := base) T
  have d_read_name := ok_read_name (P := P) (w := w) (base := base) T
  refine ⟨⟨fd, F.ok sc_parse_line ok_parse_len (fun cdv A outer s H vs Q E hr h => ?_), F.bindsN fun _ _ _ _ _ _ us hl => match us, hl with | [_], _ => rfl⟩, T.g_parse_line, F.kp⟩
  obtain ⟨z, rfl, hz, hQ, hE⟩ := h
  refine ⟨_, (pss_cons (ps_if (PW.pt (pw_or (pt_cmpR op_eq (pv 0) pe_str (nomark _)) (pw_or1 (pt_cmpR op_eq (pv 0) pe_str (nomark _)))))
      (pss_one (ps_ret (pe_tup (pa_cons (pv 0) pa_nil))))
      pss_nil)
    (pss_cons (ps_asg (pe_partition (pv 0) pe_str) (pg_tup rfl (pgs_cons (pg_name (i := 1) sc_parse_line.nd rfl (Or.inl rfl)) (pgs_cons (pg_name (i := 2) sc_parse_line.nd rfl (Or.inl rfl)) (pgs_cons (pg_name (i := 3) sc_parse_line.nd rfl (Or.inl rfl)) pgs_nil)))))
    (pss_cons (ps_if (pt_cmpR op_eq (pv 1) pe_str (nomark _))
      (pss_one (ps_ret (pe_D d_parse_write (hr.mono (by decide)) (passE (takes_of rfl rfl rfl rfl)) (pa_cons (pv 3) pa_nil))))
      pss_nil)
    (pss_cons (ps_if (pt_cmpR op_eq (pv 1) pe_str (nomark _))
      (pss_one (ps_ret (pe_D d_parse_cut (hr.mono (by decide)) (passE (takes_of rfl rfl rfl rfl)) (pa_cons (pv 3) pa_nil))))
      pss_nil)
    (pss_cons (ps_if (pt_cmpR op_eq (pv 1) pe_str (nomark _))
      (pss_one (ps_ret (pe_D d_parse_admit (hr.mono (by decide)) (passE (takes_of rfl rfl rfl rfl)) (pa_cons (pv 3) pa_nil))))
      pss_nil)
    (pss_cons (ps_if (pt_cmpR op_eq (pv 1) pe_str (nomark _))
      (pss_one (ps_ret (pe_tup (pa_cons pe_str (pa_cons (pe_D d_read_name (hr.mono (by decide)) (passE (takes_of rfl rfl rfl rfl)) (pa_cons (pv 3) pa_nil)) pa_nil)))))
      pss_nil)
    (pss_one (ps_raise rfl (takes_of rfl rfl rfl rfl) (pmk_line tl_ T.g_InvalidLine hr (pa_cons pe_str pa_nil)))))))))), ?_⟩
  unfold parseM at hQ hE
  obtain ⟨l1, l2⟩ := part_len z
  have one : (z = "undo" ∨ z = "redo") → ∀ p, H p = none → Q (.ref p) (upd H p (.tup [.str z])) := fun e p np => hQ _ (by rw [if_pos e]) _ p (same_new (Same.refl H) np) upd_same
  refine ⟨_, rfl, rfl, _, rfl, ite2 (fun c1 => ?_) (fun c1 => ?_)⟩
  · refine iteT ?_
    exact ⟨_, rfl, by show 1 ≤ sizeLine; decide, one (.inl (V.str.inj (of_decide_eq_true c1)))⟩
  refine ⟨_, rfl, rfl, _, rfl, ite2 (fun c2 => ?_) (fun c2 => ?_)⟩
  · exact ⟨_, rfl, by show 1 ≤ sizeLine; decide, one (.inr (V.str.inj (of_decide_eq_true c2)))⟩
  have n0 : ¬ (z = "undo" ∨ z = "redo") := by
    rintro (e | e)
    · exact c1 (decide_eq_true (congrArg V.str e))
    · exact c2 (decide_eq_true (congrArg V.str e))
  rw [if_neg n0] at hQ hE
  refine ⟨_, rfl, ⟨_, rfl⟩, z, " ", rfl, rfl, by decide +kernel, small_line hz, fun p new => ?_⟩
  refine ⟨p, _, rfl, SqT.of upd_same, rfl, _, _, rfl, _, _, rfl, _, _, rfl, rfl, ?_⟩
  have s1 : Same H (upd H p (.tup [.str (part z).1, .str (part z).2.1, .str (part z).2.2])) := same_new (Same.refl H) new
  refine ⟨_, rfl, rfl, _, rfl, ite2 (fun d1 => ?_) (fun d1 => ?_)⟩
  · have e := V.str.inj (of_decide_eq_true d1)
    rw [if_pos e] at hQ hE
    exact ⟨_, rfl, (part z).2.2, rfl, by omega, fun ys hy H2 q s2 hq => hQ ys hy H2 q (s1.trans s2) hq, fun hy => (hE hy).on s1⟩
  rw [if_neg fun e => d1 (decide_eq_true (congrArg V.str e))] at hQ hE
  refine ⟨_, rfl, rfl, _, rfl, ite2 (fun d2 => ?_) (fun d2 => ?_)⟩
  · have e := V.str.inj (of_decide_eq_true d2)
    rw [if_pos e] at hQ hE
    exact ⟨_, rfl, (part z).2.2, rfl, by omega, fun ys hy H2 q s2 hq => hQ ys hy H2 q (s1.trans s2) hq, fun hy => (hE hy).on s1⟩
  rw [if_neg fun e => d2 (decide_eq_true (congrArg V.str e))] at hQ hE
  refine ⟨_, rfl, rfl, _, rfl, ite2 (fun d3 => ?_) (fun d3 => ?_)⟩
  · have e := V.str.inj (of_decide_eq_true d3)
    rw [if_pos e] at hQ hE
    exact ⟨_, rfl, (part z).2.2, rfl, by omega, fun ys hy H2 q s2 hq => hQ ys hy H2 q (s1.trans s2) hq, fun hy => (hE hy).on s1⟩
  rw [if_neg fun e => d3 (decide_eq_true (congrArg V.str e))] at hQ hE
  refine ⟨_, rfl, rfl, _, rfl, ite2 (fun d4 => ?_) (fun d4 => ?_)⟩
  · have e := V.str.inj (of_decide_eq_true d4)
    rw [if_pos e] at hQ hE
    refine ⟨_, rfl, (part z).2.2, rfl, by omega, fun nb H2 s2 => ?_, fun nb => (hE (by rw [if_neg fun q => by rw [nb] at q; exact Bool.false_ne_true q])).on s1⟩
    exact ⟨by show 2 ≤ sizeLine; decide, fun q nq => hQ _ (by rw [if_pos nb]) _ q (same_new (s1.trans s2) nq) upd_same⟩
  rw [if_neg fun e => d4 (decide_eq_true (congrArg V.str e))] at hQ hE
  exact ⟨rfl, hE rfl _ s1⟩
end
end K58
set_option Elab.async false
set_option linter.all false
set_option maxRecDepth 100000
set_option maxHeartbeats 4000000
namespace K58
open PySem PySem.Spec PyProof.Rows L2 TL
/-! format_line, _law_line -/
/-- a deed's tuple gives its line -/
def spLineOf : Sp := fun vs H Q _ => ∃ (p : Addr) (ys : List V) (L : Str), vs = [.ref p] ∧ H p = some (.tup ys) ∧ Deed ys L ∧ L.length ≤ 1000 ∧ ∀ H', Same H H' → Q (.str L) H'
section
variable {P : Program} {w : World} {K : PySem.W.Frag} {mg : Str → Option Value} {base : Heap}
theorem len_app (a b : Str) : (a ++ b).length = a.length + b.length := by rw [len_tl, tl_append, List.length_append, ← len_tl, ← len_tl]
theorem len_sp : (" " : Str).length = 1 := by decide +kernel
theorem app_assoc (a b c : Str) : a ++ b ++ c = a ++ (b ++ c) := ext_tl (by simp only [tl_append, List.append_assoc])
theorem empty_app (a : Str) : Str.empty ++ a = a := ext_tl (by rw [tl_append, tl_nil, List.nil_append])
theorem len_empty : Str.empty.length = 0 := rfl
theorem num_log {n : Nat} (h : n < 1000) : (n : Int).natAbs.log2 < 1920 := by
  rw [Int.natAbs_natCast]
  by_cases h0 : n = 0
  · subst h0; decide
  · exact Nat.lt_trans ((Nat.log2_lt h0).mpr (show n < 2 ^ 10 by omega)) (by decide)
theorem line_len {P : Sp} : ∀ vs H Q E, spLineOf vs H Q E → vs.length = 1 := fun vs H Q E h => by
  obtain ⟨p, ys, L, rfl, _⟩ := h
  rfl
theorem sc_format_line : FnScope ["deed", "word", "writer", "text", "steps"] ["deed"] (defScope s_format_line) := ⟨rfl, rfl, rfl, by decide +kernel, rfl, by decide +kernel, by decide +kernel⟩
theorem ok_format_line (T : Txt P K mg) : DefOk P w K mg base CX0 1 "format_line" ["deed"] spLineOf := by
  obtain ⟨fd, F⟩ := T.d_format_line
  refine ⟨⟨fd, F.ok sc_format_line (fun vs H Q E h => ?_) (fun cdv A outer s H vs Q E hr h => ?_), F.bindsN fun _ _ _ _ _ _ us hl => match us, hl with | [_], _ => rfl⟩, T.g_format_line, F.kp⟩
  · obtain ⟨p, ys, L, rfl, _⟩ := h
    rfl
  · obtain ⟨p, ys, L, rfl, hp, hd, hl, hQ⟩ := h
    refine ⟨_, PSs.nox (pss_cons (ps_if (pt_cmpR op_eq (pe_ix ix_tup (pv 0) pe_int (fun _ _ => rfl)) pe_str (nomark _))
      (pss_cons (ps_asg (pv 0) (pg_tup rfl (pgs_cons (pg_name (i := 1) sc_format_line.nd rfl (Or.inl rfl)) (pgs_cons (pg_name (i := 2) sc_format_line.nd rfl (Or.inl rfl)) (pgs_cons (pg_name (i := 3) sc_format_line.nd rfl (Or.inl rfl)) (pgs_cons (pg_name (i := 4) sc_format_line.nd rfl (Or.inl rfl)) pgs_nil))))))
      (pss_one (ps_ret (pe_joined (.cons (pe_fmt (pv 1)) (.cons pe_str (.cons (pe_fmt (pv 2)) (.cons pe_str (.cons (pe_fmt (pv 4)) (.cons pe_str (.cons (pe_fmt (pv 3)) .nil)))))))))))
      pss_nil)
    (pss_one (ps_ret (pe_join pe_str (pv 0))))), ?_⟩
    have hQ0 := hQ H (Same.refl H)
    cases hd with
    | one _ na =>
      refine ⟨_, rfl, p, _, 0, .str L, rfl, rfl, SqT.of hp, rfl, rfl, _, rfl, ite2 (fun c => absurd (V.str.inj (of_decide_eq_true c)) na) (fun _ => ?_)⟩
      refine ⟨⟨_, rfl⟩, _, rfl, " ", p, [L], rfl, rfl, .inr (SqT.of hp), ?_, ?_⟩
      · simp only [List.map_cons, List.map_nil, List.sum_cons, List.sum_nil, List.length_cons, List.length_nil, len_sp]
        omega
      · rw [join_eq]
        exact hQ0
    | two a b na =>
      rw [len_app, len_app, len_sp] at hl
      refine ⟨_, rfl, p, _, 0, .str a, rfl, rfl, SqT.of hp, rfl, rfl, _, rfl, ite2 (fun c => absurd (V.str.inj (of_decide_eq_true c)) na) (fun _ => ?_)⟩
      refine ⟨⟨_, rfl⟩, _, rfl, " ", p, [a, b], rfl, rfl, .inr (SqT.of hp), ?_, ?_⟩
      · simp only [List.map_cons, List.map_nil, List.sum_cons, List.sum_nil, List.length_cons, List.length_nil, len_sp]
        omega
      · rw [join_eq]
        exact hQ0
    | three a b c na =>
      rw [len_app, len_app, len_app, len_app, len_sp] at hl
      refine ⟨_, rfl, p, _, 0, .str a, rfl, rfl, SqT.of hp, rfl, rfl, _, rfl, ite2 (fun c => absurd (V.str.inj (of_decide_eq_true c)) na) (fun _ => ?_)⟩
      refine ⟨⟨_, rfl⟩, _, rfl, " ", p, [a, b, c], rfl, rfl, .inr (SqT.of hp), ?_, ?_⟩
      · simp only [List.map_cons, List.map_nil, List.sum_cons, List.sum_nil, List.length_cons, List.length_nil, len_sp]
        omega
      · rw [join_eq]
        exact hQ0
    | cut a b n hn =>
      have hl2 := hl
      simp only [len_app, len_sp] at hl2
      refine ⟨_, rfl, p, _, 0, .str "cut", rfl, rfl, SqT.of hp, rfl, rfl, _, rfl, ite2 (fun _ => ?_) (fun c => absurd rfl c)⟩
      refine ⟨_, rfl, p, _, rfl, SqT.of hp, rfl, _, _, rfl, _, _, rfl, _, _, rfl, _, _, rfl, rfl, ?_⟩
      have c3 : ("cut" : Str).length = 3 := by decide +kernel
      have n3 : (Str.ofString (toString ((n : Nat) : Int))).length ≤ 3 := len_numS (n := n) (by omega)
      have hab : a.length ≤ 1000 ∧ b.length ≤ 1000 := by omega
      obtain ⟨ha, hb⟩ := hab
      clear hl2 hl
      refine ⟨_, rfl, .inl ⟨"cut", rfl, by rw [c3, sizeLine_eq]; omega, _, rfl, ?_, _, rfl, ?_, _, rfl, .inl ⟨a, rfl, by rw [sizeLine_eq]; omega, _, rfl, ?_, _, rfl, ?_, _, rfl, .inr ⟨(n : Int), rfl, num_log hn, _, rfl, ?_, _, rfl, ?_, _, rfl, .inl ⟨b, rfl, by rw [sizeLine_eq]; omega, _, rfl, ?_, ?_⟩⟩⟩⟩⟩
      all_goals first
        | (rw [sizeLine_eq]; simp only [len_app, len_sp, c3, len_empty]; omega)
        | (simp only [app_assoc, empty_app] at hQ0 ⊢; exact hQ0)
theorem sc_l_line : FnScope ["_law_deed_here", "_law_line_here", "_law_word"] ["_law_deed_here"] (defScope s_l_line) := ⟨rfl, rfl, rfl, by decide +kernel, rfl, by decide +kernel, by decide +kernel⟩
theorem ok_l_line (T : Txt P K mg) : DefOk P w K mg base CX0 1 "_law_line" ["_law_deed_here"] spLineOf := by
  obtain ⟨fd, F⟩ := T.d_l_line
  refine ⟨⟨fd, F.ok sc_l_line (fun vs H Q E h => ?_) (fun cdv A outer s H vs Q E hr h => ?_), F.bindsN fun _ _ _ _ _ _ us hl => match us, hl with | [_], _ => rfl⟩, T.g_l_line, F.kp⟩
  · obtain ⟨p, ys, L, rfl, _⟩ := h
    rfl
  · obtain ⟨p, ys, L, rfl, hp, hd, hl, hQ⟩ := h
    refine ⟨_, PSs.nox (pss_cons (ps_if (pt_cmpR op_eq (pe_ix ix_tup (pv 0) pe_int (fun _ _ => rfl)) pe_str (nomark _))
      (pss_one (ps_ret (pe_op op_add_str (pe_op op_add_str (pe_op op_add_str (pe_op op_add_str (pe_op op_add_str pe_str (pe_ix ix_tup (pv 0) pe_int (fun _ _ => rfl))) pe_str) (pe_callTy call_str_int rfl T.f_str (by decide +kernel) (pa_cons (pe_ix ix_tup (pv 0) pe_int (fun _ _ => rfl)) pa_nil))) pe_str) (pe_ix ix_tup (pv 0) pe_int (fun _ _ => rfl)))))
      pss_nil)
    (pss_cons (ps_set (i := 1) sc_l_line.nd rfl (Or.inl rfl) (pe_ix ix_tup (pv 0) pe_int (fun _ _ => rfl)))
    (pss_cons (ps_for PassesOwn.never rfl (pi_tup (pe_slice sl_tup (pv 0) (po_some pe_int) po_none)) (pg_name (i := 2) sc_l_line.nd rfl (Or.inl rfl))
      (pss_one (ps_set (i := 1) sc_l_line.nd rfl (Or.inl rfl) (pe_op op_add_str (pe_op op_add_str (pv 1) pe_str) (pv 2)))))
    (pss_one (ps_ret (pv 1)))))), ?_⟩
    have hQ0 := hQ H (Same.refl H)
    cases hd with
    | one _ na =>
      refine ⟨_, rfl, p, _, 0, .str L, rfl, rfl, SqT.of hp, rfl, rfl, _, rfl, ite2 (fun c => absurd (V.str.inj (of_decide_eq_true c)) na) (fun _ => ?_)⟩
      refine ⟨_, rfl, p, _, 0, .str L, rfl, rfl, SqT.of hp, rfl, ?_⟩
      refine ⟨_, rfl, 1, rfl, p, _, rfl, SqT.of hp, (by show ¬ (HT.sIx 1 0 (some 1) = 0 ∧ HT.sIx 1 1 none = 1); decide), fun q nq => ?_⟩
      have sq : Same H (upd H q (.tup [])) := same_new (Same.refl H) nq
      refine ⟨q, rfl, ⟨_, SqT.of upd_same⟩, for_tup (K := K) (a := q) (xs := []) (fun i σ H' => H' = upd H q (.tup []) ∧ ∃ v, σ = [some (.ref p), some (.str L), v]) ⟨rfl, _, rfl⟩ (fun i σ H' _ e => by rw [e.1]; exact SqT.of upd_same) ?_ ?_⟩
      · rintro i x σ H' hi _
        simp at hi
      · rintro σ H' ⟨rfl, v, rfl⟩
        exact ⟨_, rfl, hQ _ sq⟩
    | two a b na =>
      have hl2 := hl
      simp only [len_app, len_sp] at hl2
      refine ⟨_, rfl, p, _, 0, .str a, rfl, rfl, SqT.of hp, rfl, rfl, _, rfl, ite2 (fun c => absurd (V.str.inj (of_decide_eq_true c)) na) (fun _ => ?_)⟩
      refine ⟨_, rfl, p, _, 0, .str a, rfl, rfl, SqT.of hp, rfl, ?_⟩
      refine ⟨_, rfl, 1, rfl, p, _, rfl, SqT.of hp, (by show ¬ (HT.sIx 2 0 (some 1) = 0 ∧ HT.sIx 2 2 none = 2); decide), fun q nq => ?_⟩
      have sq : Same H (upd H q (.tup [.str b])) := same_new (Same.refl H) nq
      refine ⟨q, rfl, ⟨_, SqT.of upd_same⟩, for_tup (K := K) (a := q) (xs := [.str b]) (fun i σ H' => H' = upd H q (.tup [.str b]) ∧ ∃ v, σ = [some (.ref p), some (.str (if i = 0 then a else a ++ " " ++ b)), v]) ⟨rfl, _, rfl⟩ (fun i σ H' _ e => by rw [e.1]; exact SqT.of upd_same) ?_ ?_⟩
      · rintro i x σ H' hi ⟨rfl, v, rfl⟩
        match i, hi with
        | 0, hi =>
          cases hi
          exact ⟨_, rfl, _, _, rfl, rfl, by rw [if_pos rfl, len_sp, sizeLine_eq]; omega, _, rfl, _, _, rfl, rfl, by rw [if_pos rfl, len_app, len_sp, sizeLine_eq]; omega, rfl, _, rfl⟩
      · rintro σ H' ⟨rfl, v, rfl⟩
        exact ⟨_, rfl, hQ _ sq⟩
    | three a b c na =>
      have hl2 := hl
      simp only [len_app, len_sp] at hl2
      refine ⟨_, rfl, p, _, 0, .str a, rfl, rfl, SqT.of hp, rfl, rfl, _, rfl, ite2 (fun c => absurd (V.str.inj (of_decide_eq_true c)) na) (fun _ => ?_)⟩
      refine ⟨_, rfl, p, _, 0, .str a, rfl, rfl, SqT.of hp, rfl, ?_⟩
      refine ⟨_, rfl, 1, rfl, p, _, rfl, SqT.of hp, (by show ¬ (HT.sIx 3 0 (some 1) = 0 ∧ HT.sIx 3 3 none = 3); decide), fun q nq => ?_⟩
      have sq : Same H (upd H q (.tup [.str b, .str c])) := same_new (Same.refl H) nq
      refine ⟨q, rfl, ⟨_, SqT.of upd_same⟩, for_tup (K := K) (a := q) (xs := [.str b, .str c]) (fun i σ H' => H' = upd H q (.tup [.str b, .str c]) ∧ ∃ v, σ = [some (.ref p), some (.str (if i = 0 then a else if i = 1 then a ++ " " ++ b else a ++ " " ++ (b ++ " " ++ c))), v]) ⟨rfl, _, rfl⟩ (fun i σ H' _ e => by rw [e.1]; exact SqT.of upd_same) ?_ ?_⟩
      · rintro i x σ H' hi ⟨rfl, v, rfl⟩
        match i, hi with
        | 0, hi =>
          cases hi
          exact ⟨_, rfl, _, _, rfl, rfl, by rw [if_pos rfl, len_sp, sizeLine_eq]; omega, _, rfl, _, _, rfl, rfl, by rw [if_pos rfl, len_app, len_sp, sizeLine_eq]; omega, rfl, _, rfl⟩
        | 1, hi =>
          cases hi
          refine ⟨_, rfl, _, _, rfl, rfl, by rw [if_neg (by decide), if_pos rfl, len_app, len_app, len_sp, sizeLine_eq]; omega, _, rfl, _, _, rfl, rfl, by rw [if_neg (by decide), if_pos rfl, len_app, len_app, len_app, len_sp, sizeLine_eq]; omega, rfl, some (.str c), ?_⟩
          rw [if_neg (by decide), if_pos rfl, if_neg (by decide), if_neg (by decide)]
          simp only [app_assoc]
          rfl
      · rintro σ H' ⟨rfl, v, rfl⟩
        exact ⟨_, rfl, hQ _ sq⟩
    | cut a b n hn =>
      have hl2 := hl
      simp only [len_app, len_sp] at hl2
      have c3 : ("cut" : Str).length = 3 := by decide +kernel
      have c4 : ("cut " : Str).length = 4 := by decide +kernel
      have n3 : (Str.ofString (toString ((n : Nat) : Int))).length ≤ 3 := len_numS (n := n) (by omega)
      have hab : a.length ≤ 1000 ∧ b.length ≤ 1000 := by omega
      obtain ⟨ha, hb⟩ := hab
      clear hl2 hl
      have e4 : ("cut " : Str) = "cut" ++ " " := by decide +kernel
      refine ⟨_, rfl, p, _, 0, .str "cut", rfl, rfl, SqT.of hp, rfl, rfl, _, rfl, ite2 (fun _ => ?_) (fun c => absurd rfl c)⟩
      refine ⟨_, rfl, p, _, 1, .str a, rfl, rfl, SqT.of hp, rfl, _, _, rfl, rfl, ?_, _, _, rfl, rfl, ?_, _, rfl, p, _, 3, .int (n : Int), rfl, rfl, SqT.of hp, rfl, _, rfl, num_log hn, _, _, rfl, rfl, ?_, _, _, rfl, rfl, ?_, _, rfl, p, _, 2, .str b, rfl, rfl, SqT.of hp, rfl, _, _, rfl, rfl, ?_, ?_⟩
      all_goals first
        | (rw [sizeLine_eq]; simp only [len_app, len_sp, c3, c4, len_empty]; omega)
        | (rw [e4]; simp only [app_assoc, empty_app] at hQ0 ⊢; exact hQ0)
end
end K58
set_option Elab.async false
set_option linter.all false
set_option maxRecDepth 100000
set_option maxHeartbeats 4000000
namespace K58
open PySem PySem.Spec PyProof.Rows L2 TL
/-! _law_number, _law_read -/
def numV (s : Str) : Int := match numM s with
  | some n => (n : Int)
  | none => -1
def spNum : Sp := fun vs H Q _ => ∃ s : Str, vs = [.str s] ∧ s.length ≤ 100000 ∧ Q (.int (numV s)) H
/-- the reader's answer: a new tuple, or None -/
def spRead : Sp := fun vs H Q _ => ∃ s : Str, vs = [.str s] ∧ s.length ≤ 100000 ∧ (∀ ys, readM s = some ys → ∀ H' p, Same H H' → H' p = some (.tup ys) → Q (.ref p) H') ∧ (readM s = none → ∀ H', Same H H' → Q .non H')
section
variable {P : Program} {w : World} {K : PySem.W.Frag} {mg : Str → Option Value} {base : Heap}
theorem numV_no {z : Str} (h : numM z = none) : numV z = -1 := by unfold numV; rw [h]
theorem numV_yes {z : Str} {n : Nat} (h : numM z = some n) : numV z = n := by unfold numV; rw [h]
theorem zero_not {z : Str} (h : 1 < z.length) : z ≠ "0" := fun e => by
  rw [e] at h
  revert h
  decide +kernel
theorem sc_l_number : FnScope ["_law_text_here", "_law_sign"] ["_law_text_here"] (defScope s_l_number) := ⟨rfl, rfl, rfl, by decide +kernel, rfl, by decide +kernel, by decide +kernel⟩
theorem ok_l_number (T : Txt P K mg) : DefOk P w K mg base CX0 1 "_law_number" ["_law_text_here"] spNum := by
  obtain ⟨fd, F⟩ := T.d_l_number
  refine ⟨⟨fd, F.ok sc_l_number (fun vs H Q E h => ?_) (fun cdv A outer s H vs Q E hr h => ?_), F.bindsN fun _ _ _ _ _ _ us hl => match us, hl with | [_], _ => rfl⟩, T.g_l_number, F.kp⟩
  · obtain ⟨s, rfl, _⟩ := h
    rfl
  · obtain ⟨z, rfl, hz, hQ⟩ := h
    refine ⟨_, PSs.nox (pss_cons (ps_if (pt_not (pt_chain op_le op_le pe_int (pe_callB call_len_str rfl T.f_len PySem.boot_len (pa_cons (pv 0) pa_nil)) pe_int))
      (pss_one (ps_ret (pe_un un_neg pe_int)))
      pss_nil)
    (pss_cons (ps_for PassesOwn.never rfl (pi_str (pv 0)) (pg_name (i := 1) sc_l_number.nd rfl (Or.inl rfl))
      (pss_one (ps_if (pt_cmpR op_notIn_sign (pv 1) pe_str rfl)
        (pss_one (ps_ret (pe_un un_neg pe_int)))
        pss_nil)))
    (pss_cons (ps_if (PW.pt (pw_or (PW.pt (pw_and (pt_cmpR op_gt (pe_callB call_len_str rfl T.f_len PySem.boot_len (pa_cons (pv 0) pa_nil)) pe_int (nomark _)) (pw_and1 (pt_cmpR op_eq (pe_ix ix_str (pv 0) pe_int (fun _ _ => rfl)) pe_str (nomark _))))) (pw_or1 (pt_cmpR op_gt (pe_callTy call_int_str rfl T.f_int (by decide +kernel) (pa_cons (pv 0) pa_nil)) pe_int (nomark _)))))
      (pss_one (ps_ret (pe_un un_neg pe_int)))
      pss_nil)
    (pss_one (ps_ret (pe_callTy call_int_str rfl T.f_int (by decide +kernel) (pa_cons (pv 0) pa_nil))))))), ?_⟩
    refine ⟨_, rfl, z, rfl, small_line hz, _, _, rfl, rfl, _, rfl, ite2 (fun c1 => ?_) (fun c1 => ?_)⟩
    · have h1 : 1 ≤ z.length := by have := of_decide_eq_true c1; omega
      refine ⟨_, _, rfl, rfl, _, rfl, ?_⟩
      show if (!decide ((z.length : Int) ≤ 3)) = true then _ else _
      refine ite2 (fun c2 => ?_) (fun c2 => ?_)
      · have h8 : ¬ z.length ≤ 3 := fun q => by
          rw [decide_eq_true (show (z.length : Int) ≤ 3 by omega)] at c2
          cases c2
        rw [numV_no (numM_no (digB_len (z := z) fun q => h8 q.2))] at hQ
        exact ⟨_, rfl, hQ⟩
      · have h8 : z.length ≤ 3 := by
          by_cases q : (z.length : Int) ≤ 3
          · omega
          · rw [decide_eq_false q] at c2
            exact absurd rfl c2
        have en := digB_sum h1 h8
        refine ⟨_, rfl, z, rfl, for_text (fun i σ H' => H' = H ∧ (∃ v, σ = [some (.str z), v]) ∧ ((tl z).take i).all (fun c => decide (c ∈ tl digS)) = true) ⟨rfl, ⟨_, rfl⟩, rfl⟩ ?_ ?_⟩
        · rintro i c σ H' hc ⟨rfl, ⟨v, rfl⟩, ha⟩
          refine ⟨_, rfl, c, _, rfl, rfl, _, rfl, ?_⟩
          show if (!decide (c ∈ tl digS)) = true then _ else _
          have st := scan_step (S := digS) hc ha
          by_cases hm : c ∈ tl digS
          · rw [decide_eq_true hm]
            refine iteF ?_
            exact ⟨rfl, ⟨_, rfl⟩, st.1 hm⟩
          · rw [decide_eq_false hm]
            refine iteT ?_
            rw [numV_no (numM_no (by rw [en]; exact st.2 hm))] at hQ
            exact ⟨_, rfl, hQ⟩
        · rintro σ H' ⟨rfl, ⟨v, rfl⟩, ha⟩
          rw [all_len, ← en] at ha
          have ny := numM_yes ha
          obtain ⟨c0, e0, e1⟩ := head_of h1
          refine ⟨_, rfl, z, rfl, small_line hz, _, _, rfl, rfl, _, rfl, ite2 (fun q1 => ?_) (fun q1 => ?_)⟩
          · have q4 : 1 < z.length := by have := of_decide_eq_true q1; omega
            refine ⟨_, rfl, z, _, c0, rfl, rfl, small_line hz, atI_nat (j := 0) e0, rfl, _, rfl, ite2 (fun q2 => ?_) (fun q2 => ?_)⟩
            · have z0 : c0 = 48 := mk1_inj.mp (V.str.inj (of_decide_eq_true q2))
              rw [numV_no (by rw [ny, if_pos ⟨by rw [e1, z0], zero_not q4⟩])] at hQ
              refine iteT ?_
              exact ⟨_, rfl, hQ⟩
            have z0 : c0 ≠ 48 := fun e => q2 (decide_eq_true (congrArg V.str (mk1_inj.mpr e)))
            have no : ¬ ((tl z).head? = some 48 ∧ z ≠ "0") := fun k => z0 (Option.some.inj (e1.symm.trans k.1))
            refine ⟨_, rfl, z, _, rfl, int_of_dig ha, by omega, _, _, rfl, rfl, _, rfl, ite2 (fun q3 => ?_) (fun q3 => ?_)⟩
            · have q4 : 400 < valN z := by have := of_decide_eq_true q3; omega
              rw [numV_no (by rw [ny, if_neg no, if_pos q4])] at hQ
              exact ⟨_, rfl, hQ⟩
            · have q4 : ¬ 400 < valN z := fun q => q3 (decide_eq_true (by omega))
              rw [numV_yes (by rw [ny, if_neg no, if_neg q4])] at hQ
              exact ⟨_, rfl, z, _, rfl, int_of_dig ha, by omega, hQ⟩
          · have q4 : z.length = 1 := by
              by_cases q : (1 : Int) < z.length
              · exact absurd (decide_eq_true q) q1
              · omega
            refine iteF ?_
            have no : ¬ ((tl z).head? = some 48 ∧ z ≠ "0") := fun k => k.2 (ext_tl (by
              rw [zero_tl]
              have l1 := q4
              rw [len_tl] at l1
              have k1 := k.1
              cases hs : tl z with
              | nil => rw [hs] at l1; simp at l1
              | cons a r =>
                rw [hs] at l1 k1
                cases r with
                | nil => rw [show a = 48 from Option.some.inj k1]
                | cons b r => simp at l1))
            refine ⟨_, rfl, z, _, rfl, int_of_dig ha, by omega, _, _, rfl, rfl, _, rfl, ite2 (fun q3 => ?_) (fun q3 => ?_)⟩
            · have q4 : 400 < valN z := by have := of_decide_eq_true q3; omega
              rw [numV_no (by rw [ny, if_neg no, if_pos q4])] at hQ
              exact ⟨_, rfl, hQ⟩
            · have q4 : ¬ 400 < valN z := fun q => q3 (decide_eq_true (by omega))
              rw [numV_yes (by rw [ny, if_neg no, if_neg q4])] at hQ
              exact ⟨_, rfl, z, _, rfl, int_of_dig ha, by omega, hQ⟩
    · refine ⟨_, rfl, ?_⟩
      refine iteT ?_
      have h1 : ¬ 1 ≤ z.length := fun q => c1 (decide_eq_true (by omega))
      rw [numV_no (numM_no (digB_len (z := z) fun q => h1 q.1))] at hQ
      exact ⟨_, rfl, hQ⟩
theorem read_len : ∀ vs H Q E, spRead vs H Q E → vs.length = 1 := fun vs H Q E h => by
  obtain ⟨s, rfl, _⟩ := h
  rfl
/-- the head's word and the two parts of the rest stand behind the first tests: what is left of the reader -/
theorem sc_l_read : FnScope ["_law_line_here", "_law_head", "_law_rest", "_law_tail"] ["_law_line_here"] (defScope s_l_read) := ⟨rfl, rfl, rfl, by decide +kernel, rfl, by decide +kernel, by decide +kernel⟩
theorem ok_l_read (T : Txt P K mg) : DefOk P w K mg base CX0 3 "_law_read" ["_law_line_here"] spRead := by
  obtain ⟨fd, F⟩ := T.d_l_read
  have d_l_is_name := ok_l_is_name (P := P) (w := w) (base := base) T
  have d_l_is_record := ok_l_is_record (P := P) (w := w) (base := base) T
  have d_l_number := ok_l_number (P := P) (w := w) (base := base) T
  refine ⟨⟨fd, F.ok sc_l_read read_len (fun cdv A outer s H vs Q E hr h => ?_), F.bindsN fun _ _ _ _ _ _ us hl => match us, hl with | [_], _ => rfl⟩, T.g_l_read, F.kp⟩
  obtain ⟨z, rfl, hz, hQ, hN⟩ := h
  refine ⟨_, PSs.nox (pss_cons (ps_if (PW.pt (pw_or (pt_cmpR op_eq (pv 0) pe_str (nomark _)) (pw_or1 (pt_cmpR op_eq (pv 0) pe_str (nomark _)))))
      (pss_one (ps_ret (pe_tup (pa_cons (pv 0) pa_nil))))
      pss_nil)
    (pss_cons (ps_set (i := 1) sc_l_read.nd rfl (Or.inl rfl) (pe_partition (pv 0) pe_str))
    (pss_cons (ps_if (PW.pt (pw_and (pt_cmpR op_eq (pe_ix ix_tup (pv 1) pe_int (fun _ _ => rfl)) pe_str (nomark _)) (pw_and1 (pt_val (pe_D d_l_is_name (hr.mono (by decide)) pass0 (pa_cons (pe_ix ix_tup (pv 1) pe_int (fun _ _ => rfl)) pa_nil))))))
      (pss_one (ps_ret (pe_tup (pa_cons pe_str (pa_cons (pe_ix ix_tup (pv 1) pe_int (fun _ _ => rfl)) pa_nil)))))
      pss_nil)
    (pss_cons (ps_set (i := 2) sc_l_read.nd rfl (Or.inl rfl) (pe_partition (pe_ix ix_tup (pv 1) pe_int (fun _ _ => rfl)) pe_str))
    (pss_cons (ps_if (PW.pt (pw_or (pt_cmpR op_eq (pe_ix ix_tup (pv 2) pe_int (fun _ _ => rfl)) pe_str (nomark _)) (pw_or1 (pt_not (pt_val (pe_D d_l_is_name (hr.mono (by decide)) pass0 (pa_cons (pe_ix ix_tup (pv 2) pe_int (fun _ _ => rfl)) pa_nil)))))))
      (pss_one (ps_ret pe_non))
      pss_nil)
    (pss_cons (ps_if (PW.pt (pw_and (pt_cmpR op_eq (pe_ix ix_tup (pv 1) pe_int (fun _ _ => rfl)) pe_str (nomark _)) (pw_and1 (pt_val (pe_D d_l_is_name (hr.mono (by decide)) pass0 (pa_cons (pe_ix ix_tup (pv 2) pe_int (fun _ _ => rfl)) pa_nil))))))
      (pss_one (ps_ret (pe_tup (pa_cons pe_str (pa_cons (pe_ix ix_tup (pv 2) pe_int (fun _ _ => rfl)) (pa_cons (pe_ix ix_tup (pv 2) pe_int (fun _ _ => rfl)) pa_nil))))))
      pss_nil)
    (pss_cons (ps_if (PW.pt (pw_and (pt_cmpR op_eq (pe_ix ix_tup (pv 1) pe_int (fun _ _ => rfl)) pe_str (nomark _)) (pw_and1 (pt_val (pe_D d_l_is_record (hr.mono (by decide)) pass0 (pa_cons (pe_ix ix_tup (pv 2) pe_int (fun _ _ => rfl)) pa_nil))))))
      (pss_one (ps_ret (pe_tup (pa_cons pe_str (pa_cons (pe_ix ix_tup (pv 2) pe_int (fun _ _ => rfl)) (pa_cons (pe_ix ix_tup (pv 2) pe_int (fun _ _ => rfl)) pa_nil))))))
      pss_nil)
    (pss_cons (ps_set (i := 3) sc_l_read.nd rfl (Or.inl rfl) (pe_partition (pe_ix ix_tup (pv 2) pe_int (fun _ _ => rfl)) pe_str))
    (pss_cons (ps_if (PW.pt (pw_and (pt_cmpR op_eq (pe_ix ix_tup (pv 1) pe_int (fun _ _ => rfl)) pe_str (nomark _)) (pw_and (pt_cmpR op_eq (pe_ix ix_tup (pv 3) pe_int (fun _ _ => rfl)) pe_str (nomark _)) (pw_and (pt_cmpR op_ge (pe_D d_l_number (hr.mono (by decide)) pass0 (pa_cons (pe_ix ix_tup (pv 3) pe_int (fun _ _ => rfl)) pa_nil)) pe_int (nomark _)) (pw_and1 (pt_val (pe_D d_l_is_record (hr.mono (by decide)) pass0 (pa_cons (pe_ix ix_tup (pv 3) pe_int (fun _ _ => rfl)) pa_nil))))))))
      (pss_one (ps_ret (pe_tup (pa_cons pe_str (pa_cons (pe_ix ix_tup (pv 2) pe_int (fun _ _ => rfl)) (pa_cons (pe_ix ix_tup (pv 3) pe_int (fun _ _ => rfl)) (pa_cons (pe_D d_l_number (hr.mono (by decide)) pass0 (pa_cons (pe_ix ix_tup (pv 3) pe_int (fun _ _ => rfl)) pa_nil)) pa_nil)))))))
      pss_nil)
    (pss_one (ps_ret pe_non))))))))))), ?_⟩
  unfold readM at hQ hN
  have one : (z = "undo" ∨ z = "redo") → ∀ p, H p = none → Q (.ref p) (upd H p (.tup [.str z])) := fun e p np => hQ _ (by rw [if_pos e]) _ p (same_new (Same.refl H) np) upd_same
  refine ⟨_, rfl, rfl, _, rfl, ite2 (fun c1 => ?_) (fun c1 => ?_)⟩
  · refine iteT ?_
    exact ⟨_, rfl, by show 1 ≤ sizeLine; decide, one (.inl (V.str.inj (of_decide_eq_true c1)))⟩
  refine ⟨_, rfl, rfl, _, rfl, ite2 (fun c2 => ?_) (fun c2 => ?_)⟩
  · exact ⟨_, rfl, by show 1 ≤ sizeLine; decide, one (.inr (V.str.inj (of_decide_eq_true c2)))⟩
  have n0 : ¬ (z = "undo" ∨ z = "redo") := by
    rintro (e | e)
    · exact c1 (decide_eq_true (congrArg V.str e))
    · exact c2 (decide_eq_true (congrArg V.str e))
  rw [if_neg n0] at hQ hN
  obtain ⟨l1, l2⟩ := part_len z
  obtain ⟨l3, l4⟩ := part_len (part z).2.2
  obtain ⟨l5, l6⟩ := part_len (part (part z).2.2).2.2
  refine ⟨_, rfl, ⟨_, rfl⟩, z, " ", rfl, rfl, by decide +kernel, small_line hz, fun p1 new1 => ?_⟩
  have s1 : Same H (upd H p1 (.tup [.str (part z).1, .str (part z).2.1, .str (part z).2.2])) := same_new (Same.refl H) new1
  generalize hT1 : ([.str (part z).1, .str (part z).2.1, .str (part z).2.2] : List V) = T1 at s1 ⊢
  have t1 : (upd H p1 (.tup T1)) p1 = some (.tup T1) := upd_same
  refine' with_rest (A := fun Hc => Same H Hc ∧ Hc p1 = some (.tup T1) ∧ ¬ ((part z).1 = "dismiss" ∧ nameB (part z).2.2 = true)) (fun key => ?main) ?rest
  case main =>
    subst hT1
    refine ⟨_, rfl, p1, _, 0, .str (part z).1, rfl, rfl, SqT.of t1, rfl, rfl, _, rfl, ite2 (fun d1 => ?_) (fun d1 => ?_)⟩
    · have e := V.str.inj (of_decide_eq_true d1)
      refine ⟨_, rfl, p1, _, 2, .str (part z).2.2, rfl, rfl, SqT.of t1, rfl, (part z).2.2, rfl, by omega, fun H2 s2 => ⟨_, rfl, ?_⟩⟩
      have t2 := s2 _ _ t1
      cases hn : nameB (part z).2.2 with
      | true =>
        refine iteT ?_
        refine ⟨_, rfl, p1, _, 2, .str (part z).2.2, rfl, rfl, SqT.of t2, rfl, by show 2 ≤ sizeLine; decide, fun q nq => ?_⟩
        exact hQ _ (by rw [if_pos ⟨e, hn⟩]) _ q (same_new (s1.trans s2) nq) upd_same
      | false =>
        refine iteF ?_
        exact key H2 ⟨s1.trans s2, t2, fun c => by rw [hn] at c; exact Bool.false_ne_true c.2⟩
    · refine iteF ?_
      exact key _ ⟨s1, t1, fun c => d1 (decide_eq_true (congrArg V.str c.1))⟩
  case rest =>
    clear s1 t1
    rintro H1 ⟨s1, t1, nd⟩
    subst hT1
    rw [if_neg nd] at hQ hN
    unfold readM2 at hQ hN
    generalize (part z).1 = w at *
    generalize (part z).2.1 = m0 at *
    generalize (part z).2.2 = r at *
    refine ⟨_, rfl, p1, _, 2, .str r, rfl, rfl, SqT.of t1, rfl, ⟨_, rfl⟩, r, " ", rfl, rfl, by decide +kernel, small_line (by omega), fun p2 new2 => ?_⟩
    have s2 : Same H (upd H1 p2 (.tup [.str (part r).1, .str (part r).2.1, .str (part r).2.2])) := same_new s1 new2
    have n12 : p1 ≠ p2 := ne_of_none t1 new2
    have t1' : (upd H1 p2 (.tup [.str (part r).1, .str (part r).2.1, .str (part r).2.2])) p1 = some (.tup [.str w, .str m0, .str r]) := by rw [upd_ne n12]; exact t1
    have t2 : (upd H1 p2 (.tup [.str (part r).1, .str (part r).2.1, .str (part r).2.2])) p2 = some (.tup [.str (part r).1, .str (part r).2.1, .str (part r).2.2]) := upd_same
    refine ⟨_, rfl, p2, _, 1, .str (part r).2.1, rfl, rfl, SqT.of t2, rfl, rfl, _, rfl, ite2 (fun d1 => ?_) (fun d1 => ?_)⟩
    · have e := V.str.inj (of_decide_eq_true d1)
      refine iteT ?_
      exact hN (by rw [if_pos (.inl e)]) _ s2
    have em : ¬ (part r).2.1 = Str.empty := fun e => d1 (decide_eq_true (congrArg V.str e))
    refine ⟨_, rfl, p2, _, 0, .str (part r).1, rfl, rfl, SqT.of t2, rfl, (part r).1, rfl, by omega, fun H3 s3 => ⟨_, rfl, ?_⟩⟩
    have s13 := s2.trans s3
    have t13 := s3 _ _ t1'
    have t23 := s3 _ _ t2
    cases hn : nameB (part r).1 with
    | false =>
      refine iteT ?_
      exact hN (by rw [if_pos (.inr hn)]) _ s13
    | true =>
      refine iteF ?_
      rw [if_neg (show ¬ ((part r).2.1 = Str.empty ∨ nameB (part r).1 = false) from fun q => q.elim em fun q => by rw [hn] at q; cases q)] at hQ hN
      generalize (part r).1 = a at *
      generalize (part r).2.1 = m at *
      generalize (part r).2.2 = b at *
      refine' with_rest (A := fun Hc => Same H Hc ∧ Hc p1 = some (.tup [.str w, .str m0, .str r]) ∧ Hc p2 = some (.tup [.str a, .str m, .str b]) ∧ ¬ (w = "admit" ∧ nameB b = true)) (fun key => ?main) ?rest
      case main =>
        refine ⟨_, rfl, p1, _, 0, .str w, rfl, rfl, SqT.of t13, rfl, rfl, _, rfl, ite2 (fun d1 => ?_) (fun d1 => ?_)⟩
        · have e := V.str.inj (of_decide_eq_true d1)
          refine ⟨_, rfl, p2, _, 2, .str b, rfl, rfl, SqT.of t23, rfl, b, rfl, by omega, fun H4 s4 => ⟨_, rfl, ?_⟩⟩
          have t24 := s4 _ _ t23
          cases hn2 : nameB b with
          | true =>
            refine iteT ?_
            refine ⟨_, rfl, p2, _, 0, .str a, rfl, rfl, SqT.of t24, rfl, _, rfl, p2, _, 2, .str b, rfl, rfl, SqT.of t24, rfl, by show 3 ≤ sizeLine; decide, fun q nq => ?_⟩
            exact hQ _ (by rw [if_pos ⟨e, hn2⟩]) _ q (same_new (s13.trans s4) nq) upd_same
          | false =>
            refine iteF ?_
            exact key H4 ⟨s13.trans s4, s4 _ _ t13, t24, fun c => by rw [hn2] at c; exact Bool.false_ne_true c.2⟩
        · refine iteF ?_
          exact key _ ⟨s13, t13, t23, fun c => d1 (decide_eq_true (congrArg V.str c.1))⟩
      case rest =>
        rintro H4 ⟨s4, t1, t2, nd4⟩
        rw [if_neg nd4] at hQ hN
        refine' with_rest (A := fun Hc => Same H Hc ∧ Hc p1 = some (.tup [.str w, .str m0, .str r]) ∧ Hc p2 = some (.tup [.str a, .str m, .str b]) ∧ ¬ (w = "write" ∧ recL b = true)) (fun key => ?main) ?rest
        case main =>
          refine ⟨_, rfl, p1, _, 0, .str w, rfl, rfl, SqT.of t1, rfl, rfl, _, rfl, ite2 (fun d1 => ?_) (fun d1 => ?_)⟩
          · have e := V.str.inj (of_decide_eq_true d1)
            refine ⟨_, rfl, p2, _, 2, .str b, rfl, rfl, SqT.of t2, rfl, b, rfl, by omega, fun H5 s5 => ⟨_, rfl, ?_⟩⟩
            have t25 := s5 _ _ t2
            cases hn2 : recL b with
            | true =>
              refine iteT ?_
              refine ⟨_, rfl, p2, _, 0, .str a, rfl, rfl, SqT.of t25, rfl, _, rfl, p2, _, 2, .str b, rfl, rfl, SqT.of t25, rfl, by show 3 ≤ sizeLine; decide, fun q nq => ?_⟩
              exact hQ _ (by rw [if_pos ⟨e, hn2⟩]) _ q (same_new (s4.trans s5) nq) upd_same
            | false =>
              refine iteF ?_
              exact key H5 ⟨s4.trans s5, s5 _ _ t1, t25, fun c => by rw [hn2] at c; exact Bool.false_ne_true c.2⟩
          · refine iteF ?_
            exact key _ ⟨s4, t1, t2, fun c => d1 (decide_eq_true (congrArg V.str c.1))⟩
        case rest =>
          rintro H5 ⟨s5, t1, t2, nd5⟩
          rw [if_neg nd5] at hQ hN
          unfold readM3 at hQ hN
          refine ⟨_, rfl, p2, _, 2, .str b, rfl, rfl, SqT.of t2, rfl, ⟨_, rfl⟩, b, " ", rfl, rfl, by decide +kernel, small_line (by omega), fun p3 new3 => ?_⟩
          have s6 : Same H (upd H5 p3 (.tup [.str (part b).1, .str (part b).2.1, .str (part b).2.2])) := same_new s5 new3
          have t1' : (upd H5 p3 (.tup [.str (part b).1, .str (part b).2.1, .str (part b).2.2])) p1 = some (.tup [.str w, .str m0, .str r]) := by rw [upd_ne (ne_of_none t1 new3)]; exact t1
          have t2' : (upd H5 p3 (.tup [.str (part b).1, .str (part b).2.1, .str (part b).2.2])) p2 = some (.tup [.str a, .str m, .str b]) := by rw [upd_ne (ne_of_none t2 new3)]; exact t2
          have t3 : (upd H5 p3 (.tup [.str (part b).1, .str (part b).2.1, .str (part b).2.2])) p3 = some (.tup [.str (part b).1, .str (part b).2.1, .str (part b).2.2]) := upd_same
          refine ⟨_, rfl, p1, _, 0, .str w, rfl, rfl, SqT.of t1', rfl, rfl, _, rfl, ite2 (fun d1 => ?_) (fun d1 => ?_)⟩
          · have e := V.str.inj (of_decide_eq_true d1)
            refine ⟨_, rfl, p3, _, 1, .str (part b).2.1, rfl, rfl, SqT.of t3, rfl, rfl, _, rfl, ite2 (fun d2 => ?_) (fun d2 => ?_)⟩
            · have e2 := V.str.inj (of_decide_eq_true d2)
              refine ⟨_, rfl, p3, _, 0, .str (part b).1, rfl, rfl, SqT.of t3, rfl, (part b).1, rfl, by omega, ?_⟩
              cases hm : numM (part b).1 with
              | none =>
                rw [hm] at hN
                refine ⟨_, _, rfl, rfl, _, rfl, ?_⟩
                rw [numV_no hm]
                refine iteF (iteF ?_)
                exact hN rfl _ s6
              | some n =>
                rw [hm] at hN hQ
                refine ⟨_, _, rfl, rfl, _, rfl, ?_⟩
                rw [numV_yes hm, decide_eq_true (show (0 : Int) ≤ (n : Int) by omega)]
                refine iteT ?_
                refine ⟨_, rfl, p3, _, 2, .str (part b).2.2, rfl, rfl, SqT.of t3, rfl, (part b).2.2, rfl, by omega, fun H6 s7 => ⟨_, rfl, ?_⟩⟩
                have t26 := s7 _ _ t2'
                have t36 := s7 _ _ t3
                cases hr : recL (part b).2.2 with
                | true =>
                  refine iteT ?_
                  refine ⟨_, rfl, p2, _, 0, .str a, rfl, rfl, SqT.of t26, rfl, _, rfl, p3, _, 2, .str (part b).2.2, rfl, rfl, SqT.of t36, rfl, _, rfl, p3, _, 0, .str (part b).1, rfl, rfl, SqT.of t36, rfl, (part b).1, rfl, by omega, by show 4 ≤ sizeLine; decide, fun q nq => ?_⟩
                  rw [numV_yes hm]
                  exact hQ _ (if_pos ⟨e, e2, hr⟩) _ q (same_new (s6.trans s7) nq) upd_same
                | false =>
                  refine iteF ?_
                  exact hN (if_neg fun c => by rw [hr] at c; exact Bool.false_ne_true c.2.2) _ (s6.trans s7)
            · have e2 : ¬ (part b).2.1 = " " := fun e => d2 (decide_eq_true (congrArg V.str e))
              refine iteF ?_
              exact hN (by split <;> first | rfl | exact if_neg fun c => e2 c.2.1) _ s6
          · have e2 : ¬ w = "cut" := fun e => d1 (decide_eq_true (congrArg V.str e))
            refine iteF ?_
            exact hN (by split <;> first | rfl | exact if_neg fun c => e2 c.1) _ s6
end
end K58
set_option Elab.async false
set_option linter.all false
set_option maxRecDepth 100000
set_option maxHeartbeats 4000000
namespace K58
open PySem PySem.Spec PyProof.Rows L2 TL
/-! _law_refusal: called in the except suite, its argument the error InvalidLine -/
def kb0 : List V := [.bl false, .bl false, .bl false]
def kz1 : List V := [.bl false, .bl true, .bl false]
def kb1 : List V := kb0 ++ kz1
def kz2 : List V := [.bl false, .bl false, .bl false]
def kb2 : List V := kb1 ++ kz2
def kz3 : List V := [.bl false, .bl false, .bl false]
def kb3 : List V := kb2 ++ kz3
def kz4 : List V := [.bl false, .bl false, .bl false]
def kb4 : List V := kb3 ++ kz4
def kz5 : List V := [.bl false, .bl false, .bl false]
def kb5 : List V := kb4 ++ kz5
def kz6 : List V := [.bl false, .bl false, .bl false]
def kb6 : List V := kb5 ++ kz6
def kz7 : List V := [.bl false, .bl false, .bl false]
def kb7 : List V := kb6 ++ kz7
def kz8 : List V := [.bl false, .bl false, .bl false]
def kb8 : List V := kb7 ++ kz8
def kz9 : List V := [.bl false]
def kb9 : List V := kb8 ++ kz9
def lw0 : Str := "DuplicateWriter InvalidBudget InvalidEvent InvalidImage InvalidLine InvalidName"
def lw1 : Str := " InvalidRecord InvalidShare InvalidSizes InvalidState InvalidTable InvalidText"
def lw2 : Str := " InvalidTown InvalidTree LastWriter NoFlagLeft NoRight NoStory NothingToRedo"
def lw3 : Str := " NothingToUndo StillTold SumTooGreat TooMany TooManyTurns UnknownFork UnknownHall"
def lw4 : Str := " UnknownWriter UnlikePlans"
def lwA : Str := lw0 ++ lw1 ++ lw2 ++ lw3 ++ lw4
theorem words4 : (Txt.split lwA " ")[4]? = some ("InvalidLine" : Str) := by decide +kernel
def spRefusal (K : PySem.W.Frag) : SpE := fun p vs H Q _ => vs = [.ref p.1] ∧ Zc (.ref (lnC K)) none p.2 ∧ (∃ vs, p.2.data = .fields vs) ∧ ∀ H' q, Same H H' → H' q = some (.tup [.str "InvalidLine", .non]) → Q (.ref q) H'
section
variable {P : Program} {w : World} {K : PySem.W.Frag} {mg : Str → Option Value} {base : Heap}
theorem sc_l_refusal : FnScope ["_law_e", "_law_kinds", "_law_words", "_law_word"] ["_law_e"] (defScope s_l_refusal) := ⟨rfl, rfl, rfl, by decide +kernel, rfl, by decide +kernel, by decide +kernel⟩
theorem ok_l_refusal (T : Txt P K mg) : ∃ fd, FnE P w K mg base 1 (He.ga K "_law_refusal") fd ["_law_e"] (spRefusal K) ∧ Binds K fd ["_law_e"] [] ∧ PySem.W.keepIn K (.ref (He.ga K "_law_refusal")) = true := by
  obtain ⟨fd, F⟩ := T.d_l_refusal
  refine ⟨fd, fnE_ok F sc_l_refusal (fun p vs H Q E h => ?_) (fun cdv A outer s H vs Q p hr h => ?_), F.bindsN fun _ _ _ _ _ _ us hl => match us, hl with | [_], _ => rfl, F.kp⟩
  · rw [h.1]
    rfl
  · obtain ⟨rfl, hz, hf, hQ⟩ := h
    refine ⟨_, (pss_cons (ps_set (i := 1) sc_l_refusal.nd rfl (Or.inl rfl) (pe_lst (pa_cons (pe_callB (call_isP T.exc hz hf List.mem_cons_self) rfl T.f_isinstance (by decide +kernel) (pa_cons (pv 0) (pa_cons (pe_glob (v := .ref (He.ga K "DuplicateWriter")) rfl T.g_DuplicateWriter rfl) pa_nil))) (pa_cons (pe_callB (call_isP T.exc hz hf List.mem_cons_self) rfl T.f_isinstance (by decide +kernel) (pa_cons (pv 0) (pa_cons (pe_glob (v := .ref (He.ga K "InvalidBudget")) rfl T.g_InvalidBudget rfl) pa_nil))) (pa_cons (pe_callB (call_isP T.exc hz hf List.mem_cons_self) rfl T.f_isinstance (by decide +kernel) (pa_cons (pv 0) (pa_cons (pe_glob (v := .ref (He.ga K "InvalidEvent")) rfl T.g_InvalidEvent rfl) pa_nil))) pa_nil)))))
    (pss_cons (ps_set (i := 1) sc_l_refusal.nd rfl (Or.inl rfl) (pe_op op_cat (pv 1) (pe_lst (pa_cons (pe_callB (call_isP T.exc hz hf List.mem_cons_self) rfl T.f_isinstance (by decide +kernel) (pa_cons (pv 0) (pa_cons (pe_glob (v := .ref (He.ga K "InvalidImage")) rfl T.g_InvalidImage rfl) pa_nil))) (pa_cons (pe_callB (call_isP T.exc hz hf List.mem_cons_self) rfl T.f_isinstance (by decide +kernel) (pa_cons (pv 0) (pa_cons (pe_glob (v := .ref (He.ga K "InvalidLine")) rfl T.g_InvalidLine rfl) pa_nil))) (pa_cons (pe_callB (call_isP T.exc hz hf List.mem_cons_self) rfl T.f_isinstance (by decide +kernel) (pa_cons (pv 0) (pa_cons (pe_glob (v := .ref (He.ga K "InvalidName")) rfl T.g_InvalidName rfl) pa_nil))) pa_nil))))))
    (pss_cons (ps_set (i := 1) sc_l_refusal.nd rfl (Or.inl rfl) (pe_op op_cat (pv 1) (pe_lst (pa_cons (pe_callB (call_isP T.exc hz hf List.mem_cons_self) rfl T.f_isinstance (by decide +kernel) (pa_cons (pv 0) (pa_cons (pe_glob (v := .ref (He.ga K "InvalidRecord")) rfl T.g_InvalidRecord rfl) pa_nil))) (pa_cons (pe_callB (call_isP T.exc hz hf List.mem_cons_self) rfl T.f_isinstance (by decide +kernel) (pa_cons (pv 0) (pa_cons (pe_glob (v := .ref (He.ga K "InvalidShare")) rfl T.g_InvalidShare rfl) pa_nil))) (pa_cons (pe_callB (call_isP T.exc hz hf List.mem_cons_self) rfl T.f_isinstance (by decide +kernel) (pa_cons (pv 0) (pa_cons (pe_glob (v := .ref (He.ga K "InvalidSizes")) rfl T.g_InvalidSizes rfl) pa_nil))) pa_nil))))))
    (pss_cons (ps_set (i := 1) sc_l_refusal.nd rfl (Or.inl rfl) (pe_op op_cat (pv 1) (pe_lst (pa_cons (pe_callB (call_isP T.exc hz hf List.mem_cons_self) rfl T.f_isinstance (by decide +kernel) (pa_cons (pv 0) (pa_cons (pe_glob (v := .ref (He.ga K "InvalidState")) rfl T.g_InvalidState rfl) pa_nil))) (pa_cons (pe_callB (call_isP T.exc hz hf List.mem_cons_self) rfl T.f_isinstance (by decide +kernel) (pa_cons (pv 0) (pa_cons (pe_glob (v := .ref (He.ga K "InvalidTable")) rfl T.g_InvalidTable rfl) pa_nil))) (pa_cons (pe_callB (call_isP T.exc hz hf List.mem_cons_self) rfl T.f_isinstance (by decide +kernel) (pa_cons (pv 0) (pa_cons (pe_glob (v := .ref (He.ga K "InvalidText")) rfl T.g_InvalidText rfl) pa_nil))) pa_nil))))))
    (pss_cons (ps_set (i := 1) sc_l_refusal.nd rfl (Or.inl rfl) (pe_op op_cat (pv 1) (pe_lst (pa_cons (pe_callB (call_isP T.exc hz hf List.mem_cons_self) rfl T.f_isinstance (by decide +kernel) (pa_cons (pv 0) (pa_cons (pe_glob (v := .ref (He.ga K "InvalidTown")) rfl T.g_InvalidTown rfl) pa_nil))) (pa_cons (pe_callB (call_isP T.exc hz hf List.mem_cons_self) rfl T.f_isinstance (by decide +kernel) (pa_cons (pv 0) (pa_cons (pe_glob (v := .ref (He.ga K "InvalidTree")) rfl T.g_InvalidTree rfl) pa_nil))) (pa_cons (pe_callB (call_isP T.exc hz hf List.mem_cons_self) rfl T.f_isinstance (by decide +kernel) (pa_cons (pv 0) (pa_cons (pe_glob (v := .ref (He.ga K "LastWriter")) rfl T.g_LastWriter rfl) pa_nil))) pa_nil))))))
    (pss_cons (ps_set (i := 1) sc_l_refusal.nd rfl (Or.inl rfl) (pe_op op_cat (pv 1) (pe_lst (pa_cons (pe_callB (call_isP T.exc hz hf List.mem_cons_self) rfl T.f_isinstance (by decide +kernel) (pa_cons (pv 0) (pa_cons (pe_glob (v := .ref (He.ga K "NoFlagLeft")) rfl T.g_NoFlagLeft rfl) pa_nil))) (pa_cons (pe_callB (call_isP T.exc hz hf List.mem_cons_self) rfl T.f_isinstance (by decide +kernel) (pa_cons (pv 0) (pa_cons (pe_glob (v := .ref (He.ga K "NoRight")) rfl T.g_NoRight rfl) pa_nil))) (pa_cons (pe_callB (call_isP T.exc hz hf List.mem_cons_self) rfl T.f_isinstance (by decide +kernel) (pa_cons (pv 0) (pa_cons (pe_glob (v := .ref (He.ga K "NoStory")) rfl T.g_NoStory rfl) pa_nil))) pa_nil))))))
    (pss_cons (ps_set (i := 1) sc_l_refusal.nd rfl (Or.inl rfl) (pe_op op_cat (pv 1) (pe_lst (pa_cons (pe_callB (call_isP T.exc hz hf List.mem_cons_self) rfl T.f_isinstance (by decide +kernel) (pa_cons (pv 0) (pa_cons (pe_glob (v := .ref (He.ga K "NothingToRedo")) rfl T.g_NothingToRedo rfl) pa_nil))) (pa_cons (pe_callB (call_isP T.exc hz hf List.mem_cons_self) rfl T.f_isinstance (by decide +kernel) (pa_cons (pv 0) (pa_cons (pe_glob (v := .ref (He.ga K "NothingToUndo")) rfl T.g_NothingToUndo rfl) pa_nil))) (pa_cons (pe_callB (call_isP T.exc hz hf List.mem_cons_self) rfl T.f_isinstance (by decide +kernel) (pa_cons (pv 0) (pa_cons (pe_glob (v := .ref (He.ga K "StillTold")) rfl T.g_StillTold rfl) pa_nil))) pa_nil))))))
    (pss_cons (ps_set (i := 1) sc_l_refusal.nd rfl (Or.inl rfl) (pe_op op_cat (pv 1) (pe_lst (pa_cons (pe_callB (call_isP T.exc hz hf List.mem_cons_self) rfl T.f_isinstance (by decide +kernel) (pa_cons (pv 0) (pa_cons (pe_glob (v := .ref (He.ga K "SumTooGreat")) rfl T.g_SumTooGreat rfl) pa_nil))) (pa_cons (pe_callB (call_isP T.exc hz hf List.mem_cons_self) rfl T.f_isinstance (by decide +kernel) (pa_cons (pv 0) (pa_cons (pe_glob (v := .ref (He.ga K "TooMany")) rfl T.g_TooMany rfl) pa_nil))) (pa_cons (pe_callB (call_isP T.exc hz hf List.mem_cons_self) rfl T.f_isinstance (by decide +kernel) (pa_cons (pv 0) (pa_cons (pe_glob (v := .ref (He.ga K "TooManyTurns")) rfl T.g_TooManyTurns rfl) pa_nil))) pa_nil))))))
    (pss_cons (ps_set (i := 1) sc_l_refusal.nd rfl (Or.inl rfl) (pe_op op_cat (pv 1) (pe_lst (pa_cons (pe_callB (call_isP T.exc hz hf List.mem_cons_self) rfl T.f_isinstance (by decide +kernel) (pa_cons (pv 0) (pa_cons (pe_glob (v := .ref (He.ga K "UnknownFork")) rfl T.g_UnknownFork rfl) pa_nil))) (pa_cons (pe_callB (call_isP T.exc hz hf List.mem_cons_self) rfl T.f_isinstance (by decide +kernel) (pa_cons (pv 0) (pa_cons (pe_glob (v := .ref (He.ga K "UnknownHall")) rfl T.g_UnknownHall rfl) pa_nil))) (pa_cons (pe_callB (call_isP T.exc hz hf List.mem_cons_self) rfl T.f_isinstance (by decide +kernel) (pa_cons (pv 0) (pa_cons (pe_glob (v := .ref (He.ga K "UnknownWriter")) rfl T.g_UnknownWriter rfl) pa_nil))) pa_nil))))))
    (pss_cons (ps_set (i := 1) sc_l_refusal.nd rfl (Or.inl rfl) (pe_op op_cat (pv 1) (pe_lst (pa_cons (pe_callB (call_isP T.exc hz hf List.mem_cons_self) rfl T.f_isinstance (by decide +kernel) (pa_cons (pv 0) (pa_cons (pe_glob (v := .ref (He.ga K "UnlikePlans")) rfl T.g_UnlikePlans rfl) pa_nil))) pa_nil))))
    (pss_cons (ps_if (PW.pt (pw_or (pt_cmpR op_ne (pe_bm PySem.F.plainAttrs_list PySem.F.slot_list_count PySem.F.type_list_count mt_countF (pv 1) (pa_cons pe_bl pa_nil)) pe_int (nomark _)) (pw_or1 (pt_not (pt_val (pe_callB (call_isP T.exc hz hf List.mem_cons_self) rfl T.f_isinstance (by decide +kernel) (pa_cons (pv 0) (pa_cons (pe_bltn (v := .ty "ValueError") rfl T.f_ValueError (by decide +kernel) rfl) pa_nil))))))))
      (pss_one (ps_ret (pe_tup (pa_cons pe_str (pa_cons pe_non pa_nil)))))
      pss_nil)
    (pss_cons (ps_set (i := 2) sc_l_refusal.nd rfl (Or.inl rfl) pe_str)
    (pss_cons (ps_set (i := 2) sc_l_refusal.nd rfl (Or.inl rfl) (pe_op op_add_str (pv 2) pe_str))
    (pss_cons (ps_set (i := 2) sc_l_refusal.nd rfl (Or.inl rfl) (pe_op op_add_str (pv 2) pe_str))
    (pss_cons (ps_set (i := 2) sc_l_refusal.nd rfl (Or.inl rfl) (pe_op op_add_str (pv 2) pe_str))
    (pss_cons (ps_set (i := 2) sc_l_refusal.nd rfl (Or.inl rfl) (pe_op op_add_str (pv 2) pe_str))
    (pss_cons (ps_set (i := 3) sc_l_refusal.nd rfl (Or.inl rfl) (pe_ix ix_list (pe_split (pv 2) pe_str) (pe_bm PySem.F.plainAttrs_list PySem.F.slot_list_index PySem.F.type_list_index mt_index (pv 1) (pa_cons pe_bl pa_nil)) (fun _ _ => rfl)))
    (pss_cons (ps_if (pt_cmpR op_eq (pv 3) pe_str (nomark _))
      (pss_one ps_never)
      pss_nil)
    (pss_cons (ps_if (PW.pt (pw_or (pt_cmpR op_eq (pv 3) pe_str (nomark _)) (pw_or1 (pt_cmpR op_eq (pv 3) pe_str (nomark _)))))
      (pss_one ps_never)
      pss_nil)
    (pss_cons (ps_if (pt_cmpR op_in_seq (pv 3) (pe_lst (pa_cons pe_str (pa_cons pe_str (pa_cons pe_str (pa_cons pe_str pa_nil))))) rfl)
      (pss_one ps_never)
      pss_nil)
    (pss_one (ps_ret (pe_tup (pa_cons (pv 3) (pa_cons pe_non pa_nil))))))))))))))))))))))))), ?_⟩
    refine ⟨_, rfl, .ref (He.ga K "DuplicateWriter"), .ref (He.ga K "DuplicateWriter"), false, rfl, fun _ r => r, T.k_DuplicateWriter, _, rfl, .ref (He.ga K "InvalidBudget"), .ref (He.ga K "InvalidBudget"), false, rfl, fun _ r => r, T.k_InvalidBudget, _, rfl, .ref (He.ga K "InvalidEvent"), .ref (He.ga K "InvalidEvent"), false, rfl, fun _ r => r, T.k_InvalidEvent, by show 3 ≤ sizeLine; decide, fun l0 n0 => ?_⟩
    have s0 : Same H (upd H l0 (.lst kb0)) := same_new (Same.refl H) n0
    have h0 : (upd H l0 (.lst kb0)) l0 = some (.lst kb0) := upd_same
    change tSeq _ _ _ [some (.ref p.1), some (.ref l0), none, none] (upd H l0 (.lst kb0))
    generalize upd H l0 (.lst kb0) = H0 at s0 h0 ⊢
    refine ⟨_, rfl, _, rfl, .ref (He.ga K "InvalidImage"), .ref (He.ga K "InvalidImage"), false, rfl, fun _ r => r, T.k_InvalidImage, _, rfl, .ref (He.ga K "InvalidLine"), .ref (He.ga K "InvalidLine"), true, rfl, fun _ r => r, T.k_InvalidLine, _, rfl, .ref (He.ga K "InvalidName"), .ref (He.ga K "InvalidName"), false, rfl, fun _ r => r, T.k_InvalidName, by show 3 ≤ sizeLine; decide, fun b1 m1 => ?_⟩
    refine ⟨l0, b1, kb0, kz1, rfl, rfl, by rw [upd_ne (ne_of_none h0 m1)]; exact h0, upd_same, by decide, fun l1 n1 => ?_⟩
    have s1 : Same H (upd (upd H0 b1 (.lst kz1)) l1 (.lst kb1)) := same_new (same_new s0 m1) n1
    have h1 : (upd (upd H0 b1 (.lst kz1)) l1 (.lst kb1)) l1 = some (.lst kb1) := upd_same
    change tSeq _ _ _ [some (.ref p.1), some (.ref l1), none, none] (upd (upd H0 b1 (.lst kz1)) l1 (.lst kb1))
    generalize upd (upd H0 b1 (.lst kz1)) l1 (.lst kb1) = H1 at s1 h1 ⊢
    refine ⟨_, rfl, _, rfl, .ref (He.ga K "InvalidRecord"), .ref (He.ga K "InvalidRecord"), false, rfl, fun _ r => r, T.k_InvalidRecord, _, rfl, .ref (He.ga K "InvalidShare"), .ref (He.ga K "InvalidShare"), false, rfl, fun _ r => r, T.k_InvalidShare, _, rfl, .ref (He.ga K "InvalidSizes"), .ref (He.ga K "InvalidSizes"), false, rfl, fun _ r => r, T.k_InvalidSizes, by show 3 ≤ sizeLine; decide, fun b2 m2 => ?_⟩
    refine ⟨l1, b2, kb1, kz2, rfl, rfl, by rw [upd_ne (ne_of_none h1 m2)]; exact h1, upd_same, by decide, fun l2 n2 => ?_⟩
    have s2 : Same H (upd (upd H1 b2 (.lst kz2)) l2 (.lst kb2)) := same_new (same_new s1 m2) n2
    have h2 : (upd (upd H1 b2 (.lst kz2)) l2 (.lst kb2)) l2 = some (.lst kb2) := upd_same
    change tSeq _ _ _ [some (.ref p.1), some (.ref l2), none, none] (upd (upd H1 b2 (.lst kz2)) l2 (.lst kb2))
    generalize upd (upd H1 b2 (.lst kz2)) l2 (.lst kb2) = H2 at s2 h2 ⊢
    refine ⟨_, rfl, _, rfl, .ref (He.ga K "InvalidState"), .ref (He.ga K "InvalidState"), false, rfl, fun _ r => r, T.k_InvalidState, _, rfl, .ref (He.ga K "InvalidTable"), .ref (He.ga K "InvalidTable"), false, rfl, fun _ r => r, T.k_InvalidTable, _, rfl, .ref (He.ga K "InvalidText"), .ref (He.ga K "InvalidText"), false, rfl, fun _ r => r, T.k_InvalidText, by show 3 ≤ sizeLine; decide, fun b3 m3 => ?_⟩
    refine ⟨l2, b3, kb2, kz3, rfl, rfl, by rw [upd_ne (ne_of_none h2 m3)]; exact h2, upd_same, by decide, fun l3 n3 => ?_⟩
    have s3 : Same H (upd (upd H2 b3 (.lst kz3)) l3 (.lst kb3)) := same_new (same_new s2 m3) n3
    have h3 : (upd (upd H2 b3 (.lst kz3)) l3 (.lst kb3)) l3 = some (.lst kb3) := upd_same
    change tSeq _ _ _ [some (.ref p.1), some (.ref l3), none, none] (upd (upd H2 b3 (.lst kz3)) l3 (.lst kb3))
    generalize upd (upd H2 b3 (.lst kz3)) l3 (.lst kb3) = H3 at s3 h3 ⊢
    refine ⟨_, rfl, _, rfl, .ref (He.ga K "InvalidTown"), .ref (He.ga K "InvalidTown"), false, rfl, fun _ r => r, T.k_InvalidTown, _, rfl, .ref (He.ga K "InvalidTree"), .ref (He.ga K "InvalidTree"), false, rfl, fun _ r => r, T.k_InvalidTree, _, rfl, .ref (He.ga K "LastWriter"), .ref (He.ga K "LastWriter"), false, rfl, fun _ r => r, T.k_LastWriter, by show 3 ≤ sizeLine; decide, fun b4 m4 => ?_⟩
    refine ⟨l3, b4, kb3, kz4, rfl, rfl, by rw [upd_ne (ne_of_none h3 m4)]; exact h3, upd_same, by decide, fun l4 n4 => ?_⟩
    have s4 : Same H (upd (upd H3 b4 (.lst kz4)) l4 (.lst kb4)) := same_new (same_new s3 m4) n4
    have h4 : (upd (upd H3 b4 (.lst kz4)) l4 (.lst kb4)) l4 = some (.lst kb4) := upd_same
    change tSeq _ _ _ [some (.ref p.1), some (.ref l4), none, none] (upd (upd H3 b4 (.lst kz4)) l4 (.lst kb4))
    generalize upd (upd H3 b4 (.lst kz4)) l4 (.lst kb4) = H4 at s4 h4 ⊢
    refine ⟨_, rfl, _, rfl, .ref (He.ga K "NoFlagLeft"), .ref (He.ga K "NoFlagLeft"), false, rfl, fun _ r => r, T.k_NoFlagLeft, _, rfl, .ref (He.ga K "NoRight"), .ref (He.ga K "NoRight"), false, rfl, fun _ r => r, T.k_NoRight, _, rfl, .ref (He.ga K "NoStory"), .ref (He.ga K "NoStory"), false, rfl, fun _ r => r, T.k_NoStory, by show 3 ≤ sizeLine; decide, fun b5 m5 => ?_⟩
    refine ⟨l4, b5, kb4, kz5, rfl, rfl, by rw [upd_ne (ne_of_none h4 m5)]; exact h4, upd_same, by decide, fun l5 n5 => ?_⟩
    have s5 : Same H (upd (upd H4 b5 (.lst kz5)) l5 (.lst kb5)) := same_new (same_new s4 m5) n5
    have h5 : (upd (upd H4 b5 (.lst kz5)) l5 (.lst kb5)) l5 = some (.lst kb5) := upd_same
    change tSeq _ _ _ [some (.ref p.1), some (.ref l5), none, none] (upd (upd H4 b5 (.lst kz5)) l5 (.lst kb5))
    generalize upd (upd H4 b5 (.lst kz5)) l5 (.lst kb5) = H5 at s5 h5 ⊢
    refine ⟨_, rfl, _, rfl, .ref (He.ga K "NothingToRedo"), .ref (He.ga K "NothingToRedo"), false, rfl, fun _ r => r, T.k_NothingToRedo, _, rfl, .ref (He.ga K "NothingToUndo"), .ref (He.ga K "NothingToUndo"), false, rfl, fun _ r => r, T.k_NothingToUndo, _, rfl, .ref (He.ga K "StillTold"), .ref (He.ga K "StillTold"), false, rfl, fun _ r => r, T.k_StillTold, by show 3 ≤ sizeLine; decide, fun b6 m6 => ?_⟩
    refine ⟨l5, b6, kb5, kz6, rfl, rfl, by rw [upd_ne (ne_of_none h5 m6)]; exact h5, upd_same, by decide, fun l6 n6 => ?_⟩
    have s6 : Same H (upd (upd H5 b6 (.lst kz6)) l6 (.lst kb6)) := same_new (same_new s5 m6) n6
    have h6 : (upd (upd H5 b6 (.lst kz6)) l6 (.lst kb6)) l6 = some (.lst kb6) := upd_same
    change tSeq _ _ _ [some (.ref p.1), some (.ref l6), none, none] (upd (upd H5 b6 (.lst kz6)) l6 (.lst kb6))
    generalize upd (upd H5 b6 (.lst kz6)) l6 (.lst kb6) = H6 at s6 h6 ⊢
    refine ⟨_, rfl, _, rfl, .ref (He.ga K "SumTooGreat"), .ref (He.ga K "SumTooGreat"), false, rfl, fun _ r => r, T.k_SumTooGreat, _, rfl, .ref (He.ga K "TooMany"), .ref (He.ga K "TooMany"), false, rfl, fun _ r => r, T.k_TooMany, _, rfl, .ref (He.ga K "TooManyTurns"), .ref (He.ga K "TooManyTurns"), false, rfl, fun _ r => r, T.k_TooManyTurns, by show 3 ≤ sizeLine; decide, fun b7 m7 => ?_⟩
    refine ⟨l6, b7, kb6, kz7, rfl, rfl, by rw [upd_ne (ne_of_none h6 m7)]; exact h6, upd_same, by decide, fun l7 n7 => ?_⟩
    have s7 : Same H (upd (upd H6 b7 (.lst kz7)) l7 (.lst kb7)) := same_new (same_new s6 m7) n7
    have h7 : (upd (upd H6 b7 (.lst kz7)) l7 (.lst kb7)) l7 = some (.lst kb7) := upd_same
    change tSeq _ _ _ [some (.ref p.1), some (.ref l7), none, none] (upd (upd H6 b7 (.lst kz7)) l7 (.lst kb7))
    generalize upd (upd H6 b7 (.lst kz7)) l7 (.lst kb7) = H7 at s7 h7 ⊢
    refine ⟨_, rfl, _, rfl, .ref (He.ga K "UnknownFork"), .ref (He.ga K "UnknownFork"), false, rfl, fun _ r => r, T.k_UnknownFork, _, rfl, .ref (He.ga K "UnknownHall"), .ref (He.ga K "UnknownHall"), false, rfl, fun _ r => r, T.k_UnknownHall, _, rfl, .ref (He.ga K "UnknownWriter"), .ref (He.ga K "UnknownWriter"), false, rfl, fun _ r => r, T.k_UnknownWriter, by show 3 ≤ sizeLine; decide, fun b8 m8 => ?_⟩
    refine ⟨l7, b8, kb7, kz8, rfl, rfl, by rw [upd_ne (ne_of_none h7 m8)]; exact h7, upd_same, by decide, fun l8 n8 => ?_⟩
    have s8 : Same H (upd (upd H7 b8 (.lst kz8)) l8 (.lst kb8)) := same_new (same_new s7 m8) n8
    have h8 : (upd (upd H7 b8 (.lst kz8)) l8 (.lst kb8)) l8 = some (.lst kb8) := upd_same
    change tSeq _ _ _ [some (.ref p.1), some (.ref l8), none, none] (upd (upd H7 b8 (.lst kz8)) l8 (.lst kb8))
    generalize upd (upd H7 b8 (.lst kz8)) l8 (.lst kb8) = H8 at s8 h8 ⊢
    refine ⟨_, rfl, _, rfl, .ref (He.ga K "UnlikePlans"), .ref (He.ga K "UnlikePlans"), false, rfl, fun _ r => r, T.k_UnlikePlans, by show 1 ≤ sizeLine; decide, fun b9 m9 => ?_⟩
    refine ⟨l8, b9, kb8, kz9, rfl, rfl, by rw [upd_ne (ne_of_none h8 m9)]; exact h8, upd_same, by decide, fun l9 n9 => ?_⟩
    have s9 : Same H (upd (upd H8 b9 (.lst kz9)) l9 (.lst kb9)) := same_new (same_new s8 m9) n9
    have h9 : (upd (upd H8 b9 (.lst kz9)) l9 (.lst kb9)) l9 = some (.lst kb9) := upd_same
    change tSeq _ _ _ [some (.ref p.1), some (.ref l9), none, none] (upd (upd H8 b9 (.lst kz9)) l9 (.lst kb9))
    generalize upd (upd H8 b9 (.lst kz9)) l9 (.lst kb9) = H9 at s9 h9 ⊢
    have cnt : kb9.countP (fun z => eqV z (.bl true)) = 1 := by decide
    refine ⟨_, rfl, .inl ⟨rfl, _, SqL.of h9⟩, l9, kb9, .bl true, rfl, rfl, SqL.of h9, rfl, by decide, rfl, _, rfl, ?_⟩
    rw [cnt]
    refine iteF ?_
    refine ⟨_, rfl, .ty "ValueError", .type "ValueError", true, rfl, fun _ r => r, T.k_VE, true, rfl, ?_⟩
    refine iteF ?_
    refine ⟨_, rfl, lw0, lw1, rfl, rfl, by decide +kernel, ?_⟩
    refine ⟨_, rfl, lw0 ++ lw1, lw2, rfl, rfl, by decide +kernel, ?_⟩
    refine ⟨_, rfl, lw0 ++ lw1 ++ lw2, lw3, rfl, rfl, by decide +kernel, ?_⟩
    refine ⟨_, rfl, lw0 ++ lw1 ++ lw2 ++ lw3, lw4, rfl, rfl, by decide +kernel, ?_⟩
    change tSeq _ _ _ [some (.ref p.1), some (.ref l9), some (.str lwA), none] H9
    refine ⟨_, rfl, ⟨_, rfl⟩, lwA, " ", rfl, rfl, by decide +kernel, by decide +kernel, fun ls ns => ?_⟩
    have h9' : (upd H9 ls (.lst ((Txt.split lwA " ").map V.str))) l9 = some (.lst kb9) := by rw [upd_ne (ne_of_none h9 ns)]; exact h9
    have hs : (upd H9 ls (.lst ((Txt.split lwA " ").map V.str))) ls = some (.lst ((Txt.split lwA " ").map V.str)) := upd_same
    have s10 : Same H (upd H9 ls (.lst ((Txt.split lwA " ").map V.str))) := same_new s9 ns
    generalize upd H9 ls (.lst ((Txt.split lwA " ").map V.str)) = H10 at s10 h9' hs ⊢
    have first : ∀ (m : Nat) (z' : V), m < 4 → kb9[m]? = some z' → eqV z' (.bl true) = false := by
      intro m z' hm e
      match m, hm, e with
      | 0, _, e => cases e; rfl
      | 1, _, e => cases e; rfl
      | 2, _, e => cases e; rfl
      | 3, _, e => cases e; rfl
    refine ⟨_, rfl, .inl ⟨rfl, _, SqL.of h9'⟩, l9, kb9, .bl true, 4, .bl true, rfl, rfl, SqL.of h9', rfl, by decide, rfl, rfl, first, ?_⟩
    refine ⟨ls, _, ((4 : Nat) : Int), .str "InvalidLine", rfl, rfl, SqL.of hs, atI_nat (by rw [List.getElem?_map, words4]; rfl), ?_⟩
    change tSeq _ _ _ [some (.ref p.1), some (.ref l9), some (.str lwA), some (.str "InvalidLine")] H10
    refine ⟨_, rfl, rfl, _, rfl, ?_⟩
    refine iteF ?_
    refine ⟨_, rfl, rfl, _, rfl, ?_⟩
    refine iteF ?_
    refine ⟨_, rfl, rfl, _, rfl, ?_⟩
    refine iteF ?_
    refine ⟨_, rfl, by show 4 ≤ sizeLine; decide, fun lq nq => ?_⟩
    refine ⟨lq, _, rfl, .inl (SqL.of upd_same), rfl, rfl, _, rfl, ?_⟩
    have nin : inV (.str "InvalidLine") [.str "DuplicateWriter", .str "NoFlagLeft", .str "StillTold", .str "UnknownWriter"] = false := by decide +kernel
    refine iteF ?_
    exact ⟨_, rfl, by show 2 ≤ sizeLine; decide, fun q nq' => hQ _ q (same_new (same_new s10 nq) nq') upd_same⟩
end
end K58
set_option Elab.async false
set_option linter.all false
set_option maxRecDepth 100000
set_option maxHeartbeats 4000000
namespace K58
open PySem PySem.Spec PyProof.Rows L2 TL
/-! _law_call, _law_is_deed, _law_reads -/
/-- its code points are those of a text -/
def okV : V → Bool
  | .str x => PyData.strOk x
  | _ => true
def spCall : Sp := fun vs H Q _ => ∃ s : Str, vs = [.str s] ∧ s.length ≤ 100000 ∧
  (∀ ys, parseM s = some ys → ∀ H' q r, Same H H' → H' r = some (.tup ys) → H' q = some (.tup [.bl true, .ref r]) → Q (.ref q) H') ∧
  (parseM s = none → ∀ H' q r, Same H H' → H' r = some (.tup [.str "InvalidLine", .non]) → H' q = some (.tup [.bl false, .ref r]) → Q (.ref q) H')
def spIsDeed : Sp := fun vs H Q _ => ∃ (p q : Addr) (ys : List V) (s : Str), vs = [.ref p, .ref q] ∧ H p = some (.tup ys) ∧ H q = some (.tup ys) ∧ Deed ys s ∧ ys.all okV = true ∧ Q (.bl true) H
def spReads : Sp := fun vs H Q _ => ∃ (s : Str) (due : V), vs = [.str s, due] ∧ s.length ≤ 1000 ∧ ((parseM s = none ∧ due = .non) ∨ ∃ ys q, parseM s = some ys ∧ due = .ref q ∧ H q = some (.tup ys)) ∧ ∀ H', Same H H' → Q (.bl true) H'
section
variable {P : Program} {w : World} {K : PySem.W.Frag} {mg : Str → Option Value} {base : Heap}
/-- a call of _law_refusal in the except suite -/
def tRefuse (K : PySem.W.Frag) (i : Nat) (a : Addr) (cls : Value) (d : Option Addr) : TE := fun σ H Q => σ[i]? = some (some (.ref a)) ∧ cls = .ref (lnC K) ∧ d = none ∧ ∀ H' q, Same H H' → H' q = some (.tup [.str "InvalidLine", .non]) → Q (.ref q) H'
theorem pe_refuse {X : Cx} {k i : Nat} {a : Addr} {oe : Obj} {pn : List (Addr × Obj)} {cls : Value} {d : Option Addr} {fd : FuncData} {q pos : Pos} {e : Expr}
    (F : FnE X.prog X.w X.K X.mg X.base k (He.ga X.K "_law_refusal") fd ["_law_e"] (spRefusal X.K)) (hr : Room k X.A) (hg : Gl X "_law_refusal") (hm : X.mg "_law_refusal" = some (.ref (He.ga X.K "_law_refusal"))) (hk : PySem.W.keepIn X.K (.ref (He.ga X.K "_law_refusal")) = true) (hb : Binds X.K fd ["_law_e"] [])
    (hz : Zc cls d oe) (hf : ∃ vs, oe.data = .fields vs) (ha : PA (X.suite a ((a, oe) :: pn)) [e] (tCons (tVar i) tNil)) (he : starEach (e :: []) X.env = (false, eval e X.env) :: starEach [] X.env := by rfl) (hpl : (backTo pos (starEach [] X.env)).any (·.1) = false := by rfl) :
    PE (X.suite a ((a, oe) :: pn)) (.Call (.Name "_law_refusal" q) [e] [] pos) (tRefuse X.K i a cls d) := by
  refine ⟨fun pins s σ H Q I h => (pe_callE F hr hg hm hk hb ha (by decide) he hpl).run pins s σ H Q I ?_⟩
  obtain ⟨h1, rfl, rfl, hq⟩ := h
  exact ⟨_, h1, rfl, hz, hf, hq⟩
theorem sc_l_call : FnScope ["_law_line_here", "_law_e"] ["_law_line_here"] (defScope s_l_call) := ⟨rfl, rfl, rfl, by decide +kernel, rfl, by decide +kernel, by decide +kernel⟩
theorem ok_l_call (T : Txt P K mg) : DefOk P w K mg base CX0 5 "_law_call" ["_law_line_here"] spCall := by
  obtain ⟨fd, F⟩ := T.d_l_call
  obtain ⟨rf, RF, RB, RK⟩ := ok_l_refusal (P := P) (w := w) (base := base) T
  have PL := ok_parse_line (P := P) (w := w) (base := base) T
  obtain ⟨pf, PF, PB⟩ := PL.ex
  refine ⟨⟨fd, F.ok sc_l_call (fun vs H Q E h => ?_) (fun cdv A outer s H vs Q E hr h => ?_), F.bindsN fun _ _ _ _ _ _ us hl => match us, hl with | [_], _ => rfl⟩, T.g_l_call, F.kp⟩
  · obtain ⟨s, rfl, _⟩ := h
    rfl
  · obtain ⟨z, rfl, hz, hQ, hN⟩ := h
    refine ⟨_, PSs.nox (pss_one (ps_try_as (i := 1) (Wout := fun _ _ _ _ => False) (ts := fun a cls d => tRet (tTup (tCons (tC (.bl false)) (tCons (tRefuse K 1 a cls d) tNil)))) rfl rfl sc_l_call.nd rfl rfl ⟨rfl, by decide, .inl T.g_ForkError⟩ takes0
      (fun W pn xe tk _ => pss_one (ps_ret (pe_tup (pa_cons pe_bl (pa_cons (by exact (pe_callS PF (hr.mono (by decide)) rfl PL.g PL.kp PB (fun σ => passAt tk σ) (by exact (pa_cons (pv 0) pa_nil)))) pa_nil)))))
      (fun a oe cls d pn hz hf => pss_one (ps_ret (pe_tup (pa_cons pe_bl (pa_cons (pe_refuse RF (hr.mono (by decide)) rfl T.g_l_refusal RK RB hz hf (pa_cons (pv 1) pa_nil)) pa_nil))))))), ?_⟩
    refine ⟨_, rfl, z, rfl, hz, fun ys hy H1 r s1 hr1 => ?_, fun hn H1 s1 => ?_⟩
    · refine ⟨by show 2 ≤ sizeLine; decide, fun q nq => ?_⟩
      exact hQ ys hy _ q r (same_new s1 nq) (by rw [upd_ne (ne_of_none hr1 nq)]; exact hr1) upd_same
    · refine ⟨true, T.fork, fun _ a ha => ?_, fun q => nomatch q⟩
      refine ⟨rfl, rfl, rfl, fun H2 q s2 hq2 => ?_⟩
      refine ⟨by show 2 ≤ sizeLine; decide, fun p np => ?_⟩
      exact hN hn _ p q (same_new (s1.trans s2) np) (by rw [upd_ne (ne_of_none hq2 np)]; exact hq2) upd_same
theorem ok_of {x : Str} {m : Nat} (h : ∀ c ∈ tl x, c ≤ 126) : okV (.str x) = true := by
  show x.cps.all (· < 0x110000) = true
  rw [Array.all_eq_true']
  intro c hc
  have := h c (Array.mem_toList_iff.mpr hc)
  exact decide_eq_true (by omega)
theorem name_okV {x : Str} (h : nameB x = true) : okV (.str x) = true := ok_of (m := 0) fun c hc => by
  have t : ∀ c ∈ tl letS, c ≤ 126 := by decide +kernel
  exact t c ((name_tl h).1 c hc)
theorem rec_okV {x : Str} (h : recP x = true) : okV (.str x) = true := ok_of (m := 0) fun c hc => by
  unfold recP at h
  rw [Bool.and_eq_true, List.all_eq_true] at h
  have := h.2 c hc
  rw [Bool.and_eq_true, decide_eq_true_eq, decide_eq_true_eq] at this
  exact this.2
theorem all_ok2 {a b : V} (h1 : okV a = true) (h2 : okV b = true) : [a, b].all okV = true := by simp [h1, h2]
theorem all_ok3 {a b c : V} (h1 : okV a = true) (h2 : okV b = true) (h3 : okV c = true) : [a, b, c].all okV = true := by simp [h1, h2, h3]
theorem all_ok4 {a b c d : V} (h1 : okV a = true) (h2 : okV b = true) (h3 : okV c = true) (h4 : okV d = true) : [a, b, c, d].all okV = true := by simp [h1, h2, h3, h4]
theorem parse_okV {s : Str} {ys : List V} (h : parseM s = some ys) : ys.all okV = true := by
  have u : okV (.str "undo") = true ∧ okV (.str "redo") = true ∧ okV (.str "write") = true ∧ okV (.str "cut") = true ∧ okV (.str "admit") = true ∧ okV (.str "dismiss") = true := by decide +kernel
  obtain ⟨u1, u2, u3, u4, u5, u6⟩ := u
  unfold parseM at h
  by_cases h0 : s = "undo" ∨ s = "redo"
  · rw [if_pos h0] at h
    cases h
    rcases h0 with e | e
    · rw [e]; simp [u1]
    · rw [e]; simp [u2]
  rw [if_neg h0] at h
  by_cases h1 : (part s).1 = "write"
  · rw [if_pos h1] at h
    unfold pWrite at h
    split at h
    · cases h
    · split at h
      · rename_i q; cases h; exact all_ok3 u3 (name_okV q.1) (rec_okV q.2)
      · cases h
  rw [if_neg h1] at h
  by_cases h2 : (part s).1 = "cut"
  · rw [if_pos h2] at h
    unfold pCut at h
    split at h
    · cases h
    · split at h
      · cases h
      · split at h
        · cases h
        · split at h
          · rename_i q; cases h; exact all_ok4 u4 (name_okV q.1) (rec_okV q.2) rfl
          · cases h
  rw [if_neg h2] at h
  by_cases h3 : (part s).1 = "admit"
  · rw [if_pos h3] at h
    unfold pAdmit at h
    split at h
    · cases h
    · split at h
      · rename_i q; cases h; exact all_ok3 u5 (name_okV q.1) (name_okV q.2)
      · cases h
  rw [if_neg h3] at h
  split at h
  · split at h
    · rename_i q; cases h; exact all_ok2 u6 (name_okV q)
    · cases h
  · cases h
/-- a deed's data -/
theorem deed_data {K : PySem.W.Frag} {ys : List V} {s : Str} (h : Deed ys s) (hok : ys.all okV = true) : ∃ ds, (∀ H, DpAll K H ys ds) ∧ (PyData.tuple ds).canLay0 = true ∧ SeqAt.shaped (.tuple ds) = true ∧ ys.length ≤ 4 ∧ (4 ≤ ys.length → ∃ n : Int, ys[3]? = some (.int n)) := by
  cases h with
  | one w h =>
    simp only [List.all_cons, List.all_nil, okV, Bool.and_true] at hok
    have cl : (PyData.tuple [.str s]).canLay0 = true := by simp [PyData.canLay0, PyData.canLayAll0, hok]
    exact ⟨[.str s], fun H => .cons (.str _) .nil, cl, by unfold SeqAt.shaped; rw [cl]; rfl, by show 1 ≤ 4; omega, fun q => absurd q (by show ¬ 4 ≤ 1; omega)⟩
  | two w a h =>
    simp only [List.all_cons, List.all_nil, okV, Bool.and_true, Bool.and_eq_true] at hok
    have cl : (PyData.tuple [.str w, .str a]).canLay0 = true := by simp [PyData.canLay0, PyData.canLayAll0, hok]
    exact ⟨[.str w, .str a], fun H => .cons (.str _) (.cons (.str _) .nil), cl, by unfold SeqAt.shaped; rw [cl]; rfl, by show 2 ≤ 4; omega, fun q => absurd q (by show ¬ 4 ≤ 2; omega)⟩
  | three w a b h =>
    simp only [List.all_cons, List.all_nil, okV, Bool.and_true, Bool.and_eq_true] at hok
    have cl : (PyData.tuple [.str w, .str a, .str b]).canLay0 = true := by simp [PyData.canLay0, PyData.canLayAll0, hok]
    exact ⟨[.str w, .str a, .str b], fun H => .cons (.str _) (.cons (.str _) (.cons (.str _) .nil)), cl, by unfold SeqAt.shaped; rw [cl]; rfl, by show 3 ≤ 4; omega, fun q => absurd q (by show ¬ 4 ≤ 3; omega)⟩
  | cut a b n h =>
    simp only [List.all_cons, List.all_nil, okV, Bool.and_true, Bool.and_eq_true] at hok
    have cl : (PyData.tuple [.str "cut", .str a, .str b, .int (n : Int)]).canLay0 = true := by simp [PyData.canLay0, PyData.canLayAll0, hok]
    exact ⟨[.str "cut", .str a, .str b, .int (n : Int)], fun H => .cons (.str _) (.cons (.str _) (.cons (.str _) (.cons (.int _) .nil))), cl, by unfold SeqAt.shaped; rw [cl]; rfl, by show 4 ≤ 4; omega, fun _ => ⟨n, rfl⟩⟩
theorem sc_l_is_deed : FnScope ["_law_actual", "_law_due"] ["_law_actual", "_law_due"] (defScope s_l_is_deed) := ⟨rfl, rfl, rfl, by decide +kernel, rfl, by decide +kernel, by decide +kernel⟩
theorem ok_l_is_deed (T : Txt P K mg) : DefOk P w K mg base CX0 1 "_law_is_deed" ["_law_actual", "_law_due"] spIsDeed := by
  obtain ⟨fd, F⟩ := T.d_l_is_deed
  refine ⟨⟨fd, F.ok sc_l_is_deed (fun vs H Q E h => ?_) (fun cdv A outer s H vs Q E hr h => ?_), F.bindsN fun _ _ _ _ _ _ us hl => match us, hl with | [_, _], _ => rfl⟩, T.g_l_is_deed, F.kp⟩
  · obtain ⟨p, q, ys, s, rfl, _⟩ := h
    rfl
  · obtain ⟨p, q, ys, z, rfl, hp, hq, hd, hok, hQ⟩ := h
    obtain ⟨ds, hda, hcl, hsh, hl4, h3⟩ := deed_data (K := K) hd hok
    have heq := SeqAt.eqv_refl _ hcl
    refine ⟨_, PSs.nox (pss_cons (ps_if (PW.pt (pw_or (pt_not (pt_val (pe_callB call_isi rfl T.f_isinstance (by decide +kernel) (pa_cons (pv 0) (pa_cons (pe_bltn (v := .ty "tuple") rfl T.f_tuple (by decide +kernel) rfl) pa_nil))))) (pw_or1 (pt_cmpR (op_neD hr.units) (pv 0) (pv 1) (nomark _)))))
      (pss_one (ps_ret pe_bl))
      pss_nil)
    (pss_one (ps_ret (pe_or (pe_cmpR op_lt (pe_callB call_len_seq rfl T.f_len PySem.boot_len (pa_cons (pv 1) pa_nil)) pe_int (nomark _)) (pe_one (pe_and (pe_callB call_isi rfl T.f_isinstance (by decide +kernel) (pa_cons (pe_ix ix_tup (pv 0) pe_int (fun _ _ => rfl)) (pa_cons (pe_bltn (v := .ty "int") rfl T.f_int (by decide +kernel) rfl) pa_nil))) (pe_one (pe_not (pe_callB call_isi rfl T.f_isinstance (by decide +kernel) (pa_cons (pe_ix ix_tup (pv 0) pe_int (fun _ _ => rfl)) (pa_cons (pe_bltn (v := .ty "bool") rfl T.f_bool (by decide +kernel) rfl) pa_nil))))))))))), ?_⟩
    refine ⟨_, rfl, _, _, _, _, true, rfl, .ty _, .base (.tup hp), kit_ty (by decide +kernel), true, rfl, ?_⟩
    refine iteF ?_
    refine ⟨_, rfl, _, rfl, _, _, .tup (SqT.of hp) (hda H), .tup (SqT.of hq) (hda H), hsh, hsh, _, rfl, ?_⟩
    rw [heq]
    refine iteF ?_
    refine ⟨_, rfl, q, ys, rfl, .inr (SqT.of hq), _, _, rfl, rfl, _, rfl, ite2 (fun c => hQ) (fun c => ?_)⟩
    have h4 : 4 ≤ ys.length := by
      by_cases q4 : (ys.length : Int) < 4
      · exact absurd (decide_eq_true q4) c
      · omega
    obtain ⟨n, hn⟩ := h3 h4
    refine ⟨_, rfl, p, ys, 3, .int n, rfl, rfl, SqT.of hp, atI_nat (j := 3) hn, _, _, _, _, true, rfl, .ty _, .base (.int _), kit_ty (by decide +kernel), _, rfl, ?_⟩
    refine iteT ?_
    refine ⟨_, rfl, p, ys, 3, .int n, rfl, rfl, SqT.of hp, atI_nat (j := 3) hn, _, _, _, _, false, rfl, .ty _, .base (.int _), kit_ty (by decide +kernel), _, rfl, ?_⟩
    exact hQ
theorem sc_l_reads : FnScope ["_law_line_here", "_law_due", "_law_answer"] ["_law_line_here", "_law_due"] (defScope s_l_reads) := ⟨rfl, rfl, rfl, by decide +kernel, rfl, by decide +kernel, by decide +kernel⟩
theorem ok_l_reads (T : Txt P K mg) : DefOk P w K mg base CX0 6 "_law_reads" ["_law_line_here", "_law_due"] spReads := by
  obtain ⟨fd, F⟩ := T.d_l_reads
  have d_l_call := ok_l_call (P := P) (w := w) (base := base) T
  have d_l_is_deed := ok_l_is_deed (P := P) (w := w) (base := base) T
  have d_format_line := ok_format_line (P := P) (w := w) (base := base) T
  refine ⟨⟨fd, F.ok sc_l_reads (fun vs H Q E h => ?_) (fun cdv A outer s H vs Q E hr h => ?_), F.bindsN fun _ _ _ _ _ _ us hl => match us, hl with | [_, _], _ => rfl⟩, T.g_l_reads, F.kp⟩
  · obtain ⟨s, d, rfl, _⟩ := h
    rfl
  · obtain ⟨z, due, rfl, hz, hd, hQ⟩ := h
    refine ⟨_, PSs.nox (pss_cons (ps_set (i := 2) sc_l_reads.nd rfl (Or.inl rfl) (pe_D d_l_call (hr.mono (by decide)) pass0 (pa_cons (pv 0) pa_nil)))
    (pss_cons (ps_if (pt_cmpR op_isN (pv 1) pe_non (nomark _))
      (pss_one (ps_ret (pe_cmpR (op_eqD hr.units) (pv 2) (pe_tup (pa_cons pe_bl (pa_cons (pe_tup (pa_cons pe_str (pa_cons pe_non pa_nil))) pa_nil))) (nomark _))))
      pss_nil)
    (pss_one (ps_ret (pe_and (pe_ix ix_tup (pv 2) pe_int (fun _ _ => rfl)) (pe_and (pe_D d_l_is_deed (hr.mono (by decide)) pass0 (pa_cons (pe_ix ix_tup (pv 2) pe_int (fun _ _ => rfl)) (pa_cons (pv 1) pa_nil))) (pe_one (pe_cmpR op_eq (pe_D d_format_line (hr.mono (by decide)) pass0 (pa_cons (pe_ix ix_tup (pv 2) pe_int (fun _ _ => rfl)) pa_nil)) (pv 0) (nomark _))))))))), ?_⟩
    refine ⟨_, rfl, z, rfl, by omega, fun ys hy H1 q r s1 hr1 hq1 => ?_, fun hn H1 q r s1 hr1 hq1 => ?_⟩
    · rcases hd with ⟨c, _⟩ | ⟨ys', dq, hy', rfl, hdq⟩
      · rw [hy] at c; cases c
      · rw [hy] at hy'
        cases hy'
        have hdq1 := s1 _ _ hdq
        refine ⟨_, rfl, rfl, _, rfl, ?_⟩
        refine iteF ?_
        refine ⟨_, rfl, q, _, 0, .bl true, rfl, rfl, SqT.of hq1, rfl, _, rfl, ?_⟩
        refine iteT ?_
        refine ⟨_, rfl, q, _, 1, .ref r, rfl, rfl, SqT.of hq1, rfl, _, rfl, r, dq, ys, z, rfl, hr1, hdq1, parse_deed hy, parse_okV hy, _, rfl, ?_⟩
        refine iteT ?_
        refine ⟨_, rfl, q, _, 1, .ref r, rfl, rfl, SqT.of hq1, rfl, r, ys, z, rfl, hr1, parse_deed hy, hz, fun H2 s2 => ?_⟩
        refine ⟨_, rfl, rfl, ?_⟩
        rw [decide_eq_true (rfl : V.str z = V.str z)]
        exact hQ _ (s1.trans s2)
    · rcases hd with ⟨_, rfl⟩ | ⟨ys', dq, hy', rfl, hdq⟩
      · refine ⟨_, rfl, rfl, _, rfl, ?_⟩
        refine iteT ?_
        refine ⟨_, rfl, by show 2 ≤ sizeLine; decide, fun p1 n1 => ?_⟩
        refine ⟨by show 2 ≤ sizeLine; decide, fun p2 n2 => ?_⟩
        have s3 := same_new (o := .tup [.bl false, .ref p1]) (same_new (o := .tup [.str "InvalidLine", .non]) s1 n1) n2
        have k1 : (upd H1 p1 (.tup [.str "InvalidLine", .non])) p1 = some (.tup [.str "InvalidLine", .non]) := upd_same
        have s13 : Same (upd H1 p1 (.tup [.str "InvalidLine", .non])) (upd (upd H1 p1 (.tup [.str "InvalidLine", .non])) p2 (.tup [.bl false, .ref p1])) := same_new (Same.refl _) n2
        have s12 : Same H1 (upd (upd H1 p1 (.tup [.str "InvalidLine", .non])) p2 (.tup [.bl false, .ref p1])) := (same_new (Same.refl _) n1).trans s13
        have fin := hQ _ s3
        have cl : (PyData.tuple [.bool false, .tuple [.str "InvalidLine", .none]]).canLay0 = true := by decide +kernel
        have sh : SeqAt.shaped (.tuple [.bool false, .tuple [.str "InvalidLine", .none]]) = true := by decide +kernel
        refine ⟨.tuple [.bool false, .tuple [.str "InvalidLine", .none]], .tuple [.bool false, .tuple [.str "InvalidLine", .none]], .tup (SqT.of (s12 _ _ hq1)) (.cons (.bl _) (.cons (.tup (SqT.of (s12 _ _ hr1)) (.cons (.str _) (.cons .non .nil))) .nil)), .tup (SqT.of upd_same) (.cons (.bl _) (.cons (.tup (SqT.of (s13 _ _ k1)) (.cons (.str _) (.cons .non .nil))) .nil)), sh, sh, ?_⟩
        rw [SeqAt.eqv_refl _ cl]
        exact fin
      · rw [hn] at hy'; cases hy'
end
end K58
set_option Elab.async false
set_option linter.all false
set_option maxRecDepth 100000
set_option maxHeartbeats 4000000
namespace K58
open PySem PySem.Spec PyProof.Rows L2 TL
/-! The box of draws, _law_draw, _law_box -/
structure BoxAt (H : Hp) (b g c : Addr) (gs cs : List Int) (n k : Int) : Prop where
  hb : H b = some (.lst [.ref g, .int n, .ref c, .int k])
  hg : H g = some (.lst (gs.map V.int))
  hc : H c = some (.lst (cs.map V.int))
  bg : b ≠ g
  bc : b ≠ c
  gc : g ≠ c
  cn : 1 ≤ cs.length
def Box (H : Hp) (b g : Addr) : Prop := ∃ c gs cs n k, BoxAt H b g c gs cs n k
/-- what a draw leaves as it was -/
def Stp (b g : Addr) (H H' : Hp) : Prop := ∀ a o, a ≠ b → a ≠ g → H a = some o → H' a = some o
section
variable {H H1 H2 : Hp} {b g c p : Addr} {gs gs' cs : List Int} {n n' k k' : Int} {o : HO}
theorem BoxAt.setB (B : BoxAt H b g c gs cs n k) : BoxAt (upd H b (.lst [.ref g, .int n', .ref c, .int k'])) b g c gs cs n' k' :=
  ⟨upd_same, by rw [upd_ne (Ne.symm B.bg)]; exact B.hg, by rw [upd_ne (Ne.symm B.bc)]; exact B.hc, B.bg, B.bc, B.gc, B.cn⟩
theorem BoxAt.setG (B : BoxAt H b g c gs cs n k) : BoxAt (upd H g (.lst (gs'.map V.int))) b g c gs' cs n k :=
  ⟨by rw [upd_ne B.bg]; exact B.hb, upd_same, by rw [upd_ne (Ne.symm B.gc)]; exact B.hc, B.bg, B.bc, B.gc, B.cn⟩
theorem BoxAt.same (B : BoxAt H b g c gs cs n k) (s : Same H H1) : BoxAt H1 b g c gs cs n k := ⟨s _ _ B.hb, s _ _ B.hg, s _ _ B.hc, B.bg, B.bc, B.gc, B.cn⟩
theorem Box.same (B : Box H b g) (s : Same H H1) : Box H1 b g := by
  obtain ⟨c, gs, cs, n, k, B⟩ := B
  exact ⟨c, gs, cs, n, k, B.same s⟩
theorem Stp.of (s : Same H H1) : Stp b g H H1 := fun a o _ _ e => s a o e
theorem Stp.refl : Stp b g H H := fun _ _ _ _ e => e
theorem Stp.trans (s : Stp b g H H1) (t : Stp b g H1 H2) : Stp b g H H2 := fun a o x y e => t a o x y (s a o x y e)
theorem Stp.setB : Stp b g H (upd H b o) := fun a u x y e => by rw [upd_ne x]; exact e
theorem Stp.setG : Stp b g H (upd H g o) := fun a u x y e => by rw [upd_ne y]; exact e
end
def spDraw : Sp := fun vs H Q _ => ∃ (b g : Addr) (m : Int), vs = [.ref b, .int m] ∧ Box H b g ∧ 0 < m ∧ m.natAbs < 2 ^ 128 ∧ ∀ (i : Int) H', 0 ≤ i → i < m → Box H' b g → Stp b g H H' → Q (.int i) H'
/-- a list of integers as data -/
theorem ints_data {K : PySem.W.Frag} (gs : List Int) : ∃ ds, (∀ H, DpAll K H (gs.map V.int) ds) ∧ SeqAt.shaped (.list ds) = true ∧ PyData.eqv (.list ds) (.list []) = decide (gs = []) := by
  refine ⟨gs.map PyData.int, fun H => ?_, ?_, ?_⟩
  · induction gs with
    | nil => exact .nil
    | cons a r ih => exact .cons (.int a) ih
  · have h1 : ∀ l : List Int, PyData.canLayAll0 (l.map PyData.int) = true := fun l => by
      induction l with
      | nil => rfl
      | cons a r ih => rw [List.map_cons, PyData.canLayAll0, ih]; rfl
    have h2 : ∀ l : List Int, PyData.depthAll (l.map PyData.int) = 0 := fun l => by
      induction l with
      | nil => rfl
      | cons a r ih => rw [List.map_cons, PyData.depthAll, ih]; rfl
    unfold SeqAt.shaped
    rw [PyData.canLay0, PyData.depth, h1, h2]
    rfl
  · cases gs with
    | nil => rw [decide_eq_true rfl]; simp [PyData.eqv, PyData.eqvAll]
    | cons a r => rw [decide_eq_false (by simp)]; simp [PyData.eqv, PyData.eqvAll]
theorem y_ok (e : Int) : -(2 ^ 64) < e % 2147483647 ∧ e % 2147483647 < 2 ^ 64 := by
  have e1 := Int.emod_nonneg e (show (2147483647 : Int) ≠ 0 by decide)
  have e2 := Int.emod_lt_of_pos e (show (0 : Int) < 2147483647 by decide)
  omega
theorem nil_shaped : SeqAt.shaped (.list []) = true := by decide +kernel
section
variable {P : Program} {w : World} {K : PySem.W.Frag} {mg : Str → Option Value} {base : Heap}
theorem sc_l_draw : FnScope ["_law_box_here", "_law_size", "_law_k", "_law_cell", "_law_number_here", "_law_digit"] ["_law_box_here", "_law_size"] (defScope s_l_draw) := ⟨rfl, rfl, rfl, by decide +kernel, rfl, by decide +kernel, by decide +kernel⟩
theorem ok_l_draw (T : Txt P K mg) : DefOk P w K mg base CX0 1 "_law_draw" ["_law_box_here", "_law_size"] spDraw := by
  obtain ⟨fd, F⟩ := T.d_l_draw
  refine ⟨⟨fd, F.ok sc_l_draw (fun vs H Q E h => ?_) (fun cdv A outer s H vs Q E hr h => ?_), F.bindsN fun _ _ _ _ _ _ us hl => match us, hl with | [_, _], _ => rfl⟩, T.g_l_draw, F.kp⟩
  · obtain ⟨b, g, m, rfl, _⟩ := h
    rfl
  · obtain ⟨b, g, m, rfl, ⟨c, gs, cs, n, k, B⟩, hm, hm2, hQ⟩ := h
    refine ⟨_, PSs.nox (pss_cons (ps_if (PW.pt (pw_and (pt_cmpR op_eq (pe_ix ix_list (pv 0) pe_int (fun _ _ => rfl)) pe_int (nomark _)) (pw_and1 (pt_cmpR (op_neD hr.units) (pe_ix ix_list (pv 0) pe_int (fun _ _ => rfl)) (pe_lst pa_nil) (nomark _)))))
      (pss_one (ps_asg (pe_bm PySem.F.plainAttrs_list PySem.F.slot_list_pop PySem.F.type_list_pop mt_popAt (pe_ix ix_list (pv 0) pe_int (fun _ _ => rfl)) (pa_cons pe_int pa_nil)) (pg_sub (pv 0) pe_int set_list)))
      pss_nil)
    (pss_cons (ps_if (pt_cmpR op_gt (pe_ix ix_list (pv 0) pe_int (fun _ _ => rfl)) pe_int (nomark _))
      (pss_cons (ps_set (i := 5) sc_l_draw.nd rfl (Or.inl rfl) (pe_op op_mod (pe_callTy call_int1 rfl T.f_int (by decide +kernel) (pa_cons (pe_ix ix_list (pv 0) pe_int (fun _ _ => rfl)) pa_nil)) (pv 1)))
      (pss_cons (ps_asg (pe_op op_fdivW (pe_callTy call_int1 rfl T.f_int (by decide +kernel) (pa_cons (pe_ix ix_list (pv 0) pe_int (fun _ _ => rfl)) pa_nil)) (pv 1)) (pg_sub (pv 0) pe_int set_list))
      (pss_one (ps_ret (pv 5)))))
      pss_nil)
    (pss_cons (ps_set (i := 2) sc_l_draw.nd rfl (Or.inl rfl) (pe_ix ix_list (pv 0) pe_int (fun _ _ => rfl)))
    (pss_cons (ps_asg (pe_op op_add (pv 2) pe_int) (pg_sub (pv 0) pe_int set_list))
    (pss_cons (ps_set (i := 3) sc_l_draw.nd rfl (Or.inl rfl) (pe_ix ix_list (pe_ix ix_list (pv 0) pe_int (fun _ _ => rfl)) (pe_op op_mod (pe_callTy call_int1 rfl T.f_int (by decide +kernel) (pa_cons (pv 2) pa_nil)) (pe_callB call_len_seq rfl T.f_len PySem.boot_len (pa_cons (pe_ix ix_list (pv 0) pe_int (fun _ _ => rfl)) pa_nil))) (fun _ _ => rfl)))
    (pss_cons (ps_set (i := 4) sc_l_draw.nd rfl (Or.inl rfl) (pe_op op_mod (pe_callTy call_int1 rfl T.f_int (by decide +kernel) (pa_cons (pe_op op_add (pe_op op_add (pe_op op_mul (pv 3) pe_int) (pe_op op_mul (pv 2) pe_int)) pe_int) pa_nil)) pe_int))
    (pss_cons (ps_set (i := 4) sc_l_draw.nd rfl (Or.inl rfl) (pe_op op_mod (pe_callTy call_int1 rfl T.f_int (by decide +kernel) (pa_cons (pe_op op_add (pe_op op_add (pe_op op_mul (pv 4) (pe_op op_add (pe_op op_fdivW (pv 4) pe_int) pe_int)) (pv 3)) (pv 2)) pa_nil)) pe_int))
    (pss_one (ps_ret (pe_op op_mod (pe_callTy call_int1 rfl T.f_int (by decide +kernel) (pa_cons (pe_op op_fdivW (pv 4) pe_int) pa_nil)) (pv 1))))))))))), ?_⟩
    have hdiv : ∀ i : Int, CDivW i m := fun i => wide_div hm hm2 (by decide) (by decide)
    refine' with_rest (A := fun Hc => ∃ gs n k, BoxAt Hc b g c gs cs n k ∧ Stp b g H Hc) (fun key => ?main) ?rest
    case main =>
      refine ⟨_, rfl, b, _, 1, .int n, rfl, rfl, SqL.of B.hb, rfl, rfl, _, rfl, ite2 (fun c1 => ?_) (fun c1 => ?_)⟩
      · refine ⟨_, rfl, b, _, 0, .ref g, rfl, rfl, SqL.of B.hb, rfl, by show 0 ≤ sizeLine; decide, fun p np => ?_⟩
        obtain ⟨ds, d1, d2, d3⟩ := ints_data (K := K) gs
        have S1 : Same H (upd H p (.lst [])) := same_new (Same.refl H) np
        have B1 := B.same S1
        have hp : (upd H p (.lst [])) p = some (.lst []) := upd_same
        have T1 : Stp b g H (upd H p (.lst [])) := Stp.of S1
        generalize upd H p (.lst []) = H1 at B1 hp T1 ⊢
        refine ⟨_, _, .lst (SqL.of B1.hg) (d1 H1), .lst (SqL.of hp) .nil, d2, nil_shaped, _, rfl, ?_⟩
        rw [d3]
        cases gs with
        | nil =>
          refine iteF ?_
          exact key H1 ⟨_, _, _, B1, T1⟩
        | cons a r =>
          refine iteT ?_
          refine ⟨_, rfl, b, _, 0, .ref g, rfl, rfl, SqL.of B1.hb, rfl, .inl ⟨rfl, _, SqL.of B1.hg⟩, g, _, 0, 0, .int a, rfl, rfl, B1.hg, by decide, by decide, ?_, rfl, ?_⟩
          · show seqIndex? 0 ((a :: r).map V.int).length = some 0
            refine (ixN_seq (j := 0) ?_).1
            unfold ixN
            rw [if_pos (by decide), if_pos (by rw [List.length_map, List.length_cons]; omega)]
            rfl
          have B2 : BoxAt (upd H1 g (.lst (((a :: r).map V.int).eraseIdx 0))) b g c r cs n k := B1.setG
          refine ⟨_, rfl, b, _, 1, 1, rfl, rfl, B2.hb, rfl, ?_⟩
          have B3 : BoxAt (upd (upd H1 g (.lst (((a :: r).map V.int).eraseIdx 0))) b (.lst ([V.ref g, .int n, .ref c, .int k].set 1 (.int a)))) b g c r cs a k := B2.setB
          have T3 : Stp b g H (upd (upd H1 g (.lst (((a :: r).map V.int).eraseIdx 0))) b (.lst ([V.ref g, .int n, .ref c, .int k].set 1 (.int a)))) := (T1.trans Stp.setG).trans Stp.setB
          generalize upd (upd H1 g (.lst (((a :: r).map V.int).eraseIdx 0))) b (.lst ([V.ref g, .int n, .ref c, .int k].set 1 (.int a))) = H3 at B3 T3 ⊢
          exact key H3 ⟨_, _, _, B3, T3⟩
      · refine iteF ?_
        exact key H ⟨_, _, _, B, Stp.refl⟩
    case rest =>
      clear B
      rintro H1 ⟨gs, n, k, B, S1⟩
      refine ⟨_, rfl, b, _, 1, .int n, rfl, rfl, SqL.of B.hb, rfl, _, _, rfl, rfl, _, rfl, ite2 (fun c1 => ?_) (fun c1 => ?_)⟩
      · refine ⟨_, rfl, b, _, 1, .int n, rfl, rfl, SqL.of B.hb, rfl, .inl ⟨_, rfl, _, rfl, _, _, rfl, rfl, hm, ?_⟩⟩
        refine ⟨_, rfl, b, _, 1, .int n, rfl, rfl, SqL.of B.hb, rfl, .inl ⟨_, rfl, _, rfl, _, _, rfl, rfl, hdiv _, ?_⟩⟩
        refine ⟨_, rfl, b, _, 1, 1, rfl, rfl, B.hb, rfl, ?_⟩
        have B3 : BoxAt (upd H1 b (.lst ([V.ref g, .int n, .ref c, .int k].set 1 (.int (n / m))))) b g c gs cs (n / m) k := B.setB
        exact ⟨_, rfl, hQ _ _ (Int.emod_nonneg _ (by omega)) (Int.emod_lt_of_pos _ hm) ⟨_, _, _, _, _, B3⟩ (S1.trans Stp.setB)⟩
      · refine ⟨_, rfl, b, _, 3, .int k, rfl, rfl, SqL.of B.hb, rfl, ?_⟩
        refine ⟨_, rfl, _, _, rfl, rfl, _, rfl, b, _, 3, 3, rfl, rfl, B.hb, rfl, ?_⟩
        have B3 : BoxAt (upd H1 b (.lst ([V.ref g, .int n, .ref c, .int k].set 3 (.int (k + 1))))) b g c gs cs n (k + 1) := B.setB
        have S3 : Stp b g H (upd H1 b (.lst ([V.ref g, .int n, .ref c, .int k].set 3 (.int (k + 1))))) := S1.trans Stp.setB
        generalize upd H1 b (.lst ([V.ref g, .int n, .ref c, .int k].set 3 (.int (k + 1)))) = H3 at B3 S3 ⊢
        have hl : (0 : Int) < ((cs.map V.int).length : Nat) := by rw [List.length_map]; have := B.cn; omega
        obtain ⟨j, hj, hj2⟩ : ∃ j : Nat, k % (((cs.map V.int).length : Nat) : Int) = j ∧ j < cs.length := by
          have e1 := Int.emod_nonneg k (show (((cs.map V.int).length : Nat) : Int) ≠ 0 by omega)
          have e2 := Int.emod_lt_of_pos k hl
          refine ⟨(k % (((cs.map V.int).length : Nat) : Int)).toNat, by omega, ?_⟩
          rw [List.length_map] at e1 e2 ⊢
          omega
        have hcell : (cs.map V.int)[j]? = some (.int cs[j]) := by rw [List.getElem?_map, List.getElem?_eq_getElem hj2]; rfl
        generalize cs[j] = x at hcell
        refine ⟨_, rfl, b, _, 2, .ref c, rfl, rfl, SqL.of B3.hb, rfl, _, rfl, .inl ⟨_, rfl, _, rfl, b, _, 2, .ref c, rfl, rfl, SqL.of B3.hb, rfl, c, _, rfl, .inl (SqL.of B3.hc), _, _, rfl, rfl, hl, c, _, _, .int x, rfl, rfl, SqL.of B3.hc, by rw [hj]; exact atI_nat hcell, ?_⟩⟩
        refine ⟨_, rfl, _, _, rfl, rfl, .inr ⟨by decide, by decide⟩, _, rfl, _, _, rfl, rfl, .inr ⟨by decide, by decide⟩, _, _, rfl, rfl, _, _, rfl, rfl, .inl ⟨_, rfl, _, _, rfl, rfl, (show (0 : Int) < 2147483647 by decide), ?_⟩⟩
        refine ⟨_, rfl, _, rfl, _, _, rfl, rfl, wide_div (b := 8) (by decide) (by decide) (by decide) (by decide), _, _, rfl, rfl, _, _, rfl, rfl, .inl (y_ok _), _, rfl, _, _, rfl, rfl, _, rfl, _, _, rfl, rfl, .inl ⟨_, rfl, _, _, rfl, rfl, (show (0 : Int) < 998244353 by decide), ?_⟩⟩
        refine ⟨_, rfl, _, _, rfl, rfl, wide_div (b := 8) (by decide) (by decide) (by decide) (by decide), .inl ⟨_, rfl, _, rfl, _, _, rfl, rfl, hm, ?_⟩⟩
        exact hQ _ _ (Int.emod_nonneg _ (by omega)) (Int.emod_lt_of_pos _ hm) ⟨_, _, _, _, _, B3⟩ S3
end
end K58
set_option Elab.async false
set_option linter.all false
set_option maxRecDepth 100000
set_option maxHeartbeats 4000000
namespace K58
open PySem PySem.Spec PyProof.Rows L2 TL
/-! _law_box -/
def spBox (K : PySem.W.Frag) : Sp := fun vs H Q _ => ∃ (p : Addr) (ns : List Int), vs = [.ref p] ∧ SqL K H p (ns.map V.int) ∧ ∀ H' b g, Same H H' → Box H' b g → Q (.ref b) H'
theorem with_restA {G : Prop} {A R : Addr → Hp → Prop} (main : (∀ a H, A a H → R a H) → G) (rest : ∀ a H, A a H → R a H) : G := main rest
theorem with_restS {G : Prop} {A R : Str → Hp → Prop} (main : (∀ a H, A a H → R a H) → G) (rest : ∀ a H, A a H → R a H) : G := main rest
theorem with_restI {G : Prop} {A R : Int → Hp → Prop} (main : (∀ a H, A a H → R a H) → G) (rest : ∀ a H, A a H → R a H) : G := main rest
theorem cut_ints (ns : List Int) : ∃ cs : List Int, cutV (ns.map V.int) none (some 63) = cs.map V.int ∧ cs.length ≤ 63 := by
  refine ⟨ns.take (HT.sIx (ns.map V.int).length (ns.map V.int).length (some 63)), ?_, ?_⟩
  · unfold cutV
    rw [HT.sIx_none, List.drop_zero, Nat.sub_zero, List.map_take]
  · rw [List.length_take]
    have e : HT.sIx (ns.map V.int).length (ns.map V.int).length (some 63) = min 63 (ns.map V.int).length := HT.sIx_nat _ _ 63
    rw [e]
    omega
theorem take_ints {cs : List Int} {i : Nat} {c : Int} (h : cs[i]? = some c) : (cs.take i).map V.int ++ [V.int c] = (cs.take (i + 1)).map V.int := by
  rw [List.take_add_one, h, List.map_append]
  rfl
theorem at_ints {cs : List Int} {i : Nat} {x : V} (h : (cs.map V.int)[i]? = some x) : ∃ c, cs[i]? = some c ∧ x = .int c := by
  rw [List.getElem?_map] at h
  cases hc : cs[i]? with
  | none => rw [hc] at h; cases h
  | some c => rw [hc] at h; exact ⟨c, rfl, (Option.some.inj h).symm⟩
theorem same_upd {H H1 : Hp} {d : Addr} {o : HO} (h : Same H H1) (hd : H d = none) : Same H (upd H1 d o) := fun b u e => by
  rw [upd_ne (ne_of_none e hd)]
  exact h b u e
section
variable {P : Program} {w : World} {K : PySem.W.Frag} {mg : Str → Option Value} {base : Heap}
theorem sc_l_box : FnScope ["_law_script", "_law_cells", "_law_great", "_law_cell"] ["_law_script"] (defScope s_l_box) := ⟨rfl, rfl, rfl, by decide +kernel, rfl, by decide +kernel, by decide +kernel⟩
theorem ok_l_box (T : Txt P K mg) : DefOk P w K mg base CX0 1 "_law_box" ["_law_script"] (spBox K) := by
  obtain ⟨fd, F⟩ := T.d_l_box
  refine ⟨⟨fd, F.ok sc_l_box (fun vs H Q E h => ?_) (fun cdv A outer s H vs Q E hr h => ?_), F.bindsN fun _ _ _ _ _ _ us hl => match us, hl with | [_], _ => rfl⟩, T.g_l_box, F.kp⟩
  · obtain ⟨p, ns, rfl, _⟩ := h
    rfl
  · obtain ⟨p, ns, rfl, hs, hQ⟩ := h
    refine ⟨_, PSs.nox (pss_cons (ps_setLc (i := 1) (own := [("_law_cell", 3)]) (g := gName 3) rfl sc_l_box.nd rfl rfl (sw_true rfl rfl rfl (by decide +kernel)) (pi_list (pe_slice sl_list (pv 0) po_none (po_some pe_int))) (blkOk_by (N := ["_law_script", "_law_cells", "_law_great", "_law_cell"]) (sc := defScope s_l_box) (by decide +kernel)) (fun _ _ _ _ _ => pg_name (i := 3) sc_l_box.nd rfl (Or.inl rfl)) (fun _ _ _ _ _ => pts_nil) (fun _ _ _ _ _ => (pe_callTy call_int1 rfl T.f_int (by decide +kernel) (pa_cons (pv 3) pa_nil))))
    (pss_cons (ps_setLc (i := 2) (own := [("_law_cell", 3)]) (g := gName 3) rfl sc_l_box.nd rfl rfl (sw_true rfl rfl rfl (by decide +kernel)) (pi_list (pv 1)) (blkOk_by (N := ["_law_script", "_law_cells", "_law_great", "_law_cell"]) (sc := defScope s_l_box) (by decide +kernel)) (fun _ _ _ _ _ => pg_name (i := 3) sc_l_box.nd rfl (Or.inl rfl)) (fun _ _ _ _ _ => (pts_one (pt_cmpR op_ge (pv 3) (pe_op op_pow pe_int pe_int) (nomark _)))) (fun _ _ _ _ _ => (pv 3)))
    (pss_cons (ps_if (pt_cmpR (op_eqD hr.units) (pv 1) (pe_lst pa_nil) (nomark _))
      (pss_one (ps_set (i := 1) sc_l_box.nd rfl (Or.inl rfl) (pe_lst (pa_cons pe_int pa_nil))))
      pss_nil)
    (pss_one (ps_ret (pe_lst (pa_cons (pv 2) (pa_cons pe_int (pa_cons (pv 1) (pa_cons pe_int pa_nil)))))))))), ?_⟩
    obtain ⟨cs, ec, hl⟩ := cut_ints ns
    have len63 : ∀ {n : Nat}, n ≤ 63 → n < sizeLine := fun h => by rw [sizeLine_eq]; omega
    refine ⟨_, rfl, 63, rfl, p, _, rfl, hs, fun q nq => ?_⟩
    rw [ec]
    have s1 : Same H (upd H q (.lst (cs.map V.int))) := same_new (Same.refl H) nq
    have hq : (upd H q (.lst (cs.map V.int))) q = some (.lst (cs.map V.int)) := upd_same
    generalize upd H q (.lst (cs.map V.int)) = H1 at s1 hq ⊢
    refine ⟨q, rfl, ⟨_, SqL.of hq⟩, fun d nd => ?_⟩
    have n1 : q ≠ d := ne_of_none hq nd
    refine lc_list (K := K) (a := q) (xs := cs.map V.int) (fun i Hc => Same H1 Hc ∧ Hc d = some (.lst ((cs.take i).map V.int))) ⟨same_new (Same.refl H1) nd, upd_same⟩ (fun i Hc _ pp => SqL.of (pp.1 _ _ hq)) ?_ ?_
    · rintro i x Hc hx ⟨sc, hc⟩
      obtain ⟨c, ci, rfl⟩ := at_ints hx
      refine ⟨rfl, ?_⟩
      unfold tYes
      refine iteT ?_
      refine ⟨_, rfl, .inl ⟨_, rfl, _, hc, ?_, same_upd sc nd, ?_⟩⟩
      · rw [List.length_map, List.length_take]
        exact len63 (by omega)
      · rw [upd_same, take_ints ci]
    rintro H2 ⟨s2, hd⟩
    rw [List.length_map, List.take_length] at hd
    clear hq n1
    have s02 := s1.trans s2
    clear s1 s2 nd
    refine ⟨_, rfl, ⟨d, rfl, ⟨_, SqL.of hd⟩, fun e ne => ?_⟩⟩
    have n1 : d ≠ e := ne_of_none hd ne
    refine lc_list (K := K) (a := d) (xs := cs.map V.int) (fun i Hc => Same H2 Hc ∧ ∃ l : List Int, l.length ≤ i ∧ Hc e = some (.lst (l.map V.int))) ⟨same_new (Same.refl H2) ne, [], Nat.le_refl _, upd_same⟩ (fun i Hc _ pp => SqL.of (pp.1 _ _ hd)) ?_ ?_
    · rintro i x Hc hx ⟨sc, l, ll, hc⟩
      obtain ⟨c, ci, rfl⟩ := at_ints hx
      have hi : i < cs.length := (List.getElem?_eq_some_iff.mp ci).1
      refine ⟨rfl, ?_⟩
      refine ⟨_, rfl, 10, 18, rfl, rfl, ⟨by decide, by decide, by decide⟩, _, _, rfl, rfl, _, rfl, ite2 (fun _ => ?_) (fun _ => ?_)⟩
      · refine ⟨_, rfl, _, hc, by rw [List.length_map]; exact len63 (by omega), same_upd sc ne, l ++ [c], by rw [List.length_append, List.length_singleton]; omega, ?_⟩
        rw [upd_same, List.map_append]
        rfl
      · exact ⟨sc, l, by omega, hc⟩
    rintro H3 ⟨s3, l, ll, he⟩
    have hd3 := s3 _ _ hd
    have s03 := s02.trans s3
    clear s3 s02
    refine' with_restA (A := fun c Hc => Same H Hc ∧ Hc e = some (.lst (l.map V.int)) ∧ c ≠ e ∧ ∃ cs : List Int, 1 ≤ cs.length ∧ Hc c = some (.lst (cs.map V.int))) (fun key => ?main) ?rest
    case main =>
      refine ⟨_, rfl, by show 0 ≤ sizeLine; decide, fun p1 np1 => ?_⟩
      obtain ⟨ds, d1, d2, d3⟩ := ints_data (K := K) cs
      have S1 : Same H3 (upd H3 p1 (.lst [])) := same_new (Same.refl H3) np1
      have hp : (upd H3 p1 (.lst [])) p1 = some (.lst []) := upd_same
      generalize upd H3 p1 (.lst []) = H4 at S1 hp ⊢
      have hd4 := S1 _ _ hd3
      have he4 := S1 _ _ he
      refine ⟨_, _, .lst (SqL.of hd4) (d1 H4), .lst (SqL.of hp) .nil, d2, nil_shaped, _, rfl, ?_⟩
      rw [d3]
      refine ite2 (fun e0 => ?_) (fun e0 => ?_)
      · refine ⟨by show 1 ≤ sizeLine; decide, fun p2 np2 => ?_⟩
        have S2 : Same H4 (upd H4 p2 (.lst [.int 0])) := same_new (Same.refl H4) np2
        have hp2 : (upd H4 p2 (.lst [.int 0])) p2 = some (.lst (([0] : List Int).map V.int)) := upd_same
        generalize upd H4 p2 (.lst [.int 0]) = H5 at S2 hp2 ⊢
        exact key p2 H5 ⟨(s03.trans S1).trans S2, S2 _ _ he4, fun z => ne_of_none he4 np2 z.symm, [0], by simp, hp2⟩
      · exact key d H4 ⟨s03.trans S1, he4, n1, cs, List.length_pos_iff.mpr fun z => e0 (decide_eq_true z), hd4⟩
    case rest =>
      rintro c H5 ⟨s5, he5, nce, cs', lc', hc5⟩
      refine ⟨_, rfl, _, rfl, by show 4 ≤ sizeLine; decide, fun b nb => ?_⟩
      exact hQ _ b e (same_new s5 nb) ⟨c, l, cs', 0, 0, upd_same, by rw [upd_ne (ne_of_none he5 nb)]; exact he5, by rw [upd_ne (ne_of_none hc5 nb)]; exact hc5, fun z => ne_of_none he5 nb z.symm, fun z => ne_of_none hc5 nb z.symm, fun z => nce z.symm, lc'⟩
end
end K58
set_option Elab.async false
set_option linter.all false
set_option maxRecDepth 100000
set_option maxHeartbeats 4000000
namespace K58
open PySem PySem.Spec PyProof.Rows L2 TL
/-! _law_name, _law_text -/
/-- all signs of z are signs of S -/
def In (S z : Str) : Prop := ∀ c ∈ tl z, c ∈ tl S
section
variable {S z y : Str}
theorem In.app (h : In S z) (k : In S y) : In S (z ++ y) := fun c hc => by
  rw [tl_append, List.mem_append] at hc
  exact hc.elim (h c) (k c)
theorem In.one {c : Nat} (h : c ∈ tl S) : In S ⟨#[c]⟩ := fun d hd => by
  have e : d = c := List.mem_singleton.mp hd
  rw [e]; exact h
theorem mem_cut {lo hi : Option Int} {c : Nat} (h : c ∈ tl (cutS z lo hi)) : c ∈ tl z := List.mem_of_mem_drop (List.mem_of_mem_take h)
theorem In.cut {lo hi : Option Int} (h : In S z) : In S (cutS z lo hi) := fun c hc => h c (mem_cut hc)
theorem In.rep {n : Nat} (h : In S z) : In S (repS z n) := fun c hc => by
  rw [tl_rep, List.mem_flatten] at hc
  obtain ⟨l, hl, hc⟩ := hc
  rw [(List.mem_replicate.mp hl).2] at hc
  exact h c hc
theorem cut_le {i : Int} (h : 0 ≤ i) : (cutS z none (some i)).length ≤ i.toNat := by
  have e : HT.sIx z.length z.length (some i) ≤ i.toNat := by
    show (if i < 0 then (i + (z.length : Int)).toNat else min i.toNat z.length) ≤ _
    rw [if_neg (by omega)]
    exact Nat.min_le_left _ _
  rw [len_tl]
  show (((z.cps.toList.drop (HT.sIx z.length 0 none)).take (HT.sIx z.length z.length (some i) - HT.sIx z.length 0 none))).length ≤ _
  rw [List.length_take]
  omega
theorem at_sign {i : Int} (h0 : 0 ≤ i) (h1 : i < (S.length : Nat)) : ∃ c, atI S.cps.toList i = some c ∧ c ∈ tl S := by
  have hl : i.toNat < (tl S).length := by rw [← len_tl]; omega
  have e : (tl S)[i.toNat]? = some (tl S)[i.toNat] := List.getElem?_eq_getElem hl
  refine ⟨(tl S)[i.toNat], ?_, List.getElem_mem hl⟩
  have k := atI_nat e
  rwa [Int.toNat_of_nonneg h0] at k
theorem len_one {c : Nat} : (⟨#[c]⟩ : Str).length = 1 := rfl
theorem len_cut_le {lo hi : Option Int} : (cutS z lo hi).length ≤ z.length := cutS_length z lo hi
end
theorem in_empty {S : Str} : In S "" := fun c hc => by
  have e : tl ("" : Str) = [] := by decide +kernel
  rw [e] at hc
  cases hc
theorem let_len : letS.length = 26 := by decide +kernel
theorem sig_len : sigS.length = 94 := by decide +kernel
theorem name_of {z : Str} (h : In letS z) (h1 : 1 ≤ z.length) (h8 : z.length ≤ 8) : nameB z = true := by
  unfold nameB
  rw [decide_eq_true h1, decide_eq_true h8]
  exact List.all_eq_true.mpr fun c hc => decide_eq_true (h c hc)
theorem name_in {z : Str} (h : nameB z = true) : In letS z := (name_tl h).1
theorem sig_rec {z : Str} (h : In sigS z) (h2 : z.length ≤ 200) : recP z = true ∧ 37 ∉ tl z := by
  have n : 37 ∉ tl z := fun m => sig_37 (h _ m)
  refine ⟨?_, n⟩
  rw [← recs n]
  unfold recL
  rw [decide_eq_true h2]
  exact List.all_eq_true.mpr fun c hc => decide_eq_true (h c hc)
theorem let_ok {x : Str} (h : In letS x) : PyData.strOk x = true := ok_of (m := 0) fun c hc => by
  have t : ∀ c ∈ tl letS, c ≤ 126 := by decide +kernel
  exact t c (h c hc)
/-- a list of names as data -/
theorem strs_data {K : PySem.W.Frag} (ts : List Str) (ok : ∀ x ∈ ts, In letS x) : ∃ ds, (∀ H, DpAll K H (ts.map V.str) ds) ∧ SeqAt.shaped (.list ds) = true ∧ PyData.eqv (.list ds) (.list []) = decide (ts = []) := by
  refine ⟨ts.map PyData.str, fun H => ?_, ?_, ?_⟩
  · clear ok
    induction ts with
    | nil => exact .nil
    | cons a r ih => exact .cons (.str a) ih
  · have h1 : ∀ l : List Str, (∀ x ∈ l, In letS x) → PyData.canLayAll0 (l.map PyData.str) = true := fun l => by
      induction l with
      | nil => exact fun _ => rfl
      | cons a r ih => exact fun ok => by rw [List.map_cons, PyData.canLayAll0, ih fun x hx => ok x (List.mem_cons_of_mem _ hx), PyData.canLay0, let_ok (ok a List.mem_cons_self)]; rfl
    have h2 : ∀ l : List Str, PyData.depthAll (l.map PyData.str) = 0 := fun l => by
      induction l with
      | nil => rfl
      | cons a r ih => rw [List.map_cons, PyData.depthAll, ih]; rfl
    unfold SeqAt.shaped
    rw [PyData.canLay0, PyData.depth, h1 ts ok, h2]
    rfl
  · cases ts with
    | nil => rw [decide_eq_true rfl]; simp [PyData.eqv, PyData.eqvAll]
    | cons a r => rw [decide_eq_false (by simp)]; simp [PyData.eqv, PyData.eqvAll]
theorem flat_strs (ts : List Str) : (ts.map V.str).all flatV = true := by
  rw [List.all_map]
  exact List.all_eq_true.mpr fun _ _ => rfl
theorem with_rest3 {G : Prop} {A R : Str → Option V → Hp → Prop} (main : (∀ a v H, A a v H → R a v H) → G) (rest : ∀ a v H, A a v H → R a v H) : G := main rest
def spName : Sp := fun vs H Q _ => ∃ (b g t : Addr) (ts : List Str), vs = [.ref b, .ref t] ∧ Box H b g ∧ H t = some (.lst (ts.map V.str)) ∧ t ≠ b ∧ t ≠ g ∧ ts.length ≤ 1 ∧ (∀ x ∈ ts, In letS x) ∧ (∀ x ∈ ts, x.length ≤ 100000) ∧
  ∀ nm H', nameB nm = true → Box H' b g → Stp b g H H' → Q (.str nm) H'
def spText : Sp := fun vs H Q _ => ∃ (b g : Addr), vs = [.ref b] ∧ Box H b g ∧ ∀ z H', recP z = true → 37 ∉ tl z → Box H' b g → Stp b g H H' → Q (.str z) H'
section
variable {P : Program} {w : World} {K : PySem.W.Frag} {mg : Str → Option Value} {base : Heap}
theorem sc_l_name : FnScope ["_law_box_here", "_law_taken", "_law_letters", "_law_name_here", "_law_k", "_law_fresh", "_law_base"] ["_law_box_here", "_law_taken"] (defScope s_l_name) := ⟨rfl, rfl, rfl, by decide +kernel, rfl, by decide +kernel, by decide +kernel⟩
theorem ok_l_name (T : Txt P K mg) : DefOk P w K mg base CX0 2 "_law_name" ["_law_box_here", "_law_taken"] spName := by
  obtain ⟨fd, F⟩ := T.d_l_name
  have d_l_draw := ok_l_draw (P := P) (w := w) (base := base) T
  refine ⟨⟨fd, F.ok sc_l_name (fun vs H Q E h => ?_) (fun cdv A outer s H vs Q E hr h => ?_), F.bindsN fun _ _ _ _ _ _ us hl => match us, hl with | [_, _], _ => rfl⟩, T.g_l_name, F.kp⟩
  · obtain ⟨b, g, t, ts, rfl, _⟩ := h
    rfl
  · obtain ⟨b, g, t, ts, rfl, B, ht, tb, tg, tl1, tok, tlen, hQ⟩ := h
    refine ⟨_, PSs.nox (pss_cons (ps_set (i := 2) sc_l_name.nd rfl (Or.inl rfl) pe_str)
    (pss_cons (ps_set (i := 3) sc_l_name.nd rfl (Or.inl rfl) pe_str)
    (pss_cons (ps_if (PW.pt (pw_and (pt_cmpR (op_neD hr.units) (pv 1) (pe_lst pa_nil) (nomark _)) (pw_and1 (pt_cmpR op_eq (pe_D d_l_draw (hr.mono (by decide)) pass0 (pa_cons (pv 0) (pa_cons pe_int pa_nil))) pe_int (nomark _)))))
      (pss_cons (ps_set (i := 6) sc_l_name.nd rfl (Or.inl rfl) (pe_ix ix_list (pv 1) (pe_D d_l_draw (hr.mono (by decide)) pass0 (pa_cons (pv 0) (pa_cons (pe_callB call_len_seq rfl T.f_len PySem.boot_len (pa_cons (pv 1) pa_nil)) pa_nil))) (fun _ _ => rfl)))
      (pss_one (ps_set (i := 3) sc_l_name.nd rfl (Or.inl rfl) (pe_slice sl_str (pv 6) po_none (po_some (pe_D d_l_draw (hr.mono (by decide)) pass0 (pa_cons (pv 0) (pa_cons pe_int pa_nil))))))))
      pss_nil)
    (pss_cons (ps_for PassesOwn.never rfl (pi_range1 rfl T.f_range (pa_cons (pe_op op_add pe_int (pe_D d_l_draw (hr.mono (by decide)) pass0 (pa_cons (pv 0) (pa_cons (pe_op op_sub pe_int (pe_callB call_len_str rfl T.f_len PySem.boot_len (pa_cons (pv 3) pa_nil))) pa_nil)))) pa_nil)) (pg_name (i := 4) sc_l_name.nd rfl (Or.inl rfl))
      (pss_one (ps_set (i := 3) sc_l_name.nd rfl (Or.inl rfl) (pe_op op_add_str (pv 3) (pe_ix ix_str (pv 2) (pe_D d_l_draw (hr.mono (by decide)) pass0 (pa_cons (pv 0) (pa_cons pe_int pa_nil))) (fun _ _ => rfl))))))
    (pss_cons (ps_set (i := 5) sc_l_name.nd rfl (Or.inl rfl) (pv 3))
    (pss_cons (ps_for PassesOwn.never rfl (pi_range1 rfl T.f_range (pa_cons (pe_op op_add (pe_callB call_len_seq rfl T.f_len PySem.boot_len (pa_cons (pv 1) pa_nil)) pe_int) pa_nil)) (pg_name (i := 4) sc_l_name.nd rfl (Or.inl rfl))
      (pss_cons (ps_if (pt_cmpR op_notIn_seq (pv 5) (pv 1) rfl)
        (pss_one (ps_ret (pv 5)))
        pss_nil)
      (pss_one (ps_set (i := 5) sc_l_name.nd rfl (Or.inl rfl) (pe_op op_add_str (pe_op op_add_str (pe_slice sl_str (pv 3) po_none (po_some pe_int)) (pe_ix ix_str (pv 2) (pe_op op_fdivW (pv 4) pe_int) (fun _ _ => rfl))) (pe_ix ix_str (pv 2) (pe_op op_mod (pe_callTy call_int1 rfl T.f_int (by decide +kernel) (pa_cons (pv 4) pa_nil)) pe_int) (fun _ _ => rfl)))))))
    (pss_one (ps_ret (pv 5))))))))), ?_⟩
    have small : ∀ {n : Nat}, n ≤ 100 → n ≤ sizeLine := fun h => by rw [sizeLine_eq]; omega
    refine' with_rest3 (A := fun z _ Hc => In letS z ∧ z.length ≤ 7 ∧ Box Hc b g ∧ Stp b g H Hc) (fun key => ?main) ?rest
    case main =>
      have em : In letS "" ∧ ("" : Str).length ≤ 7 := ⟨in_empty, by decide +kernel⟩
      refine ⟨_, rfl, by show 0 ≤ sizeLine; decide, fun p np => ?_⟩
      obtain ⟨ds, d1, d2, d3⟩ := strs_data (K := K) ts tok
      have S1 : Same H (upd H p (.lst [])) := same_new (Same.refl H) np
      have hp : (upd H p (.lst [])) p = some (.lst []) := upd_same
      generalize upd H p (.lst []) = H1 at S1 hp ⊢
      have ht1 := S1 _ _ ht
      have B1 := B.same S1
      refine ⟨_, _, .lst (SqL.of ht1) (d1 H1), .lst (SqL.of hp) .nil, d2, nil_shaped, _, rfl, ?_⟩
      rw [d3]
      refine ite2 (fun e0 => ?_) (fun e0 => ?_)
      · have n0 : ts ≠ [] := fun z => by rw [decide_eq_true z] at e0; cases e0
        have l0 : 1 ≤ ts.length := List.length_pos_iff.mpr n0
        refine ⟨_, rfl, b, g, 3, rfl, B1, by decide, by decide, fun i H2 _ _ B2 T2 => ?_⟩
        have ht2 := T2 _ _ tb tg ht1
        have T02 := (Stp.of (b := b) (g := g) S1).trans T2
        refine ⟨rfl, _, rfl, ite2 (fun _ => ?_) (fun _ => ?_)⟩
        · refine ⟨_, rfl, _, rfl, _, rfl, t, _, rfl, .inl (SqL.of ht2), b, g, _, rfl, B2, by rw [List.length_map]; omega, by rw [List.length_map]; omega, fun j H3 j0 j1 B3 T3 => ?_⟩
          have ht3 := T3 _ _ tb tg ht2
          have hj : j.toNat < ts.length := by rw [List.length_map] at j1; omega
          have hx : atI (ts.map V.str) j = some (.str ts[j.toNat]) := by
            have k : (ts.map V.str)[j.toNat]? = some (.str ts[j.toNat]) := by rw [List.getElem?_map, List.getElem?_eq_getElem hj]; rfl
            have k2 := atI_nat k
            rwa [Int.toNat_of_nonneg j0] at k2
          have hin : In letS ts[j.toNat] := tok _ (List.getElem_mem hj)
          have hm := List.getElem_mem hj
          generalize ts[j.toNat] = x at hx hin hm
          refine ⟨t, _, j, .str x, rfl, rfl, SqL.of ht3, hx, ?_⟩
          refine ⟨_, rfl, _, rfl, b, g, 8, rfl, B3, by decide, by decide, fun i H4 i0 i8 B4 T4 => ?_⟩
          have lx : x.length ≤ 100000 := tlen x hm
          refine ⟨_, rfl, _, rfl, small_line lx, ?_⟩
          have z1 : In letS (cutS x none (some i)) := hin.cut
          have z2 : (cutS x none (some i)).length ≤ 7 := Nat.le_trans (cut_le i0) (by omega)
          generalize cutS x none (some i) = z at z1 z2
          generalize (some (V.str x) : Option V) = v6
          exact key z v6 H4 ⟨z1, z2, B4, (T02.trans T3).trans T4⟩
        · exact key "" none H2 ⟨em.1, em.2, B2, T02⟩
      · refine iteF ?_
        exact key "" none H1 ⟨em.1, em.2, B1, Stp.of S1⟩
    case rest =>
      rintro z v6 H1 ⟨zin, z7, B1, T1⟩
      refine ⟨_, rfl, _, rfl, z, rfl, small_line (by omega), _, _, rfl, rfl, b, g, _, rfl, B1, by omega, by omega, fun i H2 i0 i1 B2 T2 => ?_⟩
      refine ⟨_, _, rfl, rfl, _, rfl, by omega, by omega, for_range (lo := 0) (n := (1 + i).toNat) (fun j σ Hc => ∃ y v4, σ = [some (.ref b), some (.ref t), some (.str letS), some (.str y), v4, none, v6] ∧ In letS y ∧ y.length = z.length + j ∧ Box Hc b g ∧ Stp b g H Hc) ⟨z, none, rfl, zin, rfl, B2, T1.trans T2⟩ ?_ ?_⟩
      · rintro j σ Hc hj ⟨y, v4, rfl, yin, yl, Bc, Tc⟩
        refine ⟨_, rfl, _, rfl, _, rfl, b, g, 26, rfl, Bc, by decide, by decide, fun l H3 l0 l1 B3 T3 => ?_⟩
        obtain ⟨c, hc, hcm⟩ := at_sign (S := letS) l0 (by rw [let_len]; exact l1)
        refine ⟨letS, l, c, rfl, rfl, small (by rw [let_len]; omega), hc, _, _, rfl, rfl, ?_, y ++ ⟨#[c]⟩, _, rfl, yin.app (In.one hcm), ?_, B3, Tc.trans T3⟩
        · show y.length + 1 ≤ sizeLine
          exact small (by omega)
        · rw [len_app, len_one, yl]
          rfl
      · rintro σ Hc ⟨y, v4, rfl, yin, yl, Bc, Tc⟩
        have yn : nameB y = true := name_of yin (by omega) (by omega)
        have y8 : y.length ≤ 8 := by omega
        have htc := Tc _ _ tb tg ht
        refine ⟨_, rfl, _, rfl, t, _, rfl, .inl (SqL.of htc), _, _, rfl, rfl, _, rfl, by rw [List.length_map]; omega, by rw [List.length_map]; omega, for_range (lo := 0) (n := (((ts.map V.str).length : Nat) + 1 : Int).toNat) (fun j σ H' => ∃ f v4, σ = [some (.ref b), some (.ref t), some (.str letS), some (.str y), v4, some (.str f), v6] ∧ nameB f = true ∧ H' = Hc) ⟨y, v4, rfl, yn, rfl⟩ ?_ ?_⟩
        · rintro j σ H' hj ⟨f, v4, rfl, fn, rfl⟩
          rw [List.length_map] at hj
          refine ⟨_, rfl, _, rfl, t, _, rfl, .inl (SqL.of htc), rfl, flat_strs ts, _, rfl, ite2 (fun _ => ?_) (fun _ => ?_)⟩
          · exact ⟨_, rfl, hQ f _ fn Bc Tc⟩
          · obtain ⟨c1, hc1, hm1⟩ := at_sign (S := letS) (i := (0 + (j : Int)) / 26) (by omega) (by rw [let_len]; omega)
            obtain ⟨c2, hc2, hm2⟩ := at_sign (S := letS) (i := (0 + (j : Int)) % 26) (by omega) (by rw [let_len]; omega)
            have k6 : (cutS y none (some 6)).length ≤ 6 := cut_le (by decide)
            have l26 : letS.length ≤ sizeLine := small (by rw [let_len]; omega)
            have ll : ((cutS y none (some 6)) ++ ⟨#[c1]⟩ ++ ⟨#[c2]⟩ : Str).length ≤ 8 ∧ 1 ≤ ((cutS y none (some 6)) ++ ⟨#[c1]⟩ ++ ⟨#[c2]⟩ : Str).length := by
              rw [len_app, len_app, len_one, len_one]
              omega
            refine ⟨_, rfl, 6, rfl, _, rfl, small (by omega), _, rfl, _, rfl, _, _, rfl, rfl, wide_div (b := 8) (by decide) (by decide) (by decide) (by decide), letS, _, c1, rfl, rfl, l26, hc1, _, _, rfl, rfl, ?_, _, rfl, _, rfl, .inl ⟨_, rfl, _, _, rfl, rfl, (show (0 : Int) < 26 by decide), letS, _, c2, rfl, rfl, l26, hc2, _, _, rfl, rfl, ?_, _, _, rfl, name_of ((yin.cut.app (In.one hm1)).app (In.one hm2)) ll.2 ll.1, rfl⟩⟩
            · show (cutS y none (some 6)).length + 1 ≤ sizeLine
              exact small (by omega)
            · show ((cutS y none (some 6)) ++ ⟨#[c1]⟩ : Str).length + 1 ≤ sizeLine
              rw [len_app, len_one]
              exact small (by omega)
        · rintro σ H' ⟨f, v4, rfl, fn, rfl⟩
          exact ⟨_, rfl, hQ f _ fn Bc Tc⟩
theorem sc_l_text : FnScope ["_law_box_here", "_law_signs_here", "_law_text_here", "_law_k", "_law_way"] ["_law_box_here"] (defScope s_l_text) := ⟨rfl, rfl, rfl, by decide +kernel, rfl, by decide +kernel, by decide +kernel⟩
theorem ok_l_text (T : Txt P K mg) : DefOk P w K mg base CX0 2 "_law_text" ["_law_box_here"] spText := by
  obtain ⟨fd, F⟩ := T.d_l_text
  have d_l_draw := ok_l_draw (P := P) (w := w) (base := base) T
  have d_l_signs := ok_l_signs (P := P) (w := w) (base := base) T
  refine ⟨⟨fd, F.ok sc_l_text (fun vs H Q E h => ?_) (fun cdv A outer s H vs Q E hr h => ?_), F.bindsN fun _ _ _ _ _ _ us hl => match us, hl with | [_], _ => rfl⟩, T.g_l_text, F.kp⟩
  · obtain ⟨b, g, rfl, _⟩ := h
    rfl
  · obtain ⟨b, g, rfl, B, hQ⟩ := h
    refine ⟨_, PSs.nox (pss_cons (ps_set (i := 1) sc_l_text.nd rfl (Or.inl rfl) (pe_D0 d_l_signs hr pass0))
    (pss_cons (ps_set (i := 2) sc_l_text.nd rfl (Or.inl rfl) pe_str)
    (pss_cons (ps_for PassesOwn.never rfl (pi_range1 rfl T.f_range (pa_cons (pe_D d_l_draw (hr.mono (by decide)) pass0 (pa_cons (pv 0) (pa_cons pe_int pa_nil))) pa_nil)) (pg_name (i := 3) sc_l_text.nd rfl (Or.inl rfl))
      (pss_one (ps_set (i := 2) sc_l_text.nd rfl (Or.inl rfl) (pe_op op_add_str (pv 2) (pe_ix ix_str (pv 1) (pe_D d_l_draw (hr.mono (by decide)) pass0 (pa_cons (pv 0) (pa_cons pe_int pa_nil))) (fun _ _ => rfl))))))
    (pss_cons (ps_set (i := 4) sc_l_text.nd rfl (Or.inl rfl) (pe_D d_l_draw (hr.mono (by decide)) pass0 (pa_cons (pv 0) (pa_cons pe_int pa_nil))))
    (pss_cons (ps_if (pt_cmpR op_eq (pv 4) pe_int (nomark _))
      (pss_one (ps_set (i := 2) sc_l_text.nd rfl (Or.inl rfl) (pe_op op_add_str pe_str (pv 2))))
      pss_nil)
    (pss_cons (ps_if (pt_cmpR op_eq (pv 4) pe_int (nomark _))
      (pss_one (ps_set (i := 2) sc_l_text.nd rfl (Or.inl rfl) (pe_op op_add_str pe_str (pv 2))))
      pss_nil)
    (pss_cons (ps_if (pt_cmpR op_eq (pv 4) pe_int (nomark _))
      (pss_one (ps_set (i := 2) sc_l_text.nd rfl (Or.inl rfl) (pe_op op_add_str (pv 2) pe_str)))
      pss_nil)
    (pss_cons (ps_if (pt_cmpR op_eq (pe_D d_l_draw (hr.mono (by decide)) pass0 (pa_cons (pv 0) (pa_cons pe_int pa_nil))) pe_int (nomark _))
      (pss_one (ps_set (i := 2) sc_l_text.nd rfl (Or.inl rfl) (pe_slice sl_str (pe_op op_mulS (pe_op op_add_str (pv 2) pe_str) pe_int) po_none (po_some (pe_op op_add pe_int (pe_D d_l_draw (hr.mono (by decide)) pass0 (pa_cons (pv 0) (pa_cons pe_int pa_nil))))))))
      pss_nil)
    (pss_one (ps_ret (pv 2))))))))))), ?_⟩
    have small : ∀ {n : Nat}, n ≤ 10000 → n ≤ sizeLine := fun h => by rw [sizeLine_eq]; omega
    have l94 : sigS.length ≤ sizeLine := small (by rw [sig_len]; omega)
    refine ⟨rfl, _, rfl, b, g, 10, rfl, B, by decide, by decide, fun i H1 i0 i1 B1 T1 => ?_⟩
    refine ⟨_, rfl, by omega, by omega, for_range (lo := 0) (n := i.toNat) (fun j σ Hc => ∃ z v3, σ = [some (.ref b), some (.str sigS), some (.str z), v3, none] ∧ In sigS z ∧ z.length = j ∧ Box Hc b g ∧ Stp b g H Hc) ⟨"", none, rfl, in_empty, by decide +kernel, B1, T1⟩ ?_ ?_⟩
    · rintro j σ Hc hj ⟨z, v3, rfl, zin, zl, Bc, Tc⟩
      refine ⟨_, rfl, _, rfl, _, rfl, b, g, 94, rfl, Bc, by decide, by decide, fun l H3 l0 l1 B3 T3 => ?_⟩
      obtain ⟨c, hc, hcm⟩ := at_sign (S := sigS) l0 (by rw [sig_len]; exact l1)
      refine ⟨sigS, l, c, rfl, rfl, l94, hc, _, _, rfl, rfl, ?_, z ++ ⟨#[c]⟩, _, rfl, zin.app (In.one hcm), ?_, B3, Tc.trans T3⟩
      · show z.length + 1 ≤ sizeLine
        exact small (by omega)
      · rw [len_app, len_one, zl]
    · rintro σ H2 ⟨z, v3, rfl, zin, zl, B2, T2⟩
      have z9 : z.length ≤ 9 := by omega
      clear zl
      have e1 : In sigS " " ∧ (" " : Str).length = 1 := ⟨(by decide +kernel : ∀ c ∈ tl (" " : Str), c ∈ tl sigS), by decide +kernel⟩
      have e2 : In sigS "  " ∧ ("  " : Str).length = 2 := ⟨(by decide +kernel : ∀ c ∈ tl ("  " : Str), c ∈ tl sigS), by decide +kernel⟩
      have e3 : In sigS "y" ∧ ("y" : Str).length = 1 := ⟨(by decide +kernel : ∀ c ∈ tl ("y" : Str), c ∈ tl sigS), by decide +kernel⟩
      refine ⟨_, rfl, b, g, 9, rfl, B2, by decide, by decide, fun y H3 y0 y1 B3 T3 => ?_⟩
      have T03 := T2.trans T3
      clear T2 T3 B2
      refine' with_restS (A := fun z Hc => In sigS z ∧ z.length ≤ 10 ∧ Hc = H3) (fun key => ?main) ?rest
      case main =>
        refine ⟨_, rfl, rfl, _, rfl, ite2 (fun _ => ?_) (fun _ => ?_)⟩
        · refine ⟨_, rfl, _, _, rfl, rfl, by rw [e1.2]; exact small (by omega), ?_⟩
          have k := e1.1.app zin
          have k2 : (" " ++ z : Str).length ≤ 10 := by rw [len_app, e1.2]; omega
          generalize (" " ++ z : Str) = z' at k k2
          generalize hh : H3 = Hc
          exact key z' Hc ⟨k, k2, hh.symm⟩
        · exact key z H3 ⟨zin, by omega, rfl⟩
      case rest =>
        clear zin z9
        rintro z Hc ⟨zin, z9, rfl⟩
        refine' with_restS (A := fun z Hc' => In sigS z ∧ z.length ≤ 12 ∧ Hc' = Hc) (fun key => ?main) ?rest
        case main =>
          refine ⟨_, rfl, rfl, _, rfl, ite2 (fun _ => ?_) (fun _ => ?_)⟩
          · refine ⟨_, rfl, _, _, rfl, rfl, by rw [e2.2]; exact small (by omega), ?_⟩
            have k := e2.1.app zin
            have k2 : ("  " ++ z : Str).length ≤ 12 := by rw [len_app, e2.2]; omega
            generalize ("  " ++ z : Str) = z' at k k2
            generalize hh : Hc = Hd
            exact key z' Hd ⟨k, k2, hh.symm⟩
          · exact key z Hc ⟨zin, by omega, rfl⟩
        case rest =>
          clear zin z9
          rintro z Hd ⟨zin, z9, rfl⟩
          refine' with_restS (A := fun z Hc' => In sigS z ∧ z.length ≤ 13 ∧ Hc' = Hd) (fun key => ?main) ?rest
          case main =>
            refine ⟨_, rfl, rfl, _, rfl, ite2 (fun _ => ?_) (fun _ => ?_)⟩
            · refine ⟨_, rfl, _, _, rfl, rfl, by rw [e1.2]; exact small (by omega), ?_⟩
              have k := zin.app e1.1
              have k2 : (z ++ " " : Str).length ≤ 13 := by rw [len_app, e1.2]; omega
              generalize (z ++ " " : Str) = z' at k k2
              generalize hh : Hd = He
              exact key z' He ⟨k, k2, hh.symm⟩
            · exact key z Hd ⟨zin, by omega, rfl⟩
          case rest =>
            clear zin z9
            rintro z He ⟨zin, z9, rfl⟩
            refine ⟨_, rfl, b, g, 16, rfl, B3, by decide, by decide, fun i H4 _ _ B4 T4 => ?_⟩
            have T04 := T03.trans T4
            refine ⟨rfl, _, rfl, ite2 (fun _ => ?_) (fun _ => ?_)⟩
            · have k0 := zin.app e3.1
              have l0 : (z ++ "y" : Str).length ≤ 14 ∧ 1 ≤ (z ++ "y" : Str).length := by rw [len_app, e3.2]; omega
              refine ⟨_, rfl, _, _, rfl, rfl, by rw [e3.2]; exact small (by omega), z ++ "y", 200, rfl, rfl, by decide, by decide, l0.2, by omega, ?_⟩
              refine ⟨_, rfl, b, g, 4, rfl, B4, by decide, by decide, fun j H5 j0 j4 B5 T5 => ?_⟩
              refine ⟨_, _, rfl, rfl, _, rfl, _, rfl, ?_, ?_⟩
              · rw [len_tl, tl_rep, List.length_flatten, List.map_replicate, List.sum_replicate_nat, ← len_tl]
                exact small (by omega)
              · obtain ⟨r1, r2⟩ := sig_rec (z := cutS (repS (z ++ "y") 200) none (some (197 + j))) k0.rep.cut (Nat.le_trans (cut_le (by omega)) (by omega))
                exact ⟨_, rfl, hQ _ _ r1 r2 B5 (T04.trans T5)⟩
            · obtain ⟨r1, r2⟩ := sig_rec zin (by omega)
              exact ⟨_, rfl, hQ _ _ r1 r2 B4 T04⟩
end
end K58
set_option Elab.async false
set_option linter.all false
set_option maxRecDepth 100000
set_option maxHeartbeats 4000000
namespace K58
open PySem PySem.Spec PyProof.Rows L2 TL
/-! _law_deed, _law_spoilt -/
theorem Box.free {H : Hp} {b g p : Addr} (B : Box H b g) (np : H p = none) : p ≠ b ∧ p ≠ g := by
  obtain ⟨c, gs, cs, n, k, B⟩ := B
  exact ⟨fun e => ne_of_none B.hb np e.symm, fun e => ne_of_none B.hg np e.symm⟩
def spDeed : Sp := fun vs H Q _ => ∃ (b g : Addr), vs = [.ref b] ∧ Box H b g ∧ ∀ ys L H' p, GDeed ys L → H' p = some (.tup ys) → Box H' b g → Stp b g H H' → Q (.ref p) H'
theorem six {i : Int} (h0 : 0 ≤ i) (h6 : i < 6) : ∃ n : Nat, n ≤ 400 ∧ atI [V.int 0, V.int 1, V.int 9, V.int 10, V.int 399, V.int 400] i = some (.int (n : Int)) := by
  obtain ⟨j, rfl⟩ := Int.eq_ofNat_of_zero_le h0
  match j, h6 with
  | 0, _ => exact ⟨0, by omega, rfl⟩
  | 1, _ => exact ⟨1, by omega, rfl⟩
  | 2, _ => exact ⟨9, by omega, rfl⟩
  | 3, _ => exact ⟨10, by omega, rfl⟩
  | 4, _ => exact ⟨399, by omega, rfl⟩
  | 5, _ => exact ⟨400, by omega, rfl⟩
  | j + 6, h => omega
theorem with_restN {G : Prop} {A R : Nat → Hp → Prop} (main : (∀ a H, A a H → R a H) → G) (rest : ∀ a H, A a H → R a H) : G := main rest
section
variable {P : Program} {w : World} {K : PySem.W.Frag} {mg : Str → Option Value} {base : Heap}
theorem sc_l_deed : FnScope ["_law_box_here", "_law_kind", "_law_name_here", "_law_many"] ["_law_box_here"] (defScope s_l_deed) := ⟨rfl, rfl, rfl, by decide +kernel, rfl, by decide +kernel, by decide +kernel⟩
theorem ok_l_deed (T : Txt P K mg) : DefOk P w K mg base CX0 3 "_law_deed" ["_law_box_here"] spDeed := by
  obtain ⟨fd, F⟩ := T.d_l_deed
  have d_l_draw := ok_l_draw (P := P) (w := w) (base := base) T
  have d_l_name := ok_l_name (P := P) (w := w) (base := base) T
  have d_l_text := ok_l_text (P := P) (w := w) (base := base) T
  refine ⟨⟨fd, F.ok sc_l_deed (fun vs H Q E h => ?_) (fun cdv A outer s H vs Q E hr h => ?_), F.bindsN fun _ _ _ _ _ _ us hl => match us, hl with | [_], _ => rfl⟩, T.g_l_deed, F.kp⟩
  · obtain ⟨b, g, rfl, _⟩ := h
    rfl
  · obtain ⟨b, g, rfl, B, hQ⟩ := h
    refine ⟨_, PSs.nox (pss_cons (ps_set (i := 1) sc_l_deed.nd rfl (Or.inl rfl) (pe_D d_l_draw (hr.mono (by decide)) pass0 (pa_cons (pv 0) (pa_cons pe_int pa_nil))))
    (pss_cons (ps_set (i := 2) sc_l_deed.nd rfl (Or.inl rfl) (pe_D d_l_name (hr.mono (by decide)) pass0 (pa_cons (pv 0) (pa_cons (pe_lst pa_nil) pa_nil))))
    (pss_cons (ps_if (pt_cmpR op_lt (pv 1) pe_int (nomark _))
      (pss_one (ps_ret (pe_tup (pa_cons pe_str (pa_cons (pv 2) (pa_cons (pe_D d_l_text (hr.mono (by decide)) pass0 (pa_cons (pv 0) pa_nil)) pa_nil))))))
      pss_nil)
    (pss_cons (ps_if (pt_cmpR op_lt (pv 1) pe_int (nomark _))
      (pss_cons (ps_set (i := 3) sc_l_deed.nd rfl (Or.inl rfl) (pe_D d_l_draw (hr.mono (by decide)) pass0 (pa_cons (pv 0) (pa_cons pe_int pa_nil))))
      (pss_cons (ps_if (pt_cmpR op_eq (pe_D d_l_draw (hr.mono (by decide)) pass0 (pa_cons (pv 0) (pa_cons pe_int pa_nil))) pe_int (nomark _))
        (pss_one (ps_set (i := 3) sc_l_deed.nd rfl (Or.inl rfl) (pe_ix ix_list (pe_lst (pa_cons pe_int (pa_cons pe_int (pa_cons pe_int (pa_cons pe_int (pa_cons pe_int (pa_cons pe_int pa_nil))))))) (pe_D d_l_draw (hr.mono (by decide)) pass0 (pa_cons (pv 0) (pa_cons pe_int pa_nil))) (fun _ _ => rfl))))
        pss_nil)
      (pss_one (ps_ret (pe_tup (pa_cons pe_str (pa_cons (pv 2) (pa_cons (pe_D d_l_text (hr.mono (by decide)) pass0 (pa_cons (pv 0) pa_nil)) (pa_cons (pv 3) pa_nil)))))))))
      pss_nil)
    (pss_cons (ps_if (pt_cmpR op_eq (pv 1) pe_int (nomark _))
      (pss_one (ps_ret (pe_tup (pa_cons pe_str pa_nil))))
      pss_nil)
    (pss_cons (ps_if (pt_cmpR op_eq (pv 1) pe_int (nomark _))
      (pss_one (ps_ret (pe_tup (pa_cons pe_str pa_nil))))
      pss_nil)
    (pss_cons (ps_if (pt_cmpR op_eq (pv 1) pe_int (nomark _))
      (pss_one (ps_ret (pe_tup (pa_cons pe_str (pa_cons (pv 2) pa_nil)))))
      pss_nil)
    (pss_cons (ps_if (pt_cmpR op_eq (pe_D d_l_draw (hr.mono (by decide)) pass0 (pa_cons (pv 0) (pa_cons pe_int pa_nil))) pe_int (nomark _))
      (pss_one (ps_ret (pe_tup (pa_cons pe_str (pa_cons (pv 2) (pa_cons (pv 2) pa_nil))))))
      pss_nil)
    (pss_one (ps_ret (pe_tup (pa_cons pe_str (pa_cons (pv 2) (pa_cons (pe_D d_l_name (hr.mono (by decide)) pass0 (pa_cons (pv 0) (pa_cons (pe_lst (pa_cons (pv 2) pa_nil)) pa_nil))) pa_nil)))))))))))))), ?_⟩
    refine ⟨_, rfl, b, g, 10, rfl, B, by decide, by decide, fun kd H1 _ _ B1 T1 => ?_⟩
    refine ⟨_, rfl, by show 0 ≤ sizeLine; decide, fun p np => ?_⟩
    have S2 : Same H1 (upd H1 p (.lst [])) := same_new (Same.refl H1) np
    have hp : (upd H1 p (.lst [])) p = some (.lst (([] : List Str).map V.str)) := upd_same
    obtain ⟨pb, pg⟩ := B1.free np
    generalize upd H1 p (.lst []) = H2 at S2 hp ⊢
    refine ⟨b, g, p, [], rfl, B1.same S2, hp, pb, pg, by simp, by simp, by simp, fun nm H3 nn B3 T3 => ?_⟩
    have T03 := (T1.trans (Stp.of (b := b) (g := g) S2)).trans T3
    clear S2 hp T1 T3 B B1
    refine ⟨_, rfl, _, _, rfl, rfl, _, rfl, ite2 (fun _ => ?_) (fun _ => ?_)⟩
    · refine ⟨_, rfl, _, rfl, b, g, rfl, B3, fun z H4 zr zn B4 T4 => ?_⟩
      refine ⟨by show 3 ≤ sizeLine; decide, fun q nq => ?_⟩
      exact hQ _ _ _ q (.write nm z nn zr zn) upd_same (B4.same (same_new (Same.refl _) nq)) ((T03.trans T4).trans (Stp.of (same_new (Same.refl _) nq)))
    refine ⟨_, rfl, _, _, rfl, rfl, _, rfl, ite2 (fun _ => ?_) (fun _ => ?_)⟩
    · refine ⟨_, rfl, b, g, 401, rfl, B3, by decide, by decide, fun m H4 m0 m1 B4 T4 => ?_⟩
      have T04 := T03.trans T4
      clear T03 T4 B3
      obtain ⟨m', rfl⟩ := Int.eq_ofNat_of_zero_le m0
      refine' with_restN (A := fun n Hc => n ≤ 400 ∧ Box Hc b g ∧ Stp b g H Hc) (fun key => ?main) ?rest
      case main =>
        refine ⟨_, rfl, b, g, 3, rfl, B4, by decide, by decide, fun j H5 _ _ B5 T5 => ?_⟩
        refine ⟨rfl, _, rfl, ite2 (fun _ => ?_) (fun _ => ?_)⟩
        · refine ⟨by show 6 ≤ sizeLine; decide, fun l nl => ?_⟩
          have S6 := same_new (o := .lst [V.int 0, V.int 1, V.int 9, V.int 10, V.int 399, V.int 400]) (Same.refl H5) nl
          have hl : (upd H5 l (.lst [V.int 0, V.int 1, V.int 9, V.int 10, V.int 399, V.int 400])) l = some (.lst [V.int 0, V.int 1, V.int 9, V.int 10, V.int 399, V.int 400]) := upd_same
          obtain ⟨lb, lg⟩ := B5.free nl
          refine ⟨_, rfl, b, g, 6, rfl, B5.same S6, by decide, by decide, fun i H7 i0 i6 B7 T7 => ?_⟩
          obtain ⟨n, n4, hn⟩ := six i0 i6
          refine ⟨l, _, i, .int (n : Int), rfl, rfl, SqL.of (T7 _ _ lb lg hl), hn, ?_⟩
          exact key n H7 ⟨n4, B7, ((T04.trans T5).trans (Stp.of S6)).trans T7⟩
        · exact key m' H5 ⟨by omega, B5, T04.trans T5⟩
      case rest =>
        rintro n H5 ⟨n4, B5, T5⟩
        refine ⟨_, rfl, _, rfl, b, g, rfl, B5, fun z H6 zr zn B6 T6 => ?_⟩
        refine ⟨_, rfl, by show 4 ≤ sizeLine; decide, fun q nq => ?_⟩
        exact hQ _ _ _ q (.cut nm z n nn zr zn n4) upd_same (B6.same (same_new (Same.refl _) nq)) ((T5.trans T6).trans (Stp.of (same_new (Same.refl _) nq)))
    refine ⟨_, rfl, rfl, _, rfl, ite2 (fun _ => ?_) (fun _ => ?_)⟩
    · refine ⟨by show 1 ≤ sizeLine; decide, fun q nq => ?_⟩
      exact hQ _ _ _ q .undo upd_same (B3.same (same_new (Same.refl _) nq)) (T03.trans (Stp.of (same_new (Same.refl _) nq)))
    refine ⟨_, rfl, rfl, _, rfl, ite2 (fun _ => ?_) (fun _ => ?_)⟩
    · refine ⟨by show 1 ≤ sizeLine; decide, fun q nq => ?_⟩
      exact hQ _ _ _ q .redo upd_same (B3.same (same_new (Same.refl _) nq)) (T03.trans (Stp.of (same_new (Same.refl _) nq)))
    refine ⟨_, rfl, rfl, _, rfl, ite2 (fun _ => ?_) (fun _ => ?_)⟩
    · refine ⟨_, rfl, by show 2 ≤ sizeLine; decide, fun q nq => ?_⟩
      exact hQ _ _ _ q (.dismiss nm nn) upd_same (B3.same (same_new (Same.refl _) nq)) (T03.trans (Stp.of (same_new (Same.refl _) nq)))
    refine ⟨_, rfl, b, g, 4, rfl, B3, by decide, by decide, fun j H4 _ _ B4 T4 => ?_⟩
    refine ⟨rfl, _, rfl, ite2 (fun _ => ?_) (fun _ => ?_)⟩
    · refine ⟨_, rfl, _, rfl, by show 3 ≤ sizeLine; decide, fun q nq => ?_⟩
      exact hQ _ _ _ q (.admit nm nm nn nn) upd_same (B4.same (same_new (Same.refl _) nq)) ((T03.trans T4).trans (Stp.of (same_new (Same.refl _) nq)))
    refine ⟨_, rfl, _, rfl, _, rfl, by show 1 ≤ sizeLine; decide, fun t nt => ?_⟩
    have S5 := same_new (o := .lst [V.str nm]) (Same.refl H4) nt
    have hl : (upd H4 t (.lst [V.str nm])) t = some (.lst (([nm] : List Str).map V.str)) := upd_same
    obtain ⟨lb, lg⟩ := B4.free nt
    have nlen : nm.length ≤ 100000 := by have := (name_tl nn).2.2; omega
    refine ⟨b, g, t, [nm], rfl, B4.same S5, hl, lb, lg, by simp, fun x hx => by rw [List.mem_singleton.mp hx]; exact name_in nn, fun x hx => by rw [List.mem_singleton.mp hx]; exact nlen, fun nm2 H6 nn2 B6 T6 => ?_⟩
    refine ⟨by show 3 ≤ sizeLine; decide, fun q nq => ?_⟩
    exact hQ _ _ _ q (.admit nm nm2 nn nn2) upd_same (B6.same (same_new (Same.refl _) nq)) (((((T03.trans T4).trans (Stp.of S5))).trans T6).trans (Stp.of (same_new (Same.refl _) nq)))
end
end K58
set_option Elab.async false
set_option linter.all false
set_option maxRecDepth 100000
set_option maxHeartbeats 4000000
namespace K58
open PySem PySem.Spec PyProof.Rows L2 TL
/-! _law_spoilt -/
/-- no percent sign, not long -/
def Ok (n : Nat) (z : Str) : Prop := 37 ∉ tl z ∧ z.length ≤ n
theorem Ok.app {n m : Nat} {a b : Str} (h : Ok n a) (k : Ok m b) : Ok (n + m) (a ++ b) := ⟨fun c => by
  rw [tl_append, List.mem_append] at c
  exact c.elim h.1 k.1, by rw [len_app]; exact Nat.add_le_add h.2 k.2⟩
theorem Ok.le {n m : Nat} {a : Str} (h : Ok n a) (l : n ≤ m) : Ok m a := ⟨h.1, Nat.le_trans h.2 l⟩
theorem Ok.small {n m : Nat} {a b : Str} (h : Ok n a) (k : Ok m b) (l : n + m ≤ 100000) : a.length + b.length ≤ sizeLine := by
  have := h.2
  have := k.2
  rw [sizeLine_eq]
  omega
theorem Ok.size {n : Nat} {a : Str} (h : Ok n a) (l : n ≤ 100000) : a.length ≤ sizeLine := by
  have := h.2
  rw [sizeLine_eq]
  omega
theorem cut_hd {n k : Nat} {z : Str} (h : Ok n z) : Ok (min k n) (cutS z none (some (k : Int))) := by
  refine ⟨fun c => h.1 (mem_cut c), ?_⟩
  rw [len_tl]
  show (((z.cps.toList.drop (HT.sIx z.length 0 none)).take (HT.sIx z.length z.length (some (k : Int)) - HT.sIx z.length 0 none))).length ≤ _
  rw [HT.sIx_nat, HT.sIx_none, List.length_take, List.length_drop]
  have := h.2
  omega
theorem cut_tl {n k : Nat} {z : Str} (h : Ok n z) : Ok (n - k) (cutS z (some (k : Int)) none) := by
  refine ⟨fun c => h.1 (mem_cut c), ?_⟩
  have e : (cutS z (some (k : Int)) none).length = z.length - min k z.length := by
    rw [len_tl]
    show (((z.cps.toList.drop (HT.sIx z.length 0 (some (k : Int)))).take (HT.sIx z.length z.length none - HT.sIx z.length 0 (some (k : Int))))).length = _
    rw [HT.sIx_nat, HT.sIx_none, List.length_take, List.length_drop]
    have : z.cps.toList.length = z.length := rfl
    rw [this]
    omega
  have := h.2
  omega
theorem cut_mid {n k : Nat} {z : Str} (h : Ok n z) : Ok 1 (cutS z (some (k : Int)) (some ((k : Int) + 1))) := by
  refine ⟨fun c => h.1 (mem_cut c), ?_⟩
  rw [len_tl]
  show (((z.cps.toList.drop (HT.sIx z.length 0 (some (k : Int)))).take (HT.sIx z.length z.length (some (((k + 1 : Nat)) : Int)) - HT.sIx z.length 0 (some (k : Int))))).length ≤ _
  rw [HT.sIx_nat, HT.sIx_nat, List.length_take, List.length_drop]
  omega
theorem cut_mid1 {n k : Nat} {z : Str} (h : Ok n z) : Ok 1 (cutS z (some ((k : Int) + 1)) (some ((k : Int) + 2))) := by
  have := cut_mid (k := k + 1) h
  have e1 : (((k + 1 : Nat)) : Int) = (k : Int) + 1 := by omega
  have e2 : (((k + 1 : Nat)) : Int) + 1 = (k : Int) + 2 := by omega
  rw [e2, e1] at this
  exact this
theorem cut_tl1 {n k : Nat} {z : Str} (h : Ok n z) : Ok (n - (k + 1)) (cutS z (some ((k : Int) + 1)) none) := cut_tl (k := k + 1) h
theorem cut_tl2 {n k : Nat} {z : Str} (h : Ok n z) : Ok (n - (k + 2)) (cutS z (some ((k : Int) + 2)) none) := cut_tl (k := k + 2) h
def spoS : Str := " 0014azAZ\n\t-+_.,"
theorem spo_ok : spoS.length = 16 ∧ ∀ c ∈ tl spoS, c ≠ 37 := by decide +kernel
def spSpoilt : Sp := fun vs H Q _ => ∃ (b g : Addr) (z : Str) (n : Nat), vs = [.ref b, .str z] ∧ Box H b g ∧ Ok n z ∧ n ≤ 900 ∧ ∀ y H', Ok (n + 2) y → Box H' b g → Stp b g H H' → Q (.str y) H'
section
variable {P : Program} {w : World} {K : PySem.W.Frag} {mg : Str → Option Value} {base : Heap}
theorem sc_l_spoilt : FnScope ["_law_box_here", "_law_line_here", "_law_spaces", "_law_place", "_law_sign", "_law_way", "_law_k"] ["_law_box_here", "_law_line_here"] (defScope s_l_spoilt) := ⟨rfl, rfl, rfl, by decide +kernel, rfl, by decide +kernel, by decide +kernel⟩
theorem ok_l_spoilt (T : Txt P K mg) : DefOk P w K mg base CX0 2 "_law_spoilt" ["_law_box_here", "_law_line_here"] spSpoilt := by
  obtain ⟨fd, F⟩ := T.d_l_spoilt
  have d_l_draw := ok_l_draw (P := P) (w := w) (base := base) T
  refine ⟨⟨fd, F.ok sc_l_spoilt (fun vs H Q E h => ?_) (fun cdv A outer s H vs Q E hr h => ?_), F.bindsN fun _ _ _ _ _ _ us hl => match us, hl with | [_, _], _ => rfl⟩, T.g_l_spoilt, F.kp⟩
  · obtain ⟨b, g, z, n, rfl, _⟩ := h
    rfl
  · obtain ⟨b, g, z, n, rfl, B, oz, n9, hQ⟩ := h
    refine ⟨_, PSs.nox (pss_cons (ps_setLc (i := 2) (own := [("_law_k", 6)]) (g := gName 6) rfl sc_l_spoilt.nd rfl rfl (sw_true rfl rfl rfl (by decide +kernel)) (pi_range1 rfl T.f_range (pa_cons (pe_callB call_len_str rfl T.f_len PySem.boot_len (pa_cons (pv 1) pa_nil)) pa_nil)) (blkOk_by (N := ["_law_box_here", "_law_line_here", "_law_spaces", "_law_place", "_law_sign", "_law_way", "_law_k"]) (sc := defScope s_l_spoilt) (by decide +kernel)) (fun _ _ _ _ _ => pg_name (i := 6) sc_l_spoilt.nd rfl (Or.inl rfl)) (fun _ _ _ _ _ => (pts_one (pt_cmpR op_eq (pe_ix ix_str (pv 1) (pv 6) (fun _ _ => rfl)) pe_str (nomark _)))) (fun _ _ _ _ _ => (pv 6)))
    (pss_cons (ps_set (i := 3) sc_l_spoilt.nd rfl (Or.inl rfl) (pe_D d_l_draw (hr.mono (by decide)) pass0 (pa_cons (pv 0) (pa_cons (pe_op op_add (pe_callB call_len_str rfl T.f_len PySem.boot_len (pa_cons (pv 1) pa_nil)) pe_int) pa_nil))))
    (pss_cons (ps_if (PW.pt (pw_and (pt_cmpR (op_neD hr.units) (pv 2) (pe_lst pa_nil) (nomark _)) (pw_and1 (pt_cmpR op_eq (pe_D d_l_draw (hr.mono (by decide)) pass0 (pa_cons (pv 0) (pa_cons pe_int pa_nil))) pe_int (nomark _)))))
      (pss_one (ps_set (i := 3) sc_l_spoilt.nd rfl (Or.inl rfl) (pe_op op_add (pe_ix ix_list (pv 2) (pe_D d_l_draw (hr.mono (by decide)) pass0 (pa_cons (pv 0) (pa_cons (pe_callB call_len_seq rfl T.f_len PySem.boot_len (pa_cons (pv 2) pa_nil)) pa_nil))) (fun _ _ => rfl)) (pe_D d_l_draw (hr.mono (by decide)) pass0 (pa_cons (pv 0) (pa_cons pe_int pa_nil))))))
      pss_nil)
    (pss_cons (ps_set (i := 4) sc_l_spoilt.nd rfl (Or.inl rfl) (pe_ix ix_str pe_str (pe_D d_l_draw (hr.mono (by decide)) pass0 (pa_cons (pv 0) (pa_cons pe_int pa_nil))) (fun _ _ => rfl)))
    (pss_cons (ps_set (i := 5) sc_l_spoilt.nd rfl (Or.inl rfl) (pe_D d_l_draw (hr.mono (by decide)) pass0 (pa_cons (pv 0) (pa_cons pe_int pa_nil))))
    (pss_cons (ps_if (pt_cmpR op_eq (pv 5) pe_int (nomark _))
      (pss_one (ps_ret (pe_op op_add_str (pe_op op_add_str (pe_slice sl_str (pv 1) po_none (po_some (pv 3))) (pv 4)) (pe_slice sl_str (pv 1) (po_some (pv 3)) po_none))))
      pss_nil)
    (pss_cons (ps_if (pt_cmpR op_eq (pv 5) pe_int (nomark _))
      (pss_one (ps_ret (pe_op op_add_str (pe_slice sl_str (pv 1) po_none (po_some (pv 3))) (pe_slice sl_str (pv 1) (po_some (pe_op op_add (pv 3) pe_int)) po_none))))
      pss_nil)
    (pss_cons (ps_if (pt_cmpR op_eq (pv 5) pe_int (nomark _))
      (pss_one (ps_ret (pe_op op_add_str (pe_op op_add_str (pe_slice sl_str (pv 1) po_none (po_some (pv 3))) (pv 4)) (pe_slice sl_str (pv 1) (po_some (pe_op op_add (pv 3) pe_int)) po_none))))
      pss_nil)
    (pss_cons (ps_if (pt_cmpR op_eq (pv 5) pe_int (nomark _))
      (pss_one (ps_ret (pe_op op_add_str (pe_op op_add_str (pe_slice sl_str (pv 1) po_none (po_some (pv 3))) (pe_slice sl_str (pv 1) (po_some (pv 3)) (po_some (pe_op op_add (pv 3) pe_int)))) (pe_slice sl_str (pv 1) (po_some (pv 3)) po_none))))
      pss_nil)
    (pss_cons (ps_if (pt_cmpR op_eq (pv 5) pe_int (nomark _))
      (pss_one (ps_ret (pe_op op_add_str (pe_op op_add_str (pe_op op_add_str (pe_slice sl_str (pv 1) po_none (po_some (pv 3))) (pe_slice sl_str (pv 1) (po_some (pe_op op_add (pv 3) pe_int)) (po_some (pe_op op_add (pv 3) pe_int)))) (pe_slice sl_str (pv 1) (po_some (pv 3)) (po_some (pe_op op_add (pv 3) pe_int)))) (pe_slice sl_str (pv 1) (po_some (pe_op op_add (pv 3) pe_int)) po_none))))
      pss_nil)
    (pss_one (ps_ret (pe_slice sl_str (pv 1) po_none (po_some (pv 3))))))))))))))), ?_⟩
    have zs : z.length ≤ sizeLine := oz.size (by omega)
    have zl : z.length ≤ 900 := by have := oz.2; omega
    refine ⟨_, rfl, z, rfl, zs, _, rfl, by omega, by omega, fun d nd => ?_⟩
    obtain ⟨db, dg⟩ := B.free nd
    refine lc_range (lo := 0) (n := ((z.length : Nat) : Int).toNat) (fun i Hc => Same H Hc ∧ ∃ l : List Int, l.length ≤ i ∧ (∀ x ∈ l, 0 ≤ x) ∧ Hc d = some (.lst (l.map V.int))) ⟨same_new (Same.refl H) nd, [], Nat.le_refl _, by simp, upd_same⟩ ?_ ?_
    · rintro i Hc hi ⟨sc, l, ll, lx, hc⟩
      obtain ⟨c, hcc, _⟩ := at_sign (S := z) (i := 0 + (i : Int)) (by omega) (by omega)
      refine ⟨rfl, ?_⟩
      refine ⟨_, rfl, _, rfl, z, _, c, rfl, rfl, zs, hcc, rfl, _, rfl, ite2 (fun _ => ?_) (fun _ => ?_)⟩
      · refine ⟨_, rfl, _, hc, by rw [List.length_map, sizeLine_eq]; omega, same_upd sc nd, l ++ [0 + (i : Int)], by rw [List.length_append, List.length_singleton]; omega, ?_, ?_⟩
        · intro x hx
          rw [List.mem_append, List.mem_singleton] at hx
          rcases hx with hx | hx
          · exact lx x hx
          · omega
        · rw [upd_same, List.map_append]
          rfl
      · exact ⟨sc, l, by omega, lx, hc⟩
    rintro H1 ⟨s1, l, ll, lx, hd⟩
    have ll9 : l.length ≤ 900 := by omega
    clear ll
    have B1 := B.same s1
    have T1 := Stp.of (b := b) (g := g) s1
    refine ⟨_, rfl, _, rfl, z, rfl, zs, _, _, rfl, rfl, b, g, _, rfl, B1, by omega, by omega, fun pl H2 p0 p1 B2 T2 => ?_⟩
    have hd2 := T2 _ _ db dg hd
    have T02 := T1.trans T2
    clear T1 T2 s1 B1 B hd nd
    obtain ⟨pk, rfl⟩ := Int.eq_ofNat_of_zero_le p0
    refine' with_restN (A := fun k Hc => Box Hc b g ∧ Stp b g H Hc) (fun key => ?main) ?rest
    case main =>
      refine ⟨_, rfl, by show 0 ≤ sizeLine; decide, fun p np => ?_⟩
      obtain ⟨ds, d1, d2, d3⟩ := ints_data (K := K) l
      have S3 : Same H2 (upd H2 p (.lst [])) := same_new (Same.refl H2) np
      have hp : (upd H2 p (.lst [])) p = some (.lst []) := upd_same
      generalize upd H2 p (.lst []) = H3 at S3 hp ⊢
      have hd3 := S3 _ _ hd2
      have B3 := B2.same S3
      have T03 := T02.trans (Stp.of (b := b) (g := g) S3)
      refine ⟨_, _, .lst (SqL.of hd3) (d1 H3), .lst (SqL.of hp) .nil, d2, nil_shaped, _, rfl, ?_⟩
      rw [d3]
      refine ite2 (fun e0 => ?_) (fun e0 => ?_)
      · have n0 : l ≠ [] := fun z => by rw [decide_eq_true z] at e0; cases e0
        have l0 : 1 ≤ l.length := List.length_pos_iff.mpr n0
        refine ⟨_, rfl, b, g, 2, rfl, B3, by decide, by decide, fun i H4 _ _ B4 T4 => ?_⟩
        have hd4 := T4 _ _ db dg hd3
        refine ⟨rfl, _, rfl, ite2 (fun _ => ?_) (fun _ => ?_)⟩
        · refine ⟨_, rfl, _, rfl, _, rfl, d, _, rfl, .inl (SqL.of hd4), b, g, _, rfl, B4, by rw [List.length_map]; omega, by rw [List.length_map]; omega, fun j H5 j0 j1 B5 T5 => ?_⟩
          have hd5 := T5 _ _ db dg hd4
          have hj : j.toNat < l.length := by rw [List.length_map] at j1; omega
          have hx : atI (l.map V.int) j = some (.int l[j.toNat]) := by
            have k : (l.map V.int)[j.toNat]? = some (.int l[j.toNat]) := by rw [List.getElem?_map, List.getElem?_eq_getElem hj]; rfl
            have k2 := atI_nat k
            rwa [Int.toNat_of_nonneg j0] at k2
          have x0 : 0 ≤ l[j.toNat] := lx _ (List.getElem_mem hj)
          generalize l[j.toNat] = x at hx x0
          refine ⟨d, _, j, .int x, rfl, rfl, SqL.of hd5, hx, ?_⟩
          refine ⟨_, rfl, b, g, 2, rfl, B5, by decide, by decide, fun y H6 y0 _ B6 T6 => ?_⟩
          refine ⟨_, _, rfl, rfl, ?_⟩
          have q0 : ((x + y).toNat : Int) = x + y := Int.toNat_of_nonneg (by omega)
          generalize (x + y).toNat = k at q0
          show gName 3 (V.int (x + y)) _ _ _
          rw [← q0]
          exact key k H6 ⟨B6, ((T03.trans T4).trans T5).trans T6⟩
        · exact key pk H4 ⟨B4, T03.trans T4⟩
      · refine iteF ?_
        exact key pk H3 ⟨B3, T03⟩
    case rest =>
      clear p0 p1 B2 T02 hd2
      rintro k H1 ⟨B1, T1⟩
      refine ⟨_, rfl, b, g, 16, rfl, B1, by decide, by decide, fun i H2 i0 i1 B2 T2 => ?_⟩
      obtain ⟨c, hc, hcm⟩ := at_sign (S := spoS) i0 (by rw [spo_ok.1]; exact i1)
      have os : Ok 1 ⟨#[c]⟩ := ⟨fun m => spo_ok.2 c hcm (List.mem_singleton.mp m).symm, Nat.le_refl _⟩
      refine ⟨spoS, i, c, rfl, rfl, by rw [spo_ok.1, sizeLine_eq]; omega, hc, ?_⟩
      refine ⟨_, rfl, b, g, 6, rfl, B2, by decide, by decide, fun y H3 _ _ B3 T3 => ?_⟩
      have T03 := (T1.trans T2).trans T3
      clear T1 T2 T3 B1 B2
      have o1 := cut_hd (k := k) oz
      have o2 := cut_tl (k := k) oz
      have o3 := cut_tl1 (k := k) oz
      have o4 := cut_mid (k := k) oz
      have o5 := cut_mid1 (k := k) oz
      have o6 := cut_tl2 (k := k) oz
      refine ⟨_, rfl, rfl, _, rfl, ite2 (fun _ => ?_) (fun _ => ?_)⟩
      · refine ⟨_, rfl, _, rfl, _, rfl, z, rfl, zs, _, rfl, _, _, rfl, rfl, o1.small os (by omega), _, rfl, _, rfl, _, rfl, z, rfl, zs, _, _, rfl, rfl, (o1.app os).small o2 (by omega), ?_⟩
        exact hQ _ _ (((o1.app os).app o2).le (by omega)) B3 T03
      refine ⟨_, rfl, rfl, _, rfl, ite2 (fun _ => ?_) (fun _ => ?_)⟩
      · refine ⟨_, rfl, _, rfl, _, rfl, z, rfl, zs, _, rfl, _, rfl, _, _, rfl, rfl, _, rfl, z, rfl, zs, _, _, rfl, rfl, o1.small o3 (by omega), ?_⟩
        exact hQ _ _ ((o1.app o3).le (by omega)) B3 T03
      refine ⟨_, rfl, rfl, _, rfl, ite2 (fun _ => ?_) (fun _ => ?_)⟩
      · refine ⟨_, rfl, _, rfl, _, rfl, z, rfl, zs, _, rfl, _, _, rfl, rfl, o1.small os (by omega), _, rfl, _, rfl, _, _, rfl, rfl, _, rfl, z, rfl, zs, _, _, rfl, rfl, (o1.app os).small o3 (by omega), ?_⟩
        exact hQ _ _ (((o1.app os).app o3).le (by omega)) B3 T03
      refine ⟨_, rfl, rfl, _, rfl, ite2 (fun _ => ?_) (fun _ => ?_)⟩
      · refine ⟨_, rfl, _, rfl, _, rfl, z, rfl, zs, _, rfl, _, rfl, _, rfl, _, rfl, _, _, rfl, rfl, _, rfl, z, rfl, zs, _, _, rfl, rfl, o1.small o4 (by omega), _, rfl, _, rfl, _, rfl, z, rfl, zs, _, _, rfl, rfl, (o1.app o4).small o2 (by omega), ?_⟩
        exact hQ _ _ (((o1.app o4).app o2).le (by omega)) B3 T03
      refine ⟨_, rfl, rfl, _, rfl, ite2 (fun _ => ?_) (fun _ => ?_)⟩
      · refine ⟨_, rfl, _, rfl, _, rfl, z, rfl, zs, _, rfl, _, rfl, _, _, rfl, rfl, _, rfl, _, rfl, _, _, rfl, rfl, _, rfl, z, rfl, zs, _, _, rfl, rfl, o1.small o5 (by omega), ?_⟩
        refine ⟨_, rfl, _, rfl, _, rfl, _, rfl, _, _, rfl, rfl, _, rfl, z, rfl, zs, _, _, rfl, rfl, (o1.app o5).small o4 (by omega), ?_⟩
        refine ⟨_, rfl, _, rfl, _, _, rfl, rfl, _, rfl, z, rfl, zs, _, _, rfl, rfl, ((o1.app o5).app o4).small o6 (by omega), ?_⟩
        exact hQ _ _ ((((o1.app o5).app o4).app o6).le (by omega)) B3 T03
      · refine ⟨_, rfl, _, rfl, _, rfl, z, rfl, zs, ?_⟩
        exact hQ _ _ (o1.le (by omega)) B3 T03
end
end K58
set_option Elab.async false
set_option linter.all false
set_option maxRecDepth 100000
set_option maxHeartbeats 4000000
namespace K58
open PySem PySem.Spec PyProof.Rows L2 TL
/-! _law_odd_line -/
def okB (z : Str) : Bool := decide (37 ∉ tl z) && decide (z.length ≤ 12)
theorem okL {z : Str} (h : okB z = true) : Ok 12 z := by
  unfold okB at h
  rw [Bool.and_eq_true, decide_eq_true_eq, decide_eq_true_eq] at h
  exact h
def RowsOk (xs : List V) : Prop := ∀ v ∈ xs, ∃ z, v = .str z ∧ Ok 1000 z
theorem RowsOk.nil : RowsOk [] := fun _ h => by cases h
theorem RowsOk.cons {z : Str} {xs : List V} {n : Nat} (h : Ok n z) (l : n ≤ 1000) (k : RowsOk xs) : RowsOk (.str z :: xs) := fun v hv => by
  rcases List.mem_cons.mp hv with e | e
  · exact ⟨z, e, h.le l⟩
  · exact k v e
theorem RowsOk.app {xs ys : List V} (h : RowsOk xs) (k : RowsOk ys) : RowsOk (xs ++ ys) := fun v hv => (List.mem_append.mp hv).elim (h v) (k v)
theorem RowsOk.at {xs : List V} (h : RowsOk xs) {i : Int} (i0 : 0 ≤ i) (i1 : i < (xs.length : Nat)) : ∃ z, atI xs i = some (.str z) ∧ Ok 1000 z := by
  have hl : i.toNat < xs.length := by omega
  obtain ⟨z, e, o⟩ := h xs[i.toNat] (List.getElem_mem hl)
  have k : xs[i.toNat]? = some (.str z) := by rw [List.getElem?_eq_getElem hl, e]
  have k2 := atI_nat k
  rw [Int.toNat_of_nonneg i0] at k2
  exact ⟨z, k2, o⟩
theorem rep_ok {z : Str} (h : 37 ∉ tl z) : Ok 201 (cutS (repS z 201) none (some 201)) := by
  refine ⟨fun c => ?_, cut_le (by decide)⟩
  have m := mem_cut c
  rw [tl_rep, List.mem_flatten] at m
  obtain ⟨l, hl, hc⟩ := m
  rw [(List.mem_replicate.mp hl).2] at hc
  exact h hc
theorem rep_len {z : Str} (h : z.length ≤ 1000) : (repS z 201).length ≤ sizeLine := by
  rw [len_tl, tl_rep, List.length_flatten, List.map_replicate, List.sum_replicate_nat, ← len_tl, sizeLine_eq]
  omega
theorem up_ok {z : Str} (h : nameB z = true) : Ok 8 (Txt.upper z) := by
  obtain ⟨h1, _, h8⟩ := name_tl h
  have small : ∀ c ∈ tl letS, c < 128 ∧ up1 c ≠ 37 := by decide +kernel
  rw [upper_ascii (x := z) fun c hc => (small c (h1 c hc)).1]
  constructor
  · intro m
    have m2 : 37 ∈ (tl z).map up1 := by
      have e : tl (⟨z.cps.map up1⟩ : Str) = (tl z).map up1 := Array.toList_map
      rw [← e]; exact m
    obtain ⟨c, hc, e⟩ := List.mem_map.mp m2
    exact (small c (h1 c hc)).2 e
  · show (z.cps.map up1).size ≤ 8
    rw [Array.size_map]
    exact h8
theorem great_ok {n : Nat} (h : n < 10 ^ 30) : Ok 31 (Str.ofString (toString ((n : Nat) : Int))) ∧ ((n : Nat) : Int).natAbs.log2 < 1920 := by
  refine ⟨⟨num_free (n := n) (.inl (by decide)), ?_⟩, ?_⟩
  · have k := numL_len (n := n) (k := 30) (by decide) h
    have e : (numS n).length ≤ 30 := by rw [len_tl, tl_numS]; exact k
    exact Nat.le_trans e (by decide)
  · rw [Int.natAbs_natCast]
    by_cases h0 : n = 0
    · subst h0; decide
    · exact Nat.lt_trans ((Nat.log2_lt h0).mpr (show n < 2 ^ 100 from Nat.lt_of_lt_of_le h (by decide))) (by decide)
theorem sizes {i : Int} (h0 : 0 ≤ i) (h4 : i < 4) : ∃ m : Int, 0 < m ∧ m ≤ 10 ^ 29 ∧ atI [V.int 10, V.int 100, V.int 1000, V.int (10 ^ (29 : Int).toNat)] i = some (.int m) := by
  obtain ⟨j, rfl⟩ := Int.eq_ofNat_of_zero_le h0
  match j, h4 with
  | 0, _ => exact ⟨10, by decide, by decide, rfl⟩
  | 1, _ => exact ⟨100, by decide, by decide, rfl⟩
  | 2, _ => exact ⟨1000, by decide, by decide, rfl⟩
  | 3, _ => exact ⟨10 ^ 29, by decide, by decide, rfl⟩
  | j + 4, h => omega
def spOdd : Sp := fun vs H Q _ => ∃ (b g : Addr), vs = [.ref b] ∧ Box H b g ∧ ∀ z H', Ok 1000 z → Box H' b g → Stp b g H H' → Q (.str z) H'
theorem dig_len : digS.length = 10 := by decide +kernel
section
variable {P : Program} {w : World} {K : PySem.W.Frag} {mg : Str → Option Value} {base : Heap}
theorem sc_l_odd_line : FnScope ["_law_box_here", "_law_name_here", "_law_other", "_law_text_here", "_law_digit", "_law_great", "_law_cut", "_law_rows", "_law_pair"] ["_law_box_here"] (defScope s_l_odd_line) := ⟨rfl, rfl, rfl, by decide +kernel, rfl, by decide +kernel, by decide +kernel⟩
theorem ok_l_odd_line (T : Txt P K mg) : DefOk P w K mg base CX0 3 "_law_odd_line" ["_law_box_here"] spOdd := by
  obtain ⟨fd, F⟩ := T.d_l_odd_line
  have d_l_draw := ok_l_draw (P := P) (w := w) (base := base) T
  have d_l_name := ok_l_name (P := P) (w := w) (base := base) T
  have d_l_text := ok_l_text (P := P) (w := w) (base := base) T
  refine ⟨⟨fd, F.ok sc_l_odd_line (fun vs H Q E h => ?_) (fun cdv A outer s H vs Q E hr h => ?_), F.bindsN fun _ _ _ _ _ _ us hl => match us, hl with | [_], _ => rfl⟩, T.g_l_odd_line, F.kp⟩
  · obtain ⟨b, g, rfl, _⟩ := h
    rfl
  · obtain ⟨b, g, rfl, B, hQ⟩ := h
    refine ⟨_, PSs.nox (pss_cons (ps_set (i := 1) sc_l_odd_line.nd rfl (Or.inl rfl) (pe_D d_l_name (hr.mono (by decide)) pass0 (pa_cons (pv 0) (pa_cons (pe_lst pa_nil) pa_nil))))
    (pss_cons (ps_set (i := 2) sc_l_odd_line.nd rfl (Or.inl rfl) (pe_D d_l_name (hr.mono (by decide)) pass0 (pa_cons (pv 0) (pa_cons (pe_lst pa_nil) pa_nil))))
    (pss_cons (ps_set (i := 3) sc_l_odd_line.nd rfl (Or.inl rfl) (pe_D d_l_text (hr.mono (by decide)) pass0 (pa_cons (pv 0) pa_nil)))
    (pss_cons (ps_set (i := 4) sc_l_odd_line.nd rfl (Or.inl rfl) (pe_ix ix_str pe_str (pe_D d_l_draw (hr.mono (by decide)) pass0 (pa_cons (pv 0) (pa_cons pe_int pa_nil))) (fun _ _ => rfl)))
    (pss_cons (ps_set (i := 5) sc_l_odd_line.nd rfl (Or.inl rfl) (pe_callTy call_str_int rfl T.f_str (by decide +kernel) (pa_cons (pe_op op_add pe_int (pe_D d_l_draw (hr.mono (by decide)) pass0 (pa_cons (pv 0) (pa_cons (pe_ix ix_list (pe_lst (pa_cons pe_int (pa_cons pe_int (pa_cons pe_int (pa_cons (pe_op op_pow pe_int pe_int) pa_nil))))) (pe_D d_l_draw (hr.mono (by decide)) pass0 (pa_cons (pv 0) (pa_cons pe_int pa_nil))) (fun _ _ => rfl)) pa_nil)))) pa_nil)))
    (pss_cons (ps_set (i := 6) sc_l_odd_line.nd rfl (Or.inl rfl) (pe_op op_add_str (pe_op op_add_str pe_str (pv 1)) pe_str))
    (pss_cons (ps_set (i := 7) sc_l_odd_line.nd rfl (Or.inl rfl) (pe_lst (pa_cons pe_str (pa_cons pe_str (pa_cons (pe_op op_add_str pe_str (pv 1)) (pa_cons (pe_op op_add_str (pe_op op_add_str (pe_op op_add_str pe_str (pv 1)) pe_str) (pv 3)) (pa_cons (pe_op op_add_str (pe_op op_add_str (pe_op op_add_str pe_str (pv 1)) pe_str) (pv 3)) pa_nil)))))))
    (pss_cons (ps_set (i := 7) sc_l_odd_line.nd rfl (Or.inl rfl) (pe_op op_cat (pv 7) (pe_lst (pa_cons (pe_op op_add_str (pe_op op_add_str (pe_op op_add_str pe_str (pv 1)) pe_str) (pv 3)) (pa_cons (pe_op op_add_str (pe_op op_add_str (pe_op op_add_str pe_str (pv 1)) pe_str) (pe_slice sl_str (pe_op op_mulS (pe_op op_add_str (pv 3) pe_str) pe_int) po_none (po_some pe_int))) pa_nil)))))
    (pss_cons (ps_set (i := 7) sc_l_odd_line.nd rfl (Or.inl rfl) (pe_op op_cat (pv 7) (pe_lst (pa_cons (pe_op op_add_str (pe_op op_add_str (pe_op op_add_str pe_str (pv 1)) pe_str) (pv 3)) (pa_cons (pe_op op_add_str (pe_op op_add_str (pe_op op_add_str pe_str (pe_upper (pv 1))) pe_str) (pv 3)) pa_nil)))))
    (pss_cons (ps_set (i := 7) sc_l_odd_line.nd rfl (Or.inl rfl) (pe_op op_cat (pv 7) (pe_lst (pa_cons pe_str (pa_cons (pv 6) (pa_cons (pe_op op_add_str (pv 6) (pv 4)) (pa_cons (pe_op op_add_str (pe_op op_add_str (pe_op op_add_str (pe_op op_add_str (pv 6) pe_str) (pv 4)) pe_str) (pv 3)) (pa_cons (pe_op op_add_str (pe_op op_add_str (pe_op op_add_str (pv 6) (pv 4)) pe_str) (pv 3)) pa_nil))))))))
    (pss_cons (ps_set (i := 7) sc_l_odd_line.nd rfl (Or.inl rfl) (pe_op op_cat (pv 7) (pe_lst (pa_cons (pe_op op_add_str (pe_op op_add_str (pe_op op_add_str (pe_op op_add_str (pv 6) pe_str) (pv 4)) pe_str) (pv 3)) (pa_cons (pe_op op_add_str (pe_op op_add_str (pe_op op_add_str (pv 6) (pv 5)) pe_str) (pv 3)) (pa_cons (pe_op op_add_str (pe_op op_add_str (pe_op op_add_str (pe_op op_add_str (pv 6) pe_str) (pv 4)) pe_str) (pv 3)) pa_nil))))))
    (pss_cons (ps_set (i := 7) sc_l_odd_line.nd rfl (Or.inl rfl) (pe_op op_cat (pv 7) (pe_lst (pa_cons (pe_op op_add_str (pe_op op_add_str (pe_op op_add_str (pe_op op_add_str (pv 6) pe_str) (pv 4)) pe_str) (pv 3)) (pa_cons (pe_op op_add_str (pe_op op_add_str (pe_op op_add_str (pv 6) (pv 4)) pe_str) (pv 3)) (pa_cons (pe_op op_add_str (pe_op op_add_str (pe_op op_add_str (pv 6) (pv 3)) pe_str) (pv 4)) pa_nil))))))
    (pss_cons (ps_set (i := 8) sc_l_odd_line.nd rfl (Or.inl rfl) (pe_op op_add_str (pe_op op_add_str (pe_op op_add_str pe_str (pv 1)) pe_str) (pv 2)))
    (pss_cons (ps_set (i := 7) sc_l_odd_line.nd rfl (Or.inl rfl) (pe_op op_cat (pv 7) (pe_lst (pa_cons pe_str (pa_cons (pe_op op_add_str pe_str (pv 1)) (pa_cons (pe_op op_add_str (pv 8) pe_str) (pa_cons (pe_op op_add_str (pe_op op_add_str (pe_op op_add_str pe_str (pv 1)) pe_str) (pv 2)) (pa_cons (pe_op op_add_str (pe_op op_add_str (pv 8) pe_str) (pv 1)) pa_nil))))))))
    (pss_cons (ps_set (i := 7) sc_l_odd_line.nd rfl (Or.inl rfl) (pe_op op_cat (pv 7) (pe_lst (pa_cons pe_str (pa_cons (pe_op op_add_str (pe_op op_add_str pe_str (pv 1)) pe_str) (pa_cons (pe_op op_add_str (pe_op op_add_str (pe_op op_add_str pe_str (pv 1)) pe_str) (pv 2)) (pa_cons pe_str (pa_cons pe_str (pa_cons pe_str pa_nil)))))))))
    (pss_cons (ps_set (i := 7) sc_l_odd_line.nd rfl (Or.inl rfl) (pe_op op_cat (pv 7) (pe_lst (pa_cons (pe_op op_add_str (pe_op op_add_str (pv 1) pe_str) (pv 3)) (pa_cons pe_str (pa_cons (pe_op op_add_str (pe_op op_add_str pe_str (pv 1)) pe_str) (pa_cons (pe_op op_add_str (pv 8) pe_str) pa_nil)))))))
    (pss_one (ps_ret (pe_ix ix_list (pv 7) (pe_D d_l_draw (hr.mono (by decide)) pass0 (pa_cons (pv 0) (pa_cons (pe_callB call_len_seq rfl T.f_len PySem.boot_len (pa_cons (pv 7) pa_nil)) pa_nil))) (fun _ _ => rfl)))))))))))))))))))), ?_⟩
    refine ⟨_, rfl, by show 0 ≤ sizeLine; decide, fun q1 nq1 => ?_⟩
    have S1 : Same H (upd H q1 (.lst [])) := same_new (Same.refl _) nq1
    have hq1 : (upd H q1 (.lst [])) q1 = some (.lst (([] : List Str).map V.str)) := upd_same
    obtain ⟨e1, e2⟩ := B.free nq1
    generalize upd H q1 (.lst []) = H1 at S1 hq1 ⊢
    refine ⟨b, g, q1, [], rfl, B.same S1, hq1, e1, e2, by simp, by simp, by simp, fun nm H2 nn B2 T2 => ?_⟩
    have T02 := (Stp.of (b := b) (g := g) S1).trans T2
    clear S1 hq1 e1 e2 T2 nq1
    refine ⟨_, rfl, by show 0 ≤ sizeLine; decide, fun q1 nq1 => ?_⟩
    have S1 : Same H2 (upd H2 q1 (.lst [])) := same_new (Same.refl _) nq1
    have hq1 : (upd H2 q1 (.lst [])) q1 = some (.lst (([] : List Str).map V.str)) := upd_same
    obtain ⟨e1, e2⟩ := B2.free nq1
    generalize upd H2 q1 (.lst []) = H1 at S1 hq1 ⊢
    refine ⟨b, g, q1, [], rfl, B2.same S1, hq1, e1, e2, by simp, by simp, by simp, fun ot H3 no B3 T3 => ?_⟩
    have T03 := (T02.trans (Stp.of (b := b) (g := g) S1)).trans T3
    clear S1 hq1 e1 e2 T3 nq1 B2 T02
    refine ⟨_, rfl, b, g, rfl, B3, fun tx H4 rt nt B4 T4 => ?_⟩
    have T04 := T03.trans T4
    clear B3 T03 T4
    refine ⟨_, rfl, b, g, 10, rfl, B4, by decide, by decide, fun i H5 i0 i1 B5 T5 => ?_⟩
    have T05 := T04.trans T5
    clear B4 T04 T5
    obtain ⟨c, hc, hcm⟩ := at_sign (S := digS) i0 (by rw [dig_len]; exact i1)
    refine ⟨digS, i, c, rfl, rfl, by rw [dig_len, sizeLine_eq]; omega, hc, ?_⟩
    have o4 : Ok 1 ⟨#[c]⟩ := ⟨fun m => dig_37 (by rw [List.mem_singleton.mp m]; exact hcm), Nat.le_refl _⟩
    generalize (⟨#[c]⟩ : Str) = dg at o4 ⊢
    clear hc hcm
    -- str(401 + draw(..))
    refine ⟨_, rfl, 10, 29, rfl, rfl, ⟨by decide, by decide, by decide⟩, by show 4 ≤ sizeLine; decide, fun l nl => ?_⟩
    have S1 := same_new (o := .lst [V.int 10, V.int 100, V.int 1000, V.int (10 ^ (29 : Int).toNat)]) (Same.refl H5) nl
    have hl : (upd H5 l (.lst [V.int 10, V.int 100, V.int 1000, V.int (10 ^ (29 : Int).toNat)])) l = some (.lst [V.int 10, V.int 100, V.int 1000, V.int (10 ^ (29 : Int).toNat)]) := upd_same
    obtain ⟨e1, e2⟩ := B5.free nl
    generalize upd H5 l (.lst [V.int 10, V.int 100, V.int 1000, V.int (10 ^ (29 : Int).toNat)]) = H1 at S1 hl ⊢
    refine ⟨_, rfl, b, g, 4, rfl, B5.same S1, by decide, by decide, fun j H7 j0 j4 B7 T7 => ?_⟩
    obtain ⟨m, m0, m29, hm⟩ := sizes j0 j4
    refine ⟨l, _, j, .int m, rfl, rfl, SqL.of (T7 _ _ e1 e2 hl), hm, ?_⟩
    refine ⟨b, g, m, rfl, B7, m0, Nat.lt_of_le_of_lt (show m.natAbs ≤ 10 ^ 29 by omega) (by decide), fun y H6 y0 y1 B6 T6' => ?_⟩
    have T6 := ((T05.trans (Stp.of (b := b) (g := g) S1)).trans T7).trans T6'
    obtain ⟨n, rfl⟩ := Int.eq_ofNat_of_zero_le y0
    have e401 : (401 : Int) + (n : Int) = ((401 + n : Nat) : Int) := by omega
    obtain ⟨o5, lg⟩ := great_ok (n := 401 + n) (by omega)
    rw [← e401] at o5 lg
    refine ⟨_, _, rfl, rfl, _, rfl, lg, ?_⟩
    generalize (Str.ofString (toString ((401 : Int) + (n : Int)))) = gt at o5 ⊢
    clear lg e401 y1 B5 T05 S1 hl nl e1 e2 hm m29 m0 B7 T7 T6'
    have o1 : Ok 8 nm := ⟨name_37 nn, (name_tl nn).2.2⟩
    have o2 : Ok 8 ot := ⟨name_37 no, (name_tl no).2.2⟩
    have o3 : Ok 200 tx := ⟨nt, rec_len rt⟩
    have oU := up_ok nn
    have ul : nm.length ≤ 5592405 := by have := o1.2; omega
    have ox : Ok 212 (tx ++ "x") := o3.app (okL (by decide +kernel))
    have px : 1 ≤ (tx ++ "x").length ∧ (tx ++ "x").length ≤ 1000 := by
      have e : ("x" : Str).length = 1 := by decide +kernel
      have := o3.2
      rw [len_app, e]
      omega
    have rl := rep_len px.2
    have oR := rep_ok ox.1
    change tSeq _ _ _ [some (.ref b), some (.str nm), some (.str ot), some (.str tx), some (.str dg), some (.str gt), none, none, none] H6
    refine ⟨_, rfl, _, _, rfl, rfl, Ok.small (okL (by decide +kernel)) o1 (by decide), _, _, rfl, rfl, Ok.small (Ok.app (okL (by decide +kernel)) o1) (okL (by decide +kernel)) (by decide), ?_⟩
    have o6 : Ok 50 (((("cut " : Str) ++ nm) ++ (" " : Str))) := (Ok.app (Ok.app (okL (by decide +kernel)) o1) (okL (by decide +kernel))).le (by decide)
    generalize (((("cut " : Str) ++ nm) ++ (" " : Str)) : Str) = ct at o6 ⊢
    change tSeq _ _ _ [some (.ref b), some (.str nm), some (.str ot), some (.str tx), some (.str dg), some (.str gt), some (.str ct), none, none] H6
    refine ⟨_, rfl, _, _, rfl, rfl, Ok.small (okL (by decide +kernel)) o1 (by decide), _, rfl, _, _, rfl, rfl, Ok.small (okL (by decide +kernel)) o1 (by decide), _, _, rfl, rfl, Ok.small (Ok.app (okL (by decide +kernel)) o1) (okL (by decide +kernel)) (by decide), _, rfl, _, _, rfl, rfl, Ok.small (Ok.app (Ok.app (okL (by decide +kernel)) o1) (okL (by decide +kernel))) o3 (by decide), _, rfl, _, _, rfl, rfl, Ok.small (okL (by decide +kernel)) o1 (by decide), _, _, rfl, rfl, Ok.small (Ok.app (okL (by decide +kernel)) o1) (okL (by decide +kernel)) (by decide), _, rfl, _, _, rfl, rfl, Ok.small (Ok.app (Ok.app (okL (by decide +kernel)) o1) (okL (by decide +kernel))) o3 (by decide), by show 5 ≤ sizeLine; decide, fun p0 np0 => ?_⟩
    have ok_ : RowsOk ([V.str ("write" : Str), V.str ("write " : Str), V.str (("write " : Str) ++ nm), V.str (((("write  " : Str) ++ nm) ++ (" " : Str)) ++ tx), V.str ((((" write " : Str) ++ nm) ++ (" " : Str)) ++ tx)]) := (RowsOk.cons (okL (by decide +kernel)) (by decide) (RowsOk.cons (okL (by decide +kernel)) (by decide) (RowsOk.cons (Ok.app (okL (by decide +kernel)) o1) (by decide) (RowsOk.cons (Ok.app (Ok.app (Ok.app (okL (by decide +kernel)) o1) (okL (by decide +kernel))) o3) (by decide) (RowsOk.cons (Ok.app (Ok.app (Ok.app (okL (by decide +kernel)) o1) (okL (by decide +kernel))) o3) (by decide) RowsOk.nil)))))
    have ln_ : ([V.str ("write" : Str), V.str ("write " : Str), V.str (("write " : Str) ++ nm), V.str (((("write  " : Str) ++ nm) ++ (" " : Str)) ++ tx), V.str ((((" write " : Str) ++ nm) ++ (" " : Str)) ++ tx)]).length ≤ 5 ∧ 1 ≤ ([V.str ("write" : Str), V.str ("write " : Str), V.str (("write " : Str) ++ nm), V.str (((("write  " : Str) ++ nm) ++ (" " : Str)) ++ tx), V.str ((((" write " : Str) ++ nm) ++ (" " : Str)) ++ tx)]).length := ⟨(Nat.le_refl 5 : 5 ≤ 5), (by decide : 1 ≤ 5)⟩
    have S_ : Same H6 (upd H6 p0 (.lst ([V.str ("write" : Str), V.str ("write " : Str), V.str (("write " : Str) ++ nm), V.str (((("write  " : Str) ++ nm) ++ (" " : Str)) ++ tx), V.str ((((" write " : Str) ++ nm) ++ (" " : Str)) ++ tx)]))) := same_new (Same.refl _) np0
    have hp0 : (upd H6 p0 (.lst ([V.str ("write" : Str), V.str ("write " : Str), V.str (("write " : Str) ++ nm), V.str (((("write  " : Str) ++ nm) ++ (" " : Str)) ++ tx), V.str ((((" write " : Str) ++ nm) ++ (" " : Str)) ++ tx)]))) p0 = some (.lst ([V.str ("write" : Str), V.str ("write " : Str), V.str (("write " : Str) ++ nm), V.str (((("write  " : Str) ++ nm) ++ (" " : Str)) ++ tx), V.str ((((" write " : Str) ++ nm) ++ (" " : Str)) ++ tx)])) := upd_same
    generalize upd H6 p0 (.lst ([V.str ("write" : Str), V.str ("write " : Str), V.str (("write " : Str) ++ nm), V.str (((("write  " : Str) ++ nm) ++ (" " : Str)) ++ tx), V.str ((((" write " : Str) ++ nm) ++ (" " : Str)) ++ tx)])) = H21 at S_ hp0 ⊢
    generalize ([V.str ("write" : Str), V.str ("write " : Str), V.str (("write " : Str) ++ nm), V.str (((("write  " : Str) ++ nm) ++ (" " : Str)) ++ tx), V.str ((((" write " : Str) ++ nm) ++ (" " : Str)) ++ tx)] : List V) = zs1 at ok_ ln_ hp0
    have BH21 := B6.same S_
    have TH21 := T6.trans (Stp.of (b := b) (g := g) S_)
    rename RowsOk zs1 => okx
    rename zs1.length ≤ 5 ∧ 1 ≤ zs1.length => lx
    clear S_
    change tSeq _ _ _ [some (.ref b), some (.str nm), some (.str ot), some (.str tx), some (.str dg), some (.str gt), some (.str ct), some (.ref p0), none] H21
    refine ⟨_, rfl, _, rfl, _, _, rfl, rfl, Ok.small (okL (by decide +kernel)) o1 (by decide), _, _, rfl, rfl, Ok.small (Ok.app (okL (by decide +kernel)) o1) (okL (by decide +kernel)) (by decide), _, rfl, _, _, rfl, rfl, Ok.small (Ok.app (Ok.app (okL (by decide +kernel)) o1) (okL (by decide +kernel))) o3 (by decide), _, rfl, _, _, rfl, rfl, Ok.small (okL (by decide +kernel)) o1 (by decide), _, _, rfl, rfl, Ok.small (Ok.app (okL (by decide +kernel)) o1) (okL (by decide +kernel)) (by decide), _, rfl, _, _, rfl, rfl, Ok.small o3 (okL (by decide +kernel)) (by decide), tx ++ "x", 201, rfl, rfl, by decide, by decide, px.1, px.2, 201, rfl, _, rfl, rl, _, _, rfl, rfl, Ok.small (Ok.app (Ok.app (okL (by decide +kernel)) o1) (okL (by decide +kernel))) oR (by decide), by show 2 ≤ sizeLine; decide, fun p1 np1 => ?_⟩
    have ok_ : RowsOk ([V.str (((("Write " : Str) ++ nm) ++ (" " : Str)) ++ tx), V.str (((("write " : Str) ++ nm) ++ (" " : Str)) ++ (cutS (repS (tx ++ "x") 201) none (some 201)))]) := (RowsOk.cons (Ok.app (Ok.app (Ok.app (okL (by decide +kernel)) o1) (okL (by decide +kernel))) o3) (by decide) (RowsOk.cons (Ok.app (Ok.app (Ok.app (okL (by decide +kernel)) o1) (okL (by decide +kernel))) oR) (by decide) RowsOk.nil))
    have ln_ : ([V.str (((("Write " : Str) ++ nm) ++ (" " : Str)) ++ tx), V.str (((("write " : Str) ++ nm) ++ (" " : Str)) ++ (cutS (repS (tx ++ "x") 201) none (some 201)))]).length ≤ 2 ∧ 1 ≤ ([V.str (((("Write " : Str) ++ nm) ++ (" " : Str)) ++ tx), V.str (((("write " : Str) ++ nm) ++ (" " : Str)) ++ (cutS (repS (tx ++ "x") 201) none (some 201)))]).length := ⟨(Nat.le_refl 2 : 2 ≤ 2), (by decide : 1 ≤ 2)⟩
    have S_ : Same H21 (upd H21 p1 (.lst ([V.str (((("Write " : Str) ++ nm) ++ (" " : Str)) ++ tx), V.str (((("write " : Str) ++ nm) ++ (" " : Str)) ++ (cutS (repS (tx ++ "x") 201) none (some 201)))]))) := same_new (Same.refl _) np1
    have hp1 : (upd H21 p1 (.lst ([V.str (((("Write " : Str) ++ nm) ++ (" " : Str)) ++ tx), V.str (((("write " : Str) ++ nm) ++ (" " : Str)) ++ (cutS (repS (tx ++ "x") 201) none (some 201)))]))) p1 = some (.lst ([V.str (((("Write " : Str) ++ nm) ++ (" " : Str)) ++ tx), V.str (((("write " : Str) ++ nm) ++ (" " : Str)) ++ (cutS (repS (tx ++ "x") 201) none (some 201)))])) := upd_same
    generalize upd H21 p1 (.lst ([V.str (((("Write " : Str) ++ nm) ++ (" " : Str)) ++ tx), V.str (((("write " : Str) ++ nm) ++ (" " : Str)) ++ (cutS (repS (tx ++ "x") 201) none (some 201)))])) = H22 at S_ hp1 ⊢
    generalize ([V.str (((("Write " : Str) ++ nm) ++ (" " : Str)) ++ tx), V.str (((("write " : Str) ++ nm) ++ (" " : Str)) ++ (cutS (repS (tx ++ "x") 201) none (some 201)))] : List V) = zs2 at ok_ ln_ hp1
    have hx_ := S_ _ _ hp0
    have B_ := BH21.same S_
    have T_ := TH21.trans (Stp.of (b := b) (g := g) S_)
    clear S_
    refine ⟨p0, p1, zs1, zs2, rfl, rfl, hx_, hp1, by rw [sizeLine_eq]; omega, fun p2 np2 => ?_⟩
    have oky : RowsOk (zs1 ++ zs2) := okx.app ok_
    have ly : (zs1 ++ zs2).length ≤ 7 ∧ 1 ≤ (zs1 ++ zs2).length := by rw [List.length_append]; omega
    have S_ : Same H22 (upd H22 p2 (.lst (zs1 ++ zs2))) := same_new (Same.refl _) np2
    have hp2 : (upd H22 p2 (.lst (zs1 ++ zs2))) p2 = some (.lst (zs1 ++ zs2)) := upd_same
    obtain ⟨f1, f2⟩ := B_.free np2
    generalize upd H22 p2 (.lst (zs1 ++ zs2)) = H23 at S_ hp2 ⊢
    generalize (zs1 ++ zs2 : List V) = ys3 at oky ly hp2
    have BH23 := B_.same S_
    have TH23 := T_.trans (Stp.of (b := b) (g := g) S_)
    clear S_ B_ T_ hx_ hp0 hp1 okx lx ok_ ln_ BH21 TH21
    clear zs1 zs2
    rename RowsOk ys3 => okx
    rename ys3.length ≤ 7 ∧ 1 ≤ ys3.length => lx
    change tSeq _ _ _ [some (.ref b), some (.str nm), some (.str ot), some (.str tx), some (.str dg), some (.str gt), some (.str ct), some (.ref p2), none] H23
    refine ⟨_, rfl, _, rfl, _, _, rfl, rfl, Ok.small (okL (by decide +kernel)) o1 (by decide), _, _, rfl, rfl, Ok.small (Ok.app (okL (by decide +kernel)) o1) (okL (by decide +kernel)) (by decide), _, rfl, _, _, rfl, rfl, Ok.small (Ok.app (Ok.app (okL (by decide +kernel)) o1) (okL (by decide +kernel))) o3 (by decide), _, rfl, ⟨_, rfl⟩, nm, rfl, rfl, ul, _, _, rfl, rfl, Ok.small (okL (by decide +kernel)) oU (by decide), _, _, rfl, rfl, Ok.small (Ok.app (okL (by decide +kernel)) oU) (okL (by decide +kernel)) (by decide), _, rfl, _, _, rfl, rfl, Ok.small (Ok.app (Ok.app (okL (by decide +kernel)) oU) (okL (by decide +kernel))) o3 (by decide), by show 2 ≤ sizeLine; decide, fun p3 np3 => ?_⟩
    have ok_ : RowsOk ([V.str (((("write " : Str) ++ nm) ++ ("\n" : Str)) ++ tx), V.str (((("write " : Str) ++ (Txt.upper nm)) ++ (" " : Str)) ++ tx)]) := (RowsOk.cons (Ok.app (Ok.app (Ok.app (okL (by decide +kernel)) o1) (okL (by decide +kernel))) o3) (by decide) (RowsOk.cons (Ok.app (Ok.app (Ok.app (okL (by decide +kernel)) oU) (okL (by decide +kernel))) o3) (by decide) RowsOk.nil))
    have ln_ : ([V.str (((("write " : Str) ++ nm) ++ ("\n" : Str)) ++ tx), V.str (((("write " : Str) ++ (Txt.upper nm)) ++ (" " : Str)) ++ tx)]).length ≤ 2 ∧ 1 ≤ ([V.str (((("write " : Str) ++ nm) ++ ("\n" : Str)) ++ tx), V.str (((("write " : Str) ++ (Txt.upper nm)) ++ (" " : Str)) ++ tx)]).length := ⟨(Nat.le_refl 2 : 2 ≤ 2), (by decide : 1 ≤ 2)⟩
    have S_ : Same H23 (upd H23 p3 (.lst ([V.str (((("write " : Str) ++ nm) ++ ("\n" : Str)) ++ tx), V.str (((("write " : Str) ++ (Txt.upper nm)) ++ (" " : Str)) ++ tx)]))) := same_new (Same.refl _) np3
    have hp3 : (upd H23 p3 (.lst ([V.str (((("write " : Str) ++ nm) ++ ("\n" : Str)) ++ tx), V.str (((("write " : Str) ++ (Txt.upper nm)) ++ (" " : Str)) ++ tx)]))) p3 = some (.lst ([V.str (((("write " : Str) ++ nm) ++ ("\n" : Str)) ++ tx), V.str (((("write " : Str) ++ (Txt.upper nm)) ++ (" " : Str)) ++ tx)])) := upd_same
    generalize upd H23 p3 (.lst ([V.str (((("write " : Str) ++ nm) ++ ("\n" : Str)) ++ tx), V.str (((("write " : Str) ++ (Txt.upper nm)) ++ (" " : Str)) ++ tx)])) = H24 at S_ hp3 ⊢
    generalize ([V.str (((("write " : Str) ++ nm) ++ ("\n" : Str)) ++ tx), V.str (((("write " : Str) ++ (Txt.upper nm)) ++ (" " : Str)) ++ tx)] : List V) = zs4 at ok_ ln_ hp3
    have hx_ := S_ _ _ hp2
    have B_ := BH23.same S_
    have T_ := TH23.trans (Stp.of (b := b) (g := g) S_)
    clear S_
    refine ⟨p2, p3, ys3, zs4, rfl, rfl, hx_, hp3, by rw [sizeLine_eq]; omega, fun p4 np4 => ?_⟩
    have oky : RowsOk (ys3 ++ zs4) := okx.app ok_
    have ly : (ys3 ++ zs4).length ≤ 9 ∧ 1 ≤ (ys3 ++ zs4).length := by rw [List.length_append]; omega
    have S_ : Same H24 (upd H24 p4 (.lst (ys3 ++ zs4))) := same_new (Same.refl _) np4
    have hp4 : (upd H24 p4 (.lst (ys3 ++ zs4))) p4 = some (.lst (ys3 ++ zs4)) := upd_same
    obtain ⟨f1, f2⟩ := B_.free np4
    generalize upd H24 p4 (.lst (ys3 ++ zs4)) = H25 at S_ hp4 ⊢
    generalize (ys3 ++ zs4 : List V) = ys5 at oky ly hp4
    have BH25 := B_.same S_
    have TH25 := T_.trans (Stp.of (b := b) (g := g) S_)
    clear S_ B_ T_ hx_ hp2 hp3 okx lx ok_ ln_ BH23 TH23
    clear ys3 zs4
    rename RowsOk ys5 => okx
    rename ys5.length ≤ 9 ∧ 1 ≤ ys5.length => lx
    change tSeq _ _ _ [some (.ref b), some (.str nm), some (.str ot), some (.str tx), some (.str dg), some (.str gt), some (.str ct), some (.ref p4), none] H25
    refine ⟨_, rfl, _, rfl, _, rfl, _, rfl, _, _, rfl, rfl, Ok.small o6 o4 (by decide), _, rfl, _, _, rfl, rfl, Ok.small o6 (okL (by decide +kernel)) (by decide), _, rfl, _, _, rfl, rfl, Ok.small (Ok.app o6 (okL (by decide +kernel))) o4 (by decide), _, _, rfl, rfl, Ok.small (Ok.app (Ok.app o6 (okL (by decide +kernel))) o4) (okL (by decide +kernel)) (by decide), _, rfl, _, _, rfl, rfl, Ok.small (Ok.app (Ok.app (Ok.app o6 (okL (by decide +kernel))) o4) (okL (by decide +kernel))) o3 (by decide), _, rfl, _, rfl, _, _, rfl, rfl, Ok.small o6 o4 (by decide), _, _, rfl, rfl, Ok.small (Ok.app o6 o4) (okL (by decide +kernel)) (by decide), _, rfl, _, _, rfl, rfl, Ok.small (Ok.app (Ok.app o6 o4) (okL (by decide +kernel))) o3 (by decide), by show 5 ≤ sizeLine; decide, fun p5 np5 => ?_⟩
    have ok_ : RowsOk ([V.str ("cut" : Str), V.str ct, V.str (ct ++ dg), V.str ((((ct ++ (" " : Str)) ++ dg) ++ (" " : Str)) ++ tx), V.str (((ct ++ dg) ++ ("  " : Str)) ++ tx)]) := (RowsOk.cons (okL (by decide +kernel)) (by decide) (RowsOk.cons o6 (by decide) (RowsOk.cons (Ok.app o6 o4) (by decide) (RowsOk.cons (Ok.app (Ok.app (Ok.app (Ok.app o6 (okL (by decide +kernel))) o4) (okL (by decide +kernel))) o3) (by decide) (RowsOk.cons (Ok.app (Ok.app (Ok.app o6 o4) (okL (by decide +kernel))) o3) (by decide) RowsOk.nil)))))
    have ln_ : ([V.str ("cut" : Str), V.str ct, V.str (ct ++ dg), V.str ((((ct ++ (" " : Str)) ++ dg) ++ (" " : Str)) ++ tx), V.str (((ct ++ dg) ++ ("  " : Str)) ++ tx)]).length ≤ 5 ∧ 1 ≤ ([V.str ("cut" : Str), V.str ct, V.str (ct ++ dg), V.str ((((ct ++ (" " : Str)) ++ dg) ++ (" " : Str)) ++ tx), V.str (((ct ++ dg) ++ ("  " : Str)) ++ tx)]).length := ⟨(Nat.le_refl 5 : 5 ≤ 5), (by decide : 1 ≤ 5)⟩
    have S_ : Same H25 (upd H25 p5 (.lst ([V.str ("cut" : Str), V.str ct, V.str (ct ++ dg), V.str ((((ct ++ (" " : Str)) ++ dg) ++ (" " : Str)) ++ tx), V.str (((ct ++ dg) ++ ("  " : Str)) ++ tx)]))) := same_new (Same.refl _) np5
    have hp5 : (upd H25 p5 (.lst ([V.str ("cut" : Str), V.str ct, V.str (ct ++ dg), V.str ((((ct ++ (" " : Str)) ++ dg) ++ (" " : Str)) ++ tx), V.str (((ct ++ dg) ++ ("  " : Str)) ++ tx)]))) p5 = some (.lst ([V.str ("cut" : Str), V.str ct, V.str (ct ++ dg), V.str ((((ct ++ (" " : Str)) ++ dg) ++ (" " : Str)) ++ tx), V.str (((ct ++ dg) ++ ("  " : Str)) ++ tx)])) := upd_same
    generalize upd H25 p5 (.lst ([V.str ("cut" : Str), V.str ct, V.str (ct ++ dg), V.str ((((ct ++ (" " : Str)) ++ dg) ++ (" " : Str)) ++ tx), V.str (((ct ++ dg) ++ ("  " : Str)) ++ tx)])) = H26 at S_ hp5 ⊢
    generalize ([V.str ("cut" : Str), V.str ct, V.str (ct ++ dg), V.str ((((ct ++ (" " : Str)) ++ dg) ++ (" " : Str)) ++ tx), V.str (((ct ++ dg) ++ ("  " : Str)) ++ tx)] : List V) = zs6 at ok_ ln_ hp5
    have hx_ := S_ _ _ hp4
    have B_ := BH25.same S_
    have T_ := TH25.trans (Stp.of (b := b) (g := g) S_)
    clear S_
    refine ⟨p4, p5, ys5, zs6, rfl, rfl, hx_, hp5, by rw [sizeLine_eq]; omega, fun p6 np6 => ?_⟩
    have oky : RowsOk (ys5 ++ zs6) := okx.app ok_
    have ly : (ys5 ++ zs6).length ≤ 14 ∧ 1 ≤ (ys5 ++ zs6).length := by rw [List.length_append]; omega
    have S_ : Same H26 (upd H26 p6 (.lst (ys5 ++ zs6))) := same_new (Same.refl _) np6
    have hp6 : (upd H26 p6 (.lst (ys5 ++ zs6))) p6 = some (.lst (ys5 ++ zs6)) := upd_same
    obtain ⟨f1, f2⟩ := B_.free np6
    generalize upd H26 p6 (.lst (ys5 ++ zs6)) = H27 at S_ hp6 ⊢
    generalize (ys5 ++ zs6 : List V) = ys7 at oky ly hp6
    have BH27 := B_.same S_
    have TH27 := T_.trans (Stp.of (b := b) (g := g) S_)
    clear S_ B_ T_ hx_ hp4 hp5 okx lx ok_ ln_ BH25 TH25
    clear ys5 zs6
    rename RowsOk ys7 => okx
    rename ys7.length ≤ 14 ∧ 1 ≤ ys7.length => lx
    change tSeq _ _ _ [some (.ref b), some (.str nm), some (.str ot), some (.str tx), some (.str dg), some (.str gt), some (.str ct), some (.ref p6), none] H27
    refine ⟨_, rfl, _, rfl, _, _, rfl, rfl, Ok.small o6 (okL (by decide +kernel)) (by decide), _, rfl, _, _, rfl, rfl, Ok.small (Ok.app o6 (okL (by decide +kernel))) o4 (by decide), _, _, rfl, rfl, Ok.small (Ok.app (Ok.app o6 (okL (by decide +kernel))) o4) (okL (by decide +kernel)) (by decide), _, rfl, _, _, rfl, rfl, Ok.small (Ok.app (Ok.app (Ok.app o6 (okL (by decide +kernel))) o4) (okL (by decide +kernel))) o3 (by decide), _, rfl, _, rfl, _, _, rfl, rfl, Ok.small o6 o5 (by decide), _, _, rfl, rfl, Ok.small (Ok.app o6 o5) (okL (by decide +kernel)) (by decide), _, rfl, _, _, rfl, rfl, Ok.small (Ok.app (Ok.app o6 o5) (okL (by decide +kernel))) o3 (by decide), _, rfl, _, _, rfl, rfl, Ok.small o6 (okL (by decide +kernel)) (by decide), _, rfl, _, _, rfl, rfl, Ok.small (Ok.app o6 (okL (by decide +kernel))) o4 (by decide), _, _, rfl, rfl, Ok.small (Ok.app (Ok.app o6 (okL (by decide +kernel))) o4) (okL (by decide +kernel)) (by decide), _, rfl, _, _, rfl, rfl, Ok.small (Ok.app (Ok.app (Ok.app o6 (okL (by decide +kernel))) o4) (okL (by decide +kernel))) o3 (by decide), by show 3 ≤ sizeLine; decide, fun p7 np7 => ?_⟩
    have ok_ : RowsOk ([V.str ((((ct ++ ("0" : Str)) ++ dg) ++ (" " : Str)) ++ tx), V.str (((ct ++ gt) ++ (" " : Str)) ++ tx), V.str ((((ct ++ ("-" : Str)) ++ dg) ++ (" " : Str)) ++ tx)]) := (RowsOk.cons (Ok.app (Ok.app (Ok.app (Ok.app o6 (okL (by decide +kernel))) o4) (okL (by decide +kernel))) o3) (by decide) (RowsOk.cons (Ok.app (Ok.app (Ok.app o6 o5) (okL (by decide +kernel))) o3) (by decide) (RowsOk.cons (Ok.app (Ok.app (Ok.app (Ok.app o6 (okL (by decide +kernel))) o4) (okL (by decide +kernel))) o3) (by decide) RowsOk.nil)))
    have ln_ : ([V.str ((((ct ++ ("0" : Str)) ++ dg) ++ (" " : Str)) ++ tx), V.str (((ct ++ gt) ++ (" " : Str)) ++ tx), V.str ((((ct ++ ("-" : Str)) ++ dg) ++ (" " : Str)) ++ tx)]).length ≤ 3 ∧ 1 ≤ ([V.str ((((ct ++ ("0" : Str)) ++ dg) ++ (" " : Str)) ++ tx), V.str (((ct ++ gt) ++ (" " : Str)) ++ tx), V.str ((((ct ++ ("-" : Str)) ++ dg) ++ (" " : Str)) ++ tx)]).length := ⟨(Nat.le_refl 3 : 3 ≤ 3), (by decide : 1 ≤ 3)⟩
    have S_ : Same H27 (upd H27 p7 (.lst ([V.str ((((ct ++ ("0" : Str)) ++ dg) ++ (" " : Str)) ++ tx), V.str (((ct ++ gt) ++ (" " : Str)) ++ tx), V.str ((((ct ++ ("-" : Str)) ++ dg) ++ (" " : Str)) ++ tx)]))) := same_new (Same.refl _) np7
    have hp7 : (upd H27 p7 (.lst ([V.str ((((ct ++ ("0" : Str)) ++ dg) ++ (" " : Str)) ++ tx), V.str (((ct ++ gt) ++ (" " : Str)) ++ tx), V.str ((((ct ++ ("-" : Str)) ++ dg) ++ (" " : Str)) ++ tx)]))) p7 = some (.lst ([V.str ((((ct ++ ("0" : Str)) ++ dg) ++ (" " : Str)) ++ tx), V.str (((ct ++ gt) ++ (" " : Str)) ++ tx), V.str ((((ct ++ ("-" : Str)) ++ dg) ++ (" " : Str)) ++ tx)])) := upd_same
    generalize upd H27 p7 (.lst ([V.str ((((ct ++ ("0" : Str)) ++ dg) ++ (" " : Str)) ++ tx), V.str (((ct ++ gt) ++ (" " : Str)) ++ tx), V.str ((((ct ++ ("-" : Str)) ++ dg) ++ (" " : Str)) ++ tx)])) = H28 at S_ hp7 ⊢
    generalize ([V.str ((((ct ++ ("0" : Str)) ++ dg) ++ (" " : Str)) ++ tx), V.str (((ct ++ gt) ++ (" " : Str)) ++ tx), V.str ((((ct ++ ("-" : Str)) ++ dg) ++ (" " : Str)) ++ tx)] : List V) = zs8 at ok_ ln_ hp7
    have hx_ := S_ _ _ hp6
    have B_ := BH27.same S_
    have T_ := TH27.trans (Stp.of (b := b) (g := g) S_)
    clear S_
    refine ⟨p6, p7, ys7, zs8, rfl, rfl, hx_, hp7, by rw [sizeLine_eq]; omega, fun p8 np8 => ?_⟩
    have oky : RowsOk (ys7 ++ zs8) := okx.app ok_
    have ly : (ys7 ++ zs8).length ≤ 17 ∧ 1 ≤ (ys7 ++ zs8).length := by rw [List.length_append]; omega
    have S_ : Same H28 (upd H28 p8 (.lst (ys7 ++ zs8))) := same_new (Same.refl _) np8
    have hp8 : (upd H28 p8 (.lst (ys7 ++ zs8))) p8 = some (.lst (ys7 ++ zs8)) := upd_same
    obtain ⟨f1, f2⟩ := B_.free np8
    generalize upd H28 p8 (.lst (ys7 ++ zs8)) = H29 at S_ hp8 ⊢
    generalize (ys7 ++ zs8 : List V) = ys9 at oky ly hp8
    have BH29 := B_.same S_
    have TH29 := T_.trans (Stp.of (b := b) (g := g) S_)
    clear S_ B_ T_ hx_ hp6 hp7 okx lx ok_ ln_ BH27 TH27
    clear ys7 zs8
    rename RowsOk ys9 => okx
    rename ys9.length ≤ 17 ∧ 1 ≤ ys9.length => lx
    change tSeq _ _ _ [some (.ref b), some (.str nm), some (.str ot), some (.str tx), some (.str dg), some (.str gt), some (.str ct), some (.ref p8), none] H29
    refine ⟨_, rfl, _, rfl, _, _, rfl, rfl, Ok.small o6 (okL (by decide +kernel)) (by decide), _, rfl, _, _, rfl, rfl, Ok.small (Ok.app o6 (okL (by decide +kernel))) o4 (by decide), _, _, rfl, rfl, Ok.small (Ok.app (Ok.app o6 (okL (by decide +kernel))) o4) (okL (by decide +kernel)) (by decide), _, rfl, _, _, rfl, rfl, Ok.small (Ok.app (Ok.app (Ok.app o6 (okL (by decide +kernel))) o4) (okL (by decide +kernel))) o3 (by decide), _, rfl, _, rfl, _, _, rfl, rfl, Ok.small o6 o4 (by decide), _, _, rfl, rfl, Ok.small (Ok.app o6 o4) (okL (by decide +kernel)) (by decide), _, rfl, _, _, rfl, rfl, Ok.small (Ok.app (Ok.app o6 o4) (okL (by decide +kernel))) o3 (by decide), _, rfl, _, rfl, _, _, rfl, rfl, Ok.small o6 o3 (by decide), _, _, rfl, rfl, Ok.small (Ok.app o6 o3) (okL (by decide +kernel)) (by decide), _, rfl, _, _, rfl, rfl, Ok.small (Ok.app (Ok.app o6 o3) (okL (by decide +kernel))) o4 (by decide), by show 3 ≤ sizeLine; decide, fun p9 np9 => ?_⟩
    have ok_ : RowsOk ([V.str ((((ct ++ ("+" : Str)) ++ dg) ++ (" " : Str)) ++ tx), V.str (((ct ++ dg) ++ ("_0 " : Str)) ++ tx), V.str (((ct ++ tx) ++ (" " : Str)) ++ dg)]) := (RowsOk.cons (Ok.app (Ok.app (Ok.app (Ok.app o6 (okL (by decide +kernel))) o4) (okL (by decide +kernel))) o3) (by decide) (RowsOk.cons (Ok.app (Ok.app (Ok.app o6 o4) (okL (by decide +kernel))) o3) (by decide) (RowsOk.cons (Ok.app (Ok.app (Ok.app o6 o3) (okL (by decide +kernel))) o4) (by decide) RowsOk.nil)))
    have ln_ : ([V.str ((((ct ++ ("+" : Str)) ++ dg) ++ (" " : Str)) ++ tx), V.str (((ct ++ dg) ++ ("_0 " : Str)) ++ tx), V.str (((ct ++ tx) ++ (" " : Str)) ++ dg)]).length ≤ 3 ∧ 1 ≤ ([V.str ((((ct ++ ("+" : Str)) ++ dg) ++ (" " : Str)) ++ tx), V.str (((ct ++ dg) ++ ("_0 " : Str)) ++ tx), V.str (((ct ++ tx) ++ (" " : Str)) ++ dg)]).length := ⟨(Nat.le_refl 3 : 3 ≤ 3), (by decide : 1 ≤ 3)⟩
    have S_ : Same H29 (upd H29 p9 (.lst ([V.str ((((ct ++ ("+" : Str)) ++ dg) ++ (" " : Str)) ++ tx), V.str (((ct ++ dg) ++ ("_0 " : Str)) ++ tx), V.str (((ct ++ tx) ++ (" " : Str)) ++ dg)]))) := same_new (Same.refl _) np9
    have hp9 : (upd H29 p9 (.lst ([V.str ((((ct ++ ("+" : Str)) ++ dg) ++ (" " : Str)) ++ tx), V.str (((ct ++ dg) ++ ("_0 " : Str)) ++ tx), V.str (((ct ++ tx) ++ (" " : Str)) ++ dg)]))) p9 = some (.lst ([V.str ((((ct ++ ("+" : Str)) ++ dg) ++ (" " : Str)) ++ tx), V.str (((ct ++ dg) ++ ("_0 " : Str)) ++ tx), V.str (((ct ++ tx) ++ (" " : Str)) ++ dg)])) := upd_same
    generalize upd H29 p9 (.lst ([V.str ((((ct ++ ("+" : Str)) ++ dg) ++ (" " : Str)) ++ tx), V.str (((ct ++ dg) ++ ("_0 " : Str)) ++ tx), V.str (((ct ++ tx) ++ (" " : Str)) ++ dg)])) = H30 at S_ hp9 ⊢
    generalize ([V.str ((((ct ++ ("+" : Str)) ++ dg) ++ (" " : Str)) ++ tx), V.str (((ct ++ dg) ++ ("_0 " : Str)) ++ tx), V.str (((ct ++ tx) ++ (" " : Str)) ++ dg)] : List V) = zs10 at ok_ ln_ hp9
    have hx_ := S_ _ _ hp8
    have B_ := BH29.same S_
    have T_ := TH29.trans (Stp.of (b := b) (g := g) S_)
    clear S_
    refine ⟨p8, p9, ys9, zs10, rfl, rfl, hx_, hp9, by rw [sizeLine_eq]; omega, fun p10 np10 => ?_⟩
    have oky : RowsOk (ys9 ++ zs10) := okx.app ok_
    have ly : (ys9 ++ zs10).length ≤ 20 ∧ 1 ≤ (ys9 ++ zs10).length := by rw [List.length_append]; omega
    have S_ : Same H30 (upd H30 p10 (.lst (ys9 ++ zs10))) := same_new (Same.refl _) np10
    have hp10 : (upd H30 p10 (.lst (ys9 ++ zs10))) p10 = some (.lst (ys9 ++ zs10)) := upd_same
    obtain ⟨f1, f2⟩ := B_.free np10
    generalize upd H30 p10 (.lst (ys9 ++ zs10)) = H31 at S_ hp10 ⊢
    generalize (ys9 ++ zs10 : List V) = ys11 at oky ly hp10
    have BH31 := B_.same S_
    have TH31 := T_.trans (Stp.of (b := b) (g := g) S_)
    clear S_ B_ T_ hx_ hp8 hp9 okx lx ok_ ln_ BH29 TH29
    clear ys9 zs10
    rename RowsOk ys11 => okx
    rename ys11.length ≤ 20 ∧ 1 ≤ ys11.length => lx
    change tSeq _ _ _ [some (.ref b), some (.str nm), some (.str ot), some (.str tx), some (.str dg), some (.str gt), some (.str ct), some (.ref p10), none] H31
    refine ⟨_, rfl, _, _, rfl, rfl, Ok.small (okL (by decide +kernel)) o1 (by decide), _, _, rfl, rfl, Ok.small (Ok.app (okL (by decide +kernel)) o1) (okL (by decide +kernel)) (by decide), _, rfl, _, _, rfl, rfl, Ok.small (Ok.app (Ok.app (okL (by decide +kernel)) o1) (okL (by decide +kernel))) o2 (by decide), ?_⟩
    have o8 : Ok 50 ((((("admit " : Str) ++ nm) ++ (" " : Str)) ++ ot)) := (Ok.app (Ok.app (Ok.app (okL (by decide +kernel)) o1) (okL (by decide +kernel))) o2).le (by decide)
    generalize ((((("admit " : Str) ++ nm) ++ (" " : Str)) ++ ot) : Str) = pr at o8 ⊢
    change tSeq _ _ _ [some (.ref b), some (.str nm), some (.str ot), some (.str tx), some (.str dg), some (.str gt), some (.str ct), some (.ref p10), some (.str pr)] H31
    refine ⟨_, rfl, _, rfl, _, _, rfl, rfl, Ok.small (okL (by decide +kernel)) o1 (by decide), _, rfl, _, _, rfl, rfl, Ok.small o8 (okL (by decide +kernel)) (by decide), _, rfl, _, _, rfl, rfl, Ok.small (okL (by decide +kernel)) o1 (by decide), _, _, rfl, rfl, Ok.small (Ok.app (okL (by decide +kernel)) o1) (okL (by decide +kernel)) (by decide), _, rfl, _, _, rfl, rfl, Ok.small (Ok.app (Ok.app (okL (by decide +kernel)) o1) (okL (by decide +kernel))) o2 (by decide), _, rfl, _, _, rfl, rfl, Ok.small o8 (okL (by decide +kernel)) (by decide), _, rfl, _, _, rfl, rfl, Ok.small (Ok.app o8 (okL (by decide +kernel))) o1 (by decide), by show 5 ≤ sizeLine; decide, fun p11 np11 => ?_⟩
    have ok_ : RowsOk ([V.str ("admit" : Str), V.str (("admit " : Str) ++ nm), V.str (pr ++ (" " : Str)), V.str (((("admit " : Str) ++ nm) ++ ("  " : Str)) ++ ot), V.str ((pr ++ (" " : Str)) ++ nm)]) := (RowsOk.cons (okL (by decide +kernel)) (by decide) (RowsOk.cons (Ok.app (okL (by decide +kernel)) o1) (by decide) (RowsOk.cons (Ok.app o8 (okL (by decide +kernel))) (by decide) (RowsOk.cons (Ok.app (Ok.app (Ok.app (okL (by decide +kernel)) o1) (okL (by decide +kernel))) o2) (by decide) (RowsOk.cons (Ok.app (Ok.app o8 (okL (by decide +kernel))) o1) (by decide) RowsOk.nil)))))
    have ln_ : ([V.str ("admit" : Str), V.str (("admit " : Str) ++ nm), V.str (pr ++ (" " : Str)), V.str (((("admit " : Str) ++ nm) ++ ("  " : Str)) ++ ot), V.str ((pr ++ (" " : Str)) ++ nm)]).length ≤ 5 ∧ 1 ≤ ([V.str ("admit" : Str), V.str (("admit " : Str) ++ nm), V.str (pr ++ (" " : Str)), V.str (((("admit " : Str) ++ nm) ++ ("  " : Str)) ++ ot), V.str ((pr ++ (" " : Str)) ++ nm)]).length := ⟨(Nat.le_refl 5 : 5 ≤ 5), (by decide : 1 ≤ 5)⟩
    have S_ : Same H31 (upd H31 p11 (.lst ([V.str ("admit" : Str), V.str (("admit " : Str) ++ nm), V.str (pr ++ (" " : Str)), V.str (((("admit " : Str) ++ nm) ++ ("  " : Str)) ++ ot), V.str ((pr ++ (" " : Str)) ++ nm)]))) := same_new (Same.refl _) np11
    have hp11 : (upd H31 p11 (.lst ([V.str ("admit" : Str), V.str (("admit " : Str) ++ nm), V.str (pr ++ (" " : Str)), V.str (((("admit " : Str) ++ nm) ++ ("  " : Str)) ++ ot), V.str ((pr ++ (" " : Str)) ++ nm)]))) p11 = some (.lst ([V.str ("admit" : Str), V.str (("admit " : Str) ++ nm), V.str (pr ++ (" " : Str)), V.str (((("admit " : Str) ++ nm) ++ ("  " : Str)) ++ ot), V.str ((pr ++ (" " : Str)) ++ nm)])) := upd_same
    generalize upd H31 p11 (.lst ([V.str ("admit" : Str), V.str (("admit " : Str) ++ nm), V.str (pr ++ (" " : Str)), V.str (((("admit " : Str) ++ nm) ++ ("  " : Str)) ++ ot), V.str ((pr ++ (" " : Str)) ++ nm)])) = H32 at S_ hp11 ⊢
    generalize ([V.str ("admit" : Str), V.str (("admit " : Str) ++ nm), V.str (pr ++ (" " : Str)), V.str (((("admit " : Str) ++ nm) ++ ("  " : Str)) ++ ot), V.str ((pr ++ (" " : Str)) ++ nm)] : List V) = zs12 at ok_ ln_ hp11
    have hx_ := S_ _ _ hp10
    have B_ := BH31.same S_
    have T_ := TH31.trans (Stp.of (b := b) (g := g) S_)
    clear S_
    refine ⟨p10, p11, ys11, zs12, rfl, rfl, hx_, hp11, by rw [sizeLine_eq]; omega, fun p12 np12 => ?_⟩
    have oky : RowsOk (ys11 ++ zs12) := okx.app ok_
    have ly : (ys11 ++ zs12).length ≤ 25 ∧ 1 ≤ (ys11 ++ zs12).length := by rw [List.length_append]; omega
    have S_ : Same H32 (upd H32 p12 (.lst (ys11 ++ zs12))) := same_new (Same.refl _) np12
    have hp12 : (upd H32 p12 (.lst (ys11 ++ zs12))) p12 = some (.lst (ys11 ++ zs12)) := upd_same
    obtain ⟨f1, f2⟩ := B_.free np12
    generalize upd H32 p12 (.lst (ys11 ++ zs12)) = H33 at S_ hp12 ⊢
    generalize (ys11 ++ zs12 : List V) = ys13 at oky ly hp12
    have BH33 := B_.same S_
    have TH33 := T_.trans (Stp.of (b := b) (g := g) S_)
    clear S_ B_ T_ hx_ hp10 hp11 okx lx ok_ ln_ BH31 TH31
    clear ys11 zs12
    rename RowsOk ys13 => okx
    rename ys13.length ≤ 25 ∧ 1 ≤ ys13.length => lx
    change tSeq _ _ _ [some (.ref b), some (.str nm), some (.str ot), some (.str tx), some (.str dg), some (.str gt), some (.str ct), some (.ref p12), some (.str pr)] H33
    refine ⟨_, rfl, _, rfl, _, _, rfl, rfl, Ok.small (okL (by decide +kernel)) o1 (by decide), _, _, rfl, rfl, Ok.small (Ok.app (okL (by decide +kernel)) o1) (okL (by decide +kernel)) (by decide), _, rfl, _, _, rfl, rfl, Ok.small (okL (by decide +kernel)) o1 (by decide), _, _, rfl, rfl, Ok.small (Ok.app (okL (by decide +kernel)) o1) (okL (by decide +kernel)) (by decide), _, rfl, _, _, rfl, rfl, Ok.small (Ok.app (Ok.app (okL (by decide +kernel)) o1) (okL (by decide +kernel))) o2 (by decide), by show 6 ≤ sizeLine; decide, fun p13 np13 => ?_⟩
    have ok_ : RowsOk ([V.str ("dismiss" : Str), V.str ((("dismiss " : Str) ++ nm) ++ (" " : Str)), V.str (((("dismiss " : Str) ++ nm) ++ (" " : Str)) ++ ot), V.str ("undo " : Str), V.str (" redo" : Str), V.str ("" : Str)]) := (RowsOk.cons (okL (by decide +kernel)) (by decide) (RowsOk.cons (Ok.app (Ok.app (okL (by decide +kernel)) o1) (okL (by decide +kernel))) (by decide) (RowsOk.cons (Ok.app (Ok.app (Ok.app (okL (by decide +kernel)) o1) (okL (by decide +kernel))) o2) (by decide) (RowsOk.cons (okL (by decide +kernel)) (by decide) (RowsOk.cons (okL (by decide +kernel)) (by decide) (RowsOk.cons (okL (by decide +kernel)) (by decide) RowsOk.nil))))))
    have ln_ : ([V.str ("dismiss" : Str), V.str ((("dismiss " : Str) ++ nm) ++ (" " : Str)), V.str (((("dismiss " : Str) ++ nm) ++ (" " : Str)) ++ ot), V.str ("undo " : Str), V.str (" redo" : Str), V.str ("" : Str)]).length ≤ 6 ∧ 1 ≤ ([V.str ("dismiss" : Str), V.str ((("dismiss " : Str) ++ nm) ++ (" " : Str)), V.str (((("dismiss " : Str) ++ nm) ++ (" " : Str)) ++ ot), V.str ("undo " : Str), V.str (" redo" : Str), V.str ("" : Str)]).length := ⟨(Nat.le_refl 6 : 6 ≤ 6), (by decide : 1 ≤ 6)⟩
    have S_ : Same H33 (upd H33 p13 (.lst ([V.str ("dismiss" : Str), V.str ((("dismiss " : Str) ++ nm) ++ (" " : Str)), V.str (((("dismiss " : Str) ++ nm) ++ (" " : Str)) ++ ot), V.str ("undo " : Str), V.str (" redo" : Str), V.str ("" : Str)]))) := same_new (Same.refl _) np13
    have hp13 : (upd H33 p13 (.lst ([V.str ("dismiss" : Str), V.str ((("dismiss " : Str) ++ nm) ++ (" " : Str)), V.str (((("dismiss " : Str) ++ nm) ++ (" " : Str)) ++ ot), V.str ("undo " : Str), V.str (" redo" : Str), V.str ("" : Str)]))) p13 = some (.lst ([V.str ("dismiss" : Str), V.str ((("dismiss " : Str) ++ nm) ++ (" " : Str)), V.str (((("dismiss " : Str) ++ nm) ++ (" " : Str)) ++ ot), V.str ("undo " : Str), V.str (" redo" : Str), V.str ("" : Str)])) := upd_same
    generalize upd H33 p13 (.lst ([V.str ("dismiss" : Str), V.str ((("dismiss " : Str) ++ nm) ++ (" " : Str)), V.str (((("dismiss " : Str) ++ nm) ++ (" " : Str)) ++ ot), V.str ("undo " : Str), V.str (" redo" : Str), V.str ("" : Str)])) = H34 at S_ hp13 ⊢
    generalize ([V.str ("dismiss" : Str), V.str ((("dismiss " : Str) ++ nm) ++ (" " : Str)), V.str (((("dismiss " : Str) ++ nm) ++ (" " : Str)) ++ ot), V.str ("undo " : Str), V.str (" redo" : Str), V.str ("" : Str)] : List V) = zs14 at ok_ ln_ hp13
    have hx_ := S_ _ _ hp12
    have B_ := BH33.same S_
    have T_ := TH33.trans (Stp.of (b := b) (g := g) S_)
    clear S_
    refine ⟨p12, p13, ys13, zs14, rfl, rfl, hx_, hp13, by rw [sizeLine_eq]; omega, fun p14 np14 => ?_⟩
    have oky : RowsOk (ys13 ++ zs14) := okx.app ok_
    have ly : (ys13 ++ zs14).length ≤ 31 ∧ 1 ≤ (ys13 ++ zs14).length := by rw [List.length_append]; omega
    have S_ : Same H34 (upd H34 p14 (.lst (ys13 ++ zs14))) := same_new (Same.refl _) np14
    have hp14 : (upd H34 p14 (.lst (ys13 ++ zs14))) p14 = some (.lst (ys13 ++ zs14)) := upd_same
    obtain ⟨f1, f2⟩ := B_.free np14
    generalize upd H34 p14 (.lst (ys13 ++ zs14)) = H35 at S_ hp14 ⊢
    generalize (ys13 ++ zs14 : List V) = ys15 at oky ly hp14
    have BH35 := B_.same S_
    have TH35 := T_.trans (Stp.of (b := b) (g := g) S_)
    clear S_ B_ T_ hx_ hp12 hp13 okx lx ok_ ln_ BH33 TH33
    clear ys13 zs14
    rename RowsOk ys15 => okx
    rename ys15.length ≤ 31 ∧ 1 ≤ ys15.length => lx
    change tSeq _ _ _ [some (.ref b), some (.str nm), some (.str ot), some (.str tx), some (.str dg), some (.str gt), some (.str ct), some (.ref p14), some (.str pr)] H35
    refine ⟨_, rfl, _, rfl, _, _, rfl, rfl, Ok.small o1 (okL (by decide +kernel)) (by decide), _, rfl, _, _, rfl, rfl, Ok.small (Ok.app o1 (okL (by decide +kernel))) o3 (by decide), _, rfl, _, _, rfl, rfl, Ok.small (okL (by decide +kernel)) o1 (by decide), _, _, rfl, rfl, Ok.small (Ok.app (okL (by decide +kernel)) o1) (okL (by decide +kernel)) (by decide), _, rfl, _, _, rfl, rfl, Ok.small o8 (okL (by decide +kernel)) (by decide), by show 4 ≤ sizeLine; decide, fun p15 np15 => ?_⟩
    have ok_ : RowsOk ([V.str ((nm ++ (" " : Str)) ++ tx), V.str ("redo\n" : Str), V.str ((("dismiss " : Str) ++ nm) ++ ("\n" : Str)), V.str (pr ++ ("\n" : Str))]) := (RowsOk.cons (Ok.app (Ok.app o1 (okL (by decide +kernel))) o3) (by decide) (RowsOk.cons (okL (by decide +kernel)) (by decide) (RowsOk.cons (Ok.app (Ok.app (okL (by decide +kernel)) o1) (okL (by decide +kernel))) (by decide) (RowsOk.cons (Ok.app o8 (okL (by decide +kernel))) (by decide) RowsOk.nil))))
    have ln_ : ([V.str ((nm ++ (" " : Str)) ++ tx), V.str ("redo\n" : Str), V.str ((("dismiss " : Str) ++ nm) ++ ("\n" : Str)), V.str (pr ++ ("\n" : Str))]).length ≤ 4 ∧ 1 ≤ ([V.str ((nm ++ (" " : Str)) ++ tx), V.str ("redo\n" : Str), V.str ((("dismiss " : Str) ++ nm) ++ ("\n" : Str)), V.str (pr ++ ("\n" : Str))]).length := ⟨(Nat.le_refl 4 : 4 ≤ 4), (by decide : 1 ≤ 4)⟩
    have S_ : Same H35 (upd H35 p15 (.lst ([V.str ((nm ++ (" " : Str)) ++ tx), V.str ("redo\n" : Str), V.str ((("dismiss " : Str) ++ nm) ++ ("\n" : Str)), V.str (pr ++ ("\n" : Str))]))) := same_new (Same.refl _) np15
    have hp15 : (upd H35 p15 (.lst ([V.str ((nm ++ (" " : Str)) ++ tx), V.str ("redo\n" : Str), V.str ((("dismiss " : Str) ++ nm) ++ ("\n" : Str)), V.str (pr ++ ("\n" : Str))]))) p15 = some (.lst ([V.str ((nm ++ (" " : Str)) ++ tx), V.str ("redo\n" : Str), V.str ((("dismiss " : Str) ++ nm) ++ ("\n" : Str)), V.str (pr ++ ("\n" : Str))])) := upd_same
    generalize upd H35 p15 (.lst ([V.str ((nm ++ (" " : Str)) ++ tx), V.str ("redo\n" : Str), V.str ((("dismiss " : Str) ++ nm) ++ ("\n" : Str)), V.str (pr ++ ("\n" : Str))])) = H36 at S_ hp15 ⊢
    generalize ([V.str ((nm ++ (" " : Str)) ++ tx), V.str ("redo\n" : Str), V.str ((("dismiss " : Str) ++ nm) ++ ("\n" : Str)), V.str (pr ++ ("\n" : Str))] : List V) = zs16 at ok_ ln_ hp15
    have hx_ := S_ _ _ hp14
    have B_ := BH35.same S_
    have T_ := TH35.trans (Stp.of (b := b) (g := g) S_)
    clear S_
    refine ⟨p14, p15, ys15, zs16, rfl, rfl, hx_, hp15, by rw [sizeLine_eq]; omega, fun p16 np16 => ?_⟩
    have oky : RowsOk (ys15 ++ zs16) := okx.app ok_
    have ly : (ys15 ++ zs16).length ≤ 35 ∧ 1 ≤ (ys15 ++ zs16).length := by rw [List.length_append]; omega
    have S_ : Same H36 (upd H36 p16 (.lst (ys15 ++ zs16))) := same_new (Same.refl _) np16
    have hp16 : (upd H36 p16 (.lst (ys15 ++ zs16))) p16 = some (.lst (ys15 ++ zs16)) := upd_same
    obtain ⟨f1, f2⟩ := B_.free np16
    generalize upd H36 p16 (.lst (ys15 ++ zs16)) = H37 at S_ hp16 ⊢
    generalize (ys15 ++ zs16 : List V) = ys17 at oky ly hp16
    have BH37 := B_.same S_
    have TH37 := T_.trans (Stp.of (b := b) (g := g) S_)
    clear S_ B_ T_ hx_ hp14 hp15 okx lx ok_ ln_ BH35 TH35
    clear ys15 zs16
    rename RowsOk ys17 => okx
    rename ys17.length ≤ 35 ∧ 1 ≤ ys17.length => lx
    refine ⟨_, rfl, _, rfl, _, rfl, p16, ys17, rfl, .inl (SqL.of hp16), b, g, _, rfl, BH37, by omega, by omega, fun i H9 i0 i1 B9 T9 => ?_⟩
    obtain ⟨z, hz, oz⟩ := okx.at i0 i1
    refine ⟨p16, ys17, i, .str z, rfl, rfl, SqL.of (T9 _ _ f1 f2 hp16), hz, ?_⟩
    exact hQ z H9 oz B9 (TH37.trans T9)
end
end K58
set_option Elab.async false
set_option linter.all false
set_option maxRecDepth 100000
set_option maxHeartbeats 4000000
namespace K58
open PySem PySem.Spec PyProof.Rows L2 TL
/-! law -/
theorem Box.tup {H : Hp} {b g p : Addr} {ys : List V} (B : Box H b g) (hp : H p = some (.tup ys)) : p ≠ b ∧ p ≠ g := by
  obtain ⟨c, gs, cs, n, k, B⟩ := B
  refine ⟨fun e => ?_, fun e => ?_⟩
  · rw [e, B.hb] at hp
    cases hp
  · rw [e, B.hg] at hp
    cases hp
theorem gdeed_head {ys : List V} {L : Str} (h : GDeed ys L) : ∃ w rest, ys = .str w :: rest ∧ (w = "cut" → ∃ a t n, ys = [.str "cut", .str a, .str t, .int n] ∧ nameB a = true ∧ recP t = true ∧ 37 ∉ tl t) := by
  have n1 : ¬ (("undo" : Str) = "cut") ∧ ¬ (("redo" : Str) = "cut") ∧ ¬ (("dismiss" : Str) = "cut") ∧ ¬ (("admit" : Str) = "cut") ∧ ¬ (("write" : Str) = "cut") := by decide +kernel
  cases h with
  | undo => exact ⟨_, _, rfl, fun e => absurd e n1.1⟩
  | redo => exact ⟨_, _, rfl, fun e => absurd e n1.2.1⟩
  | dismiss a ha => exact ⟨_, _, rfl, fun e => absurd e n1.2.2.1⟩
  | admit a b ha hb => exact ⟨_, _, rfl, fun e => absurd e n1.2.2.2.1⟩
  | write a t ha ht h3 => exact ⟨_, _, rfl, fun e => absurd e n1.2.2.2.2⟩
  | cut a t n ha ht h3 hn => exact ⟨_, _, rfl, fun _ => ⟨a, t, n, rfl, ha, ht, h3⟩⟩
def spLaw (K : PySem.W.Frag) : Sp := fun vs H Q _ => ∃ (a : Addr) (ns : List Int), vs = [.ref a] ∧ SqL K H a (ns.map V.int) ∧ ∀ H', Q (.bl true) H'
section
variable {P : Program} {w : World} {K : PySem.W.Frag} {mg : Str → Option Value} {base : Heap}
theorem sc_law : FnScope ["_law_script", "_law_box_here", "_law_turn", "_law_most", "_law_deed_here", "_law_line_here"] ["_law_script"] (defScope s_law) := ⟨rfl, rfl, rfl, by decide +kernel, rfl, by decide +kernel, by decide +kernel⟩
theorem ok_law_fn (T : Txt P K mg) {f : Addr} {fd : FuncData} (F : FnP K "law" s_law f fd) : FnOk P w K mg base CX0 7 f fd ["_law_script"] (spLaw K) := by

  have d_l_draw := ok_l_draw (P := P) (w := w) (base := base) T
  have d_l_box := ok_l_box (P := P) (w := w) (base := base) T
  have d_l_deed := ok_l_deed (P := P) (w := w) (base := base) T
  have d_l_line := ok_l_line (P := P) (w := w) (base := base) T
  have d_format_line := ok_format_line (P := P) (w := w) (base := base) T
  have d_l_reads := ok_l_reads (P := P) (w := w) (base := base) T
  have d_l_read := ok_l_read (P := P) (w := w) (base := base) T
  have d_l_spoilt := ok_l_spoilt (P := P) (w := w) (base := base) T
  have d_l_odd_line := ok_l_odd_line (P := P) (w := w) (base := base) T
  refine F.ok sc_law (fun vs H Q E h => ?_) (fun cdv A outer s H vs Q E hr h => ?_)
  · obtain ⟨a, ns, rfl, _⟩ := h
    rfl
  · obtain ⟨a, ns, rfl, hs, hQ⟩ := h
    refine ⟨_, PSs.nox (pss_cons (ps_set (i := 1) sc_law.nd rfl (Or.inl rfl) (pe_D d_l_box (hr.mono (by decide)) pass0 (pa_cons (pv 0) pa_nil)))
    (pss_cons (ps_for PassesOwn.never rfl (pi_range1 rfl T.f_range (pa_cons (pe_op op_add pe_int (pe_D d_l_draw (hr.mono (by decide)) pass0 (pa_cons (pv 1) (pa_cons pe_int pa_nil)))) pa_nil)) (pg_name (i := 2) sc_law.nd rfl (Or.inl rfl))
      (pss_cons (ps_set (i := 4) sc_law.nd rfl (Or.inl rfl) (pe_D d_l_deed (hr.mono (by decide)) pass0 (pa_cons (pv 1) pa_nil)))
      (pss_cons (ps_set (i := 5) sc_law.nd rfl (Or.inl rfl) (pe_D d_l_line (hr.mono (by decide)) pass0 (pa_cons (pv 4) pa_nil)))
      (pss_cons (ps_if (PW.pt (pw_or (pt_cmpR op_ne (pe_D d_format_line (hr.mono (by decide)) pass0 (pa_cons (pv 4) pa_nil)) (pv 5) (nomark _)) (pw_or1 (pt_not (pt_val (pe_D d_l_reads (hr.mono (by decide)) pass0 (pa_cons (pv 5) (pa_cons (pv 4) pa_nil))))))))
        (pss_one (ps_ret pe_bl))
        pss_nil)
      (pss_cons (ps_if (PW.pt (pw_and (pt_cmpR op_eq (pe_ix ix_tup (pv 4) pe_int (fun _ _ => rfl)) pe_str (nomark _)) (pw_and1 (pt_cmpR op_eq (pe_D d_l_draw (hr.mono (by decide)) pass0 (pa_cons (pv 1) (pa_cons pe_int pa_nil))) pe_int (nomark _)))))
        (pss_one (ps_set (i := 5) sc_law.nd rfl (Or.inl rfl) (pe_op op_add_str (pe_op op_add_str (pe_op op_add_str (pe_op op_add_str (pe_op op_add_str pe_str (pe_ix ix_tup (pv 4) pe_int (fun _ _ => rfl))) pe_str) (pe_callTy call_str_int rfl T.f_str (by decide +kernel) (pa_cons (pe_op op_add pe_int (pe_D d_l_draw (hr.mono (by decide)) pass0 (pa_cons (pv 1) (pa_cons pe_int pa_nil)))) pa_nil))) pe_str) (pe_ix ix_tup (pv 4) pe_int (fun _ _ => rfl)))))
        (pss_one (ps_set (i := 5) sc_law.nd rfl (Or.inl rfl) (pe_D d_l_spoilt (hr.mono (by decide)) pass0 (pa_cons (pv 1) (pa_cons (pv 5) pa_nil))))))
      (pss_cons (ps_if (pt_cmpR op_eq (pe_D d_l_draw (hr.mono (by decide)) pass0 (pa_cons (pv 1) (pa_cons pe_int pa_nil))) pe_int (nomark _))
        (pss_one (ps_set (i := 5) sc_law.nd rfl (Or.inl rfl) (pe_D d_l_spoilt (hr.mono (by decide)) pass0 (pa_cons (pv 1) (pa_cons (pv 5) pa_nil)))))
        pss_nil)
      (pss_cons (ps_if (pt_not (pt_val (pe_D d_l_reads (hr.mono (by decide)) pass0 (pa_cons (pv 5) (pa_cons (pe_D d_l_read (hr.mono (by decide)) pass0 (pa_cons (pv 5) pa_nil)) pa_nil)))))
        (pss_one (ps_ret pe_bl))
        pss_nil)
      (pss_cons (ps_set (i := 5) sc_law.nd rfl (Or.inl rfl) (pe_D d_l_odd_line (hr.mono (by decide)) pass0 (pa_cons (pv 1) pa_nil)))
      (pss_one (ps_if (pt_not (pt_val (pe_D d_l_reads (hr.mono (by decide)) pass0 (pa_cons (pv 5) (pa_cons (pe_D d_l_read (hr.mono (by decide)) pass0 (pa_cons (pv 5) pa_nil)) pa_nil)))))
        (pss_one (ps_ret pe_bl))
        pss_nil))))))))))
    (pss_cons (ps_set (i := 3) sc_law.nd rfl (Or.inl rfl) (ClX.pe_cval (pe_glob (v := .ref (He.ga K "Desk")) rfl T.g_Desk rfl)))
    (pss_one (ps_ret (pe_and (pe_callB call_isi rfl T.f_isinstance (by decide +kernel) (pa_cons (pv 3) (pa_cons (pe_bltn (v := .ty "int") rfl T.f_int (by decide +kernel) rfl) pa_nil))) (pe_and (pe_not (pe_callB call_isi rfl T.f_isinstance (by decide +kernel) (pa_cons (pv 3) (pa_cons (pe_bltn (v := .ty "bool") rfl T.f_bool (by decide +kernel) rfl) pa_nil)))) (pe_one (pe_cmpR op_eq (pv 3) pe_int (nomark _)))))))))), ?_⟩
    refine ⟨_, rfl, a, ns, rfl, hs, fun H1 b g _ B1 => ?_⟩
    refine ⟨_, rfl, b, g, 6, rfl, B1, by decide, by decide, fun i H2 i0 i6 B2 _ => ?_⟩
    refine ⟨_, _, rfl, rfl, _, rfl, by omega, by omega, for_range (lo := 0) (n := (3 + i).toNat) (fun j σ Hc => ∃ v2 v4 v5, σ = [some (.ref a), some (.ref b), v2, none, v4, v5] ∧ Box Hc b g) ⟨none, none, none, rfl, B2⟩ ?_ ?_⟩
    · clear B1 B2 hs
      rintro j σ H3 hj ⟨v2, v4, v5, rfl, B3⟩
      refine ⟨_, rfl, b, g, rfl, B3, fun ys L H4 p gd hp4 B4 _ => ?_⟩
      obtain ⟨L37, L300⟩ := gdeed_line gd
      have oL : Ok 300 L := ⟨L37, L300⟩
      have dd := gdeed_deed gd
      have pd := gdeed_parse gd
      refine ⟨_, rfl, p, ys, L, rfl, hp4, dd, by omega, fun H5 s5 => ?_⟩
      have hp5 := s5 _ _ hp4
      refine ⟨_, rfl, p, ys, L, rfl, hp5, dd, by omega, fun H6 s6 => ?_⟩
      have hp6 := s6 _ _ hp5
      have B6 := (B4.same s5).same s6
      refine ⟨_, rfl, rfl, _, rfl, ?_⟩
      rw [decide_eq_true (rfl : V.str L = V.str L)]
      refine iteF ?_
      refine ⟨_, rfl, _, rfl, L, .ref p, rfl, by omega, .inr ⟨ys, p, pd, rfl, hp6⟩, fun H7 s7 => ⟨_, rfl, ?_⟩⟩
      refine iteF ?_
      have hp7 := s7 _ _ hp6
      have B7 := B6.same s7
      obtain ⟨w0, rest, e, hcut⟩ := gdeed_head gd
      have h0 : atI ys 0 = some (.str w0) := by rw [e]; exact atI_nat (j := 0) rfl
      clear e rest hp4 hp5 hp6 s5 s6 s7 B3 B4 B6 gd
      refine' with_restS (A := fun z Hc => Ok 400 z ∧ Box Hc b g) (fun key => ?main) ?rest
      case main =>
        refine ⟨_, rfl, p, ys, 0, .str w0, rfl, rfl, SqT.of hp7, h0, rfl, _, rfl, ite2 (fun c => ?_) (fun _ => ?_)⟩
        · obtain ⟨x, t, n, ey, hx, ht, t37⟩ := hcut (V.str.inj (of_decide_eq_true c))
          refine ⟨_, rfl, b, g, 2, rfl, B7, by decide, by decide, fun i H8 _ _ B8 T8 => ?_⟩
          obtain ⟨pb, pg⟩ := B7.tup hp7
          have hp8 := T8 _ _ pb pg hp7
          refine ⟨rfl, _, rfl, ite2 (fun _ => ?_) (fun _ => ?_)⟩
          · rw [ey] at hp8
            have ox : Ok 8 x := ⟨name_37 hx, (name_tl hx).2.2⟩
            have ot : Ok 200 t := ⟨t37, rec_len ht⟩
            refine ⟨_, rfl, p, _, 1, .str x, rfl, rfl, SqT.of hp8, rfl, _, _, rfl, rfl, Ok.small (okL (by decide +kernel)) ox (by decide), _, _, rfl, rfl, Ok.small (Ok.app (okL (by decide +kernel)) ox) (okL (by decide +kernel)) (by decide), ?_⟩
            refine ⟨_, rfl, b, g, 3, rfl, B8, by decide, by decide, fun y H9 y0 y3 B9 T9 => ?_⟩
            have hp9 := T9 _ _ pb pg hp8
            obtain ⟨m, rfl⟩ := Int.eq_ofNat_of_zero_le y0
            have e401 : (401 : Int) + (m : Int) = ((401 + m : Nat) : Int) := by omega
            obtain ⟨og, lg⟩ := great_ok (n := 401 + m) (Nat.lt_of_lt_of_le (show 401 + m < 1000 by omega) (by decide))
            rw [← e401] at og lg
            have o1 := Ok.app (Ok.app (Ok.app (okL (z := "cut ") (by decide +kernel)) ox) (okL (z := " ") (by decide +kernel))) og
            have o2 := Ok.app o1 (okL (z := " ") (by decide +kernel))
            refine ⟨_, _, rfl, rfl, _, rfl, lg, _, _, rfl, rfl, Ok.small (Ok.app (Ok.app (okL (by decide +kernel)) ox) (okL (by decide +kernel))) og (by decide), _, _, rfl, rfl, Ok.small o1 (okL (by decide +kernel)) (by decide), _, rfl, p, _, 2, .str t, rfl, rfl, SqT.of hp9, rfl, _, _, rfl, rfl, Ok.small o2 ot (by decide), ?_⟩
            have o3 : Ok 400 _ := (Ok.app o2 ot).le (by decide)
            generalize ("cut " ++ x ++ " " ++ (Str.ofString (toString ((401 : Int) + (m : Int)))) ++ " " ++ t : Str) = z at o3 ⊢
            exact key z H9 ⟨o3, B9⟩
          · refine ⟨_, rfl, _, rfl, b, g, L, 300, rfl, B8, oL, by decide, fun y H9 oy B9 _ => ?_⟩
            exact key y H9 ⟨oy.le (by decide), B9⟩
        · refine ⟨_, rfl, _, rfl, b, g, L, 300, rfl, B7, oL, by decide, fun y H9 oy B9 _ => ?_⟩
          exact key y H9 ⟨oy.le (by decide), B9⟩
      case rest =>
        clear hp7 B7 hcut h0 oL dd pd L37 L300
        rintro z H8 ⟨oz, B8⟩
        refine' with_restS (A := fun z Hc => Ok 500 z ∧ Box Hc b g) (fun key => ?main) ?rest
        case main =>
          refine ⟨_, rfl, b, g, 2, rfl, B8, by decide, by decide, fun i H9 _ _ B9 _ => ?_⟩
          refine ⟨rfl, _, rfl, ite2 (fun _ => ?_) (fun _ => ?_)⟩
          · refine ⟨_, rfl, _, rfl, b, g, z, 400, rfl, B9, oz, by decide, fun y H10 oy B10 _ => ?_⟩
            exact key y H10 ⟨oy.le (by decide), B10⟩
          · exact key z H9 ⟨oz.le (by decide), B9⟩
        case rest =>
          clear oz B8
          rintro z H8 ⟨oz, B8⟩
          have zl : z.length ≤ 1000 := by have := oz.2; omega
          refine' with_rest (A := fun Hc => Box Hc b g) (fun key => ?main) ?rest
          case main =>
            refine ⟨_, rfl, _, rfl, z, rfl, by omega, fun ys hy H9 q s9 hq => ?_, fun hn H9 s9 => ?_⟩
            · refine ⟨z, .ref q, rfl, zl, .inr ⟨ys, q, by rw [← agree oz.1]; exact hy, rfl, hq⟩, fun H10 s10 => ⟨_, rfl, ?_⟩⟩
              exact key H10 ((B8.same s9).same s10)
            · refine ⟨z, .non, rfl, zl, .inl ⟨by rw [← agree oz.1]; exact hn, rfl⟩, fun H10 s10 => ⟨_, rfl, ?_⟩⟩
              exact key H10 ((B8.same s9).same s10)
          case rest =>
            clear oz B8 zl
            intro H9 B9
            refine iteF ?_
            refine ⟨_, rfl, b, g, rfl, B9, fun z H10 oz B10 _ => ?_⟩
            have zl : z.length ≤ 1000 := oz.2
            refine ⟨_, rfl, _, rfl, z, rfl, by omega, fun ys hy H11 q s11 hq => ?_, fun hn H11 s11 => ?_⟩
            · refine ⟨z, .ref q, rfl, zl, .inr ⟨ys, q, by rw [← agree oz.1]; exact hy, rfl, hq⟩, fun H12 s12 => ⟨_, rfl, ?_⟩⟩
              refine iteF ?_
              exact ⟨_, _, _, rfl, (B10.same s11).same s12⟩
            · refine ⟨z, .non, rfl, zl, .inl ⟨by rw [← agree oz.1]; exact hn, rfl⟩, fun H12 s12 => ⟨_, rfl, ?_⟩⟩
              refine iteF ?_
              exact ⟨_, _, _, rfl, (B10.same s11).same s12⟩
    · rintro σ H3 ⟨v2, v4, v5, rfl, B3⟩
      obtain ⟨u, hm⟩ := T.most
      refine ⟨_, _, _, _, rfl, T.desk, hm, ?_⟩
      refine ⟨_, rfl, _, _, _, _, true, rfl, .ty _, .base (.int _), kit_ty (by decide +kernel), _, rfl, ?_⟩
      refine iteT ?_
      refine ⟨_, rfl, _, _, _, _, false, rfl, .ty _, .base (.int _), kit_ty (by decide +kernel), _, rfl, _, rfl, ?_⟩
      refine iteT ?_
      refine ⟨_, rfl, rfl, ?_⟩
      rw [decide_eq_true (rfl : V.int 400 = V.int 400)]
      exact hQ _
end
end K58
set_option Elab.async false
set_option linter.all false
set_option maxRecDepth 100000
set_option maxHeartbeats 4000000
namespace K58
open PySem PySem.Spec PyProof.Rows L2
/-! the facts of the walk out of the head's; the statement (printed by genend.py) -/
theorem eqB_ok {a : Option Bool} (h : eqB a = true) : a = some true := of_decide_eq_true h
theorem bb {a b : Bool} (h : (a && b) = true) : a = true ∧ b = true := by rwa [Bool.and_eq_true] at h
section
variable {K : PySem.W.Frag} {h : Heap} {mg : Str → Option Value}
theorem SaysY.lnb (c : SaysY K) (i : Nat) {b : Bool} (e : (lnB K)[i]? = some b) : b = true := by
  have x := (bb (show ((lnB K).all id && ((xcB K).all id && ((dkB K).all id && kdB K))) = true from c.ex)).1
  exact List.all_eq_true.mp x b (List.mem_of_getElem? e)
theorem SaysY.xcb (c : SaysY K) (i : Nat) {b : Bool} (e : (xcB K)[i]? = some b) : b = true := by
  have x := (bb (bb (show ((lnB K).all id && ((xcB K).all id && ((dkB K).all id && kdB K))) = true from c.ex)).2).1
  exact List.all_eq_true.mp x b (List.mem_of_getElem? e)
theorem SaysY.dkb (c : SaysY K) (i : Nat) {b : Bool} (e : (dkB K)[i]? = some b) : b = true := by
  have x := (bb (bb (bb (show ((lnB K).all id && ((xcB K).all id && ((dkB K).all id && kdB K))) = true from c.ex)).2).2).1
  exact List.all_eq_true.mp x b (List.mem_of_getElem? e)
theorem SaysY.kdb (c : SaysY K) (i : Nat) {x : Str} {b : Bool} (e : kd[i]? = some x) (hb : decide (x = "InvalidLine") = b) : PySem.W.kitOne K (.ref (lnC K)) (.ref (He.ga K x)) = some b := by
  have y := (bb (bb (bb (show ((lnB K).all id && ((xcB K).all id && ((dkB K).all id && kdB K))) = true from c.ex)).2).2).2
  have z := of_decide_eq_true (List.all_eq_true.mp (show (kd.all fun x => decide (PySem.W.kitOne K (.ref (lnC K)) (.ref (He.ga K x)) = some (decide (x = "InvalidLine")))) = true from y) x (List.mem_of_getElem? e))
  rw [hb] at z
  exact z
theorem line_fn (c : SaysY K) : ∃ cc, (∃ oc od T kV doc pm an cda ct osl, K.lookup (lnI K) = some ⟨oc, od, .func (lnFd T cda cc kV doc pm an ct), osl⟩ ∧ PySem.W.codeIn K (.ref cda) "InvalidLine.__init__" = true ∧
    (∃ ot v0 n, K.lookup T = some ot ∧ ot.data = .seq #[v0] n) ∧ ∃ ccl cdd vs ccs file tf, K.lookup cda = some ⟨ccl, cdd, .fields vs, ccs⟩ ∧ vs[2]? = some (.str file tf) ∧ (("/claim/cut.py" : Str) == file) = true) ∧
    ∃ cl cld csl, K.lookup cc = some ⟨cl, cld, .cell (some (.ref (lnC K))), csl⟩ := by
  have l := c.ln
  have f : lnFn K = true := c.lnb 11 rfl
  unfold lnObs lnVal at l
  unfold lnFn at f
  split at l
  · rename_i oc od fd osl hk
    rw [hk] at f
    obtain ⟨f1, f2, f3, f4, f5, f6, f7, f8, f9, f10, f11, f12, f13, f14, f15⟩ := fd
    dsimp only at l f
    injection l with l
    injection l with l1 l
    injection l with l2 l
    injection l with l3 l
    injection l with l4 l
    injection l with l5 l
    injection l with l6 l7
    subst l1 l2 l3 l4 l5 l6 l7
    split at f
    · rename_i n cc cda T
      obtain ⟨g1, q1⟩ := bb f
      have en := of_decide_eq_true g1
      clear f g1
      subst en
      obtain ⟨g2, q2⟩ := bb q1
      obtain ⟨g3, q3⟩ := bb q2
      obtain ⟨g4, g5⟩ := bb q3
      clear q1 q2 q3
      split at g3
      · rename_i tc td its tn tsl hT
        have hs := of_decide_eq_true g3
        split at g4
        · rename_i ccl cdd vs ccs hcd
          split at g4
          · rename_i file tf hv
            split at g5
            · rename_i cl cld D csl hcc
              have eD := of_decide_eq_true g5
              subst eD
              refine ⟨cc, ⟨oc, od, T, f9, f10, f11, f12, cda, f14, osl, hk, g2, ⟨_, its[0]'(by omega), tn, hT, ?_⟩, ccl, cdd, vs, ccs, file, tf, hcd, hv, g4⟩, cl, cld, csl, hcc⟩
              show Data.seq its tn = _
              congr 1
              apply Array.ext
              · exact hs
              · intro i h1 h2
                have e0 : i = 0 := by omega
                subst e0
                rfl
            · cases g5
          · cases g4
        · cases g4
      · cases g3
    · cases f
  · cases l
theorem line_of (c : SaysY K) (noS : PySem.W.nsIn K mainGlobals "super" = some none) : ∃ fI cc, LineTxt R.prog K (lnC K) fI cc := by
  obtain ⟨cc, ⟨oc, od, T, kV, doc, pm, an, cda, ct, osl, k1, k2, k3, ccl, cdd, vs, ccs, file, tf, k4, k5, k6⟩, kc⟩ := line_fn c
  have fl : ((R.prog.main.file : Str) == ("/claim/cut.py" : Str)) = true := by decide +kernel
  have ef : R.prog.main.file = ("/claim/cut.py" : Str) := eq_of_beq fl
  refine ⟨lnI K, cc, c.lnb 0 rfl, He.eqO_ok (c.lnb 1 rfl), of_decide_eq_true (c.lnb 2 rfl), c.lnb 3 rfl, eqB_ok (c.lnb 4 rfl), eqB_ok (c.lnb 5 rfl), of_decide_eq_true (c.lnb 6 rfl), c.lnb 7 rfl, He.eqO_ok (c.lnb 8 rfl), eqB_ok (c.lnb 9 rfl), ⟨oc, od, T, kV, doc, pm, an, cda, ct, osl, k1, k2, k3, ccl, cdd, vs, ccs, file, tf, k4, k5, ?_⟩, kc, He.eqO_ok (c.lnb 10 rfl), noS, by decide +kernel⟩
  rw [ef]
  exact k6
theorem desk_most (c : SaysY K) : ∃ u, ClX.CVal K (He.ga K "Desk") (.type "type") "MOST_STEPS" (.int 400) u := by
  have x : (match PySem.W.findCls K (.ref (He.ga K "Desk")) (.type "type") "MOST_STEPS" with
    | some (.val (.int i _)) => decide (i = 400)
    | _ => false) = true := c.dkb 2 rfl
  split at x
  · rename_i i t e
    have ei := of_decide_eq_true x
    subst ei
    exact ⟨_, e, ⟨_, rfl⟩⟩
  · cases x
theorem txt_of (X : K.In h) (G : h.Ns mainGlobals mg) (c : SaysY K) : Txt R.prog K mg where
  g_is_name := He.glo_ok X G (c.d.fact 0 (f := .glo "is_name") rfl)
  d_is_name := c.d.def_ 0 (d := D_is_name) rfl
  g_is_record := He.glo_ok X G (c.d.fact 1 (f := .glo "is_record") rfl)
  d_is_record := c.d.def_ 1 (d := D_is_record) rfl
  g_split_word := He.glo_ok X G (c.d.fact 2 (f := .glo "split_word") rfl)
  d_split_word := c.d.def_ 2 (d := D_split_word) rfl
  g_read_name := He.glo_ok X G (c.d.fact 3 (f := .glo "read_name") rfl)
  d_read_name := c.d.def_ 3 (d := D_read_name) rfl
  g_read_record := He.glo_ok X G (c.d.fact 4 (f := .glo "read_record") rfl)
  d_read_record := c.d.def_ 4 (d := D_read_record) rfl
  g_read_steps := He.glo_ok X G (c.d.fact 5 (f := .glo "read_steps") rfl)
  d_read_steps := c.d.def_ 5 (d := D_read_steps) rfl
  g_parse_write := He.glo_ok X G (c.d.fact 6 (f := .glo "parse_write") rfl)
  d_parse_write := c.d.def_ 6 (d := D_parse_write) rfl
  g_parse_cut := He.glo_ok X G (c.d.fact 7 (f := .glo "parse_cut") rfl)
  d_parse_cut := c.d.def_ 7 (d := D_parse_cut) rfl
  g_parse_admit := He.glo_ok X G (c.d.fact 8 (f := .glo "parse_admit") rfl)
  d_parse_admit := c.d.def_ 8 (d := D_parse_admit) rfl
  g_parse_line := He.glo_ok X G (c.d.fact 9 (f := .glo "parse_line") rfl)
  d_parse_line := c.d.def_ 9 (d := D_parse_line) rfl
  g_format_line := He.glo_ok X G (c.d.fact 10 (f := .glo "format_line") rfl)
  d_format_line := c.d.def_ 10 (d := D_format_line) rfl
  g_l_refusal := He.glo_ok X G (c.d.fact 11 (f := .glo "_law_refusal") rfl)
  d_l_refusal := c.d.def_ 11 (d := D_l_refusal) rfl
  g_l_box := He.glo_ok X G (c.d.fact 12 (f := .glo "_law_box") rfl)
  d_l_box := c.d.def_ 12 (d := D_l_box) rfl
  g_l_draw := He.glo_ok X G (c.d.fact 13 (f := .glo "_law_draw") rfl)
  d_l_draw := c.d.def_ 13 (d := D_l_draw) rfl
  g_l_name := He.glo_ok X G (c.d.fact 14 (f := .glo "_law_name") rfl)
  d_l_name := c.d.def_ 14 (d := D_l_name) rfl
  g_l_is_name := He.glo_ok X G (c.d.fact 15 (f := .glo "_law_is_name") rfl)
  d_l_is_name := c.d.def_ 15 (d := D_l_is_name) rfl
  g_l_signs := He.glo_ok X G (c.d.fact 16 (f := .glo "_law_signs") rfl)
  d_l_signs := c.d.def_ 16 (d := D_l_signs) rfl
  g_l_is_record := He.glo_ok X G (c.d.fact 17 (f := .glo "_law_is_record") rfl)
  d_l_is_record := c.d.def_ 17 (d := D_l_is_record) rfl
  g_l_number := He.glo_ok X G (c.d.fact 18 (f := .glo "_law_number") rfl)
  d_l_number := c.d.def_ 18 (d := D_l_number) rfl
  g_l_read := He.glo_ok X G (c.d.fact 19 (f := .glo "_law_read") rfl)
  d_l_read := c.d.def_ 19 (d := D_l_read) rfl
  g_l_line := He.glo_ok X G (c.d.fact 20 (f := .glo "_law_line") rfl)
  d_l_line := c.d.def_ 20 (d := D_l_line) rfl
  g_l_text := He.glo_ok X G (c.d.fact 21 (f := .glo "_law_text") rfl)
  d_l_text := c.d.def_ 21 (d := D_l_text) rfl
  g_l_deed := He.glo_ok X G (c.d.fact 22 (f := .glo "_law_deed") rfl)
  d_l_deed := c.d.def_ 22 (d := D_l_deed) rfl
  g_l_spoilt := He.glo_ok X G (c.d.fact 23 (f := .glo "_law_spoilt") rfl)
  d_l_spoilt := c.d.def_ 23 (d := D_l_spoilt) rfl
  g_l_odd_line := He.glo_ok X G (c.d.fact 24 (f := .glo "_law_odd_line") rfl)
  d_l_odd_line := c.d.def_ 24 (d := D_l_odd_line) rfl
  g_l_call := He.glo_ok X G (c.d.fact 25 (f := .glo "_law_call") rfl)
  d_l_call := c.d.def_ 25 (d := D_l_call) rfl
  g_l_is_deed := He.glo_ok X G (c.d.fact 26 (f := .glo "_law_is_deed") rfl)
  d_l_is_deed := c.d.def_ 26 (d := D_l_is_deed) rfl
  g_l_reads := He.glo_ok X G (c.d.fact 27 (f := .glo "_law_reads") rfl)
  d_l_reads := c.d.def_ 27 (d := D_l_reads) rfl
  g_law := He.glo_ok X G (c.d.fact 28 (f := .glo "law") rfl)
  d_law := c.d.def_ 28 (d := D_law) rfl
  g_DuplicateWriter := He.glo_ok X G (c.d.fact 29 (f := .glo "DuplicateWriter") rfl)
  g_InvalidBudget := He.glo_ok X G (c.d.fact 30 (f := .glo "InvalidBudget") rfl)
  g_InvalidEvent := He.glo_ok X G (c.d.fact 31 (f := .glo "InvalidEvent") rfl)
  g_InvalidImage := He.glo_ok X G (c.d.fact 32 (f := .glo "InvalidImage") rfl)
  g_InvalidLine := He.glo_ok X G (c.d.fact 33 (f := .glo "InvalidLine") rfl)
  g_InvalidName := He.glo_ok X G (c.d.fact 34 (f := .glo "InvalidName") rfl)
  g_InvalidRecord := He.glo_ok X G (c.d.fact 35 (f := .glo "InvalidRecord") rfl)
  g_InvalidShare := He.glo_ok X G (c.d.fact 36 (f := .glo "InvalidShare") rfl)
  g_InvalidSizes := He.glo_ok X G (c.d.fact 37 (f := .glo "InvalidSizes") rfl)
  g_InvalidState := He.glo_ok X G (c.d.fact 38 (f := .glo "InvalidState") rfl)
  g_InvalidTable := He.glo_ok X G (c.d.fact 39 (f := .glo "InvalidTable") rfl)
  g_InvalidText := He.glo_ok X G (c.d.fact 40 (f := .glo "InvalidText") rfl)
  g_InvalidTown := He.glo_ok X G (c.d.fact 41 (f := .glo "InvalidTown") rfl)
  g_InvalidTree := He.glo_ok X G (c.d.fact 42 (f := .glo "InvalidTree") rfl)
  g_LastWriter := He.glo_ok X G (c.d.fact 43 (f := .glo "LastWriter") rfl)
  g_NoFlagLeft := He.glo_ok X G (c.d.fact 44 (f := .glo "NoFlagLeft") rfl)
  g_NoRight := He.glo_ok X G (c.d.fact 45 (f := .glo "NoRight") rfl)
  g_NoStory := He.glo_ok X G (c.d.fact 46 (f := .glo "NoStory") rfl)
  g_NothingToRedo := He.glo_ok X G (c.d.fact 47 (f := .glo "NothingToRedo") rfl)
  g_NothingToUndo := He.glo_ok X G (c.d.fact 48 (f := .glo "NothingToUndo") rfl)
  g_StillTold := He.glo_ok X G (c.d.fact 49 (f := .glo "StillTold") rfl)
  g_SumTooGreat := He.glo_ok X G (c.d.fact 50 (f := .glo "SumTooGreat") rfl)
  g_TooMany := He.glo_ok X G (c.d.fact 51 (f := .glo "TooMany") rfl)
  g_TooManyTurns := He.glo_ok X G (c.d.fact 52 (f := .glo "TooManyTurns") rfl)
  g_UnknownFork := He.glo_ok X G (c.d.fact 53 (f := .glo "UnknownFork") rfl)
  g_UnknownHall := He.glo_ok X G (c.d.fact 54 (f := .glo "UnknownHall") rfl)
  g_UnknownWriter := He.glo_ok X G (c.d.fact 55 (f := .glo "UnknownWriter") rfl)
  g_UnlikePlans := He.glo_ok X G (c.d.fact 56 (f := .glo "UnlikePlans") rfl)
  g_ForkError := He.glo_ok X G (c.d.fact 57 (f := .glo "ForkError") rfl)
  g_Desk := He.glo_ok X G (c.d.fact 58 (f := .glo "Desk") rfl)
  f_isinstance := He.free_ok X G (c.d.fact 59 (f := .free "isinstance") rfl)
  f_len := He.free_ok X G (c.d.fact 60 (f := .free "len") rfl)
  f_int := He.free_ok X G (c.d.fact 61 (f := .free "int") rfl)
  f_str := He.free_ok X G (c.d.fact 62 (f := .free "str") rfl)
  f_range := He.free_ok X G (c.d.fact 63 (f := .free "range") rfl)
  f_all := He.free_ok X G (c.d.fact 64 (f := .free "all") rfl)
  f_bool := He.free_ok X G (c.d.fact 65 (f := .free "bool") rfl)
  f_ValueError := He.free_ok X G (c.d.fact 66 (f := .free "ValueError") rfl)
  f_super := He.free_ok X G (c.d.fact 67 (f := .free "super") rfl)
  f_tuple := He.free_ok X G (c.d.fact 68 (f := .free "tuple") rfl)
  c_LETTERS := He.str_ok X G (c.d.fact 69 (f := .str "_LETTERS" "abcdefghijklmnopqrstuvwxyz") rfl)
  c_DIGITS := He.str_ok X G (c.d.fact 70 (f := .str "DIGITS" "0123456789") rfl)
  c_MOST_LETTERS := He.int_ok X G (c.d.fact 71 (f := .int "_MOST_LETTERS" 8) rfl)
  c_RECORD_LIMIT := He.int_ok X G (c.d.fact 72 (f := .int "RECORD_LIMIT" 200) rfl)
  c_STEP_LIMIT := He.int_ok X G (c.d.fact 73 (f := .int "STEP_LIMIT" 400) rfl)
  line := line_of c (He.eqO_ok (c.d.fact 67 (f := .free "super") rfl))
  fork := He.exm_ok (c.d.fact 74 (f := .exm "InvalidLine" "ForkError" true) rfl)
  exc := ⟨He.eqO_ok (c.xcb 0 rfl), He.eqO_ok (c.xcb 1 rfl), eqB_ok (c.lnb 4 rfl), c.xcb 2 rfl, He.eqO_ok (c.xcb 3 rfl), He.eqO_ok (c.xcb 4 rfl), eqB_ok (c.xcb 5 rfl), eqB_ok (c.xcb 6 rfl)⟩
  k_DuplicateWriter := c.kdb 0 (x := "DuplicateWriter") rfl (by decide +kernel)
  k_InvalidBudget := c.kdb 1 (x := "InvalidBudget") rfl (by decide +kernel)
  k_InvalidEvent := c.kdb 2 (x := "InvalidEvent") rfl (by decide +kernel)
  k_InvalidImage := c.kdb 3 (x := "InvalidImage") rfl (by decide +kernel)
  k_InvalidLine := c.kdb 4 (x := "InvalidLine") rfl (by decide +kernel)
  k_InvalidName := c.kdb 5 (x := "InvalidName") rfl (by decide +kernel)
  k_InvalidRecord := c.kdb 6 (x := "InvalidRecord") rfl (by decide +kernel)
  k_InvalidShare := c.kdb 7 (x := "InvalidShare") rfl (by decide +kernel)
  k_InvalidSizes := c.kdb 8 (x := "InvalidSizes") rfl (by decide +kernel)
  k_InvalidState := c.kdb 9 (x := "InvalidState") rfl (by decide +kernel)
  k_InvalidTable := c.kdb 10 (x := "InvalidTable") rfl (by decide +kernel)
  k_InvalidText := c.kdb 11 (x := "InvalidText") rfl (by decide +kernel)
  k_InvalidTown := c.kdb 12 (x := "InvalidTown") rfl (by decide +kernel)
  k_InvalidTree := c.kdb 13 (x := "InvalidTree") rfl (by decide +kernel)
  k_LastWriter := c.kdb 14 (x := "LastWriter") rfl (by decide +kernel)
  k_NoFlagLeft := c.kdb 15 (x := "NoFlagLeft") rfl (by decide +kernel)
  k_NoRight := c.kdb 16 (x := "NoRight") rfl (by decide +kernel)
  k_NoStory := c.kdb 17 (x := "NoStory") rfl (by decide +kernel)
  k_NothingToRedo := c.kdb 18 (x := "NothingToRedo") rfl (by decide +kernel)
  k_NothingToUndo := c.kdb 19 (x := "NothingToUndo") rfl (by decide +kernel)
  k_StillTold := c.kdb 20 (x := "StillTold") rfl (by decide +kernel)
  k_SumTooGreat := c.kdb 21 (x := "SumTooGreat") rfl (by decide +kernel)
  k_TooMany := c.kdb 22 (x := "TooMany") rfl (by decide +kernel)
  k_TooManyTurns := c.kdb 23 (x := "TooManyTurns") rfl (by decide +kernel)
  k_UnknownFork := c.kdb 24 (x := "UnknownFork") rfl (by decide +kernel)
  k_UnknownHall := c.kdb 25 (x := "UnknownHall") rfl (by decide +kernel)
  k_UnknownWriter := c.kdb 26 (x := "UnknownWriter") rfl (by decide +kernel)
  k_UnlikePlans := c.kdb 27 (x := "UnlikePlans") rfl (by decide +kernel)
  k_VE := eqB_ok (c.xcb 7 rfl)
  desk := ⟨c.dkb 0 rfl, He.eqO_ok (c.dkb 1 rfl)⟩
  most := desk_most c
theorem law_facts {w : World} {f : Addr} (X : K.In h) (G : h.Ns mainGlobals mg) (hfa : mg ("law" : Str) = some (.ref f)) (c : SaysY K) :
    ∃ fd : FuncData, (∀ (s : Shared) (v : Value), BindsTo s fd ⟨[v], []⟩ [("_law_script", v)]) ∧ ∀ base : Heap, K.In base → base.Ns mainGlobals mg → FnOk R.prog w K mg base CX0 7 f fd ["_law_script"] (spLaw K) := by
  have T : Txt R.prog K mg := txt_of X G c
  obtain ⟨fd, F⟩ := T.d_law
  have e := hfa.symm.trans T.g_law
  cases e
  have b := FunD.bindsA (ps := ["_law_script"]) F fun _ _ _ _ _ _ us hl => match us, hl with | [_], _ => rfl
  exact ⟨fd, fun s v => b s [v] rfl, fun base _ _ => ok_law_fn T F⟩
end
end K58
open PySem PySem.W PySem.Calls PyProof.Rows
set_option maxHeartbeats 0 in
theorem PySem.Challenge.cw_forkflags_k58_whole_parse_and_format_holds : PySem.Challenge.rw_forkflags_k58_whole_parse_and_format.Holds := by
  w_on; o_law
  refine HandSHeadRun.head_any (r := K58.R) (q := view K58.R.prog [114]) (H := K58.hk) (ob := K58.ob) (M := 13500) (loose := K58.names) (d := HandSHeadRun.topDef K58.R.prog 114) (kwd := []) K58.ob_eq
    (by kernel_rfl) (fun s => by kernel_rfl) K58.run (by kernel_rfl) (by kernel_rfl) (by kernel_rfl) (by rfl) (by first | assumption | decide +kernel) (by decide +kernel) ⟨rfl, rfl, rfl, rfl, rfl, by decide +kernel⟩ ?hw ?hc
  case hw => w_witness2
  case hc =>
    refine L2.walk_ofE (l := PySem.Challenge.rw_forkflags_k58_whole_parse_and_format) (n := 63) (k := 7) (x := "_law_script") (CX := L2.CX0) rfl (by decide) (by kernel_rfl) ⟨rfl, by decide, by decide⟩ ?F (fun _ _ _ _ z => z)
    intro w mg fa h Y G hmg0
    obtain ⟨K, KX, c⟩ := Y
    have hmg : mg ("law" : PySem.Str) = some (.ref fa) := by
      have e : (HandSHeadRun.topDef K58.R.prog 114).name = ("law" : PySem.Str) := by kernel_rfl
      rw [← e]
      exact hmg0
    obtain ⟨fd, hb, hF⟩ := K58.law_facts (w := w) KX G hmg c
    exact ⟨K, fd, K58.spLaw K, KX, hb, fun H a ns hl _ hS => ⟨a, ns, rfl, hS, fun _ => rfl⟩, hF⟩
