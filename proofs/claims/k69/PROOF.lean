import PyProof.Rows.All
import HandS.ExcInit
import HandS.ExcField
import HandS.ExcIs
import HandS.ExcOwn
import HandS.Lambda
import KE.KExcSuper
import KE.KExcIs
import HandS.ForMost
import HandS.Style
import HandS.TupAny
import HandS.Conv
import HandS.Wide
import HandS.Deep
import HandS.CallSlots
import HandS.WordsExc
import KE.DataCmp
import KE.SortData
import KE.DataFind
import HandS.SortInts
import HandS.SortKw
import HandS.TupMul
import HandS.IsInst
import HandS.Zip
import KE.GoesEnum
import HandS.Iter
import HandS.Strs
import KE.SortKeyHeap
import PyProof.P3Eq
import PySem.Challenge.RW_shadestrings_k69_arrangements_refused
set_option Elab.async false
section
set_option linter.all false
set_option autoImplicit false
set_option maxRecDepth 100000
set_option maxHeartbeats 4000000
/-! Errors of the text's own classes, made: super().__init__(x), self.f = x. -/
namespace SS
open PySem PySem.Spec PyProof.Rows L2

/-- the body of such an __init__ -/
def initB (f : Str) (ps : Arguments) (sc : Scope) (b : List Stmt) : Bool :=
  match ps, b with
  | ⟨[], [⟨x, _, _⟩, ⟨y, _, _⟩], none, [], [], none, []⟩, [.Expr (.Call (.Attribute (.Call (.Name s _) [] [] _) m mp) [.Name y1 _] [] cp) _, .Assign [.Attribute (.Name x1 _) f1 _] (.Name y2 _) _] =>
    (mp.endLine == cp.line) && decide (s = "super") && decide (m = "__init__") && decide (y1 = y) && decide (y2 = y) && decide (x1 = x) && decide (f1 = f) && !decide (x = y) && !(x == ("__debug__" : Str)) && !(y == ("__debug__" : Str)) &&
      decide (sc.kind = .function) && !sc.isCoroutine && !sc.isGenerator && decide (sc.names.lookup ("super" : Str) = some .globalImplicit) && decide (sc.names.lookup ("__class__" : Str) = some .free) &&
      decide (sc.names.lookup x = some .local) && decide (sc.names.lookup y = some .local) && sc.names.all (fun z => !decide (z.2 = .cell))
  | _, _ => false
/-- o.m(y), on one line -/
theorem one_call {o : Expr} {m y : Str} {env : PySem.Env} {p2 p3 p4 : Pos} (h : (p2.endLine == p4.line) = true) : eval (.Call (.Attribute o m p2) [.Name y p3] [] p4) env = (do
      let ov ← attributeBase o m env (eval o env)
      standAt p2.atName
      let (f, first) ← holding [ov] (getMethod ov m (do return (← importBound o env).getD true))
      callWith p4 f first (backTo p4 (starEach [.Name y p3] env)) []) := by
  have hpos : methodCallPos true o env p2 p4 = pure p4 := by
    unfold methodCallPos
    simp [h]
  show (do
    let ov ← attributeBase o m env (eval o env)
    standAt p2.atName
    methodCall o m p2 p4 env ov 1 (backTo p4 (starEach [.Name y p3] env)) []) = _
  unfold methodCall
  have hform : methodCallForm 1 (backTo p4 (starEach [.Name y p3] env)) [] = true := rfl
  rw [hform, hpos]
  simp only [calleeOf, if_true, pure_bind]
/-- what the text's heap tells of an error class at C that keeps what it was made with under f -/
structure ErrC (K : PySem.W.Frag) (file : Str) (f : Str) (C : Addr) : Prop where
  oex : OexC K C
  no : PySem.W.findIn K (.ref C) f = some none
  sup : PySem.W.nsIn K mainGlobals "super" = some none
  thr : PySem.W.nsIn K cStatics "thirdparty.any" = some none
  alo : PySem.W.ks_superIn K C C "__init__" = some (some (.builtin "ValueError.__init__"))
  sub : PySem.W.subIn K (.ref C) (.type "ValueError") = some true
  own : PySem.W.mroIn K C (.ref C) = some true
  new : PySem.W.excInitIn K C HandSPX.veTail "ValueError.__new__" = true
  ini : ∃ (fI cc cda : Addr) (o oc ocl : Obj) (fd : FuncData) (body : List Stmt) (vs : Array Value) (tf : Tok), PySem.W.findIn K (.ref C) "__init__" = some (some (.ref fI)) ∧ PySem.W.typeIn K (.ref fI) = some (.type "function") ∧
    K.lookup fI = some o ∧ o.data = .func fd ∧ fd.body = .stmts body ∧ fd.globals = mainGlobals ∧ fd.closure = [(("__class__" : Str), cc)] ∧ fd.code = .ref cda ∧ fd.builtins = builtinsNs ∧ PySem.W.codeIn K (.ref cda) fd.qualname = true ∧ initB f fd.params fd.scope body = true ∧ fd.defaults = .none ∧
    K.lookup cda = some oc ∧ oc.data = .fields vs ∧ vs[2]? = some (.str file tf) ∧ K.lookup cc = some ocl ∧ ocl.data = .cell (some (.ref C))

theorem two_bound {fd : FuncData} {x y : Str} {a1 a2 : Option Expr} {p1 p2 : Pos} {u v : Value} (h : fd.params = ⟨[], [⟨x, a1, p1⟩, ⟨y, a2, p2⟩], none, [], [], none, []⟩) (hd : fd.defaults = .none) (ne : x ≠ y) : bindArgs fd ⟨[u, v], []⟩ = pure [(x, u), (y, v)] := by
  unfold bindArgs
  have e1 : (y == x) = false := by simpa using Ne.symm ne
  have e2 : (x == y) = false := by simpa using ne
  rw [h, hd]
  simp [List.lookup, seqItems?, notAStandIn, e1, e2]

section
open PySem.W PySem.Calls
variable {P : Program} {w : World} {K : Frag} {mg : Str → Option Value} {file f : Str} {C : Addr}
/-- the __init__ of such a class is called; hp: the heap ahead of the error's making -/
theorem ini_run {hp h : Heap} {g : Array GenState} {d : Drawn} {t : Nat} {os : OsState} {A : Around} {R : Result → Shared → Prop} {e t0 fI : Addr} {u : Value} (X : K.In hp) (M : Mod K mg hp) (E : ErrC K file f C) (hf : (P.main.file == file) = true)
    (htop : (P.main.scope.names.lookup ("super" : Str)).isSome = false) (hi : findIn K (.ref C) "__init__" = some (some (.ref fI))) (hr : A.depth < recursionLimit) (kp : ∀ b o, hp.get? b = some o → h.get? b = some o) (hsz : hp.objs.size ≤ h.objs.size) (he : h.get? e = some (HandSPX.excO C t0)) (hn : hp.get? e = none)
    (hq : ∀ h' tk' dx t1, (∀ b o, hp.get? b = some o → h'.get? b = some o) → hp.objs.size ≤ dx → dx ≠ e → h'.get? e = some ({ cls := .ref C, dict := some dx, data := .fields #[.ref t1, .none, .none, .none, .bool false, .none] } : Obj) →
      h'.Ns1 dx (fun y => if y = f then some u else none) → R (.ok (.ret .none)) ⟨h', g, d, tk', os⟩) :
    codeAny (model P w) A (.call (.ref fI) ⟨[.ref e, u], []⟩) R ⟨h, g, d, t, os⟩ := by
  obtain ⟨fI', cc, cda, o, oc, ocl, fd, body, vs, tf, i1, i2, lk, hd, hb, hgl, hcl, hcd, hbl, hci, hin, hdf, lc, hdc, hvs, lcc, hdcc⟩ := E.ini
  rw [hi] at i1
  cases i1
  have XH : K.In h := X.keeps kp
  unfold initB at hin
  split at hin
  · rename_i x ax px y ay py s p0 p1 m p2 y1 p3 p4 p5 x1 p6 f1 p7 y2 p8 p9 hps
    simp only [Bool.and_eq_true, Bool.not_eq_true', decide_eq_true_eq, decide_eq_false_iff_not, List.all_eq_true] at hin
    obtain ⟨⟨⟨⟨⟨⟨⟨⟨⟨⟨⟨⟨⟨⟨⟨⟨⟨hline, rfl⟩, rfl⟩, rfl⟩, rfl⟩, rfl⟩, rfl⟩, nxy⟩, dx1⟩, dy1⟩, hk⟩, hco⟩, hgen⟩, hks⟩, hkc⟩, hkx⟩, hky⟩, hcell⟩ := hin
    obtain ⟨mb, hmb, hbb⟩ := M.blt
    refine ks_codeAny_call_defAt (fd := fd) (binds := [(x1, .ref e), (y2, u)]) hr (XH _ _ lk) hd (M.nolimit.keeps kp) (by rw [hcd]; exact codeRec_of XH hci) hb (.of_eq (two_bound hps hdf nxy)) (fun z hz => hcell z hz) (fun z hz => ?_) (fun h0 hns k0 => ?_) hco hgen hk
    · rcases List.mem_cons.mp hz with rfl | hz
      · exact hkx
      · rw [List.mem_singleton.mp hz]
        exact hky
    · have X0 : K.In h0 := XH.keeps k0
      have kp0 : ∀ b o, hp.get? b = some o → h0.get? b = some o := fun b o z => k0 b o (kp b o z)
      have he0 := k0 _ _ he
      obtain ⟨nm, q, N, bs, bm, sn, sub, ab, col, dd, k1, k2, k3, k4, k5, hCK, hbm⟩ := E.oex.cls
      have hcc : clsIn K C = some { name := nm, bases := bs, mro := .ref C :: bm, ns := N, qualname := q, hasDict := true, slotNames := sn, subclasses := sub, abstract := ab, collection := col, hasDel := false } := by unfold clsIn; rw [hCK] <;> rfl
      have hne : e ≠ C := fun z => by
        have q1 := XH _ _ hCK
        rw [← z, he] at q1
        cases q1
      have lx : ([(x1, Value.ref e), (y2, u)] : List (Str × Value)).reverse.lookup x1 = some (.ref e) := by
        have : (x1 == y2) = false := by simpa using nxy
        simp [List.lookup, this]
      have ly : ([(x1, Value.ref e), (y2, u)] : List (Str × Value)).reverse.lookup y2 = some u := by simp [List.lookup]
      have hin : interactive (callEnv fd h.objs.size fI) = false := by
        show (fd.scope.kind == .module && _) = false
        rw [hk]
        rfl
      refine ks_wpAt_execs_cons (ks_wpAt_Expr_any (ks_wpAt_MethodCall ?_ (one_call hline)) hin)
      refine ks_wpAt_super_base (env := callEnv fd h.objs.size fI) hks hkc (by decide) rfl (X0 _ _ lk) hd (ar := ⟨x1, ax, px⟩) (by rw [hps]; rfl) hcd (X0 _ _ lc) hdc hvs hf htop ?_
      refine ks_loadName_global hk hks (loadGlobal_builtin (by show h0.Ns fd.globals mg; rw [hgl]; exact M.glob.keeps kp0) (mg_none_of X M.glob E.sup) (by show h0.Ns fd.builtins mb; rw [hbl]; exact hmb.keeps kp0) ((hbb "super" (by decide)).trans (by first | boot_by_name | rfl | kernel_rfl)) ⟨rfl, ?_⟩)
      refine wpAny_loadName_free hk hkc (c := cc) (by show fd.closure.lookup _ = _; rw [hcl]; rfl) ⟨_, X0 _ _ lcc, hdcc⟩ ?_
      refine wpAny_loadName_local hk hkx hns lx ?_
      refine ks_wpAny_isType_cls (X0 _ _ hCK) rfl ⟨rfl, ?_⟩
      refine ks_wpAny_call_super (X0 _ _ hCK) rfl he0 rfl (fun c z => by cases z) (looks_mroIn X0 E.own) (fun h2 e2 j2 => ?_)
      have X2 : K.In h2 := X0.keeps j2
      have hal := E.alo
      unfold ks_superIn at hal
      rw [hcc] at hal
      have hI2 : InstAt h2 e (HandSPX.excO C t0) C none := ⟨j2 _ _ he0, rfl, rfl, trivial⟩
      refine kxs_getMethod kxs_ValueError e2 (looks_opaque X2 E.thr) (l₀ := .ref C :: bm) (fun A Q E s k q => wpAny_bind ((looks_clsIn X2 hcc) A _ E s k (wpAny_pure q))) rfl X2 hal (hI2.type.andThen (looks_subIn X2 E.sub)) hne (by decide) ?_
      have j3 : ∀ b o, h2.get? b = some o → (h2.push (kxs_mw "ValueError.__init__" e)).get? b = some o := fun b o z => Heap.get?_push_of_some _ z
      have kp3 : ∀ b o, hp.get? b = some o → (h2.push (kxs_mw "ValueError.__init__" e)).get? b = some o := fun b o z => j3 b o (j2 b o (kp0 b o z))
      have F3 : Fr hp h.objs.size (h2.push (kxs_mw "ValueError.__init__" e)) (fun z => ([(x1, Value.ref e), (y2, u)] : List (Str × Value)).reverse.lookup z) := ⟨(hns.keeps j2).keeps j3, kp3, hsz⟩
      have eL : e ≠ h.objs.size := Nat.ne_of_lt (Heap.lt_size he)
      have sz2 : h.objs.size < h2.objs.size := by
        obtain ⟨oL, es, ep, hL, _⟩ := hns.keeps j2
        exact Heap.lt_size hL
      have N3 : News hp h.objs.size (h2.push (kxs_mw "ValueError.__init__" e)) [(h2.objs.size, kxs_mw "ValueError.__init__" e), (e, excObj C t0 none .none)] := fun p hp2 => by
        rcases List.mem_cons.mp hp2 with rfl | hp2
        · refine ⟨Heap.get?_push_size _ rfl, Nat.ne_of_gt sz2, ?_⟩
          cases z : hp.get? h2.objs.size with
          | none => rfl
          | some o => exact absurd (Heap.lt_size z) (Nat.not_lt.mpr (Nat.le_of_lt (Nat.lt_of_le_of_lt hsz sz2)))
        · rw [List.mem_singleton.mp hp2]
          exact ⟨j3 _ _ (j2 _ _ he0), eL, hn⟩
      refine kxs_callWith1 N3 List.mem_cons_self (Calls.spliced_cons (wpAny_Name (wpAny_loadName_local hk hky F3.ns ly (Calls.spliced_nil ⟨kxs_at N3 List.mem_cons_self, ?_⟩)) dy1))
      refine kxs_call F3 X N3 F.excBase_ValueError E.new List.mem_cons_self (.tail (Ne.symm (Nat.ne_of_lt (Nat.lt_trans (Heap.lt_size he) sz2))) (.head (fun _ z => nomatch z))) (by show 1 ≤ sizeLine; rw [sizeLine_eq]; omega) (fun t' h4 F4 N4 _ => ?_)
      have he4 := (N4 (e, excObj C t' none .none) (by simp)).1
      have X4 : K.In h4 := X.keeps F4.keep
      refine ks_wpAt_execs_cons (wpAt_of_wpAny (plainObj_wpAny_Assign_Attribute (wpAny_Name (wpAny_loadName_local hk hky F4.ns ly (wpAny_Name (wpAny_loadName_local hk hkx F4.ns lx ?_) dx1)) dy1)))
      refine set_plain X4 (ox := HandSPX.excO C t') (od := none) ⟨he4, rfl, rfl, trivial⟩ E.oex.sa ?_
      refine HandSPX.exc_osa X4 he4 hcc (show HandSPX.refsVE (.ref C :: bm) = true from hbm) rfl E.no (fun h5 tk5 dx kk dn dne hx hn5 => ?_)
      refine wpAt_of_wpAny (wpAny_execs_nil ?_)
      refine hq h5 tk5 dx t' (fun b o z => kk b o (fun y => by rw [y, hn] at z; cases z) (F4.keep b o z)) (Nat.le_trans hsz (Nat.le_trans ?_ dn)) dne hx hn5
      obtain ⟨oL, es, ep, hL, _⟩ := F4.ns
      exact Nat.le_of_lt (Heap.lt_size hL)
  · cases hin
end
/-- what a program's text gives for zero-argument super() -/
structure ErrP (P : Program) (file : Str) : Prop where
  hf : (P.main.file == file) = true
  top : (P.main.scope.names.lookup ("super" : Str)).isSome = false
/-- C(e) -/
theorem pmk_err {X : Cx} {file f x : Str} {C : Addr} {k : Nat} {e : Expr} {ta : TE} {p pos : Pos} (E : ErrC X.K file f C) (eP : ErrP X.prog file) (hr : Room (k + 1) X.A) (hg : Gl X x) (hm : X.mg x = some (.ref C)) (he : PE X e ta)
    (hdb : (x == ("__debug__" : Str)) = false) (hs : starEach [e] X.env = (false, eval e X.env) :: starEach [] X.env) :
    PMk X (.Call (.Name x p) [e] [] pos) (fun σ H Q => ta σ H fun v H1 => ∀ dx, H1 dx = none → Q (.ref C) (some dx) (upd H1 dx (.xd [(f, v)]))) := by
  intro pins s σ H Q I h
  have T := E.oex
  obtain ⟨nm, q, N, bs, bm, sn, sub, ab, col, dd, k0, k1, k2, k3, k5, hC, hbm⟩ := T.cls
  obtain ⟨fI, cc, cda, o, oc, ocl, fd, body, vs, tf, iC, tI, _⟩ := E.ini
  refine wpAny_Call_Name_kw (ld_glob I hg hm ?_ hdb)
  refine PySem.W.callWith_K (h₀ := X.base) I.ok.mod.kin T.kC ?_ hs (by rfl)
  rw [hs]
  show wpAny _ _ (spliced ((false, eval e X.env) :: backTo pos (starEach [] X.env))) _ _ s
  refine Calls.spliced_cons (thn (he.run pins s σ H _ I h) fun u s1 ⟨v, H1, I1, r1, q1⟩ => ?_)
  refine Calls.spliced_nil ⟨I1.kIn, ?_⟩
  show wpAny _ _ (call (.ref C) [u]) _ _ _
  obtain ⟨hp, g, dr, tk, os⟩ := s1
  have M1 : L2.Mod X.K X.mg hp := by
    obtain ⟨mb, b1, b2⟩ := I1.ok.mod.blt
    exact ⟨I1.kIn, I1.ok.mod.glob.keeps I1.bk, ⟨mb, b1.keeps I1.bk, b2⟩, I1.nolimit⟩
  have hget : ((hp.push (PySem.W.kdv_tup [u])).push (HandSPX.excO C hp.objs.size)).get? (hp.objs.size + 1) = some (HandSPX.excO C hp.objs.size) := by heap_get
  have kk : ∀ b o, hp.get? b = some o → ((hp.push (PySem.W.kdv_tup [u])).push (HandSPX.excO C hp.objs.size)).get? b = some o := fun b o e => Heap.get?_push_of_some _ (Heap.get?_push_of_some _ e)
  have hnone : hp.get? (hp.objs.size + 1) = none := by
    cases z : hp.get? (hp.objs.size + 1) with
    | none => rfl
    | some o => exact absurd (Heap.lt_size z) (Nat.not_lt.mpr (Nat.le_succ _))
  refine wpAny_call (HandSPX.call_own F.excBase_ValueError (fun Y => HandSPX.refsVE_contains Y bm hbm) (I1.kIn _ _ hC) (PySem.W.looks_findIn I1.kIn iC) (fun self => PySem.W.bind_fn I1.kIn self tI) (by show 1 ≤ sizeLine; rw [sizeLine_eq]; omega)
    (ini_run (t0 := hp.objs.size) I1.kIn M1 E eP.hf eP.top iC (hr.make C [u] []).depth kk (by rw [Heap.size_push, Heap.size_push]; exact Nat.le_trans (Nat.le_succ _) (Nat.le_succ _)) hget hnone fun h' tk' dx t1 kp dn dne hx hn5 => ?_))
  refine ⟨rfl, ?_⟩
  obtain ⟨G, g1, g2⟩ := restrict h' fun b => decide (b ≠ hp.objs.size + 1)
  have gk : ∀ b, b ≠ hp.objs.size + 1 → G.get? b = h'.get? b := fun b hb => g1 b (decide_eq_true hb)
  have ge : G.get? (hp.objs.size + 1) = none := g2 _ (by simp)
  have kG : ∀ b o, hp.get? b = some o → G.get? b = some o := fun b o z => by
    rw [gk b (fun y => by rw [y, hnone] at z; cases z)]
    exact kp b o z
  have J := I1.laid (t' := tk') (a := dx) (o := .xd [(f, v)]) (h' := G) kG dn ⟨_, hn5.at fun o y => (gk dx dne).trans y, fun z => by
    rw [lookup_put]
    by_cases hz : z = f
    · rw [if_pos hz, if_pos hz]
      exact r1
    · rw [if_neg hz, if_neg hz]
      trivial⟩
  refine ⟨hp.objs.size + 1, _, _, ⟨G, g, dr, tk', os⟩, _, .ref C, some dx, rfl, J, fun b o z => ?_, ge, hx, ⟨rfl, rfl⟩, rfl, rfl, ?_, rfl, I1.bare, raises_own T.exC T.tyC, q1 dx (I1.hok.fresh dn)⟩
  · by_cases hb : b = hp.objs.size + 1
    · rw [hb, ge] at z
      cases z
    · exact (gk b hb).symm.trans z
  · rw [upd_ne (Ne.symm dne)]
    exact I1.hok.fresh (Nat.le_succ _)
/-- an error class that keeps nothing -/
structure Err0 (K : PySem.W.Frag) (C : Addr) : Prop where
  new : PySem.W.excIn K C HandSPX.veTail "ValueError.__new__" = true
  exC : PySem.W.subIn K (.ref C) (.type "BaseException") = some true
  tyC : PySem.W.typeIn K (.ref C) = some (.type "type")
  kC : PySem.W.keepIn K (.ref C) = true
/-- C() -/
theorem pmk_err0 {X : Cx} {x : Str} {C : Addr} {p pos : Pos} (E : Err0 X.K C) (hg : Gl X x) (hm : X.mg x = some (.ref C)) (hdb : (x == ("__debug__" : Str)) = false) :
    PMk X (.Call (.Name x p) [] [] pos) (fun _ H Q => Q (.ref C) none H) := by
  intro pins s σ H Q I h
  refine wpAny_Call_Name_kw (ld_glob I hg hm ?_ hdb)
  refine PySem.W.callWith_K0 I.kIn E.kC ?_
  obtain ⟨bm, N, nm, qn, bs, hdct, sn, sub, ab, col, dd, k0, k1, k2, k3, k5, mN, hC, hN, hni, T⟩ := L2.exc_obj I.kIn E.new
  show wpAny _ _ (call (.ref C) []) _ _ _
  refine wpAny_call_exc_subT F.excBase_ValueError T hC hN hni (fun h' e made => ?_) (by show 0 ≤ sizeLine; exact Nat.zero_le _)
  exact mk_of I made (raises_own E.exC E.tyC) h (I.hok.gone made.new)
end SS

end

section
set_option linter.all false
set_option maxRecDepth 100000
/-! The small language: a def of the text as a term of its own, and what it does to plain data. -/
namespace SS
open PySem

abbrev D := PyData
abbrev Cells := List (List D)

/-- what an expression gives: data, a list just made, a list that a slot owns (borrowed), a shared list, a def, the script -/
inductive EV where
  | d (x : D) | nw (ds : List D) | pk (ds : List D) | cell (n : Nat) | fn (f : Str) | scr (ns : List Int)

/-- what a slot holds -/
inductive SV where
  | un | v (x : EV) | own (ds : List D)

abbrev Env := List SV

inductive Res (α : Type) where
  | ok (a : α) (S : Cells)
  | exc (c : Str) (x : D) (S : Cells)
  | bad

def Res.bind {α β : Type} (r : Res α) (k : α → Cells → Res β) : Res β :=
  match r with
  | .ok a S => k a S
  | .exc c x S => .exc c x S
  | .bad => .bad
/-- an option's value, or stuck -/
def lft {α β : Type} (o : Option α) (k : α → Res β) : Res β :=
  match o with
  | some a => k a
  | none => .bad
@[simp] theorem Res.bind_ok {α β : Type} (a : α) (S : Cells) (k : α → Cells → Res β) : (Res.ok a S).bind k = k a S := rfl
@[simp] theorem Res.bind_bad {α β : Type} (k : α → Cells → Res β) : (Res.bad : Res α).bind k = .bad := rfl
@[simp] theorem Res.bind_exc {α β : Type} (c : Str) (x : D) (S : Cells) (k : α → Cells → Res β) : (Res.exc c x S : Res α).bind k = .exc c x S := rfl
@[simp] theorem lft_some {α β : Type} (a : α) (k : α → Res β) : lft (some a) k = k a := rfl
@[simp] theorem lft_none {α β : Type} (k : α → Res β) : lft (none : Option α) k = .bad := rfl

/-- as data, read at once -/
def EV.asD : EV → Option D
  | .d x => some x
  | .nw ds => some (.list ds)
  | .pk ds => some (.list ds)
  | _ => none
/-- as data that may be kept -/
def EV.strict : EV → Option D
  | .d x => some x
  | .nw ds => some (.list ds)
  | _ => none
/-- what is walked: st, a statement's loop (then no borrowed list) -/
def EV.srcD (st : Bool) (v : EV) : Option D := if st then v.strict else v.asD
/-- what may stand in a slot or be handed on -/
def EV.held : EV → Option EV
  | .d x => some (.d x)
  | .nw ds => some (.d (.list ds))
  | .cell n => some (.cell n)
  | .fn f => some (.fn f)
  | .scr ns => some (.scr ns)
  | .pk _ => none
@[simp] theorem asD_d (x : D) : (EV.d x).asD = some x := rfl
@[simp] theorem asD_nw (x : List D) : (EV.nw x).asD = some (.list x) := rfl
@[simp] theorem asD_pk (x : List D) : (EV.pk x).asD = some (.list x) := rfl
@[simp] theorem strict_d (x : D) : (EV.d x).strict = some x := rfl
@[simp] theorem strict_nw (x : List D) : (EV.nw x).strict = some (.list x) := rfl
@[simp] theorem held_d (x : D) : (EV.d x).held = some (.d x) := rfl
@[simp] theorem held_nw (x : List D) : (EV.nw x).held = some (.d (.list x)) := rfl
@[simp] theorem held_cell (n : Nat) : (EV.cell n).held = some (.cell n) := rfl
@[simp] theorem held_fn (n : Str) : (EV.fn n).held = some (.fn n) := rfl
@[simp] theorem held_scr (n : List Int) : (EV.scr n).held = some (.scr n) := rfl

/-- lists and tuples stay below this -/
abbrev lim : Nat := 1000000

inductive BOp where | add | sub | mul | mod | fdiv | pow
  deriving DecidableEq
inductive COp where | eq | ne | lt | le | gt | ge | inn | nin | is | isn
  deriving DecidableEq
/-- built-ins of one argument -/
inductive B1 where | len | int | abs | sum | max | min | tuple | list | all | repr | str | sorted
  deriving DecidableEq
inductive B2 where | max | min | divmod
  deriving DecidableEq
/-- methods of a list with one argument -/
inductive M1 where | index | count
  deriving DecidableEq
/-- kinds that isinstance asks for -/
inductive Ty where | int | bool | str | tuple | list
  deriving DecidableEq

/-- a handler's table: told: what the call gives is shown behind the word ok; tb: an error's class, its word, how it is shown -/
structure HrT where
  told : Bool
  ok : Str
  tb : List (Str × Str × Nat)
  deriving DecidableEq
/-- what is told of an error that keeps x: just the word; the word and x; these and a truth; the word and a truth -/
def shownH {α : Type} (s : Str → α) (t : α) : Nat → Str → α → List α
  | 0, w, _ => [s w]
  | 1, w, x => [s w, x]
  | 2, w, x => [s w, x, t]
  | _, w, _ => [s w, t]

mutual
inductive IE where
  | lit (d : D)
  | glob (x : Str) (i : Int)
  | fnv (f : Str)
  | var (i : Nat)
  | peek (i : Nat)
  | tup (es : IEs)
  | lst (es : IEs)
  | newc (e : IE)
  | bin (op : BOp) (a b : IE)
  | neg (a : IE)
  | not (a : IE)
  | cmp (op : COp) (a b : IE)
  | chn (a : IE) (op : COp) (b : IE) (op' : COp) (c : IE)
  | and (a b : IE)
  | or (a b : IE)
  | ite (c a b : IE)
  | ix (a i : IE)
  | sl (a : IE) (lo hi : IO)
  | rev (a : IE)
  | call (f : Str) (ks : List Str) (p : List Nat) (es zs : IEs)
  | callv (i : Nat) (es : IEs)
  | b1 (b : B1) (a : IE)
  | b2 (b : B2) (a c : IE)
  | isi (a : IE) (t : Ty)
  | comp (elt : IE) (tg : Tg) (src : Src) (cnd : IO)
  | srtR (a : IE)
  | rgl (tp : Bool) (src : Src)
  | m1 (m : M1) (a e : IE)
  | sset (ln : Bool) (a : IE)
  | srtK (src : Src) (i : Nat) (body : IE)
  | hear (h : Str) (t : HrT) (o : Option (Nat × Int)) (b : IE)
inductive IEs where
  | nil
  | cons (e : IE) (es : IEs)
inductive IO where
  | none
  | some (e : IE)
/-- targets -/
inductive Tg where
  | nm (i : Nat)
  | tup (ts : Tgs)
  | sub (o i : IE)
  | osub (s : Nat) (i : IE)
inductive Tgs where
  | nil
  | cons (t : Tg) (ts : Tgs)
/-- what is walked -/
inductive Src where
  | it (e : IE)
  | rng1 (a : IE)
  | rng2 (a b : IE)
  | rngd (a b : IE)
  | enum (e : IE)
  | zip (a b : IE)
end

mutual
inductive IS where
  | set (tg : Tg) (e : IE)
  | own (i : Nat) (e : IE)
  | par (is : List (Nat × Bool)) (es : IEs)
  | expr (e : IE)
  | app (i : Nat) (e : IE)
  | ext (i : Nat) (e : IE)
  | ret (e : IE)
  | retN
  | pass
  | ite (c : IE) (a b : ISs)
  | for (tg : Tg) (src : Src) (body : ISs)
  | whil (n : Nat) (c : IE) (body : ISs)
  | frz (i : Nat)
  | mov (i j : Nat)
  | raise (c : Str) (e : IE)
  | raise0 (c : Str)
  | never
  | popA (i j : Nat) (e : IE)
inductive ISs where
  | nil
  | cons (s : IS) (ss : ISs)
end

/-! ### operators upon data -/
def b2i (b : Bool) : Int := if b then 1 else 0
def binD : BOp → D → D → Option D
  | .add, .int i, .int j => some (.int (i + j))
  | .add, .tuple xs, .tuple ys => if xs.length + ys.length ≤ lim then some (.tuple (xs ++ ys)) else none
  | .add, .str x, .str y => if x.length + y.length ≤ lim then some (.str (x ++ y)) else none
  | .sub, .int i, .int j => some (.int (i - j))
  | .mul, .tuple xs, .int k => if xs ≠ [] ∧ 1 ≤ k.toNat ∧ k.toNat ≤ 1000 ∧ xs.length ≤ 1000 then some (.tuple (List.replicate k.toNat xs).flatten) else if xs ≠ [] ∧ -1000 ≤ k ∧ k ≤ 0 then some (.tuple []) else none
  | .mul, .int i, .int j => if (i.natAbs < 2 ^ 64 ∨ j.natAbs < 2 ^ 64) then some (.int (i * j)) else none
  | .mod, .int i, .int j => if 0 < j then some (.int (i % j)) else none
  | .fdiv, .int i, .int j => if 0 < j ∧ j.natAbs < 1073741824 then some (.int (i / j)) else none
  | .pow, .int i, .int j => if 0 ≤ j ∧ j ≤ 1000 ∧ i.natAbs < 2 ^ 64 then some (.int (i ^ j.toNat)) else none
  | _, _, _ => none
/-- + and * of lists make new ones -/
def binN : BOp → D → D → Option (List D)
  | .add, .list xs, .list ys => if xs.length + ys.length ≤ lim then some (xs ++ ys) else none
  | .mul, .list xs, .int k => if xs.length * k.toNat ≤ lim ∧ (-k).toNat ≤ 2 ^ 60 ∧ k.toNat < 2 ^ 60 then some (List.replicate k.toNat xs).flatten else none
  | _, _, _ => none
def flatD : D → Bool
  | .none | .bool _ | .int _ | .str _ => true
  | _ => false
def eqD : D → D → Option Bool
  | .str x, .str y => some (x == y)
  | x, y => if SeqAt.shaped x && SeqAt.shaped y then some (PyData.eqv x y) else none
/-- an order's answer, for data that are alike -/
def ordR (x y : D) (b : Bool) : Option Bool := if PySem.W.alike x y && decide (x.depth ≤ 60) then some b else none
def cmpD : COp → D → D → Option Bool
  | .eq, x, y => eqD x y
  | .ne, x, y => (eqD x y).map fun b => !b
  | .lt, .int i, .int j => some (decide (i < j))
  | .le, .int i, .int j => some (decide (i ≤ j))
  | .gt, .int i, .int j => some (decide (j < i))
  | .ge, .int i, .int j => some (decide (j ≤ i))
  | .lt, .tuple x, .tuple y => ordR (.tuple x) (.tuple y) (PySem.W.dataLt (.tuple x) (.tuple y))
  | .gt, .tuple x, .tuple y => ordR (.tuple x) (.tuple y) (PySem.W.dataLt (.tuple y) (.tuple x))
  | .le, .tuple x, .tuple y => ordR (.tuple x) (.tuple y) (!PySem.W.dataLt (.tuple y) (.tuple x))
  | .ge, .tuple x, .tuple y => ordR (.tuple x) (.tuple y) (!PySem.W.dataLt (.tuple x) (.tuple y))
  | .is, .none, .none => some true
  | .is, .bool _, .none => some false
  | .is, .int _, .none => some false
  | .is, .str _, .none => some false
  | .is, .tuple _, .none => some false
  | .is, .list _, .none => some false
  | .isn, .none, .none => some false
  | .isn, .bool _, .none => some true
  | .isn, .int _, .none => some true
  | .isn, .str _, .none => some true
  | .isn, .tuple _, .none => some true
  | .isn, .list _, .none => some true
  | .inn, x, .list ys => if SeqAt.shaped x && SeqAt.shaped (.list ys) then some (ys.any fun z => PyData.eqv z x) else none
  | .inn, x, .tuple ys => if SeqAt.shaped x && SeqAt.shaped (.tuple ys) then some (ys.any fun z => PyData.eqv z x) else none
  | .nin, x, .tuple ys => if SeqAt.shaped x && SeqAt.shaped (.tuple ys) then some (!ys.any fun z => PyData.eqv z x) else none
  | .nin, x, .list ys => if SeqAt.shaped x && SeqAt.shaped (.list ys) then some (!ys.any fun z => PyData.eqv z x) else none
  | _, _, _ => none
def asInts : List D → Option (List Int)
  | [] => some []
  | .int i :: r => (asInts r).map (i :: ·)
  | _ :: _ => none
def asBools : List D → Option (List Bool)
  | [] => some []
  | .bool b :: r => (asBools r).map (b :: ·)
  | _ :: _ => none
def maxL : List Int → Int
  | [] => 0
  | x :: r => r.foldl (fun a b => if a < b then b else a) x
def minL : List Int → Int
  | [] => 0
  | x :: r => r.foldl (fun a b => if b < a then b else a) x
def insI (x : Int) : List Int → List Int
  | [] => [x]
  | y :: r => if x ≤ y then x :: y :: r else y :: insI x r
def sortI : List Int → List Int
  | [] => []
  | x :: r => insI x (sortI r)
/-- data that can be sorted -/
def srtOk (ds : List D) : Bool := (ds.all fun d => ds.all fun e => PySem.W.alike d e) && (ds.all fun d => decide (d.depth ≤ 60)) &&
  ((ds.all fun d => match d with | .tuple (_ :: _) => true | _ => false) || (ds.all fun d => match d with | .none => false | .tuple _ => false | _ => true))
def sortD (rev : Bool) (ds : List D) : List D := ds.mergeSort (PySem.W.dataLe rev id)
/-- sorted: whole numbers (ns), or other data of a list -/
def srtL (xs : List D) : Option (List Int) → Option (List D)
  | some ns => some ((sortI ns).map .int)
  | none => if srtOk xs then some (sortD false xs) else none
def srtLR (xs : List D) : Option (List Int) → Option (List D)
  | some ns => some ((sortI ns).reverse.map .int)
  | none => if srtOk xs then some (sortD true xs) else none
def srtTR : Option (List Int) → Option (List D)
  | some ns => some ((sortI ns).reverse.map .int)
  | none => none
def srtRD : D → Option (List D)
  | .list xs => srtLR xs (asInts xs)
  | .tuple xs => srtTR (asInts xs)
  | _ => none
def insU (x : Int) : List Int → List Int
  | [] => [x]
  | y :: r => if x < y then x :: y :: r else if x = y then y :: r else y :: insU x r
/-- ascending, each once -/
def uniqI : List Int → List Int
  | [] => []
  | x :: r => insU x (uniqI r)
/-- few whole numbers of a list, for set(..) -/
def uqOk (n : Nat) : Option (List Int) → Option (List Int)
  | some ns => if n ≤ 60 then some ns else none
  | none => none
def uqD : D → Option (List Int)
  | .list xs => uqOk xs.length (asInts xs)
  | _ => none
/-- the first place of an equal one -/
def idxD (ds : List D) (d : D) : Option Nat := ds.findIdx? fun z => PyData.eqv z d
def m1D : M1 → D → D → Option D
  | .index, .list ds, d => if SeqAt.shaped (.list ds) && SeqAt.shaped d then (idxD ds d).map fun i => .int (i : Nat) else none
  | .count, .list ds, d => if SeqAt.shaped (.list ds) && SeqAt.shaped d then some (.int ((ds.countP fun z => PyData.eqv z d : Nat) : Int)) else none
  | _, _, _ => none
/-- sorted by their keys -/
def keyD (ds ks : List D) : List D := ((ds.zip ks).mergeSort (PySem.W.dataLe false (·.2))).map (·.1)
/-- data that repr shows in few signs -/
def reprOk (d : D) : Bool := d.canLay0 && d.showable && decide (d.depth ≤ 64) && d.intsShort 70 && decide (d.weight ≤ 65536)
/-- a built-in of one argument that gives data -/
def b1D : B1 → D → Option D
  | .len, .list xs => some (.int xs.length)
  | .len, .tuple xs => some (.int xs.length)
  | .len, .str x => if x.length ≤ lim then some (.int x.length) else none
  | .int, .int i => some (.int i)
  | .int, .bool b => some (.int (b2i b))
  | .abs, .int i => some (.int (if i < 0 then -i else i))
  | .sum, .list xs => (asInts xs).map fun ns => .int ns.sum
  | .sum, .tuple xs => (asInts xs).map fun ns => .int ns.sum
  | .max, .list xs => (asInts xs).bind fun ns => if ns = [] then none else some (.int (maxL ns))
  | .min, .list xs => (asInts xs).bind fun ns => if ns = [] then none else some (.int (minL ns))
  | .max, .tuple xs => (asInts xs).bind fun ns => if ns = [] then none else some (.int (maxL ns))
  | .min, .tuple xs => (asInts xs).bind fun ns => if ns = [] then none else some (.int (minL ns))
  | .tuple, .list xs => some (.tuple xs)
  | .tuple, .tuple xs => some (.tuple xs)
  | .all, .list xs => (asBools xs).map fun bs => .bool (bs.all id)
  | .repr, .none => some (.str "None")
  | .repr, .bool b => some (.str (if b then "True" else "False"))
  | .repr, .int i => if i.natAbs.log2 < 1920 then some (.str (toString i)) else none
  | .repr, .str x => if (PySem.reprText x).length ≤ lim then some (.str (PySem.reprText x)) else none
  | .repr, .list xs => if reprOk (.list xs) then some (.str (PyData.list xs).shown) else none
  | .repr, .tuple xs => if reprOk (.tuple xs) then some (.str (PyData.tuple xs).shown) else none
  | _, _ => none
/-- .. that makes a new list -/
def b1N : B1 → D → Option (List D)
  | .list, .list xs => some xs
  | .list, .tuple xs => some xs
  | .sorted, .list xs => srtL xs (asInts xs)
  | .sorted, .tuple xs => srtL xs (asInts xs)
  | _, _ => none
def b2D : B2 → D → D → Option D
  | .max, .int i, .int j => some (.int (if j > i then j else i))
  | .min, .int i, .int j => some (.int (if j < i then j else i))
  | .divmod, .int i, .int j => if 0 < j ∧ j.natAbs < 1073741824 then some (.tuple [.int (i / j), .int (i % j)]) else none
  | _, _, _ => none
def isiD : Ty → D → Bool
  | .int, .int _ => true
  | .int, .bool _ => true
  | .bool, .bool _ => true
  | .str, .str _ => true
  | .tuple, .tuple _ => true
  | .list, .list _ => true
  | _, _ => false
def atD {α : Type} (xs : List α) (i : Int) : Option α := L2.atI xs i
def cutD (xs : List D) (lo hi : Option Int) : List D := (xs.drop (HT.sIx xs.length 0 lo)).take (HT.sIx xs.length xs.length hi - HT.sIx xs.length 0 lo)

/-- the items of data that is walked -/
def itemsD : D → Option (List D)
  | .list xs => some xs
  | .tuple xs => some xs
  | _ => none
def listD : D → Option (List D)
  | .list xs => some xs
  | _ => none
/-- range(a, b, -1) -/
def rangedD (a b : Int) : List D := (List.range (a - b).toNat).map fun i => .int (a - (i : Nat))
def rangeD (a b : Int) : List D := (List.range (b - a).toNat).map fun i => .int (a + (i : Nat))
def enumD (xs : List D) : List D := (List.range xs.length).zipWith (fun i x => .tuple [.int (i : Nat), x]) xs
def zipD (xs ys : List D) : List D := xs.zipWith (fun x y => .tuple [x, y]) ys

def zip2D : D → D → Option (List D)
  | .list xs, .list ys => some (zipD xs ys)
  | .tuple xs, .tuple ys => some (zipD xs ys)
  | _, _ => none

/-! ### running -/
abbrev Call := Str → List EV → Cells → Res EV

def EV.mapHeld : List EV → Option (List EV)
  | [] => some []
  | x :: r => x.held.bind fun y => (mapHeld r).map (y :: ·)
def EV.mapStrict : List EV → Option (List D)
  | [] => some []
  | x :: r => x.strict.bind fun y => (mapStrict r).map (y :: ·)

/-- the loop of a comprehension; no error leaves it -/
def compLoop (f : D → Cells → Res (Option D)) : List D → Cells → Res (List D)
  | [], S => .ok [] S
  | x :: r, S => match f x S with
    | .ok o S1 => (compLoop f r S1).bind fun ds S2 => .ok (match o with | some d => d :: ds | none => ds) S2
    | _ => .bad

def dBool : EV → Option Bool
  | .d (.bool b) => some b
  | _ => none
@[simp] theorem dBool_d (b : Bool) : dBool (.d (.bool b)) = some b := rfl
def dInt : EV → Option Int
  | .d (.int b) => some b
  | _ => none
@[simp] theorem dInt_d (b : Int) : dInt (.d (.int b)) = some b := rfl

/-- xs[i] -/
def ixD (S : Cells) : EV → Int → Option D
  | .d (.list xs), i => atD xs i
  | .d (.tuple xs), i => atD xs i
  | .nw xs, i => atD xs i
  | .pk xs, i => atD xs i
  | .cell n, i => (S[n]?).bind fun xs => atD xs i
  | .scr ns, i => (atD ns i).map .int
  | _, _ => none
/-- xs[::-1] -/
def revD : D → Option EV
  | .list xs => some (.nw xs.reverse)
  | .tuple xs => some (.d (.tuple xs.reverse))
  | _ => none
/-- xs[lo:hi] -/
def slD : EV → Option Int → Option Int → Option EV
  | .d (.list xs), lo, hi => some (.nw (cutD xs lo hi))
  | .d (.tuple xs), lo, hi => some (.d (.tuple (cutD xs lo hi)))
  | .nw xs, lo, hi => some (.nw (cutD xs lo hi))
  | .pk xs, lo, hi => some (.nw (cutD xs lo hi))
  | .scr ns, lo, hi => some (.nw (cutD (ns.map .int) lo hi))
  | _, _, _ => none
def b1E (b : B1) : EV → Option EV
  | .scr ns => match b with
    | .len => some (.d (.int ns.length))
    | _ => none
  | v => v.asD.bind fun x => match b1D b x with
    | some y => some (.d y)
    | none => (b1N b x).map .nw
def binE (op : BOp) (x y : EV) : Option EV := x.asD.bind fun a => y.asD.bind fun b => match binD op a b with
  | some z => some (.d z)
  | none => (binN op a b).map .nw
def cmpE (op : COp) (x y : EV) : Option Bool := x.asD.bind fun a => y.asD.bind fun b => cmpD op a b

/-- xs.pop(k) -/
def popAt (es : List D) (k : Int) : Option (D × List D) := if 0 ≤ k ∧ k.toNat < es.length ∧ k.toNat < 1000000 then some (es.getD k.toNat .none, es.eraseIdx k.toNat) else none
def setCell (S : Cells) (n : Nat) (i : Int) (d : D) : Option Cells :=
  (S[n]?).bind fun xs => (L2.ixN xs.length i).map fun j => S.set n (xs.set j d)

mutual
def evalE (F : Call) : IE → Env → Cells → Res EV
  | .lit d, _, S => .ok (.d d) S
  | .glob _ i, _, S => .ok (.d (.int i)) S
  | .fnv f, _, S => .ok (.fn f) S
  | .var i, ρ, S => match ρ[i]? with
    | some (.v x) => .ok x S
    | _ => .bad
  | .peek i, ρ, S => match ρ[i]? with
    | some (.own ds) => .ok (.pk ds) S
    | _ => .bad
  | .tup es, ρ, S => (evalEs F es ρ S).bind fun vs S => lft (EV.mapStrict vs) fun ds => if ds.length ≤ lim then .ok (.d (.tuple ds)) S else .bad
  | .lst es, ρ, S => (evalEs F es ρ S).bind fun vs S => lft (EV.mapStrict vs) fun ds => if ds.length ≤ lim then .ok (.nw ds) S else .bad
  | .newc e, ρ, S => (evalE F e ρ S).bind fun v S => match v with
    | .nw ds => .ok (.cell S.length) (S ++ [ds])
    | _ => .bad
  | .bin op a b, ρ, S => (evalE F a ρ S).bind fun x S => (evalE F b ρ S).bind fun y S => lft (binE op x y) fun z => .ok z S
  | .neg a, ρ, S => (evalE F a ρ S).bind fun x S => lft (dInt x) fun i => .ok (.d (.int (-i))) S
  | .not a, ρ, S => (evalE F a ρ S).bind fun x S => lft (dBool x) fun b => .ok (.d (.bool (!b))) S
  | .cmp op a b, ρ, S => (evalE F a ρ S).bind fun x S => (evalE F b ρ S).bind fun y S => lft (cmpE op x y) fun z => .ok (.d (.bool z)) S
  | .chn a op b op' c, ρ, S => (evalE F a ρ S).bind fun x S => (evalE F b ρ S).bind fun y S => lft (cmpE op x y) fun z =>
      if z then (evalE F c ρ S).bind fun w S => lft (cmpE op' y w) fun z' => .ok (.d (.bool z')) S else .ok (.d (.bool false)) S
  | .and a b, ρ, S => (evalE F a ρ S).bind fun x S => lft (dBool x) fun c => if c then evalE F b ρ S else .ok (.d (.bool false)) S
  | .or a b, ρ, S => (evalE F a ρ S).bind fun x S => lft (dBool x) fun c => if c then .ok (.d (.bool true)) S else evalE F b ρ S
  | .ite c a b, ρ, S => (evalE F c ρ S).bind fun x S => lft (dBool x) fun c => if c then evalE F a ρ S else evalE F b ρ S
  | .ix a i, ρ, S => (evalE F a ρ S).bind fun x S => (evalE F i ρ S).bind fun y S => lft (dInt y) fun j => lft (ixD S x j) fun z => .ok (.d z) S
  | .sl a lo hi, ρ, S => (evalE F a ρ S).bind fun x S => (evalO F lo ρ S).bind fun i S => (evalO F hi ρ S).bind fun j S => lft (slD x i j) fun z => .ok z S
  | .rev a, ρ, S => (evalE F a ρ S).bind fun x S => lft (x.asD.bind revD) fun z => .ok z S
  | .call f _ p es zs, ρ, S => (evalEs F es ρ S).bind fun vs S => (evalEs F zs ρ S).bind fun ws S => lft (EV.mapHeld (vs ++ ws)) fun us => F f (p.map fun i => us.getD i (.d .none)) S
  | .callv i es, ρ, S => match ρ[i]? with
    | some (.v (.fn f)) => (evalEs F es ρ S).bind fun vs S => lft (EV.mapHeld vs) fun vs => F f vs S
    | _ => .bad
  | .b1 b a, ρ, S => (evalE F a ρ S).bind fun x S => lft (b1E b x) fun z => .ok z S
  | .b2 b a c, ρ, S => (evalE F a ρ S).bind fun x S => (evalE F c ρ S).bind fun y S => lft (x.asD.bind fun x => y.asD.bind fun y => b2D b x y) fun z => .ok (.d z) S
  | .isi a t, ρ, S => (evalE F a ρ S).bind fun x S => lft x.asD fun x => .ok (.d (.bool (isiD t x))) S
  | .comp elt tg src cnd, ρ, S => (evalSrc F false src ρ S).bind fun ds S =>
      (compLoop (fun x S => lft (bindPure tg x ρ) fun ρ' => (evalC F cnd ρ' S).bind fun b S => if b then (evalE F elt ρ' S).bind fun v S => lft v.strict fun d => .ok (some d) S else .ok none S) ds S).bind
        fun rs S => if ds.length ≤ lim then .ok (.nw rs) S else .bad
  | .srtR a, ρ, S => (evalE F a ρ S).bind fun x S => lft (x.asD.bind srtRD) fun ds => .ok (.nw ds) S
  | .m1 m a e, ρ, S => (evalE F a ρ S).bind fun x S => lft (x.asD.bind listD) fun xs => (evalE F e ρ S).bind fun y S => lft (y.asD.bind fun y => m1D m (.list xs) y) fun z => .ok (.d z) S
  | .sset ln a, ρ, S => (evalE F a ρ S).bind fun x S => lft (x.asD.bind uqD) fun ns => .ok (if ln then .d (.int (uniqI ns).length) else .nw ((uniqI ns).map .int)) S
  | .srtK src i body, ρ, S => (evalSrc F false src ρ S).bind fun ds S =>
      (compLoop (fun x S => (evalE F body (ρ.set i (.v (.d x))) S).bind fun v S => lft v.strict fun d => .ok (some d) S) ds S).bind
        fun ks S => if ds.length ≤ lim ∧ srtOk ks = true then .ok (.nw (keyD ds ks)) S else .bad
  | .hear _ t o b, ρ, S => match evalE F b (match o with | some (i, v) => ρ.set i (.v (.d (.int v))) | none => ρ) S with
    | .ok v S' => if t.told then lft v.strict fun d => .ok (.nw [.str t.ok, d]) S' else .ok (.nw [.str t.ok]) S'
    | .exc c x S' => lft (t.tb.lookup c) fun p => .ok (.nw (shownH .str (.bool true) p.2 p.1 x)) S'
    | .bad => .bad
  | .rgl tp src, ρ, S => (evalSrc F false src ρ S).bind fun ds S => .ok (if tp then .d (.tuple ds) else .nw ds) S
def evalEs (F : Call) : IEs → Env → Cells → Res (List EV)
  | .nil, _, S => .ok [] S
  | .cons e es, ρ, S => (evalE F e ρ S).bind fun v S => (evalEs F es ρ S).bind fun vs S => .ok (v :: vs) S
def evalO (F : Call) : IO → Env → Cells → Res (Option Int)
  | .none, _, S => .ok none S
  | .some e, ρ, S => (evalE F e ρ S).bind fun v S => lft (dInt v) fun i => .ok (some i) S
/-- a comprehension's test -/
def evalC (F : Call) : IO → Env → Cells → Res Bool
  | .none, _, S => .ok true S
  | .some e, ρ, S => (evalE F e ρ S).bind fun v S => lft (dBool v) fun i => .ok i S
def evalSrc (F : Call) (st : Bool) : Src → Env → Cells → Res (List D)
  | .it e, ρ, S => (evalE F e ρ S).bind fun v S => lft ((v.srcD st).bind itemsD) fun ds => .ok ds S
  | .rng1 a, ρ, S => (evalE F a ρ S).bind fun v S => lft (dInt v) fun n => if n.natAbs ≤ 1000000 then .ok (rangeD 0 n) S else .bad
  | .rngd a b, ρ, S => (evalE F a ρ S).bind fun v S => (evalE F b ρ S).bind fun w S => lft (dInt v) fun m => lft (dInt w) fun n => if m.natAbs ≤ 1000000 ∧ n.natAbs ≤ 1000000 then .ok (rangedD m n) S else .bad
  | .rng2 a b, ρ, S => (evalE F a ρ S).bind fun v S => (evalE F b ρ S).bind fun w S => lft (dInt v) fun m => lft (dInt w) fun n => if m.natAbs ≤ 1000000 ∧ n.natAbs ≤ 1000000 then .ok (rangeD m n) S else .bad
  | .enum e, ρ, S => (evalE F e ρ S).bind fun v S => lft ((v.srcD st).bind itemsD) fun ds => .ok (enumD ds) S
  | .zip a b, ρ, S => (evalE F a ρ S).bind fun v S => (evalE F b ρ S).bind fun w S => lft ((v.srcD st).bind fun x => (w.srcD st).bind fun y => zip2D x y) fun ds => .ok ds S
/-- a target of names alone -/
def bindPure : Tg → D → Env → Option Env
  | .nm i, x, ρ => some (ρ.set i (.v (.d x)))
  | .tup ts, .tuple xs, ρ => bindPures ts xs ρ
  | _, _, _ => none
def bindPures : Tgs → List D → Env → Option Env
  | .nil, [], ρ => some ρ
  | .cons t ts, x :: xs, ρ => (bindPure t x ρ).bind fun ρ' => bindPures ts xs ρ'
  | _, _, _ => none
end

/-- how a statement ends -/
inductive SRes where
  | nx (ρ : Env) (S : Cells)
  | ret (v : EV) (S : Cells)
  | exc (c : Str) (x : D) (ρ : Env) (S : Cells)
  | bad
def SRes.thn (r : SRes) (k : Env → Cells → SRes) : SRes :=
  match r with
  | .nx ρ S => k ρ S
  | .ret v S => .ret v S
  | .exc c x ρ S => .exc c x ρ S
  | .bad => .bad
/-- an expression's end, in a statement -/
def Res.st {α : Type} (r : Res α) (ρ : Env) (k : α → Cells → SRes) : SRes :=
  match r with
  | .ok a S => k a S
  | .exc c x S => .exc c x ρ S
  | .bad => .bad
def sft {α : Type} (o : Option α) (k : α → SRes) : SRes :=
  match o with
  | some a => k a
  | none => .bad
@[simp] theorem thn_nx (ρ : Env) (S : Cells) (k : Env → Cells → SRes) : (SRes.nx ρ S).thn k = k ρ S := rfl
@[simp] theorem thn_ret (v : EV) (S : Cells) (k : Env → Cells → SRes) : (SRes.ret v S).thn k = .ret v S := rfl
@[simp] theorem thn_exc (c : Str) (x : D) (ρ : Env) (S : Cells) (k : Env → Cells → SRes) : (SRes.exc c x ρ S).thn k = .exc c x ρ S := rfl
@[simp] theorem thn_bad (k : Env → Cells → SRes) : (SRes.bad).thn k = .bad := rfl
@[simp] theorem st_ok {α : Type} (a : α) (S : Cells) (ρ : Env) (k : α → Cells → SRes) : (Res.ok a S).st ρ k = k a S := rfl
@[simp] theorem st_exc {α : Type} (c : Str) (x : D) (S : Cells) (ρ : Env) (k : α → Cells → SRes) : (Res.exc c x S : Res α).st ρ k = .exc c x ρ S := rfl
@[simp] theorem st_bad {α : Type} (ρ : Env) (k : α → Cells → SRes) : (Res.bad : Res α).st ρ k = .bad := rfl
@[simp] theorem sft_some {α : Type} (a : α) (k : α → SRes) : sft (some a) k = k a := rfl
@[simp] theorem sft_none {α : Type} (k : α → SRes) : sft (none : Option α) k = .bad := rfl

def Tgs.len : Tgs → Nat
  | .nil => 0
  | .cons _ ts => ts.len + 1
mutual
/-- a target takes a value -/
def bindT (F : Call) : Tg → EV → Env → Cells → SRes
  | .nm i, v, ρ, S => .nx (ρ.set i (.v v)) S
  | .tup ts, .d (.tuple xs), ρ, S => if xs.length = ts.len then bindTs F ts xs ρ S else .bad
  | .tup _, _, _, _ => .bad
  | .sub o i, v, ρ, S => (evalE F o ρ S).st ρ fun c S => (evalE F i ρ S).st ρ fun j S => match c, j, v with
    | .cell n, .d (.int j), .d d => sft (setCell S n j d) fun S => .nx ρ S
    | _, _, _ => .bad
  | .osub s i, v, ρ, S => match ρ[s]? with
    | some (.own ds) => (evalE F i ρ S).st ρ fun j S => match j, v with
      | .d (.int j), .d d => sft (L2.ixN ds.length j) fun k => .nx (ρ.set s (.own (ds.set k d))) S
      | _, _ => .bad
    | _ => .bad
def bindTs (F : Call) : Tgs → List D → Env → Cells → SRes
  | .nil, [], ρ, S => .nx ρ S
  | .cons t ts, x :: xs, ρ, S => (bindT F t (.d x) ρ S).thn fun ρ S => bindTs F ts xs ρ S
  | _, _, _, _ => .bad
end

def forLoop (f : D → Env → Cells → SRes) : List D → Env → Cells → SRes
  | [], ρ, S => .nx ρ S
  | x :: r, ρ, S => (f x ρ S).thn fun ρ S => forLoop f r ρ S
def whileLoop (c : Env → Cells → Res EV) (f : Env → Cells → SRes) : Nat → Env → Cells → SRes
  | 0, _, _ => .bad
  | n + 1, ρ, S => (c ρ S).st ρ fun v S => sft (dBool v) fun b => if b then (f ρ S).thn fun ρ S => whileLoop c f n ρ S else .nx ρ S

/-- the values of a, b, .. = x, y, ..: slots that own their new list, slots that don't -/
def parSet : List (Nat × Bool) → List EV → Env → Option Env
  | [], [], ρ => some ρ
  | (i, true) :: is, .nw ds :: vs, ρ => parSet is vs (ρ.set i (.own ds))
  | (i, false) :: is, v :: vs, ρ => v.held.bind fun x => parSet is vs (ρ.set i (.v x))
  | _, _, _ => none
def retV : EV → EV
  | .pk ds => .nw ds
  | v => v

mutual
def exec (F : Call) : IS → Env → Cells → SRes
  | .set tg e, ρ, S => (evalE F e ρ S).st ρ fun v S => sft v.held fun v => bindT F tg v ρ S
  | .own i e, ρ, S => (evalE F e ρ S).st ρ fun v S => match v with
    | .nw ds => .nx (ρ.set i (.own ds)) S
    | _ => .bad
  | .par is es, ρ, S => (evalEs F es ρ S).st ρ fun vs S => sft (parSet is vs ρ) fun ρ => .nx ρ S
  | .expr e, ρ, S => (evalE F e ρ S).st ρ fun _ S => .nx ρ S
  | .app i e, ρ, S => match ρ[i]? with
    | some (.own ds) => (evalE F e ρ S).st ρ fun v S => sft v.strict fun d => if ds.length < lim then .nx (ρ.set i (.own (ds ++ [d]))) S else .bad
    | _ => .bad
  | .ext i e, ρ, S => match ρ[i]? with
    | some (.own ds) => (evalE F e ρ S).st ρ fun v S => sft (v.strict.bind listD) fun es => if ds.length + es.length ≤ lim then .nx (ρ.set i (.own (ds ++ es))) S else .bad
    | _ => .bad
  | .ret e, ρ, S => (evalE F e ρ S).st ρ fun v S => .ret (retV v) S
  | .retN, _, S => .ret (.d .none) S
  | .pass, ρ, S => .nx ρ S
  | .ite c a b, ρ, S => (evalE F c ρ S).st ρ fun v S => sft (dBool v) fun c => if c then execs F a ρ S else execs F b ρ S
  | .for tg src body, ρ, S => (evalSrc F true src ρ S).st ρ fun ds S => forLoop (fun x ρ S => (bindT F tg (.d x) ρ S).thn fun ρ S => execs F body ρ S) ds ρ S
  | .whil n c body, ρ, S => whileLoop (fun ρ S => evalE F c ρ S) (fun ρ S => execs F body ρ S) n ρ S
  | .frz i, ρ, S => match ρ[i]? with
    | some (.own ds) => .nx (ρ.set i (.v (.d (.list ds)))) S
    | _ => .bad
  | .mov i j, ρ, S => match ρ[j]? with
    | some (.own ds) => .nx ((ρ.set j .un).set i (.own ds)) S
    | _ => .bad
  | .raise c e, ρ, S => (evalE F e ρ S).st ρ fun v S => sft v.held fun v => sft (match v with | .d d => some d | _ => none) fun d => .exc c d ρ S
  | .raise0 c, ρ, S => .exc c .none ρ S
  | .never, _, _ => .bad
  | .popA i j e, ρ, S => match ρ[i]?, ρ[j]? with
    | some (.own ds), some (.own es) => (evalE F e ρ S).st ρ fun v S => sft (dInt v) fun k => sft (popAt es k) fun p => if ds.length < lim ∧ i ≠ j then .nx ((ρ.set j (.own p.2)).set i (.own (ds ++ [p.1]))) S else .bad
    | _, _ => .bad
def execs (F : Call) : ISs → Env → Cells → SRes
  | .nil, ρ, S => .nx ρ S
  | .cons s ss, ρ, S => (exec F s ρ S).thn fun ρ S => execs F ss ρ S
end

/-- a def: how many parameters, how many slots, the body -/
structure FnIR where
  ps : Nat
  n : Nat
  body : ISs
  lam : Bool := false

def startE (n : Nat) (vs : List EV) : Env := vs.map SV.v ++ List.replicate (n - vs.length) SV.un
def runFn (F : Call) (fn : FnIR) (args : List EV) (S : Cells) : Res EV :=
  if args.length = fn.ps then
    match execs F fn.body (startE fn.n args) S with
    | .nx _ S' => .ok (.d .none) S'
    | .ret v S' => .ok v S'
    | .exc c x _ S' => .exc c x S'
    | .bad => .bad
  else .bad
/-- the defs of a text, called k deep -/
def callF (T : Str → Option FnIR) : Nat → Call
  | 0 => fun _ _ _ => .bad
  | k + 1 => fun f args S => match T f with
    | some fn => runFn (callF T k) fn args S
    | none => .bad

end SS

end

section
set_option linter.all false
set_option maxRecDepth 100000
/-! Which syntax a term of the small language stands for. -/
namespace SS
open PySem L2

/-- what the text has at its top: numbers, built-ins not taken, calls by how they bind -/
structure Sg where
  consts : List (Str × Int)
  blt : List Str
  calls : List (Str × Nat × List Str × List Nat)
  fns : List Str
  classes : List Str := []
  /-- the name under which a class of errors keeps what it was made with -/
  att : List (Str × Str) := []
  hears : List (Str × HrT) := []
  /-- the def makes lambdas -/
  lam : Bool := false

def attOf (g : Sg) (c : Str) : Str := (g.att.lookup c).getD ""
/-- a lambda's names: its own one, captured ones, globals -/
def lamS1B (sc scope : Scope) (p : Str) : Bool :=
  decide (scope.kind = .function) && !scope.isCoroutine && !scope.isGenerator && decide (scope.names.lookup p = some .local) &&
    scope.names.all fun y => !decide (y.2 = .cell) && (!decide (y.2 = .local) || decide (y.1 = p)) && (!decide (y.2 = .free) || decide (sc.names.lookup y.1 = some .cell) || decide (sc.names.lookup y.1 = some .free))
/-- what sorted(.., key=) may walk -/
def keySrc : Src → Bool
  | .it _ => true
  | .rng1 _ => true
  | _ => false

def visB (sc : Scope) (x : Str) : Bool := match sc.names.lookup x with
  | some .local => true
  | some .cell => true
  | some .free => true
  | _ => false
def locB (sc : Scope) (x : Str) : Bool := match sc.names.lookup x with
  | some .local => true
  | some .cell => true
  | _ => false
def lclB (sc : Scope) (x : Str) : Bool := match sc.names.lookup x with
  | some .local => true
  | _ => false
def glB (sc : Scope) (x : Str) : Bool := match sc.names.lookup x with
  | some .globalImplicit => true
  | _ => false
def dbgB (x : Str) : Bool := !(x == ("__debug__" : Str)) && !(x == ("__classdict__" : Str)) && !decide (x = "__name__")
/-- a built-in's name, free for it -/
def bltB (g : Sg) (sc : Scope) (x : Str) : Bool := glB sc x && g.blt.contains x && dbgB x

def binA : BOp → Operator → Bool
  | .add, .Add => true
  | .sub, .Sub => true
  | .mul, .Mult => true
  | .mod, .Mod => true
  | .fdiv, .FloorDiv => true
  | .pow, .Pow => true
  | _, _ => false
def cmpA : COp → CmpOp → Bool
  | .eq, .Eq => true
  | .ne, .NotEq => true
  | .lt, .Lt => true
  | .le, .LtE => true
  | .gt, .Gt => true
  | .ge, .GtE => true
  | .inn, .In => true
  | .nin, .NotIn => true
  | .is, .Is => true
  | .isn, .IsNot => true
  | _, _ => false
def b1A : B1 → Str
  | .len => "len" | .int => "int" | .abs => "abs" | .sum => "sum" | .max => "max" | .min => "min" | .tuple => "tuple" | .list => "list" | .all => "all" | .repr => "repr" | .str => "str" | .sorted => "sorted"
def b2A : B2 → Str
  | .max => "max" | .min => "min" | .divmod => "divmod"
def tyA : Ty → Str
  | .int => "int" | .bool => "bool" | .str => "str" | .tuple => "tuple" | .list => "list"
def m1A : M1 → Str
  | .index => "index" | .count => "count"
/-- a receiver of a method -/
def baseB : Expr → Bool
  | .Name .. => true
  | .Call (.Name _ _) (_ :: _) _ _ => true
  | _ => false
/-- an index that is no slice -/
def plainB : Expr → Bool
  | .Slice .. => false
  | .Tuple .. => false
  | _ => true
def isMinus1 : Expr → Bool
  | .UnaryOp .USub (.Constant (.int i) _ _) _ => decide (i = 1)
  | _ => false
/-- the places of a flat target -/
def tgIx : Tg → List Nat
  | .nm i => [i]
  | .tup ts => tgIxs ts
  | _ => []
where tgIxs : Tgs → List Nat
  | .nil => []
  | .cons (.nm i) ts => i :: tgIxs ts
  | .cons _ ts => tgIxs ts
def ownOf (N : List Str) (is : List Nat) : List (Str × Nat) := is.filterMap fun i => (N[i]?).map fun x => (x, i)
/-- a target of names alone, apart -/
def flatTg : Tg → Bool
  | .nm _ => true
  | .tup ts => flatTgs ts
  | _ => false
where flatTgs : Tgs → Bool
  | .nil => true
  | .cons (.nm _) ts => flatTgs ts
  | _ => false

/-- not starred -/
def starB : Expr → Bool
  | .Starred .. => false
  | _ => true
/-- no set is walked -/
def setB : Expr → Bool
  | .Set .. => false
  | _ => true

/-- enumerate, zip want a written tuple for a target -/
def srcTg : Src → Tg → Bool
  | .enum _, .tup _ => true
  | .enum _, _ => false
  | .zip _ _, .tup _ => true
  | .zip _ _, _ => false
  | _, _ => true

def isRg : Src → Bool
  | .rng1 _ => true
  | .rng2 _ _ => true
  | _ => false
/-- a comprehension's own names, as targets -/
def tgS (s : Scope) : Scope := { s with names := s.names.map fun p => if p.2 == .cell then (p.1, .local) else p }
mutual
def mE (g : Sg) (N : List Str) (sc : Scope) : IE → Expr → Bool
  | .lit d, x => match d, x with
    | .none, .Constant .none _ _ => true
    | .bool b, .Constant (.bool c) _ _ => b == c
    | .int i, .Constant (.int j) _ _ => decide (i = j)
    | .str x, .Constant (.str y) _ _ => decide (x = y)
    | _, _ => false
  | .glob z i, x => match x with
    | .Name y _ => decide (z = y) && glB sc y && dbgB y && decide ((z, i) ∈ g.consts)
    | _ => false
  | .fnv f, x => match x with
    | .Name y _ => decide (f = y) && glB sc y && dbgB y && decide (f ∈ g.fns)
    | _ => false
  | .var i, x => match x with
    | .Name y _ => decide (N[i]? = some y) && visB sc y && dbgB y
    | _ => false
  | .peek i, x => match x with
    | .Name y _ => decide (N[i]? = some y) && visB sc y && dbgB y
    | _ => false
  | .tup es, x => match x with
    | .Tuple xs _ _ => mEs g N sc es xs
    | _ => false
  | .lst es, x => match x with
    | .List xs _ => mEs g N sc es xs
    | _ => false
  | .newc e, x => mE g N sc e x
  | .bin op a b, x => match x with
    | .BinOp y o z _ => binA op o && mE g N sc a y && mE g N sc b z
    | _ => false
  | .neg a, x => match x with
    | .UnaryOp .USub y _ => mE g N sc a y
    | _ => false
  | .not a, x => match x with
    | .UnaryOp .Not y _ => mE g N sc a y
    | _ => false
  | .cmp op a b, x => match x with
    | .Compare y [o] [z] _ => cmpA op o && mE g N sc a y && mE g N sc b z
    | _ => false
  | .chn a op b op' c, x => match x with
    | .Compare y [o, o'] [z, w] _ => cmpA op o && cmpA op' o' && mE g N sc a y && mE g N sc b z && mE g N sc c w
    | _ => false
  | .and a b, x => match x with
    | .BoolOp .And [y, z] _ => mE g N sc a y && mE g N sc b z
    | .BoolOp .And (y :: z :: w :: r) p => mE g N sc a y && mE g N sc b (.BoolOp .And (z :: w :: r) p)
    | _ => false
  | .or a b, x => match x with
    | .BoolOp .Or [y, z] _ => mE g N sc a y && mE g N sc b z
    | .BoolOp .Or (y :: z :: w :: r) p => mE g N sc a y && mE g N sc b (.BoolOp .Or (z :: w :: r) p)
    | _ => false
  | .ite c a b, x => match x with
    | .IfExp z y w _ => mE g N sc c z && mE g N sc a y && mE g N sc b w
    | _ => false
  | .ix a i, x => match x with
    | .Subscript y z _ => plainB z && mE g N sc a y && mE g N sc i z
    | _ => false
  | .sl a lo hi, x => match x with
    | .Subscript y (.Slice l h none _) _ => mE g N sc a y && mO g N sc lo l && mO g N sc hi h
    | _ => false
  | .rev a, x => match x with
    | .Subscript y (.Slice none none (some s) _) _ => mE g N sc a y && isMinus1 s
    | _ => false
  | .call f ks p es zs, x => match x with
    | .Call (.Name y _) xs kws _ => decide (f = y) && glB sc y && dbgB y && decide ((f, xs.length, ks, p) ∈ g.calls) && mEs g N sc es xs && mKs g N sc zs ks kws
    | _ => false
  | .callv i es, x => match x with
    | .Call (.Name y _) (w :: ws) [] _ => decide (N[i]? = some y) && visB sc y && dbgB y && mEs g N sc es (w :: ws)
    | _ => false
  | .b1 b a, x => match x with
    | .Call (.Name y _) [z] [] _ => decide (y = b1A b) && bltB g sc y && starB z && mE g N sc a z
    | _ => false
  | .b2 b a c, x => match x with
    | .Call (.Name y _) [z, w] [] _ => decide (y = b2A b) && bltB g sc y && starB z && starB w && mE g N sc a z && mE g N sc c w
    | _ => false
  | .isi a t, x => match x with
    | .Call (.Name y _) [z, .Name w _] [] _ => decide (y = "isinstance") && bltB g sc y && starB z && mE g N sc a z && decide (w = tyA t) && bltB g sc w
    | _ => false
  | .comp elt tg src cnd, x => match x with
    | .ListComp e [⟨t, i, ifs, 0⟩] s _ =>
      decide (N.Nodup) && flatTg tg && srcTg src tg && blkC N sc s (ownOf N (tgIx tg)) && decide ((tgIx tg).Nodup) && (tgIx tg).all (fun i => decide (i < N.length)) &&
        mSrc g N sc src i && mTgF N (tgS s) tg t && mC g N (relS s sc) cnd ifs && mE g N (relS s sc) elt e
    | _ => false
  | .srtR a, x => match x with
    | .Call (.Name y _) [z] [⟨some k, .Constant (.bool true) _ _, _⟩] _ => decide (y = "sorted") && bltB g sc y && starB z && decide (k = "reverse") && mE g N sc a z
    | _ => false
  | .m1 m a e, x => match x with
    | .Call (.Attribute o nm p) [v] [] c => decide (nm = m1A m) && baseB o && starB v && (p.endLine == c.line) && mE g N sc a o && mE g N sc e v
    | _ => false
  | .sset ln a, x => match x with
    | .Call (.Name y _) [.Call (.Name y2 _) [z] [] _] [] _ => decide (y = if ln then "len" else "sorted") && bltB g sc y && decide (y2 = "set") && bltB g sc y2 && starB z && mE g N sc a z
    | _ => false
  | .srtK src i b, x => match x with
    | .Call (.Name y _) [z] [⟨some k, .Lambda ⟨[], [⟨p, _, _⟩], none, [], [], none, []⟩ w s _, _⟩] _ => decide (y = "sorted") && bltB g sc y && starB z && decide (k = "key") && g.lam && decide (N.Nodup) && decide (N[i]? = some p) && lamS1B sc s p && keySrc src && mSrc g N sc src z && mE { g with lam := false } N s b w
    | _ => false
  | .hear hn t o b, x => match x, o with
    | .Call (.Name y _) [.Lambda ⟨[], [], none, [], [], none, []⟩ w s _] [] _, none => decide (y = hn) && glB sc y && dbgB y && decide ((hn, t) ∈ g.hears) && g.lam && LamX.lamSB sc s && mE { g with lam := false } N s b w
    | _, _ => false
  | .rgl tp src, x => match x with
    | .Call (.Name y _) [z] [] _ => decide (y = if tp then "tuple" else "list") && bltB g sc y && starB z && isRg src && mSrc g N sc src z
    | _ => false
def mEs (g : Sg) (N : List Str) (sc : Scope) : IEs → List Expr → Bool
  | .nil, x => match x with
    | [] => true
    | _ => false
  | .cons e es, x => match x with
    | y :: ys => mE g N sc e y && starB y && mEs g N sc es ys
    | _ => false
def mKs (g : Sg) (N : List Str) (sc : Scope) : IEs → List Str → List Keyword → Bool
  | .nil, ks, x => match ks, x with
    | [], [] => true
    | _, _ => false
  | .cons e es, ks, x => match ks, x with
    | k :: ks, ⟨some z, y, _⟩ :: r => decide (k = z) && mE g N sc e y && mKs g N sc es ks r
    | _, _ => false
def mO (g : Sg) (N : List Str) (sc : Scope) : IO → Option Expr → Bool
  | .none, x => match x with
    | none => true
    | _ => false
  | .some e, x => match x with
    | some y => mE g N sc e y
    | _ => false
def mC (g : Sg) (N : List Str) (sc : Scope) : IO → List Expr → Bool
  | .none, x => match x with
    | [] => true
    | _ => false
  | .some e, x => match x with
    | [y] => mE g N sc e y
    | _ => false
def mSrc (g : Sg) (N : List Str) (sc : Scope) : Src → Expr → Bool
  | .it e, x => setB x && mE g N sc e x
  | .rng1 a, x => match x with
    | .Call (.Name y _) [z] [] _ => decide (y = "range") && bltB g sc y && starB z && mE g N sc a z
    | _ => false
  | .rng2 a b, x => match x with
    | .Call (.Name y _) [z, w] [] _ => decide (y = "range") && bltB g sc y && starB z && starB w && mE g N sc a z && mE g N sc b w
    | _ => false
  | .rngd a b, x => match x with
    | .Call (.Name y _) [z, w, m] [] _ => decide (y = "range") && bltB g sc y && starB z && starB w && starB m && isMinus1 m && mE g N sc a z && mE g N sc b w
    | _ => false
  | .enum e, x => match x with
    | .Call (.Name y _) [z] [] _ => decide (y = "enumerate") && bltB g sc y && starB z && mE g N sc e z
    | _ => false
  | .zip a b, x => match x with
    | .Call (.Name y _) [z, w] [] _ => decide (y = "zip") && bltB g sc y && starB z && starB w && mE g N sc a z && mE g N sc b w
    | _ => false
/-- a flat target whose names are the block's own locals -/
def mTgF (N : List Str) (sc : Scope) : Tg → Expr → Bool
  | .nm i, x => match x with
    | .Name y _ => decide (N[i]? = some y) && lclB sc y
    | _ => false
  | .tup ts, x => match x with
    | .Tuple xs _ _ => mTgFs N sc ts xs
    | _ => false
  | .sub _ _, _ => false
  | .osub _ _, _ => false
def mTgFs (N : List Str) (sc : Scope) : Tgs → List Expr → Bool
  | .nil, x => match x with
    | [] => true
    | _ => false
  | .cons t ts, x => match x with
    | y :: ys => mTgF N sc t y && starB y && mTgFs N sc ts ys
    | _ => false
end
end SS

end

section
set_option linter.all false
set_option maxRecDepth 100000
/-! How values of the small language stand in the heap. -/
namespace SS
open PySem PySem.Spec PyProof.Rows L2

mutual
def VR (M : List Addr) (H : Hp) : D → V → Prop
  | .none, v => v = .non
  | .bool b, v => v = .bl b
  | .int i, v => v = .int i
  | .str s, v => v = .str s
  | .tuple ds, v => ∃ a xs, v = .ref a ∧ a ∉ M ∧ H a = some (.tup xs) ∧ xs.length ≤ sizeLine ∧ VRs M H ds xs
  | .list ds, v => ∃ a xs, v = .ref a ∧ a ∉ M ∧ H a = some (.lst xs) ∧ xs.length ≤ sizeLine ∧ VRs M H ds xs
  | .dict _, _ => False
def VRs (M : List Addr) (H : Hp) : List D → List V → Prop
  | [], xs => xs = []
  | d :: ds, xs => ∃ x r, xs = x :: r ∧ VR M H d x ∧ VRs M H ds r
end

/-- no code object's table -/
def NT (o : HO) : Prop := ∀ ps, o ≠ .tbl ps
theorem nt_lst {xs : List V} : NT (.lst xs) := fun _ z => by cases z
theorem nt_tup {xs : List V} : NT (.tup xs) := fun _ z => by cases z
theorem nt_frz {o : Obj} {u : HO} : NT (.frz o u) := fun _ z => by cases z
/-- the tables of code objects, and the name that each tells of -/
class Tabl where
  tabs : List (Addr × Str)
variable [Tabl]
/-- tables stand, and tell of the same names -/
structure Grow (H H' : Hp) : Prop where
  tbl : ∀ P ps, H P = some (.tbl ps) → ∃ qs, H' P = some (.tbl qs)
  tab : ∀ p ∈ Tabl.tabs, LamX.TabS H p.1 p.2 → LamX.TabS H' p.1 p.2
theorem Grow.refl {H : Hp} : Grow H H := ⟨fun _ ps e => ⟨ps, e⟩, fun _ _ t => t⟩
theorem Grow.trans {H H1 H2 : Hp} (a : Grow H H1) (b : Grow H1 H2) : Grow H H2 := ⟨fun P ps e => by
  obtain ⟨qs, e1⟩ := a.tbl P ps e
  exact b.tbl P qs e1, fun p m t => b.tab p m (a.tab p m t)⟩
theorem Grow.ext {H H' : Hp} (e : ∀ b o, H b = some o → H' b = some o) : Grow H H' := ⟨fun P ps h => ⟨ps, e _ _ h⟩, fun p _ t => t.ext e⟩
theorem Grow.upd {H : Hp} {p : Addr} {o : HO} (hp : H p = none) : Grow H (upd H p o) := .ext fun b u e => by
  rw [upd_ne (ne_of_none e hp)]
  exact e
/-- a list is written -/
theorem Grow.mut {H : Hp} {p : Addr} {xs ys : List V} (hp : H p = some (.lst xs)) : Grow H (L2.upd H p (.lst ys)) where
  tbl := fun P ps e => ⟨ps, by
    have ne : P ≠ p := fun z => by
      rw [z, hp] at e
      cases e
    rw [upd_ne ne]
    exact e⟩
  tab := fun ⟨P, q⟩ _ ⟨ps, e1, e2, e3⟩ => by
    have ne : P ≠ p := fun z => by
      have e1 : H P = some (.tbl ps) := e1
      rw [z, hp] at e1
      cases e1
    refine ⟨ps, by rw [upd_ne ne]; exact e1, e2, fun pos cv h => ?_⟩
    obtain ⟨c, ec, hc⟩ := e3 pos cv h
    have ne2 : c ≠ p := fun z => by
      rw [z, hp] at hc
      unfold LamX.CodeO at hc
      cases hc
    exact ⟨c, ec, by rw [upd_ne ne2]; exact hc⟩
/-- what stood and may not change, stands -/
def Keeps (M : List Addr) (H : Hp) (M' : List Addr) (H' : Hp) : Prop := ∀ a o, H a = some o → NT o → a ∉ M → H' a = some o ∧ a ∉ M'

mutual
theorem VR.mono {M M' : List Addr} {H H' : Hp} (k : Keeps M H M' H') : ∀ {d : D} {v : V}, VR M H d v → VR M' H' d v
  | .none, _, h => h
  | .bool _, _, h => h
  | .int _, _, h => h
  | .str _, _, h => h
  | .tuple ds, _, h => by
    obtain ⟨a, xs, e, n, t, z, r⟩ := h
    exact ⟨a, xs, e, (k _ _ t nt_tup n).2, (k _ _ t nt_tup n).1, z, VRs.mono k r⟩
  | .list ds, _, h => by
    obtain ⟨a, xs, e, n, t, z, r⟩ := h
    exact ⟨a, xs, e, (k _ _ t nt_lst n).2, (k _ _ t nt_lst n).1, z, VRs.mono k r⟩
  | .dict _, _, h => h.elim
theorem VRs.mono {M M' : List Addr} {H H' : Hp} (k : Keeps M H M' H') : ∀ {ds : List D} {xs : List V}, VRs M H ds xs → VRs M' H' ds xs
  | [], _, h => h
  | d :: ds, _, h => by
    obtain ⟨x, r, e, h1, h2⟩ := h
    exact ⟨x, r, e, VR.mono k h1, VRs.mono k h2⟩
end
theorem Keeps.sub {M M' : List Addr} {H : Hp} (h : ∀ a ∈ M', a ∈ M) : Keeps M H M' H := fun a _ e _ n => ⟨e, fun z => n (h a z)⟩
theorem Keeps.upd {M : List Addr} {H : Hp} {p : Addr} {o : HO} (hp : H p = none) : Keeps M H (p :: M) (upd H p o) := fun a u e _ n => by
  have ne : a ≠ p := ne_of_none e hp
  exact ⟨by rw [upd_ne ne]; exact e, fun z => (List.mem_cons.mp z).elim ne n⟩
theorem VRs.nil {M : List Addr} {H : Hp} : VRs M H [] [] := rfl
theorem VRs.cons {M : List Addr} {H : Hp} {d : D} {ds : List D} {x : V} {xs : List V} (h : VR M H d x) (t : VRs M H ds xs) : VRs M H (d :: ds) (x :: xs) := ⟨x, xs, rfl, h, t⟩
theorem VRs.length {M : List Addr} {H : Hp} : ∀ {ds : List D} {xs : List V}, VRs M H ds xs → xs.length = ds.length
  | [], _, h => by rw [show _ = [] from h]; rfl
  | d :: ds, _, h => by
    obtain ⟨x, r, e, _, h2⟩ := h
    rw [e, List.length_cons, List.length_cons, VRs.length h2]
theorem VRs.append {M : List Addr} {H : Hp} : ∀ {ds es : List D} {xs ys : List V}, VRs M H ds xs → VRs M H es ys → VRs M H (ds ++ es) (xs ++ ys)
  | [], _, _, _, h, t => by
    rw [show _ = [] from h]
    exact t
  | d :: ds, _, _, _, h, t => by
    obtain ⟨x, r, e, h1, h2⟩ := h
    rw [e]
    exact ⟨x, _, rfl, h1, VRs.append h2 t⟩
theorem VRs.get {M : List Addr} {H : Hp} : ∀ {ds : List D} {xs : List V} {i : Nat} {d : D}, VRs M H ds xs → ds[i]? = some d → ∃ x, xs[i]? = some x ∧ VR M H d x
  | [], _, _, _, _, h => by simp at h
  | d :: ds, _, 0, d', h, e => by
    obtain ⟨x, r, rfl, h1, h2⟩ := h
    have e' : d = d' := by simpa using e
    subst e'
    exact ⟨x, rfl, h1⟩
  | d :: ds, _, i + 1, _, h, e => by
    obtain ⟨x, r, rfl, h1, h2⟩ := h
    exact VRs.get (i := i) h2 (by simpa using e)
theorem VRs.drop {M : List Addr} {H : Hp} : ∀ {ds : List D} {xs : List V} (n : Nat), VRs M H ds xs → VRs M H (ds.drop n) (xs.drop n)
  | [], _, n, h => by
    rw [show _ = [] from h]
    simp [VRs]
  | _ :: _, _, 0, h => h
  | d :: ds, _, n + 1, h => by
    obtain ⟨x, r, rfl, h1, h2⟩ := h
    exact VRs.drop n h2
theorem VRs.take {M : List Addr} {H : Hp} : ∀ {ds : List D} {xs : List V} (n : Nat), VRs M H ds xs → VRs M H (ds.take n) (xs.take n)
  | [], _, n, h => by
    rw [show _ = [] from h]
    simp [VRs]
  | _ :: _, _, 0, h => by
    simp [VRs]
  | d :: ds, _, n + 1, h => by
    obtain ⟨x, r, rfl, h1, h2⟩ := h
    exact ⟨x, _, rfl, h1, VRs.take n h2⟩
theorem VRs.set {M : List Addr} {H : Hp} {d : D} {x : V} (r : VR M H d x) : ∀ {ds : List D} {xs : List V} (n : Nat), VRs M H ds xs → VRs M H (ds.set n d) (xs.set n x)
  | [], _, n, h => by
    rw [show _ = [] from h]
    simp [VRs]
  | d :: ds, _, 0, h => by
    obtain ⟨y, s, rfl, h1, h2⟩ := h
    exact ⟨x, _, rfl, r, h2⟩
  | d :: ds, _, n + 1, h => by
    obtain ⟨y, s, rfl, h1, h2⟩ := h
    exact ⟨y, _, rfl, h1, VRs.set r n h2⟩
theorem VRs.reverse {M : List Addr} {H : Hp} : ∀ {ds : List D} {xs : List V}, VRs M H ds xs → VRs M H ds.reverse xs.reverse
  | [], _, h => by
    rw [show _ = [] from h]
    rfl
  | d :: ds, _, h => by
    obtain ⟨x, r, rfl, h1, h2⟩ := h
    rw [List.reverse_cons, List.reverse_cons]
    exact (VRs.reverse h2).append (.cons h1 .nil)
theorem VRs.repl {M : List Addr} {H : Hp} {ds : List D} {xs : List V} (h : VRs M H ds xs) : ∀ n : Nat, VRs M H (List.replicate n ds).flatten (List.replicate n xs).flatten
  | 0 => rfl
  | n + 1 => by
    rw [List.replicate_succ, List.replicate_succ, List.flatten_cons, List.flatten_cons]
    exact h.append (VRs.repl h n)
mutual
theorem VR.dp {K : PySem.W.Frag} {M : List Addr} {H : Hp} : ∀ {d : D} {v : V}, VR M H d v → Dp K H v d
  | .none, _, h => by rw [show _ = V.non from h]; exact .non
  | .bool _, _, h => by rw [show _ = V.bl _ from h]; exact .bl _
  | .int _, _, h => by rw [show _ = V.int _ from h]; exact .int _
  | .str _, _, h => by rw [show _ = V.str _ from h]; exact .str _
  | .tuple ds, _, h => by
    obtain ⟨a, xs, rfl, _, t, _, r⟩ := h
    exact .tup (SqT.of t) (VRs.dp r)
  | .list ds, _, h => by
    obtain ⟨a, xs, rfl, _, t, _, r⟩ := h
    exact .lst (SqL.of t) (VRs.dp r)
  | .dict _, _, h => h.elim
theorem VRs.dp {K : PySem.W.Frag} {M : List Addr} {H : Hp} : ∀ {ds : List D} {xs : List V}, VRs M H ds xs → DpAll K H xs ds
  | [], _, h => by rw [show _ = [] from h]; exact .nil
  | d :: ds, _, h => by
    obtain ⟨x, r, rfl, h1, h2⟩ := h
    exact .cons (VR.dp h1) (VRs.dp h2)
end
theorem VRs.ints {M : List Addr} {H : Hp} : ∀ {ds : List D} {xs : List V} {ns : List Int}, VRs M H ds xs → asInts ds = some ns → xs = ns.map V.int
  | [], _, _, h, e => by
    rw [show _ = [] from h]
    simp [asInts] at e
    subst e
    rfl
  | .int i :: ds, _, _, h, e => by
    obtain ⟨x, r, rfl, h1, h2⟩ := h
    simp only [asInts, Option.map_eq_some_iff] at e
    obtain ⟨ns, e, rfl⟩ := e
    rw [VRs.ints h2 e, show x = V.int i from h1]
    rfl
  | .none :: _, _, _, _, e => by simp [asInts] at e
  | .bool _ :: _, _, _, _, e => by simp [asInts] at e
  | .str _ :: _, _, _, _, e => by simp [asInts] at e
  | .list _ :: _, _, _, _, e => by simp [asInts] at e
  | .tuple _ :: _, _, _, _, e => by simp [asInts] at e
  | .dict _ :: _, _, _, _, e => by simp [asInts] at e
theorem VRs.bools {M : List Addr} {H : Hp} : ∀ {ds : List D} {xs : List V} {ns : List Bool}, VRs M H ds xs → asBools ds = some ns → xs = ns.map V.bl
  | [], _, _, h, e => by
    rw [show _ = [] from h]
    simp [asBools] at e
    subst e
    rfl
  | .bool i :: ds, _, _, h, e => by
    obtain ⟨x, r, rfl, h1, h2⟩ := h
    simp only [asBools, Option.map_eq_some_iff] at e
    obtain ⟨ns, e, rfl⟩ := e
    rw [VRs.bools h2 e, show x = V.bl i from h1]
    rfl
  | .none :: _, _, _, _, e => by simp [asBools] at e
  | .int _ :: _, _, _, _, e => by simp [asBools] at e
  | .str _ :: _, _, _, _, e => by simp [asBools] at e
  | .list _ :: _, _, _, _, e => by simp [asBools] at e
  | .tuple _ :: _, _, _, _, e => by simp [asBools] at e
  | .dict _ :: _, _, _, _, e => by simp [asBools] at e
theorem VRs.ofInts {M : List Addr} {H : Hp} : ∀ ns : List Int, VRs M H (ns.map PyData.int) (ns.map V.int)
  | [] => rfl
  | n :: ns => ⟨_, _, rfl, rfl, VRs.ofInts ns⟩

/-! ### shared lists -/
def CsOk (M : List Addr) (H : Hp) : List Addr → Cells → Prop
  | [], [] => True
  | a :: as, ds :: S => (∃ xs, H a = some (.lst xs) ∧ xs.length ≤ sizeLine ∧ VRs M H ds xs) ∧ CsOk M H as S
  | _, _ => False
theorem CsOk.length {M : List Addr} {H : Hp} : ∀ {C : List Addr} {S : Cells}, CsOk M H C S → C.length = S.length
  | [], [], _ => rfl
  | _ :: _, _ :: _, h => by simp [CsOk.length h.2]
  | [], _ :: _, h => h.elim
  | _ :: _, [], h => h.elim
theorem CsOk.get {M : List Addr} {H : Hp} : ∀ {C : List Addr} {S : Cells} {n : Nat} {ds : List D}, CsOk M H C S → S[n]? = some ds → ∃ a xs, C[n]? = some a ∧ H a = some (.lst xs) ∧ xs.length ≤ sizeLine ∧ VRs M H ds xs
  | [], [], _, _, _, e => by simp at e
  | a :: _, ds :: _, 0, ds', h, e => by
    have e' : ds = ds' := by simpa using e
    subst e'
    obtain ⟨xs, h1, h2, h3⟩ := h.1
    exact ⟨a, xs, rfl, h1, h2, h3⟩
  | _ :: _, _ :: _, n + 1, _, h, e => by
    have := CsOk.get (n := n) h.2 (by simpa using e)
    simpa using this
  | [], _ :: _, _, _, h, _ => h.elim
  | _ :: _, [], _, _, h, _ => h.elim
theorem CsOk.trk {M : List Addr} {H : Hp} : ∀ {C : List Addr} {S : Cells}, CsOk M H C S → ∀ a ∈ C, ∃ xs, H a = some (.lst xs)
  | [], [], _, a, h => by cases h
  | c :: _, _ :: _, h, a, m => by
    rcases List.mem_cons.mp m with e | m
    · subst e
      obtain ⟨xs, h1, _⟩ := h.1
      exact ⟨xs, h1⟩
    · exact CsOk.trk h.2 a m
  | [], _ :: _, h, _, _ => h.elim
  | _ :: _, [], h, _, _ => h.elim
theorem CsOk.mono {M M' : List Addr} {H H' : Hp} (k : Keeps M H M' H') : ∀ {C : List Addr} {S : Cells}, (∀ a ∈ C, ∀ o, H a = some o → H' a = some o) → CsOk M H C S → CsOk M' H' C S
  | [], [], _, h => h
  | c :: _, _ :: _, hc, h => by
    obtain ⟨⟨xs, h1, h2, h3⟩, t⟩ := h
    exact ⟨⟨xs, hc c List.mem_cons_self _ h1, h2, h3.mono k⟩, CsOk.mono k (fun a m => hc a (List.mem_cons_of_mem _ m)) t⟩
  | [], _ :: _, _, h => h.elim
  | _ :: _, [], _, h => h.elim
theorem CsOk.snoc {M : List Addr} {H : Hp} {a : Addr} {ds : List D} {xs : List V} (ha : H a = some (.lst xs)) (hz : xs.length ≤ sizeLine) (hv : VRs M H ds xs) : ∀ {C : List Addr} {S : Cells}, CsOk M H C S → CsOk M H (C ++ [a]) (S ++ [ds])
  | [], [], _ => ⟨⟨xs, ha, hz, hv⟩, trivial⟩
  | _ :: _, _ :: _, h => ⟨h.1, CsOk.snoc ha hz hv h.2⟩
  | [], _ :: _, h => h.elim
  | _ :: _, [], h => h.elim
/-- a cell is written -/
theorem CsOk.set {M : List Addr} {H : Hp} {a : Addr} {ds : List D} {xs : List V} (haM : a ∈ M) (hz : xs.length ≤ sizeLine) (hv : VRs M (upd H a (.lst xs)) ds xs) : ∀ {C : List Addr} {S : Cells} {n : Nat}, C.Nodup → C[n]? = some a → CsOk M H C S → CsOk M (upd H a (.lst xs)) C (S.set n ds)
  | [], [], _, _, e, _ => by simp at e
  | c :: C, s :: S, 0, nd, e, h => by
    have e' : c = a := by simpa using e
    subst e'
    refine ⟨⟨xs, upd_same, hz, hv⟩, CsOk.mono (fun b o hb _ n => ?_) (fun b m o hb => ?_) h.2⟩
    · have ne : b ≠ c := fun z => n (by rw [z]; exact haM)
      exact ⟨by rw [upd_ne ne]; exact hb, n⟩
    · have ne : b ≠ c := fun z => (List.nodup_cons.mp nd).1 (by rw [← z]; exact m)
      rw [upd_ne ne]
      exact hb
  | c :: C, s :: S, n + 1, nd, e, h => by
    obtain ⟨⟨ys, h1, h2, h3⟩, t⟩ := h
    have e' : C[n]? = some a := by simpa using e
    have ne : c ≠ a := fun z => (List.nodup_cons.mp nd).1 (by rw [z]; exact List.mem_of_getElem? e')
    refine ⟨⟨ys, by rw [upd_ne ne]; exact h1, h2, h3.mono fun b o hb _ n => ?_⟩, CsOk.set haM hz hv (List.nodup_cons.mp nd).2 e' t⟩
    have nb : b ≠ a := fun z => n (by rw [z]; exact haM)
    exact ⟨by rw [upd_ne nb]; exact hb, n⟩
  | [], _ :: _, _, _, _, h => h.elim
  | _ :: _, [], _, _, _, h => h.elim

/-! ### values of expressions -/
/-- C, O: the places that may change (shared lists; lists that slots own); all stands well -/
structure Ok (C O : List Addr) (S : Cells) (H : Hp) : Prop where
  nd : (C ++ O).Nodup
  cells : CsOk (C ++ O) H C S
  otrk : ∀ a ∈ O, ∃ xs, H a = some (.lst xs)
theorem Ok.trk {C O : List Addr} {S : Cells} {H : Hp} (k : Ok C O S H) {a : Addr} (h : a ∈ C ++ O) : ∃ xs, H a = some (.lst xs) := by
  rcases List.mem_append.mp h with h | h
  · exact k.cells.trk a h
  · exact k.otrk a h
theorem Ok.free {C O : List Addr} {S : Cells} {H : Hp} (k : Ok C O S H) {p : Addr} (h : H p = none) : p ∉ C ++ O := fun z => by
  obtain ⟨xs, e⟩ := k.trk z
  rw [h] at e; cases e
theorem Ok.apart {C O : List Addr} {S : Cells} {H : Hp} (k : Ok C O S H) {a : Addr} (h : a ∈ O) : a ∉ C := fun z => by
  have := (List.nodup_append.mp k.nd).2.2 a z a h
  exact this rfl
/-- a new object -/
theorem Ok.upd {C O : List Addr} {S : Cells} {H : Hp} {p : Addr} {o : HO} (k : Ok C O S H) (hp : H p = none) : Ok C O S (upd H p o) where
  nd := k.nd
  cells := k.cells.mono (fun b u e _ n => ⟨by rw [upd_ne (ne_of_none e hp)]; exact e, n⟩) fun b m u e => by
    rw [upd_ne (ne_of_none e hp)]
    exact e
  otrk := fun a m => by
    obtain ⟨xs, e⟩ := k.otrk a m
    exact ⟨xs, by rw [upd_ne (ne_of_none e hp)]; exact e⟩
/-- a new list, owned from now on -/
theorem Ok.push {C O : List Addr} {S : Cells} {H : Hp} {p : Addr} (k : Ok C O S H) {xs : List V} (hp : H p = some (.lst xs)) (nC : p ∉ C) (nO : p ∉ O) (c : CsOk (C ++ (p :: O)) H C S) : Ok C (p :: O) S H where
  nd := by
    have h := k.nd
    rw [List.nodup_append] at h ⊢
    refine ⟨h.1, List.nodup_cons.mpr ⟨nO, h.2.1⟩, fun a ha b hb e => ?_⟩
    rcases List.mem_cons.mp hb with z | z
    · exact nC (by rw [← z, ← e]; exact ha)
    · exact h.2.2 a ha b z e
  cells := c
  otrk := fun a m => by
    rcases List.mem_cons.mp m with z | z
    · exact ⟨xs, by rw [z]; exact hp⟩
    · exact k.otrk a z

/-- what may stand in a slot, in a call -/
def VRH (K : PySem.W.Frag) (mg : Str → Option Value) (C O : List Addr) (H : Hp) : EV → V → Prop
  | .d x, v => VR (C ++ O) H x v
  | .cell n, v => ∃ a, v = .ref a ∧ C[n]? = some a
  | .fn f, v => ∃ a, v = .ref a ∧ mg f = some (.ref a) ∧ PySem.W.keepIn K (.ref a) = true
  | .scr ns, v => ∃ a, v = .ref a ∧ ns.length ≤ lim ∧ ((a ∉ C ++ O ∧ Rd H a (.lst (ns.map V.int))) ∨ ∀ G : Hp, SqL K G a (ns.map V.int))
  | .nw _, _ => False
  | .pk _, _ => False
/-- E0: the heap at the def's entry (a borrowed list was made since) -/
def VRE (K : PySem.W.Frag) (mg : Str → Option Value) (E0 : Hp) (C O : List Addr) (S : Cells) (H : Hp) : EV → V → Prop
  | .nw ds, v => ∃ a xs, v = .ref a ∧ H a = some (.lst xs) ∧ xs.length ≤ sizeLine ∧ a ∉ C ∧ a ∉ O ∧ VRs (C ++ (a :: O)) H ds xs ∧ CsOk (C ++ (a :: O)) H C S
  | .pk ds, v => ∃ a xs, v = .ref a ∧ a ∈ O ∧ E0 a = none ∧ H a = some (.lst xs) ∧ xs.length ≤ sizeLine ∧ VRs (C ++ O) H ds xs
  | x, v => VRH K mg C O H x v
/-- read at once: a list may be one that a slot owns -/
def VRw (C O : List Addr) (H : Hp) : D → V → Prop
  | .list ds, v => ∃ a xs, v = .ref a ∧ a ∉ C ∧ H a = some (.lst xs) ∧ xs.length ≤ sizeLine ∧ VRs (C ++ O) H ds xs
  | d, v => VR (C ++ O) H d v

/-- what evaluation does to the shared lists and the heap -/
structure Aft (C O : List Addr) (H : Hp) (C' : List Addr) (S' : Cells) (H' : Hp) : Prop where
  pre : ∃ N, C' = C ++ N
  ext : ∀ a o, H a = some o → NT o → a ∉ C → H' a = some o
  grow : Grow H H'
  new : ∀ a ∈ C', a ∈ C ∨ H a = none
  ok : Ok C' O S' H'
section
variable {K : PySem.W.Frag} {mg : Str → Option Value} {E0 : Hp} {C O C' C1 C2 : List Addr} {S S' S1 S2 : Cells} {H H' H1 H2 : Hp} {p : Addr} {o : HO}
theorem Aft.live (a : Aft C O H C' S' H') {b : Addr} (h : H' b = none) (n : b ∉ C) : H b = none := by
  cases e : H b with
  | none => rfl
  | some o =>
    by_cases t : ∃ ps, o = .tbl ps
    · obtain ⟨ps, rfl⟩ := t
      obtain ⟨qs, q⟩ := a.grow.tbl b ps e
      rw [h] at q; cases q
    · rw [a.ext b o e (fun ps z => t ⟨ps, z⟩) n] at h; cases h
theorem Aft.trans (a : Aft C O H C1 S1 H1) (b : Aft C1 O H1 C2 S2 H2) : Aft C O H C2 S2 H2 where
  pre := by
    obtain ⟨n, e⟩ := a.pre
    obtain ⟨m, e'⟩ := b.pre
    exact ⟨n ++ m, by rw [e', e, List.append_assoc]⟩
  ext := fun c o h t n => by
    refine b.ext c o (a.ext c o h t n) t fun z => ?_
    rcases a.new c z with q | q
    · exact n q
    · rw [q] at h; cases h
  grow := a.grow.trans b.grow
  new := fun c m => by
    rcases b.new c m with q | q
    · exact a.new c q
    · by_cases hc : c ∈ C
      · exact .inl hc
      · exact .inr (a.live q hc)
  ok := b.ok
theorem Aft.keeps (a : Aft C O H C' S' H') : Keeps (C ++ O) H (C' ++ O) H' := fun b o e t n => by
  simp only [List.mem_append, not_or] at n
  refine ⟨a.ext b o e t n.1, ?_⟩
  simp only [List.mem_append, not_or]
  refine ⟨fun z => ?_, n.2⟩
  rcases a.new b z with q | q
  · exact n.1 q
  · rw [q] at e; cases e
theorem Ok.aft (k : Ok C O S H) : Aft C O H C S H :=
  ⟨⟨[], (List.append_nil _).symm⟩, fun _ _ h _ _ => h, .refl, fun _ h => .inl h, k⟩
/-- a new object, laid behind all -/
theorem Aft.upd (a : Aft C O H C' S' H') (hp : H' p = none) : Aft C O H C' S' (upd H' p o) where
  pre := a.pre
  ext := fun c u h t n => by
    have e := a.ext c u h t n
    rw [upd_ne (ne_of_none e hp)]
    exact e
  grow := a.grow.trans (.upd hp)
  new := a.new
  ok := a.ok.upd hp
theorem Aft.lt (a : Aft C O H C' S' H') {n : Nat} {b : Addr} (h : C[n]? = some b) : C'[n]? = some b := by
  obtain ⟨N, e⟩ := a.pre
  rw [e]
  have hl : n < C.length := by
    rcases Nat.lt_or_ge n C.length with q | q
    · exact q
    · rw [List.getElem?_eq_none q] at h; cases h
  rw [List.getElem?_append_left hl]
  exact h
/-- what is free behind was free ahead -/
theorem Aft.wasFree (a : Aft C O H C' S' H') (h : H' p = none) : H p = none := by
  by_cases hc : p ∈ C
  · obtain ⟨N, q⟩ := a.pre
    have hm : p ∈ C' ++ O := by
      rw [q]
      exact List.mem_append_left _ (List.mem_append_left _ hc)
    exact absurd hm (a.ok.free h)
  · exact a.live h hc
/-! ### values stand on -/
theorem VRH.aft (a : Aft C O H C' S' H') : ∀ {x : EV} {v : V}, VRH K mg C O H x v → VRH K mg C' O H' x v
  | .d _, _, h => VR.mono a.keeps h
  | .cell _, _, ⟨b, e, q⟩ => ⟨b, e, a.lt q⟩
  | .fn _, _, h => h
  | .scr _, _, ⟨b, e, l, .inl ⟨n, q⟩⟩ => ⟨b, e, l, .inl (by
      rcases q with q | ⟨o, q⟩
      · exact ⟨(a.keeps _ _ q nt_lst n).2, .inl (a.keeps _ _ q nt_lst n).1⟩
      · exact ⟨(a.keeps _ _ q nt_frz n).2, .inr ⟨o, (a.keeps _ _ q nt_frz n).1⟩⟩)⟩
  | .scr _, _, ⟨b, e, l, .inr q⟩ => ⟨b, e, l, .inr q⟩
  | .nw _, _, h => h.elim
  | .pk _, _, h => h.elim
theorem VRw.aft (a : Aft C O H C' S' H') : ∀ {x : D} {v : V}, VRw C O H x v → VRw C' O H' x v
  | .list _, _, ⟨b, xs, e, n, h, z, r⟩ => by
    refine ⟨b, xs, e, fun q => ?_, a.ext b _ h nt_lst n, z, r.mono a.keeps⟩
    rcases a.new b q with q | q
    · exact n q
    · rw [q] at h; cases h
  | .none, _, h => h
  | .bool _, _, h => h
  | .int _, _, h => h
  | .str _, _, h => h
  | .tuple _, _, h => VR.mono a.keeps h
  | .dict _, _, h => h
theorem VRE.held {ok : Ok C O S H} : ∀ {x y : EV} {v : V}, VRE K mg E0 C O S H x v → x.held = some y → VRH K mg C O H y v
  | .d _, _, _, h, e => by cases e; exact h
  | .cell _, _, _, h, e => by cases e; exact h
  | .fn _, _, _, h, e => by cases e; exact h
  | .scr _, _, _, h, e => by cases e; exact h
  | .nw _, _, _, ⟨a, xs, e1, h, z, n1, n2, r, _⟩, e => by
    cases e
    exact ⟨a, xs, e1, fun q => (List.mem_append.mp q).elim n1 n2, h, z, r.mono (Keeps.sub fun b m => by
      rcases List.mem_append.mp m with q | q
      · exact List.mem_append_left _ q
      · exact List.mem_append_right _ (List.mem_cons_of_mem _ q))⟩
  | .pk _, _, _, _, e => by cases e
theorem VRE.strict {ok : Ok C O S H} : ∀ {x : EV} {y : D} {v : V}, VRE K mg E0 C O S H x v → x.strict = some y → VR (C ++ O) H y v
  | .d _, _, _, h, e => by cases e; exact h
  | .cell _, _, _, h, e => by cases e
  | .fn _, _, _, h, e => by cases e
  | .scr _, _, _, h, e => by cases e
  | .nw _, _, _, h, e => by
    cases e
    exact VRE.held (ok := ok) (y := .d (.list _)) h rfl
  | .pk _, _, _, _, e => by cases e
theorem VR.weak : ∀ {d : D} {v : V}, VR (C ++ O) H d v → VRw C O H d v
  | .list _, _, ⟨a, xs, e, n, h, z, r⟩ => ⟨a, xs, e, fun q => n (List.mem_append_left _ q), h, z, r⟩
  | .none, _, h => h
  | .bool _, _, h => h
  | .int _, _, h => h
  | .str _, _, h => h
  | .tuple _, _, h => h
  | .dict _, _, h => h
theorem VRE.asD {ok : Ok C O S H} : ∀ {x : EV} {y : D} {v : V}, VRE K mg E0 C O S H x v → x.asD = some y → VRw C O H y v
  | .d _, _, _, h, e => by cases e; exact VR.weak h
  | .cell _, _, _, h, e => by cases e
  | .fn _, _, _, h, e => by cases e
  | .scr _, _, _, h, e => by cases e
  | .nw _, _, _, h, e => by
    cases e
    exact VR.weak (d := .list _) (VRE.strict (ok := ok) h rfl)
  | .pk _, _, _, ⟨a, xs, e1, m, _, h, z, r⟩, e => by
    cases e
    exact ⟨a, xs, e1, ok.apart m, h, z, r⟩
theorem VRw.dp {d : D} {v : V} (h : VRw C O H d v) : Dp K H v d := by
  cases d with
  | list ds =>
    obtain ⟨a, xs, rfl, _, t, _, r⟩ := h
    exact .lst (SqL.of t) (VRs.dp r)
  | none => exact VR.dp (M := C ++ O) h
  | bool _ => exact VR.dp (M := C ++ O) h
  | int _ => exact VR.dp (M := C ++ O) h
  | str _ => exact VR.dp (M := C ++ O) h
  | tuple _ => exact VR.dp (M := C ++ O) h
  | dict _ => exact h.elim
/-- a new list -/
theorem VRE.mkNew {ds : List D} {xs : List V} (ok : Ok C O S H) (hp : H p = none) (z : xs.length ≤ sizeLine) (r : VRs (C ++ O) H ds xs) : VRE K mg E0 C O S (upd H p (.lst xs)) (.nw ds) (.ref p) := by
  have n := ok.free hp
  have kp : Keeps (C ++ O) H (C ++ (p :: O)) (upd H p (.lst xs)) := fun b u e _ q => by
    have ne : b ≠ p := ne_of_none e hp
    refine ⟨by rw [upd_ne ne]; exact e, fun m => ?_⟩
    rcases List.mem_append.mp m with m | m
    · exact q (List.mem_append_left _ m)
    · rcases List.mem_cons.mp m with m | m
      · exact ne m
      · exact q (List.mem_append_right _ m)
  exact ⟨p, xs, rfl, upd_same, z, fun m => n (List.mem_append_left _ m), fun m => n (List.mem_append_right _ m), r.mono kp, ok.cells.mono kp fun b m u e => by
    rw [upd_ne (ne_of_none e hp)]
    exact e⟩
/-- a new tuple -/
theorem VR.mkTup {ds : List D} {xs : List V} (ok : Ok C O S H) (hp : H p = none) (z : xs.length ≤ sizeLine) (r : VRs (C ++ O) H ds xs) : VR (C ++ O) (upd H p (.tup xs)) (.tuple ds) (.ref p) :=
  ⟨p, xs, rfl, ok.free hp, upd_same, z, r.mono fun b u e _ q => by
    have ne : b ≠ p := ne_of_none e hp
    exact ⟨by rw [upd_ne ne]; exact e, q⟩⟩
end
end SS

end

section
set_option linter.all false
set_option autoImplicit false
set_option maxRecDepth 100000
/-! From the syntax to the small language: expressions. -/
namespace SS
open PySem PySem.Spec PyProof.Rows L2
variable [Tabl]

/-- the state at a def's entry -/
structure St0 where
  C : List Addr
  O : List Addr
  H : Hp
/-- what is fixed while a body runs; att: the name under which a class keeps what it was made with -/
structure Ct where
  K : PySem.W.Frag
  mg : Str → Option Value
  att : Str → Str
  W : WX
  E : St0

def SlotOk (c : Ct) (C O : List Addr) (H : Hp) : SV → Option (Option V) → Prop
  | .un, _ => True
  | .v x, sl => ∃ v, sl = some (some v) ∧ VRH c.K c.mg C O H x v
  | .own ds, sl => ∃ a xs, sl = some (some (.ref a)) ∧ a ∈ O ∧ c.E.H a = none ∧ H a = some (.lst xs) ∧ xs.length ≤ sizeLine ∧ VRs (C ++ O) H ds xs

structure Rel (c : Ct) (C O : List Addr) (ρ : Env) (S : Cells) (σ : L2.St) (H : Hp) : Prop where
  len : ρ.length = σ.length
  ok : Ok C O S H
  ofr : ∀ a ∈ O, a ∈ c.E.O ∨ c.E.H a = none
  osub : ∀ a ∈ c.E.O, a ∈ O
  pre : ∃ N, C = c.E.C ++ N
  ext : ∀ a o, c.E.H a = some o → NT o → a ∉ c.E.C → H a = some o
  grow : Grow c.E.H H
  new : ∀ a ∈ C, a ∈ c.E.C ∨ c.E.H a = none
  slots : ∀ (i : Nat) (sv : SV), ρ[i]? = some sv → SlotOk c C O H sv σ[i]?
  dist : ∀ (i j : Nat) (ds es : List D) (a : Addr), ρ[i]? = some (.own ds) → ρ[j]? = some (.own es) → σ[i]? = some (some (.ref a)) → σ[j]? = some (some (.ref a)) → i = j

section
variable {c : Ct} {C O C' C1 : List Addr} {ρ : Env} {S S' S1 : Cells} {σ : L2.St} {H H' H1 : Hp}
theorem SlotOk.aft (k : Ok C O S H) (a : Aft C O H C' S' H') {sv : SV} {sl : Option (Option V)} (h : SlotOk c C O H sv sl) : SlotOk c C' O H' sv sl := by
  cases sv with
  | un => trivial
  | v x =>
    obtain ⟨v, e, r⟩ := h
    exact ⟨v, e, r.aft a⟩
  | own ds =>
    obtain ⟨b, xs, e, m, f, h, z, r⟩ := h
    exact ⟨b, xs, e, m, f, a.ext b _ h nt_lst (k.apart m), z, r.mono a.keeps⟩
theorem Rel.live (R : Rel c C O ρ S σ H) {b : Addr} (h : H b = none) (n : b ∉ c.E.C) : c.E.H b = none := by
  cases e : c.E.H b with
  | none => rfl
  | some o =>
    by_cases t : ∃ ps, o = .tbl ps
    · obtain ⟨ps, rfl⟩ := t
      obtain ⟨qs, q⟩ := R.grow.tbl b ps e
      rw [h] at q; cases q
    · rw [R.ext b o e (fun ps z => t ⟨ps, z⟩) n] at h; cases h
theorem Rel.aft (R : Rel c C O ρ S σ H) (a : Aft C O H C' S' H') : Rel c C' O ρ S' σ H' where
  len := R.len
  ok := a.ok
  ofr := R.ofr
  osub := R.osub
  pre := by
    obtain ⟨N, e⟩ := R.pre
    obtain ⟨N', e'⟩ := a.pre
    exact ⟨N ++ N', by rw [e', e, List.append_assoc]⟩
  ext := fun b o e t n => by
    refine a.ext b o (R.ext b o e t n) t fun z => ?_
    rcases R.new b z with q | q
    · exact n q
    · rw [q] at e; cases e
  grow := R.grow.trans a.grow
  new := fun b m => by
    rcases a.new b m with q | q
    · exact R.new b q
    · by_cases hb : b ∈ c.E.C
      · exact .inl hb
      · exact .inr (R.live q hb)
  slots := fun i sv e => (R.slots i sv e).aft R.ok a
  dist := R.dist
end

/-- an error as it lies: its class, its own dict -/
def ExcR (c : Ct) (C O : List Addr) (H : Hp) (n : Str) (x : D) (cls : Value) (d : Option Addr) : Prop :=
  ∃ a, cls = .ref a ∧ c.mg n = some (.ref a) ∧ ((c.att n = "" ∧ d = none ∧ x = .none) ∨ ∃ dx v, c.att n ≠ "" ∧ d = some dx ∧ H dx = some (.xd [(c.att n, v)]) ∧ VR (C ++ O) H x v)

/-- what is wanted of a result: rel says how values stand (it may look at the heap ahead) -/
def Post {α β : Type} (c : Ct) (O : List Addr) (rel : Hp → List Addr → Cells → Hp → α → β → Prop) (C : List Addr) (H : Hp) (σ : L2.St) (Q : β → Hp → Prop) : Res α → Prop
  | .ok r S' => ∀ v H' C', Aft C O H C' S' H' → rel H C' S' H' r v → Q v H'
  | .exc n x S' => ∀ cls d H' C', Aft C O H C' S' H' → ExcR c C' O H' n x cls d → c.W cls d σ H'
  | .bad => False
/-- the heap ahead may lie further ahead -/
def Up {α β : Type} (O : List Addr) (rel : Hp → List Addr → Cells → Hp → α → β → Prop) : Prop :=
  ∀ C H C1 S1 H1 C' S' H' r v, Aft C O H C1 S1 H1 → rel H1 C' S' H' r v → rel H C' S' H' r v
section
variable {α β γ δ : Type} {c : Ct} {O C C' C1 : List Addr} {S S' S1 : Cells} {σ : L2.St} {H H' H1 : Hp}
theorem Post.aft {rel : Hp → List Addr → Cells → Hp → α → β → Prop} (up : Up O rel) {Q : β → Hp → Prop} {r : Res α} (h : Post c O rel C H σ Q r) (a : Aft C O H C1 S1 H1) : Post c O rel C1 H1 σ Q r := by
  cases r with
  | ok r S' => exact fun v H' C' b q => h v H' C' (a.trans b) (up _ _ _ _ _ _ _ _ _ _ a q)
  | exc n x S' => exact fun cls d H' C' b q => h cls d H' C' (a.trans b) q
  | bad => exact h
/-- first a, then the rest -/
theorem Post.bind {rel : Hp → List Addr → Cells → Hp → α → β → Prop} {rel2 : Hp → List Addr → Cells → Hp → γ → δ → Prop} (up : Up O rel2) {Q : δ → Hp → Prop} {Q' : β → Hp → Prop} {a : Res α} {k : α → Cells → Res γ}
    (h : Post c O rel2 C H σ Q (a.bind k)) (f : ∀ r S1 v H1 C1, Aft C O H C1 S1 H1 → rel H C1 S1 H1 r v → Post c O rel2 C1 H1 σ Q (k r S1) → Q' v H1) : Post c O rel C H σ Q' a := by
  cases a with
  | ok r S1 => exact fun v H1 C1 b q => f r S1 v H1 C1 b q (Post.aft up h b)
  | exc n x S' => exact h
  | bad => exact h
theorem Post.lft {rel : Hp → List Addr → Cells → Hp → α → β → Prop} {Q : β → Hp → Prop} {ε : Type} {o : Option ε} {k : ε → Res α} (h : Post c O rel C H σ Q (lft o k)) : ∃ e, o = some e ∧ Post c O rel C H σ Q (k e) := by
  cases o with
  | none => exact h.elim
  | some e => exact ⟨e, rfl, h⟩
theorem Post.iff {rel : Hp → List Addr → Cells → Hp → α → β → Prop} {Q : β → Hp → Prop} {p : Prop} [Decidable p] {k : Res α} (h : Post c O rel C H σ Q (if p then k else .bad)) : p ∧ Post c O rel C H σ Q k := by
  by_cases hp : p
  · rw [if_pos hp] at h
    exact ⟨hp, h⟩
  · rw [if_neg hp] at h
    exact h.elim
end

/-- a value -/
def rE (c : Ct) (O : List Addr) : Hp → List Addr → Cells → Hp → EV → V → Prop := fun H C' S' H' r v =>
  VRE c.K c.mg c.E.H C' O S' H' r v ∧ match r with
    | .nw _ => ∀ a, v = .ref a → H a = none
    | _ => True
theorem rE.up {c : Ct} {O : List Addr} : Up O (rE c O) := fun C H C1 S1 H1 C' S' H' r v a ⟨q, f⟩ => ⟨q, by
  cases r with
  | nw ds => exact fun b e => a.wasFree (f b e)
  | d _ => trivial
  | pk _ => trivial
  | cell _ => trivial
  | fn _ => trivial
  | scr _ => trivial⟩
/-- values in a row, each to be held on -/
def VREs (c : Ct) (C O : List Addr) (H : Hp) : List EV → List V → Prop
  | [], vs => vs = []
  | x :: xs, vs => ∃ v r, vs = v :: r ∧ (∀ y, x.held = some y → VRH c.K c.mg C O H y v) ∧ (∀ y, x.strict = some y → VR (C ++ O) H y v) ∧ (∀ y, x.asD = some y → VRw C O H y v) ∧ VREs c C O H xs r
theorem VREs.aft {c : Ct} {C O C' : List Addr} {S' : Cells} {H H' : Hp} (a : Aft C O H C' S' H') : ∀ {xs : List EV} {vs : List V}, VREs c C O H xs vs → VREs c C' O H' xs vs
  | [], _, h => h
  | x :: xs, _, ⟨v, r, e, h1, h2, h3, t⟩ => ⟨v, r, e, fun y q => (h1 y q).aft a, fun y q => (h2 y q).mono a.keeps, fun y q => (h3 y q).aft a, t.aft a⟩
def rEs (c : Ct) (O : List Addr) : Hp → List Addr → Cells → Hp → List EV → List V → Prop := fun _ C' _ H' r v => VREs c C' O H' r v
theorem rEs.up {c : Ct} {O : List Addr} : Up O (rEs c O) := fun _ _ _ _ _ _ _ _ _ _ _ q => q
/-- plain results: a truth, a slice's part -/
def rP (α : Type) : Hp → List Addr → Cells → Hp → α → α → Prop := fun _ _ _ _ r v => r = v
theorem rP.up {α : Type} {O : List Addr} : Up O (rP α) := fun _ _ _ _ _ _ _ _ _ _ _ q => q

/-- THE READING of an expression -/
def tE (c : Ct) (F : Call) (e : IE) : TE := fun σ H Q => ∃ C O ρ S, Rel c C O ρ S σ H ∧ Post c O (rE c O) C H σ Q (evalE F e ρ S)
def tT (c : Ct) (F : Call) (e : IE) : TT := fun σ H Q => ∃ C O ρ S, Rel c C O ρ S σ H ∧ Post c O (rP Bool) C H σ Q ((evalE F e ρ S).bind fun v S => lft (dBool v) fun b => .ok b S)
def tEs (c : Ct) (F : Call) (es : IEs) : TA := fun σ H Q => ∃ C O ρ S, Rel c C O ρ S σ H ∧ Post c O (rEs c O) C H σ Q (evalEs F es ρ S)
def tO (c : Ct) (F : Call) (e : IO) : TO := fun σ H Q => ∃ C O ρ S, Rel c C O ρ S σ H ∧ Post c O (rP (Option Int)) C H σ Q (evalO F e ρ S)

theorem PE.imp {X : Cx} {e : Expr} {t t' : TE} (h : PE X e t) (i : ∀ σ H Q, t' σ H Q → t σ H Q) : PE X e t' := ⟨fun pins s σ H Q I q => h.run pins s σ H Q I (i _ _ _ q)⟩
theorem PT.imp {X : Cx} {e : Expr} {t t' : TT} (h : PT X e t) (i : ∀ σ H Q, t' σ H Q → t σ H Q) : PT X e t' := ⟨fun pins s σ H Q I q => h.run pins s σ H Q I (i _ _ _ q)⟩
theorem PW.imp {X : Cx} {e : Expr} {t t' : TT} (h : PW X e t) (i : ∀ σ H Q, t' σ H Q → t σ H Q) : PW X e t' := ⟨fun wh pins s σ H Q I q => h.run wh pins s σ H Q I (i _ _ _ q)⟩
theorem PA.imp {X : Cx} {e : List Expr} {t t' : TA} (h : PA X e t) (i : ∀ σ H Q, t' σ H Q → t σ H Q) : PA X e t' := ⟨fun p pins s σ H Q I q => h.run p pins s σ H Q I (i _ _ _ q)⟩
theorem PO.imp {X : Cx} {e : Option Expr} {t t' : TO} (h : PO X e t) (i : ∀ σ H Q, t' σ H Q → t σ H Q) : PO X e t' := ⟨fun pins s σ H Q I q => h.run pins s σ H Q I (i _ _ _ q)⟩
/-- any rule that serves -/
theorem op_any {X : Cx} {f : Value → Value → Sem Value} : OpR X f (fun x y H Q => ∃ r : R2, OpR X f r ∧ r x y H Q) := fun pins s σ H x y v u Q I rx ry ⟨r, h, q⟩ => h pins s σ H x y v u Q I rx ry q
theorem un_any {X : Cx} {f : Value → Sem Value} : UnR X f (fun x H Q => ∃ r : V → Hp → VK → Prop, UnR X f r ∧ r x H Q) := fun pins s σ H x v Q I rx ⟨r, h, q⟩ => h pins s σ H x v Q I rx q
theorem call_any {X : Cx} {f : Value} : CallR X f (fun xs H Q => ∃ r : List V → Hp → VK → Prop, CallR X f r ∧ r xs H Q) := fun pins s σ H xs us Q I rx ⟨r, h, q⟩ => h pins s σ H xs us Q I rx q
theorem ix_any {X : Cx} : IxR X (fun x y H Q => ∃ r : R2, IxR X r ∧ r x y H Q) := fun value slice pins s σ H x y v u Q I rx ry ⟨r, h, q⟩ hs => h value slice pins s σ H x y v u Q I rx ry q hs
theorem sl_any {X : Cx} : SlR X (fun x lo hi H Q => ∃ r : V → Option Int → Option Int → Hp → VK → Prop, SlR X r ∧ r x lo hi H Q) := fun pins s σ H x v vl vu lo hi sl Q I rx hs p1 p2 ⟨r, h, q⟩ => h pins s σ H x v vl vu lo hi sl Q I rx hs p1 p2 q
end SS

end

section
set_option linter.all false
set_option autoImplicit false
set_option maxRecDepth 100000
set_option maxHeartbeats 4000000
/-! Expressions, construct by construct. -/
namespace SS
open PySem PySem.Spec PyProof.Rows L2
variable [Tabl]

/-! ### what a def promises -/
/-- a def's promise: run says what it gives -/
def spF (K : PySem.W.Frag) (mg : Str → Option Value) (att : Str → Str) (tabs : List (Addr × Str)) (run : List EV → Cells → Res EV) : Sp := fun vs H Q E =>
  ∃ C O S args, Ok C O S H ∧ LamX.Tabs tabs H ∧ Paired (fun x v => VRH K mg C O H x v) args vs ∧
    match run args S with
    | .ok r S' => ∀ v H' C', Aft C O H C' S' H' → VRE K mg (fun _ => some (.lst [])) C' O S' H' r v → (match r with
        | .nw _ => ∀ a, v = .ref a → H a = none
        | _ => True) → Q v H'
    | .exc n x S' => ∀ cls d H' C', Aft C O H C' S' H' → (∃ a, cls = .ref a ∧ mg n = some (.ref a) ∧ ((att n = "" ∧ d = none ∧ x = .none) ∨ ∃ dx v, att n ≠ "" ∧ d = some dx ∧ H' dx = some (.xd [(att n, v)]) ∧ VR (C' ++ O) H' x v)) → E cls d H'
    | .bad => False

/-- a def keeps its promise, where no repr is being made (guards) -/
structure FnG (P : Program) (w : World) (K : PySem.W.Frag) (mg : Str → Option Value) (base : Heap) (k : Nat) (f : Addr) (fd : FuncData) (ps : List Str) (sp : Sp) : Prop where
  len : ∀ vs H Q E, sp vs H Q E → vs.length = ps.length
  run : ∀ (A : Around) (outer : List PySem.Env) (s : Shared) (H : Hp) (args : Args) (us : List Value) (vs : List V) (Q : VK) (E : XK), Room k A → A.guards = some [] → Env0 P w K mg base A outer s H → BindsTo s fd args (ps.zip us) → Vals vs us → sp vs H Q E →
    codeAny (model P w) A (.call (.ref f) args) (CR (L2.CX P w) outer P w H s Q E) s
/-- how a call binds: n positional values, keywords ks, put in the parameters' order by p -/
def BindK (fd : FuncData) (ps : List Str) (n : Nat) (ks : List Str) (p : List Nat) : Prop :=
  ∀ us ws : List Value, us.length = n → ws.length = ks.length → bindArgs fd ⟨us, ks.zip ws⟩ = pure (ps.zip (p.map fun i => (us ++ ws).getD i .none))

/-- the objects of one heap stand in another one -/
def ExtH (H H' : Hp) : Prop := ∀ b o, H b = some o → H' b = some o
/-- what a handler gives: tl is what it is handed -/
def tHear (mg : Str → Option Value) (att : Str → Str) (t : HrT) : (XK → Hp → VK → Prop) → Hp → VK → Prop := fun tl H Q =>
  tl (fun cls d H' => ∃ n w k C, (n, w, k) ∈ t.tb ∧ cls = .ref C ∧ mg n = some (.ref C) ∧ ((att n = "" ∧ d = none ∧ ∀ G p, ExtH H' G → G p = none → Q (.ref p) (upd G p (.lst (shownH .str (.bl true) k w .non)))) ∨
      ∃ dx v, att n ≠ "" ∧ d = some dx ∧ H' dx = some (.xd [(att n, v)]) ∧ ∀ G p, ExtH H' G → G p = none → Q (.ref p) (upd G p (.lst (shownH .str (.bl true) k w v)))))
    H fun v H' => ∀ G p, ExtH H' G → G p = none → Q (.ref p) (upd G p (.lst (if t.told then [.str t.ok, v] else [.str t.ok])))
/-- a def that calls what it is handed, and hears how that ends -/
def HearOk (P : Program) (w : World) (K : PySem.W.Frag) (mg : Str → Option Value) (base : Heap) (att : Str → Str) (h : Str) (t : HrT) : Prop :=
  ∃ (g : Addr) (pg : Arguments) (bg : List Stmt) (sg : Scope) (dV kV doc pm cdv ct oc : Value) (an od : Option Addr) (osl : Array (Option Value)) (Ng : List Str) (a : Str), mg h = some (.ref g) ∧ PySem.W.keepIn K (.ref g) = true ∧
    K.lookup g = some ⟨oc, od, .func (PySem.W.fnOf h h pg bg sg dV kV doc pm an cdv ct), osl⟩ ∧ PySem.W.codeIn K cdv h = true ∧ Binds K (PySem.W.fnOf h h pg bg sg dV kV doc pm an cdv ct) [a] [] ∧ FnScope Ng [a] sg ∧ Ng[0]? = some a ∧ Vis sg a ∧ dbgB a = true ∧
    ∀ (X : Cx) (q : Str), X.prog = P → X.w = w → X.K = K → X.mg = mg → X.base = base → Room 1 X.A → LamX.GivesTo X Ng h sg g cdv bg a q (tHear mg att t)

structure Facts (P : Program) (w : World) (K : PySem.W.Frag) (mg : Str → Option Value) (base : Heap) (g : Sg) (att : Str → Str) (tabs : List (Addr × Str)) (k : Nat) (F : Call) : Prop where
  consts : ∀ x i, (x, i) ∈ g.consts → ∃ t, mg x = some (.int i t)
  blt : ∀ x, g.blt.contains x = true → mg x = none
  fns : ∀ f, f ∈ g.fns → ∃ a, mg f = some (.ref a) ∧ PySem.W.keepIn K (.ref a) = true
  runs : ∀ f a args S, mg f = some (.ref a) → F f args S ≠ .bad → ∃ fd ps, FnG P w K mg base k a fd ps (spF K mg att tabs (F f)) ∧ Binds K fd ps []
  calls : ∀ f n ks p, (f, n, ks, p) ∈ g.calls → ∃ a fd ps, mg f = some (.ref a) ∧ PySem.W.keepIn K (.ref a) = true ∧ FnG P w K mg base k a fd ps (spF K mg att tabs (F f)) ∧ BindK fd ps n ks p ∧ ps.length = p.length ∧ (∀ i ∈ p, i < n + ks.length)
  errs : ∀ x ∈ g.classes, ∃ C, mg x = some (.ref C) ∧ ((att x = "" ∧ Err0 K C) ∨ (att x ≠ "" ∧ ∃ file, ErrC K file (att x) C ∧ ErrP P file))
  hears : ∀ h t, (h, t) ∈ g.hears → HearOk P w K mg base att h t
  att : ∀ x, att x = attOf g x

/-- where lambdas are made: the code object, its table -/
def LamHere (k : Nat) (X : Cx) : Prop := ∃ co P, LamX.TabB X.base X.mg co P ∧ X.env.code = .ref co ∧ (P, X.env.qual ++ "<lambda>") ∈ Tabl.tabs ∧ (∀ p ∈ Tabl.tabs, p.1 = P → p.2 = X.env.qual ++ "<lambda>") ∧ Room (k + 3) X.A
structure XOk (g : Sg) (N : List Str) (sc : Scope) (k : Nat) (F : Call) (c : Ct) (X : Cx) : Prop where
  hN : X.N = N
  nd : N.Nodup
  sc : X.env.scope = sc
  calm : X.calm = true
  room : Room k X.A
  grd : X.A.guards = some []
  K : X.K = c.K
  mg : X.mg = c.mg
  pas : ∀ σ, PassesAt (L2.CX X.prog X.w) X σ (fun cls d H => c.W cls d σ H)
  facts : Facts X.prog X.w X.K X.mg X.base g c.att Tabl.tabs k F
  tabs : LamX.Tabs Tabl.tabs c.E.H
  lam : g.lam = true → LamHere k X

section
variable {g : Sg} {N : List Str} {sc : Scope} {k : Nat} {F : Call} {c : Ct} {X : Cx}

theorem Grow.tabs {H H' : Hp} (g : Grow H H') (t : LamX.Tabs Tabl.tabs H) : LamX.Tabs Tabl.tabs H' := fun p hp => g.tab p hp (t p hp)
theorem XOk.tabsAt (x : XOk g N sc k F c X) {C O : List Addr} {ρ : Env} {S : Cells} {σ : L2.St} {H : Hp} (R : Rel c C O ρ S σ H) : LamX.Tabs Tabl.tabs H := R.grow.tabs x.tabs
theorem vis_of (x : XOk g N sc k F c X) {y : Str} (h : visB sc y = true) : Vis X.env.scope y := by
  rw [x.sc]
  unfold visB at h
  unfold Vis
  split at h <;> first | (rename_i e; simp [e]) | cases h
theorem gl_of (x : XOk g N sc k F c X) {y : Str} (h : glB sc y = true) : Gl X y := by
  show X.env.scope.names.lookup y = _
  rw [x.sc]
  unfold glB at h
  split at h <;> first | assumption | cases h
theorem dbg1 {y : Str} (h : dbgB y = true) : (y == ("__debug__" : Str)) = false := by
  simp only [dbgB, Bool.and_eq_true, Bool.not_eq_true'] at h
  exact h.1.1
theorem dbg2 {y : Str} (h : dbgB y = true) : (y == ("__classdict__" : Str)) = false := by
  simp only [dbgB, Bool.and_eq_true, Bool.not_eq_true'] at h
  exact h.1.2
theorem dbg3 {y : Str} (h : dbgB y = true) : y ≠ "__name__" := by
  simp only [dbgB, Bool.and_eq_true, Bool.not_eq_true', decide_eq_false_iff_not] at h
  exact h.2
theorem blt_of (x : XOk g N sc k F c X) {y : Str} (h : bltB g sc y = true) : Gl X y ∧ X.mg y = none ∧ (y == ("__debug__" : Str)) = false ∧ y ≠ "__name__" := by
  simp only [bltB, Bool.and_eq_true] at h
  exact ⟨gl_of x h.1.1, x.facts.blt y h.1.2, dbg1 h.2, dbg3 h.2⟩

theorem VRH.vre {K : PySem.W.Frag} {mg : Str → Option Value} {E0 : Hp} {C O : List Addr} {S : Cells} {H : Hp} : ∀ {x : EV} {v : V}, VRH K mg C O H x v → VRE K mg E0 C O S H x v
  | .d _, _, h => h
  | .cell _, _, h => h
  | .fn _, _, h => h
  | .scr _, _, h => h
  | .nw _, _, h => h.elim
  | .pk _, _, h => h.elim
theorem rE.ofH {O C' : List Addr} {H H' : Hp} {S' : Cells} {x : EV} {v : V} (h : VRH c.K c.mg C' O H' x v) : rE c O H C' S' H' x v := by
  refine ⟨h.vre, ?_⟩
  cases x <;> first | trivial | exact h.elim
theorem rE.ofD {O C' : List Addr} {H H' : Hp} {S' : Cells} {x : D} {v : V} (h : VR (C' ++ O) H' x v) : rE c O H C' S' H' (.d x) v := ⟨h, trivial⟩
theorem rE.strict {O C' : List Addr} {H H' : Hp} {S' : Cells} (ok : Ok C' O S' H') {x : EV} {v : V} (h : rE c O H C' S' H' x v) : ∀ y, x.strict = some y → VR (C' ++ O) H' y v := fun y e => VRE.strict (ok := ok) h.1 e
theorem rE.held {O C' : List Addr} {H H' : Hp} {S' : Cells} (ok : Ok C' O S' H') {x : EV} {v : V} (h : rE c O H C' S' H' x v) : ∀ y, x.held = some y → VRH c.K c.mg C' O H' y v := fun y e => VRE.held (ok := ok) h.1 e
theorem rE.asD {O C' : List Addr} {H H' : Hp} {S' : Cells} (ok : Ok C' O S' H') {x : EV} {v : V} (h : rE c O H C' S' H' x v) : ∀ y, x.asD = some y → VRw C' O H' y v := fun y e => VRE.asD (ok := ok) h.1 e
/-- a result that stands already -/
theorem Post.here {O C : List Addr} {H : Hp} {σ : L2.St} {Q : VK} {x : EV} {S : Cells} {v : V} (h : Post c O (rE c O) C H σ Q (.ok x S)) (ok : Ok C O S H) (r : rE c O H C S H x v) : Q v H := h v H C ok.aft r
/-- a new tuple, a new list -/
theorem Post.newTup {O C : List Addr} {H : Hp} {σ : L2.St} {Q : VK} {ds : List D} {xs : List V} {S : Cells} (h : Post c O (rE c O) C H σ Q (.ok (.d (.tuple ds)) S)) (ok : Ok C O S H) (z : xs.length ≤ sizeLine) (r : VRs (C ++ O) H ds xs) {p : Addr} (hp : H p = none) : Q (.ref p) (upd H p (.tup xs)) :=
  h _ _ C (ok.aft.upd hp) (rE.ofD (VR.mkTup ok hp z r))
theorem Post.newLst {O C : List Addr} {H : Hp} {σ : L2.St} {Q : VK} {ds : List D} {xs : List V} {S : Cells} (h : Post c O (rE c O) C H σ Q (.ok (.nw ds) S)) (ok : Ok C O S H) (z : xs.length ≤ sizeLine) (r : VRs (C ++ O) H ds xs) {p : Addr} (hp : H p = none) : Q (.ref p) (upd H p (.lst xs)) :=
  h _ _ C (ok.aft.upd hp) ⟨VRE.mkNew ok hp z r, fun a e => by cases e; exact hp⟩
theorem lim_le {n : Nat} (h : n ≤ lim) : n ≤ sizeLine := Nat.le_trans h (by decide)
theorem lim_lt {n : Nat} (h : n ≤ lim) : n < sizeLine := Nat.lt_of_le_of_lt h (by decide)

/-! ### an expression's two readings: as a value, as a test -/
def Both (X : Cx) (c : Ct) (F : Call) (e : IE) (x : Expr) : Prop := PE X x (tE c F e) ∧ PT X x (tT c F e)
theorem both_val {e : IE} {x : Expr} (h : PE X x (tE c F e)) (he : ∀ whole, isTrue x X.env whole = (do let v ← whole; standAt x.pos; holding [v] (truthy v))) : Both X c F e x := by
  refine ⟨h, PT.imp (pt_val h he) fun σ H Q ⟨C, O, ρ, S, R, P⟩ => ?_⟩
  refine ⟨C, O, ρ, S, R, Post.bind rP.up P fun r S1 v H1 C1 a q P1 => ?_⟩
  obtain ⟨b, e1, P2⟩ := P1.lft
  have er : r = .d (.bool b) := by
    cases r with
    | d x => cases x <;> first | (cases e1; rfl) | cases e1
    | _ => cases e1
  subst er
  have ev : v = .bl b := q.1
  exact ⟨b, ev, P2 b H1 C1 a.ok.aft rfl⟩

theorem both_lit {d : D} {x : Expr} (h : mE g N sc (.lit d) x = true) : Both X c F (.lit d) x := by
  simp only [mE] at h
  split at h
  · exact both_val (PE.imp pe_non fun σ H Q ⟨C, O, ρ, S, R, P⟩ => Post.here P R.ok (rE.ofD (by simp only [VR]))) fun _ => rfl
  · have e := beq_iff_eq.mp h
    subst e
    exact both_val (PE.imp pe_bl fun σ H Q ⟨C, O, ρ, S, R, P⟩ => Post.here P R.ok (rE.ofD (by simp only [VR]))) fun _ => rfl
  · have e := of_decide_eq_true h
    subst e
    exact both_val (PE.imp pe_int fun σ H Q ⟨C, O, ρ, S, R, P⟩ => Post.here P R.ok (rE.ofD (by simp only [VR]))) fun _ => rfl
  · have e := of_decide_eq_true h
    subst e
    exact both_val (PE.imp pe_str fun σ H Q ⟨C, O, ρ, S, R, P⟩ => Post.here P R.ok (rE.ofD (by simp only [VR]))) fun _ => rfl
  · cases h
theorem both_glob (x : XOk g N sc k F c X) {z : Str} {i : Int} {y : Expr} (h : mE g N sc (.glob z i) y = true) : Both X c F (.glob z i) y := by
  simp only [mE] at h
  split at h
  · simp only [Bool.and_eq_true, decide_eq_true_eq] at h
    obtain ⟨⟨⟨e, hg⟩, hd⟩, hm⟩ := h
    subst e
    obtain ⟨t, ht⟩ := x.facts.consts _ _ hm
    exact both_val (PE.imp (pe_glob (v := .int i) (gl_of x hg) ht ⟨t, rfl⟩ (dbg1 hd)) fun σ H Q ⟨C, O, ρ, S, R, P⟩ => Post.here P R.ok (rE.ofD (by simp only [VR]))) fun _ => rfl
  · cases h
theorem both_fnv (x : XOk g N sc k F c X) {f : Str} {y : Expr} (h : mE g N sc (.fnv f) y = true) : Both X c F (.fnv f) y := by
  simp only [mE] at h
  split at h
  · simp only [Bool.and_eq_true, decide_eq_true_eq] at h
    obtain ⟨⟨⟨e, hg⟩, hd⟩, hm⟩ := h
    subst e
    obtain ⟨a, ha, hk⟩ := x.facts.fns _ hm
    refine both_val (PE.imp (pe_glob (v := .ref a) (gl_of x hg) ha rfl (dbg1 hd)) fun σ H Q ⟨C, O, ρ, S, R, P⟩ => Post.here P R.ok (rE.ofH ?_)) fun _ => rfl
    exact ⟨a, rfl, by rw [← x.mg]; exact ha, by rw [← x.K]; exact hk⟩
  · cases h
theorem both_var (x : XOk g N sc k F c X) {i : Nat} {y : Expr} (h : mE g N sc (.var i) y = true) : Both X c F (.var i) y := by
  simp only [mE] at h
  split at h
  · simp only [Bool.and_eq_true, decide_eq_true_eq] at h
    obtain ⟨⟨hn, hv⟩, hd⟩ := h
    refine both_val (PE.imp (pe_var (i := i) (by rw [x.hN]; exact hn) (vis_of x hv) (dbg1 hd) (dbg2 hd)) fun σ H Q ⟨C, O, ρ, S, R, P⟩ => ?_) fun _ => rfl
    simp only [evalE] at P
    split at P
    · rename_i u e
      obtain ⟨v, e1, r⟩ := R.slots i _ e
      exact ⟨v, e1, Post.here P R.ok (rE.ofH r)⟩
    · exact P.elim
  · cases h
theorem both_peek (x : XOk g N sc k F c X) {i : Nat} {y : Expr} (h : mE g N sc (.peek i) y = true) : Both X c F (.peek i) y := by
  simp only [mE] at h
  split at h
  · simp only [Bool.and_eq_true, decide_eq_true_eq] at h
    obtain ⟨⟨hn, hv⟩, hd⟩ := h
    refine both_val (PE.imp (pe_var (i := i) (by rw [x.hN]; exact hn) (vis_of x hv) (dbg1 hd) (dbg2 hd)) fun σ H Q ⟨C, O, ρ, S, R, P⟩ => ?_) fun _ => rfl
    simp only [evalE] at P
    split at P
    · rename_i u e
      obtain ⟨a, xs, e1, r⟩ := R.slots i _ e
      exact ⟨.ref a, e1, Post.here P R.ok ⟨⟨a, xs, rfl, r⟩, trivial⟩⟩
    · exact P.elim
  · cases h
end
end SS

end

section
set_option linter.all false
set_option autoImplicit false
set_option maxRecDepth 100000
set_option maxHeartbeats 4000000
/-! Data in order: compares and sorting of nested data. -/
namespace SS
open PySem PySem.Spec PyProof.Rows L2
variable [Tabl]
section
variable {X : Cx}
def rOrd (K : PySem.W.Frag) (f : D → D → Bool) : R2 := fun x y H Q => ∃ d e, Dp K H x d ∧ Dp K H y e ∧ PySem.W.alike d e = true ∧ d ≠ .none ∧ d.depth ≤ 60 ∧ Q (.bl (f d e)) H
theorem op_ltD (hu : X.A.units + 65 < cLine) : OpR X (compareOp .Lt) (rOrd X.K fun d e => PySem.W.dataLt d e) := by
  intro pins s σ H x y v u Q I rx ry h
  obtain ⟨d, e, hd, he, ha, hn, hz, q⟩ := h
  obtain ⟨as, r1⟩ := Dp.reads I d x v hd rx
  obtain ⟨bs, r2⟩ := Dp.reads I e y u he ry
  exact PySem.W.lt_data r1 r2 ha hn (by omega) ⟨.bl _, H, I, rfl, q⟩
theorem op_gtD (hu : X.A.units + 65 < cLine) : OpR X (compareOp .Gt) (rOrd X.K fun d e => PySem.W.dataLt e d) := by
  intro pins s σ H x y v u Q I rx ry h
  obtain ⟨d, e, hd, he, ha, hn, hz, q⟩ := h
  obtain ⟨as, r1⟩ := Dp.reads I d x v hd rx
  obtain ⟨bs, r2⟩ := Dp.reads I e y u he ry
  exact PySem.W.gt_data r1 r2 ha hn (by omega) ⟨.bl _, H, I, rfl, q⟩
theorem op_leD (hu : X.A.units + 65 < cLine) : OpR X (compareOp .LtE) (rOrd X.K fun d e => !PySem.W.dataLt e d) := by
  intro pins s σ H x y v u Q I rx ry h
  obtain ⟨d, e, hd, he, ha, hn, hz, q⟩ := h
  obtain ⟨as, r1⟩ := Dp.reads I d x v hd rx
  obtain ⟨bs, r2⟩ := Dp.reads I e y u he ry
  exact PySem.W.le_data r1 r2 ha hn (by omega) ⟨.bl _, H, I, rfl, q⟩
theorem op_geD (hu : X.A.units + 65 < cLine) : OpR X (compareOp .GtE) (rOrd X.K fun d e => !PySem.W.dataLt d e) := by
  intro pins s σ H x y v u Q I rx ry h
  obtain ⟨d, e, hd, he, ha, hn, hz, q⟩ := h
  obtain ⟨as, r1⟩ := Dp.reads I d x v hd rx
  obtain ⟨bs, r2⟩ := Dp.reads I e y u he ry
  exact PySem.W.ge_data r1 r2 ha hn (by omega) ⟨.bl _, H, I, rfl, q⟩

/-- x in t, t a tuple -/
def rInT (K : PySem.W.Frag) (f : Bool → Bool) : R2 := fun x y H Q => ∃ (d : D) (ds : List D), Dp K H x d ∧ Dp K H y (.tuple ds) ∧ SeqAt.shaped d = true ∧ SeqAt.shaped (.tuple ds) = true ∧ Q (.bl (f (ds.any fun z => PyData.eqv z d))) H
theorem op_inT (hu : X.A.units + 65 < cLine) : OpR X (compareOp .In) (rInT X.K id) := by
  intro pins s σ H x y v u Q I rx ry h
  obtain ⟨d, ds, hd, he, sd, se, q⟩ := h
  obtain ⟨as, r1⟩ := Dp.reads I d x v hd rx
  obtain ⟨bs, r2⟩ := Dp.reads I (.tuple ds) y u he ry
  exact SeqAt.in_tuple_reads r2 r1 (SeqAt.canLay_of_shaped se) (SeqAt.canLay_of_shaped sd) (room_in_shaped sd hu) ⟨.bl _, H, I, rfl, q⟩
theorem op_notInT (hu : X.A.units + 65 < cLine) : OpR X (compareOp .NotIn) (rInT X.K (!·)) := by
  intro pins s σ H x y v u Q I rx ry h
  obtain ⟨d, ds, hd, he, sd, se, q⟩ := h
  obtain ⟨as, r1⟩ := Dp.reads I d x v hd rx
  obtain ⟨bs, r2⟩ := Dp.reads I (.tuple ds) y u he ry
  exact SeqAt.notIn_tuple_reads r2 r1 (SeqAt.canLay_of_shaped se) (SeqAt.canLay_of_shaped sd) (room_in_shaped sd hu) ⟨.bl _, H, I, rfl, q⟩
/-! ### sorting -/
theorem srtOk_alike {ds : List D} (h : srtOk ds = true) : PySem.W.AllAlike ds := by
  unfold srtOk at h
  simp only [Bool.and_eq_true, List.all_eq_true] at h
  exact fun d hd e he => h.1.1 d hd e he
theorem srtOk_depth {ds : List D} (h : srtOk ds = true) : ∀ d ∈ ds, d.depth ≤ 60 := by
  unfold srtOk at h
  simp only [Bool.and_eq_true, List.all_eq_true, decide_eq_true_eq] at h
  exact h.1.2
theorem srtOk_kind {ds : List D} (h : srtOk ds = true) : PySem.W.Sortable ds := by
  unfold srtOk at h
  simp only [Bool.and_eq_true, Bool.or_eq_true, List.all_eq_true] at h
  rcases h.2 with q | q
  · refine .inl fun d hd => ?_
    have := q d hd
    split at this
    · exact ⟨_, _, rfl⟩
    · cases this
  · refine .inr fun d hd => ?_
    have := q d hd
    split at this
    · cases this
    · cases this
    · rename_i n1 n2
      exact ⟨n1, n2⟩
def rSortedD (K : PySem.W.Frag) (rev : Bool) (vs : List V) (H : Hp) (Q : VK) : Prop := ∃ (a : Addr) (bs : List (V × D)), vs = [.ref a] ∧ (SqL K H a (bs.map (·.1)) ∨ SqT K H a (bs.map (·.1)) ∧ False) ∧ (∀ b ∈ bs, Dp K H b.1 b.2) ∧ srtOk (bs.map (·.2)) = true ∧
  ∀ p, H p = none → Q (.ref p) (L2.upd H p (.lst ((bs.mergeSort (PySem.W.dataLe rev (·.2))).map (·.1))))
theorem sorted_bs {rev : Bool} (bs : List (V × D)) : (bs.mergeSort (PySem.W.dataLe rev (·.2))).map (·.2) = sortD rev (bs.map (·.2)) := by
  unfold sortD
  exact List.map_mergeSort fun a _ b _ => rfl
theorem eachR {bs : List (V × D)} : ∀ {its : List Value}, Vals (bs.map (·.1)) its → PySem.W.EachIs (fun v (b : V × D) => RelV b.1 v) its bs := by
  induction bs with
  | nil =>
    intro its r
    cases r
    exact .nil
  | cons b bs ih =>
    intro its r
    cases r with
    | cons a t => exact .cons a (ih t)
theorem valsR : ∀ {its : List Value} {bs : List (V × D)}, PySem.W.EachIs (fun v (b : V × D) => RelV b.1 v) its bs → Vals (bs.map (·.1)) its
  | _, _, .nil => .nil
  | _, _, .cons a t => .cons a (valsR t)
theorem cr_sortedD (hu : X.A.units + 65 < cLine) : CallR X (.builtin "sorted") (rSortedD X.K false) := by
  intro pins s σ H vs us Q I r h
  obtain ⟨a, bs, rfl, hs, hd, ho, q⟩ := h
  rcases hs with hs | ⟨_, z⟩
  · obtain ⟨its, rv, hl, hz⟩ := I.list hs
    rw [Vals.ref1 r]
    have er : PySem.W.EachIs (fun v (b : V × D) => ∃ as, Reads s.heap v b.2 as) its bs := by
      have e := PySem.W.each_mem (eachR rv)
      exact e.mono fun v b ⟨r1, m⟩ => Dp.reads I b.2 b.1 v (hd b m) r1
    have dep := srtOk_depth ho
    refine PySem.W.sorted_data (enc := (·.2)) hl.isList (eachR rv) er (srtOk_alike ho) (srtOk_kind ho) (by rw [List.length_map] at hz; exact hz) (fun b hb => by have := dep b.2 (List.mem_map.mpr ⟨b, hb, rfl⟩); omega) fun out hlen ho2 => ?_
    have rv2 := valsR ho2
    obtain ⟨ep, he'⟩ := PyProof.Rows.sortedAll_at s.heap its out.toArray
    refine ⟨.ref _, L2.upd H (s.heap.objs.size + 1) (.lst ((bs.mergeSort (PySem.W.dataLe false (·.2))).map (·.1))), ?_, rfl, q _ (I.hok.fresh (Nat.le_succ _))⟩
    refine I.laid (t' := s.toks) (fun _ _ => PyProof.Rows.sortedAll_old) (Nat.le_succ _) ⟨?_, out, ep, rv2, he'⟩
    rw [List.length_map, List.length_mergeSort]
    rw [List.length_map] at hz
    exact hz
  · exact z.elim
def rSortedDR (K : PySem.W.Frag) : List V → List V → Hp → VK → Prop := fun vs zs H Q => zs = [.bl true] ∧ rSortedD K true vs H Q
theorem cr_sortedDR (hu : X.A.units + 65 < cLine) : CallRK X (.builtin "sorted") [Str.ofString "reverse"] (rSortedDR X.K) := by
  intro pins s σ H vs zs us ws Q I r rz h
  obtain ⟨rfl, a, bs, rfl, hs, hd, ho, q⟩ := h
  obtain ⟨w1, rfl, e1⟩ := vals1 rz
  cases (show w1 = Value.bool true from e1)
  rcases hs with hs | ⟨_, z⟩
  · obtain ⟨its, rv, hl, hz⟩ := I.list hs
    rw [Vals.ref1 r]
    have er : PySem.W.EachIs (fun v (b : V × D) => ∃ as, Reads s.heap v b.2 as) its bs := by
      have e := PySem.W.each_mem (eachR rv)
      exact e.mono fun v b ⟨r1, m⟩ => Dp.reads I b.2 b.1 v (hd b m) r1
    have dep := srtOk_depth ho
    refine PySem.W.sorted_rev_data (b := true) (enc := (·.2)) hl.isList (eachR rv) er (srtOk_alike ho) (srtOk_kind ho) (by rw [List.length_map] at hz; exact hz) (fun b hb => by have := dep b.2 (List.mem_map.mpr ⟨b, hb, rfl⟩); omega) fun out hlen ho2 => ?_
    have rv2 := valsR ho2
    obtain ⟨ep, he'⟩ := PyProof.Rows.sortedAll_at s.heap its out.toArray
    refine ⟨.ref _, L2.upd H (s.heap.objs.size + 1) (.lst ((bs.mergeSort (PySem.W.dataLe true (·.2))).map (·.1))), ?_, rfl, q _ (I.hok.fresh (Nat.le_succ _))⟩
    refine I.laid (t' := s.toks) (fun _ _ => PyProof.Rows.sortedAll_old) (Nat.le_succ _) ⟨?_, out, ep, rv2, he'⟩
    rw [List.length_map, List.length_mergeSort]
    rw [List.length_map] at hz
    exact hz
  · exact z.elim
/-! ### list.index, list.count -/
theorem idx_at : ∀ {ds : List D} {d : D} {j : Nat}, idxD ds d = some j → ∃ z, ds[j]? = some z ∧ PyData.eqv z d = true ∧ ∀ (m : Nat) (z' : D), m < j → ds[m]? = some z' → PyData.eqv z' d = false := fun {ds d j} h => by
  obtain ⟨h1, h2, h3⟩ := List.findIdx?_eq_some_iff_getElem.mp h
  refine ⟨ds[j], List.getElem?_eq_getElem h1, h2, fun m z' hm hz => ?_⟩
  have hl : m < ds.length := by omega
  rw [List.getElem?_eq_getElem hl] at hz
  cases hz
  have := h3 m hm
  simpa using this
def rCountD (K : PySem.W.Frag) : V → List V → Hp → VK → Prop := fun x xs H Q => ∃ (a : Addr) (y : V) (d : D) (ds : List D), x = V.ref a ∧ xs = [y] ∧ Dp K H (V.ref a) (.list ds) ∧ Dp K H y d ∧
  SeqAt.shaped (.list ds) = true ∧ SeqAt.shaped d = true ∧ Q (.int ((ds.countP fun z => PyData.eqv z d : Nat) : Int)) H
theorem mt_countD (hu : X.A.units + 65 < cLine) : MtR X "list.count" (rCountD X.K) := by
  intro pins s σ H x xs v us Q I rx rxs h
  obtain ⟨a, y, d, ds, rfl, rfl, hl, hy, sl, sd, q⟩ := h
  cases rx
  cases rxs with
  | cons ry rt =>
    rename_i uy ut
    cases rt
    obtain ⟨bs, r1⟩ := Dp.reads I d y uy hy ry
    have hxs := PySem.SeqAt.canLay_of_shaped sl
    have hroom : X.A.units + 1 + min (PyData.depthAll ds) d.depth < cLine := room_in_shaped sd hu
    cases hl with
    | lst hs ha =>
      obtain ⟨its, rv, il, hlen⟩ := I.list hs
      obtain ⟨as, h4⟩ := Dp.readsAll I ds _ its ha rv
      refine PySem.SeqAt.count_list_data il.isList (show ReadsAll s.heap its.toArray.toList ds as from h4) r1 (PyData.plainAll_of_canLay0 ds hxs) (PyData.plain_of_canLay0 d (PySem.SeqAt.canLay_of_shaped sd)) hroom ?_
      exact ⟨.int _, H, I.tok _, ⟨_, rfl⟩, q⟩
theorem base_of {o : Expr} {nm : Str} {env : PySem.Env} (h : baseB o = true) : attributeBase o nm env (eval o env) = eval o env := by
  unfold baseB at h
  split at h <;> first | rfl | cases h
/-! ### a tuple once -/
theorem tuple_mul1 (l : Addr) (items : Array Value) (n : Nat) (dd : Option Addr) (sl : Array (Option Value)) (u : Tok) :
    Meets (Builtin.«tuple.__mul__» ⟨[.ref l, .int 1 u], []⟩) (fun _ R s => s.heap.get? l = some { cls := .type "tuple", dict := dd, data := .seq items n, slots := sl } ∧ R (.ok (.ret (Value.ref l))) s) :=
  .of_wp fun prog w A R s h => by
    obtain ⟨hp, g, d, tk, os⟩ := s
    obtain ⟨hl, h⟩ := h
    have f1 := AutoSeq1.idx_int
    wp_walk using wpAny_loadPart' hl
    repeat (first
      | (refine wpAny_ite_false (decide_eq_false (by decide)) ?_; wp_walk using wpAny_loadPart' hl)
      | (refine wpAny_ite_true (by simp) ?_; wp_walk using wpAny_loadPart' hl))
    exact ⟨_, rfl, h⟩
/-! ### a tuple not once: nothing -/
theorem tuple_mul0 (l : Addr) (items : Array Value) (n : Nat) (dd : Option Addr) (sl : Array (Option Value)) (x : Int) (u : Tok) (c0 : (decide (x < -(2 ^ 63)) || decide (x ≥ 2 ^ 63)) = false) (c1 : (items.isEmpty || x == 1) = false) (c2 : (decide (x ≤ 0) || items.isEmpty) = true) :
    Meets (Builtin.«tuple.__mul__» ⟨[.ref l, .int x u], []⟩) (fun _ R s => s.heap.get? l = some { cls := .type "tuple", dict := dd, data := .seq items n, slots := sl } ∧
      R (.ok (.ret (Value.ref s.heap.objs.size))) { s with heap := s.heap.push { cls := Value.type "tuple", data := Data.seq #[] }, toks := s.toks }) :=
  .of_wp fun prog w A R s h => by
    obtain ⟨hp, g, d, tk, os⟩ := s
    obtain ⟨hl, h⟩ := h
    have f1 := AutoSeq1.idx_int
    wp_walk using wpAny_loadPart' hl
    repeat (first
      | (refine wpAny_ite_false (decide_eq_false (by rw [c0]; exact Bool.false_ne_true)) ?_; wp_walk using wpAny_loadPart' hl)
      | (refine wpAny_ite_false (decide_eq_false (by rw [c1]; exact Bool.false_ne_true)) ?_; wp_walk using wpAny_loadPart' hl)
      | (refine wpAny_ite_true (decide_eq_true c2) ?_; wp_walk using wpAny_loadPart' hl)
      | (refine wpAny_ite_false (decide_eq_false (by decide)) ?_; wp_walk using wpAny_loadPart' hl))
    exact ⟨_, rfl, h⟩
theorem op_repT1 : OpR X (binaryOp .Mult) (fun x y H Q => ∃ l xs, x = .ref l ∧ y = .int 1 ∧ SqT X.K H l xs ∧ xs ≠ [] ∧ Q (.ref l) H) := by
  intro pins s σ H x y v u Q I rx ry h
  obtain ⟨l, xs, rfl, rfl, hT, hne, q⟩ := h
  cases rx
  obtain ⟨t, rfl⟩ := ry
  obtain ⟨its, r, ⟨⟨cls, dd, data, sl⟩, ho, hc, n, hd⟩, hs⟩ := I.tuple hT
  simp only at hc hd
  subst hc hd
  refine wpAny_binaryOp_repeat_ref (T := "tuple") (U := "int") (by decide) ⟨_, ho, rfl⟩ (fun s' => typeIs_int s' 1 t) noFill_tuple_mul F.fills_int_mul F.slot_int_rmul repeat_tuple F.slot_int_index.lookup
    (call_meets F.slot_int_rmul (typeIs_int s 1 t) F.entry_int_rmul (F.args_int_rmul_2 _ _) (int_rmul_tuple 1 t l its.toArray n dd sl)
      ⟨ho, rfl, ⟨_, ho, rfl⟩, call_meets F.slot_tuple_mul ⟨_, ho, rfl⟩ F.entry_tuple_mul (F.args_tuple_mul_2 _ _) (tuple_mul1 l its.toArray n dd sl t) ⟨ho, ?_⟩⟩)
  exact ⟨.ref l, H, I, rfl, q⟩
theorem op_repT0 : OpR X (binaryOp .Mult) (fun x y H Q => ∃ l k xs, x = .ref l ∧ y = .int k ∧ SqT X.K H l xs ∧ xs ≠ [] ∧ -1000 ≤ k ∧ k ≤ 0 ∧ ∀ p, H p = none → Q (.ref p) (upd H p (.tup []))) := by
  intro pins s σ H x y v u Q I rx ry h
  obtain ⟨l, k, xs, rfl, rfl, hT, hne, h1, h2, q⟩ := h
  cases rx
  obtain ⟨t, rfl⟩ := ry
  obtain ⟨its, r, ⟨⟨cls, dd, data, sl⟩, ho, hc, n, hd⟩, hs⟩ := I.tuple hT
  simp only at hc hd
  subst hc hd
  have hle : its.length = xs.length := r.length.symm
  have hn : its ≠ [] := fun e => hne (by
    rw [e] at hle
    exact List.eq_nil_of_length_eq_zero hle.symm)
  have hi : its.toArray.isEmpty = false := by
    cases its with
    | nil => exact absurd rfl hn
    | cons a b => rfl
  have c0 : (decide (k < -(2 ^ 63)) || decide (k ≥ 2 ^ 63)) = false := by
    rw [decide_eq_false (by omega), decide_eq_false (by omega)] <;> rfl
  have c1 : (its.toArray.isEmpty || k == 1) = false := by
    rw [hi, Bool.false_or]
    exact beq_eq_false_iff_ne.mpr (by omega)
  have c2 : (decide (k ≤ 0) || its.toArray.isEmpty) = true := by
    rw [hi, Bool.or_false]
    exact decide_eq_true (by omega)
  refine wpAny_binaryOp_repeat_ref (T := "tuple") (U := "int") (by decide) ⟨_, ho, rfl⟩ (fun s' => typeIs_int s' k t) noFill_tuple_mul F.fills_int_mul F.slot_int_rmul repeat_tuple F.slot_int_index.lookup
    (call_meets F.slot_int_rmul (typeIs_int s k t) F.entry_int_rmul (F.args_int_rmul_2 _ _) (int_rmul_tuple k t l its.toArray n dd sl)
      ⟨ho, rfl, ⟨_, ho, rfl⟩, call_meets F.slot_tuple_mul ⟨_, ho, rfl⟩ F.entry_tuple_mul (F.args_tuple_mul_2 _ _) (tuple_mul0 l its.toArray n dd sl k t c0 c1 c2) ⟨ho, ?_⟩⟩)
  refine ⟨.ref s.heap.objs.size, _, I.laid (t' := s.toks) (o := .tup []) (fun b ob q => Heap.get?_push_of_some _ q) (Nat.le_refl _) ?_, rfl, q _ (I.hok.fresh (Nat.le_refl _))⟩
  exact ⟨Nat.zero_le _, [], .nil, IsTup.new _ _⟩
theorem zip_fst {α β : Type} : ∀ {xs : List α} {ys : List β}, xs.length = ys.length → (xs.zip ys).map (·.1) = xs
  | [], [], _ => rfl
  | x :: xs, y :: ys, h => by simp only [List.zip_cons_cons, List.map_cons]; rw [zip_fst (by simpa using h)]
  | [], _ :: _, h => by simp at h
  | _ :: _, [], h => by simp at h
theorem zip_snd {α β : Type} : ∀ {xs : List α} {ys : List β}, xs.length = ys.length → (xs.zip ys).map (·.2) = ys
  | [], [], _ => rfl
  | x :: xs, y :: ys, h => by simp only [List.zip_cons_cons, List.map_cons]; rw [zip_snd (by simpa using h)]
  | [], _ :: _, h => by simp at h
  | _ :: _, [], h => by simp at h
theorem VRs.zip {M : List Addr} {H : Hp} : ∀ {ds : List D} {xs : List V}, VRs M H ds xs → ∀ b ∈ xs.zip ds, VR M H b.2 b.1
  | [], xs, h, b, m => by
    rw [show xs = [] from h] at m
    cases m
  | d :: ds, xs, h, b, m => by
    obtain ⟨x, r, rfl, h1, h2⟩ := h
    rcases List.mem_cons.mp m with e | m
    · rw [e]
      exact h1
    · exact VRs.zip h2 b m
theorem VRs.ofZip {M : List Addr} {H : Hp} : ∀ {bs : List (V × D)}, (∀ b ∈ bs, VR M H b.2 b.1) → VRs M H (bs.map (·.2)) (bs.map (·.1))
  | [], _ => rfl
  | b :: bs, h => .cons (h b List.mem_cons_self) (VRs.ofZip fun c m => h c (List.mem_cons_of_mem _ m))
/-- a list of data, sorted -/
theorem sorted_list {c : Ct} {C O : List Addr} {S : Cells} {H : Hp} {σ : L2.St} {Q : VK} (rev : Bool) (ok : Ok C O S H) {ds : List D} {u : V} (hw : VRw C O H (.list ds) u) (ho : srtOk ds = true) (P : Post c O (rE c O) C H σ Q (.ok (.nw (sortD rev ds)) S)) : rSortedD X.K rev [u] H Q := by
  obtain ⟨a, xs, rfl, _, h, zz, r⟩ := hw
  have hl := r.length
  refine ⟨a, xs.zip ds, rfl, .inl (by rw [zip_fst hl]; exact SqL.of h), fun b hb => VR.dp (VRs.zip r b hb), by rw [zip_snd hl]; exact ho, fun p hp => ?_⟩
  have e : sortD rev ds = ((xs.zip ds).mergeSort (PySem.W.dataLe rev (·.2))).map (·.2) := by rw [sorted_bs, zip_snd hl]
  rw [e] at P
  refine P.newLst ok ?_ (VRs.ofZip fun b hb => VRs.zip r b ?_) hp
  · rw [List.length_map, List.length_mergeSort, List.length_zip, hl, Nat.min_self, ← hl]
    exact zz
  · exact (List.mergeSort_perm _ _).mem_iff.mp hb
end
end SS

end

section
set_option linter.all false
set_option autoImplicit false
set_option maxRecDepth 100000
set_option maxHeartbeats 4000000
/-! Expressions with parts. -/
namespace SS
open PySem PySem.Spec PyProof.Rows L2
variable [Tabl]
section
variable {g : Sg} {N : List Str} {sc : Scope} {k : Nat} {F : Call} {c : Ct} {X : Cx}

theorem VREs.strict {C O : List Addr} {H : Hp} : ∀ {xs : List EV} {vs : List V} {ds : List D}, VREs c C O H xs vs → EV.mapStrict xs = some ds → VRs (C ++ O) H ds vs
  | [], _, _, h, e => by
    cases e
    exact h
  | x :: xs, _, _, ⟨v, r, rfl, _, h2, _, t⟩, e => by
    simp only [EV.mapStrict, Option.bind_eq_some_iff, Option.map_eq_some_iff] at e
    obtain ⟨y, e1, ys, e2, rfl⟩ := e
    exact ⟨v, r, rfl, h2 y e1, VREs.strict t e2⟩
theorem VREs.held {C O : List Addr} {H : Hp} : ∀ {xs : List EV} {vs : List V} {ys : List EV}, VREs c C O H xs vs → EV.mapHeld xs = some ys → Paired (fun x v => VRH c.K c.mg C O H x v) ys vs
  | [], _, _, h, e => by
    cases e
    rw [show _ = [] from h]
    exact .nil
  | x :: xs, _, _, ⟨v, r, rfl, h1, _, _, t⟩, e => by
    simp only [EV.mapHeld, Option.bind_eq_some_iff, Option.map_eq_some_iff] at e
    obtain ⟨y, e1, ys, e2, rfl⟩ := e
    exact .cons (h1 y e1) (VREs.held t e2)
theorem VREs.length {C O : List Addr} {H : Hp} : ∀ {xs : List EV} {vs : List V}, VREs c C O H xs vs → vs.length = xs.length
  | [], _, h => by rw [show _ = [] from h]; rfl
  | x :: xs, _, ⟨v, r, rfl, _, _, _, t⟩ => by rw [List.length_cons, List.length_cons, VREs.length t]
theorem VREs.append {C O : List Addr} {H : Hp} : ∀ {xs ys : List EV} {vs ws : List V}, VREs c C O H xs vs → VREs c C O H ys ws → VREs c C O H (xs ++ ys) (vs ++ ws)
  | [], _, _, _, h, t => by
    rw [show _ = [] from h]
    exact t
  | x :: xs, _, _, _, ⟨v, r, rfl, h1, h2, h3, q⟩, t => ⟨v, r ++ _, rfl, h1, h2, h3, VREs.append q t⟩

theorem star_of {x : Expr} {xs : List Expr} {env : PySem.Env} (h : starB x = true) : starEach (x :: xs) env = (false, eval x env) :: starEach xs env := by
  cases x <;> first | rfl | cases h
theorem mE_noset : ∀ {e : IE} {x : Expr} {op : CmpOp}, mE g N sc e x = true → behindInMarks op x = false := by
  intro e x op h
  cases x with
  | «Set» es kk p =>
    exfalso
    induction e using IE.rec (motive_2 := fun _ => True) (motive_3 := fun _ => True) (motive_4 := fun _ => True) (motive_5 := fun _ => True) (motive_6 := fun _ => True) with
    | newc e ih =>
      simp only [mE] at h
      exact ih h
    | lit d => cases d <;> simp [mE] at h
    | _ => first | trivial | simp [mE] at h
  | _ => rfl

theorem pa_nil' {xs : List Expr} (h : mEs g N sc .nil xs = true) : PA X xs (tEs c F .nil) := by
  simp only [mEs] at h
  split at h
  · refine PA.imp pa_nil fun σ H Q ⟨C, O, ρ, S, R, P⟩ => ?_
    exact P [] H C R.ok.aft rfl
  · cases h
theorem pa_cons' {e : IE} {es : IEs} {xs : List Expr} (h : mEs g N sc (.cons e es) xs = true) (he : ∀ {y}, mE g N sc e y = true → PE X y (tE c F e)) (hes : ∀ {ys}, mEs g N sc es ys = true → PA X ys (tEs c F es)) : PA X xs (tEs c F (.cons e es)) := by
  simp only [mEs] at h
  split at h
  · simp only [Bool.and_eq_true] at h
    obtain ⟨⟨h1, h2⟩, h3⟩ := h
    refine PA.imp (pa_cons (he h1) (hes h3) (star_of h2)) fun σ H Q ⟨C, O, ρ, S, R, P⟩ => ?_
    simp only [evalEs] at P
    refine ⟨C, O, ρ, S, R, Post.bind rEs.up P fun r S1 v H1 C1 a q P1 => ⟨C1, O, ρ, S1, R.aft a, Post.bind rEs.up P1 fun rs S2 vs H2 C2 a2 q2 P2 => ?_⟩⟩
    exact P2 (v :: vs) H2 C2 a2.ok.aft ⟨v, vs, rfl, fun y e => (q.held a.ok y e).aft a2, fun y e => (q.strict a.ok y e).mono a2.keeps, fun y e => (q.asD a.ok y e).aft a2, q2⟩
  · cases h

theorem both_tup {es : IEs} {y : Expr} (h : mE g N sc (.tup es) y = true) (hes : ∀ {ys}, mEs g N sc es ys = true → PA X ys (tEs c F es)) : Both X c F (.tup es) y := by
  simp only [mE] at h
  split at h
  · refine both_val (PE.imp (pe_tup (hes h)) fun σ H Q ⟨C, O, ρ, S, R, P⟩ => ?_) fun _ => rfl
    simp only [evalE] at P
    refine ⟨C, O, ρ, S, R, Post.bind rE.up P fun rs S1 vs H1 C1 a q P1 => ?_⟩
    obtain ⟨ds, e1, P2⟩ := P1.lft
    obtain ⟨hl, P3⟩ := P2.iff
    have r := q.strict e1
    have z : vs.length ≤ sizeLine := by rw [r.length]; exact lim_le hl
    exact ⟨z, fun p hp => P3.newTup a.ok z r hp⟩
  · cases h
theorem both_lst {es : IEs} {y : Expr} (h : mE g N sc (.lst es) y = true) (hes : ∀ {ys}, mEs g N sc es ys = true → PA X ys (tEs c F es)) : Both X c F (.lst es) y := by
  simp only [mE] at h
  split at h
  · refine both_val (PE.imp (pe_lst (hes h)) fun σ H Q ⟨C, O, ρ, S, R, P⟩ => ?_) fun _ => rfl
    simp only [evalE] at P
    refine ⟨C, O, ρ, S, R, Post.bind rE.up P fun rs S1 vs H1 C1 a q P1 => ?_⟩
    obtain ⟨ds, e1, P2⟩ := P1.lft
    obtain ⟨hl, P3⟩ := P2.iff
    have r := q.strict e1
    have z : vs.length ≤ sizeLine := by rw [r.length]; exact lim_le hl
    exact ⟨z, fun p hp => P3.newLst a.ok z r hp⟩
  · cases h
/-- a new list that is shared from now on -/
theorem Ok.cell {C O : List Addr} {S : Cells} {H : Hp} {a : Addr} {xs : List V} {ds : List D} (ok : Ok C O S H) (ha : H a = some (.lst xs)) (z : xs.length ≤ sizeLine) (nC : a ∉ C) (nO : a ∉ O) (r : VRs (C ++ (a :: O)) H ds xs) (cs : CsOk (C ++ (a :: O)) H C S) : Ok (C ++ [a]) O (S ++ [ds]) H := by
  have e : C ++ [a] ++ O = C ++ (a :: O) := by rw [List.append_assoc]; rfl
  have o2 := ok.push ha nC nO cs
  refine ⟨by rw [e]; exact o2.nd, by rw [e]; exact cs.snoc ha z r, ok.otrk⟩
theorem pe_newc {e : IE} {y : Expr} (he : PE X y (tE c F e)) : PE X y (tE c F (.newc e)) := by
  refine PE.imp he fun σ H Q ⟨C, O, ρ, S, R, P⟩ => ?_
  simp only [evalE] at P
  refine ⟨C, O, ρ, S, R, ?_⟩
  cases hr : evalE F e ρ S with
  | ok r S1 =>
    rw [hr] at P
    simp only [Res.bind_ok] at P
    intro v H1 C1 a q
    split at P
    · obtain ⟨⟨b, xs, rfl, hb, z, nC, nO, r, cs⟩, fr⟩ := q
      have hfree := fr b rfl
      obtain ⟨M, hM⟩ := a.pre
      refine P (.ref b) H1 (C1 ++ [b]) ⟨⟨M ++ [b], by rw [hM, List.append_assoc]⟩, a.ext, a.grow, fun d m => ?_, a.ok.cell hb z nC nO r cs⟩ ⟨⟨b, rfl, ?_⟩, trivial⟩
      · rcases List.mem_append.mp m with m | m
        · exact a.new d m
        · rw [List.mem_singleton.mp m]
          exact .inr hfree
      · rw [← a.ok.cells.length, List.getElem?_append_right (Nat.le_refl _), Nat.sub_self]
        rfl
    · exact P.elim
  | exc n x S1 =>
    rw [hr] at P
    exact P
  | bad =>
    rw [hr] at P
    exact P

/-- the rule of an operator, by what it does to data -/
theorem bin_rule {C O : List Addr} {S : Cells} {H : Hp} {σ : L2.St} {Q : VK} {op : BOp} {o : Operator} (ho : binA op o = true) (ok : Ok C O S H) : ∀ {a b : D} {x y : V} {z : EV}, VRw C O H a x → VRw C O H b y →
    (match binD op a b with
      | some z => some (EV.d z)
      | none => (binN op a b).map .nw) = some z → Post c O (rE c O) C H σ Q (.ok z S) → ∃ r : R2, OpR X (binaryOp o) r ∧ r x y H Q := by
  intro a b x y z ha hb e P
  cases op <;> cases o <;> first | (cases ho) | skip
  · -- add
    cases a with
    | int i =>
      cases b <;> simp [binD, binN] at e
      subst e
      have ex : x = .int i := ha
      have ey : y = .int _ := hb
      exact ⟨_, op_add, i, _, ex, ey, P.here ok (rE.ofD (by simp only [VR]))⟩
    | tuple xs =>
      cases b with
      | tuple ys =>
        by_cases hl : xs.length + ys.length ≤ lim
        · simp only [binD, hl, if_true] at e
          cases e
          obtain ⟨p, us, rfl, np, hp, zp, rp⟩ := ha
          obtain ⟨q, ws, rfl, nq, hq, zq, rq⟩ := hb
          have lu := rp.length
          have lw := rq.length
          refine ⟨_, op_catA, p, q, us, ws, rfl, rfl, SqT.of hp, SqT.of hq, by rw [lu, lw]; exact lim_le hl, fun h => ?_, fun _ h => ?_, fun _ _ t ht => ?_⟩
          · subst h
            have : xs = [] := List.length_eq_zero_iff.mp lu.symm
            subst this
            exact P.here ok (rE.ofD ⟨q, ws, rfl, nq, hq, zq, rq⟩)
          · subst h
            have : ys = [] := List.length_eq_zero_iff.mp lw.symm
            subst this
            rw [List.append_nil] at P
            exact P.here ok (rE.ofD ⟨p, us, rfl, np, hp, zp, rp⟩)
          · exact P.newTup ok (by rw [List.length_append, lu, lw]; exact lim_le hl) (rp.append rq) ht
        · simp [binD, binN, hl] at e
      | _ => simp [binD, binN] at e
    | str u =>
      cases b with
      | str w =>
        by_cases hl : u.length + w.length ≤ lim
        · simp only [binD, hl, if_true] at e
          cases e
          have ex : x = .str u := ha
          have ey : y = .str w := hb
          exact ⟨_, op_add_str, u, w, ex, ey, lim_le hl, P.here ok (rE.ofD (by simp only [VR]))⟩
        · simp [binD, binN, hl] at e
      | _ => simp [binD, binN] at e
    | list xs =>
      cases b with
      | list ys =>
        by_cases hl : xs.length + ys.length ≤ lim
        · simp only [binD, binN, hl, if_true, Option.map_some] at e
          cases e
          obtain ⟨p, us, rfl, np, hp, zp, rp⟩ := ha
          obtain ⟨q, ws, rfl, nq, hq, zq, rq⟩ := hb
          have lu := rp.length
          have lw := rq.length
          refine ⟨_, op_cat, p, q, us, ws, rfl, rfl, hp, hq, by rw [lu, lw]; exact lim_le hl, fun t ht => ?_⟩
          exact P.newLst ok (by rw [List.length_append, lu, lw]; exact lim_le hl) (rp.append rq) ht
        · simp [binD, binN, hl] at e
      | _ => simp [binD, binN] at e
    | _ => simp [binD, binN] at e
  · -- sub
    cases a <;> cases b <;> simp [binD, binN] at e
    subst e
    exact ⟨_, op_sub, _, _, ha, hb, P.here ok (rE.ofD (by simp only [VR]))⟩
  · -- mul
    cases a with
    | int i =>
      cases b with
      | int j =>
        by_cases hl : i.natAbs < 2 ^ 64 ∨ j.natAbs < 2 ^ 64
        · simp only [binD, hl, if_true] at e
          cases e
          have ex : x = .int i := ha
          have ey : y = .int j := hb
          refine ⟨_, op_mul, i, j, ex, ey, ?_, P.here ok (rE.ofD (by simp only [VR]))⟩
          rcases hl with h | h
          · exact .inl ⟨by omega, by omega⟩
          · exact .inr ⟨by omega, by omega⟩
        · simp [binD, binN, hl] at e
      | _ => simp [binD, binN] at e
    | list xs =>
      cases b with
      | int j =>
        by_cases hl : xs.length * j.toNat ≤ lim ∧ (-j).toNat ≤ 2 ^ 60 ∧ j.toNat < 2 ^ 60
        · simp only [binD, binN, hl, if_true, Option.map_some, and_self] at e
          cases e
          obtain ⟨p, us, rfl, np, hp, zp, rp⟩ := ha
          have ey : y = .int j := hb
          have lu := rp.length
          refine ⟨_, op_rep, p, j, us, rfl, ey, hp, by omega, by omega, by rw [lu]; exact lim_le hl.1, fun t ht => ?_⟩
          refine P.newLst ok ?_ (rp.repl j.toNat) ht
          rw [List.length_flatten, List.map_replicate, List.sum_replicate_nat, lu]
          exact lim_le (by rw [Nat.mul_comm]; exact hl.1)
        · simp only [binD, binN, if_neg hl, Option.map_none] at e
          cases e
      | _ => simp [binD, binN] at e
    | tuple xs =>
      cases b with
      | int j =>
        by_cases hl : xs ≠ [] ∧ 1 ≤ j.toNat ∧ j.toNat ≤ 1000 ∧ xs.length ≤ 1000
        · have e2 : some (EV.d (.tuple (List.replicate j.toNat xs).flatten)) = some z := by
            have e3 : binD .mul (.tuple xs) (.int j) = some (.tuple (List.replicate j.toNat xs).flatten) := if_pos hl
            rw [e3] at e
            exact e
          cases e2
          obtain ⟨hn, h1, h2, h3⟩ := hl
          have ha0 : VR (C ++ O) H (.tuple xs) x := ha
          obtain ⟨p, us, rfl, np, hp, zp, rp⟩ := ha
          have ey : y = .int j := hb
          have lu := rp.length
          have hu : us ≠ [] := fun q => by
            rw [q] at lu
            exact hn (List.eq_nil_of_length_eq_zero lu.symm)
          by_cases hj : j = 1
          · subst hj
            subst ey
            refine ⟨_, op_repT1, p, us, rfl, rfl, SqT.of hp, hu, P.here ok (rE.ofD ?_)⟩
            have e4 : (List.replicate (1 : Int).toNat xs).flatten = xs := by
              rw [show (1 : Int).toNat = 1 from rfl, List.replicate_one, List.flatten_cons, List.flatten_nil, List.append_nil]
            rw [e4]
            exact ha0
          · refine ⟨_, op_repT, p, j, us, rfl, ey, SqT.of hp, hu, by omega, by omega, by rw [lu]; exact h3, fun t ht => ?_⟩
            refine P.newTup ok ?_ (rp.repl j.toNat) ht
            rw [List.length_flatten, List.map_replicate, List.sum_replicate_nat, lu]
            refine lim_le (Nat.le_trans (Nat.mul_le_mul h2 h3) (by decide))
        · by_cases hz : xs ≠ [] ∧ -1000 ≤ j ∧ j ≤ 0
          · have e2 : some (EV.d (.tuple [])) = some z := by
              have e3 : binD .mul (.tuple xs) (.int j) = some (.tuple []) := (if_neg hl).trans (if_pos hz)
              rw [e3] at e
              exact e
            cases e2
            obtain ⟨hn, h1, h2⟩ := hz
            obtain ⟨p, us, rfl, np, hp, zp, rp⟩ := ha
            have ey : y = .int j := hb
            have lu := rp.length
            have hu : us ≠ [] := fun q => by
              rw [q] at lu
              exact hn (List.eq_nil_of_length_eq_zero lu.symm)
            exact ⟨_, op_repT0, p, j, us, rfl, ey, SqT.of hp, hu, h1, h2, fun t ht => P.newTup ok (Nat.zero_le _) rfl ht⟩
          · have e3 : binD .mul (.tuple xs) (.int j) = none := (if_neg hl).trans (if_neg hz)
            rw [e3] at e
            cases e
      | _ => simp [binD, binN] at e
    | _ => cases b <;> simp [binD, binN] at e
  · -- mod
    cases a with
    | int i =>
      cases b with
      | int j =>
        by_cases hl : 0 < j
        · simp only [binD, hl, if_true] at e
          cases e
          exact ⟨_, op_mod, i, j, ha, hb, hl, P.here ok (rE.ofD (by simp only [VR]))⟩
        · simp [binD, binN, hl] at e
      | _ => simp [binD, binN] at e
    | _ => cases b <;> simp [binD, binN] at e
  · -- fdiv
    cases a with
    | int i =>
      cases b with
      | int j =>
        by_cases hl : 0 < j ∧ j.natAbs < 1073741824
        · simp only [binD, hl, if_true, and_self] at e
          cases e
          exact ⟨_, op_fdiv, i, j, ha, hb, ⟨hl.1, by have := hl.2; omega⟩, P.here ok (rE.ofD (by simp only [VR]))⟩
        · simp [binD, binN, hl] at e
      | _ => simp [binD, binN] at e
    | _ => cases b <;> simp [binD, binN] at e
  · -- pow
    cases a with
    | int i =>
      cases b with
      | int j =>
        by_cases hl : 0 ≤ j ∧ j ≤ 1000 ∧ i.natAbs < 2 ^ 64
        · simp only [binD, hl, if_true, and_self] at e
          cases e
          exact ⟨_, op_pow, i, j, ha, hb, ⟨hl.1, by omega, hl.2.2⟩, P.here ok (rE.ofD (by simp only [VR]))⟩
        · simp [binD, binN, hl] at e
      | _ => simp [binD, binN] at e
    | _ => cases b <;> simp [binD, binN] at e

theorem both_bin {op : BOp} {a b : IE} {y : Expr} (h : mE g N sc (.bin op a b) y = true) (ha : ∀ {y}, mE g N sc a y = true → PE X y (tE c F a)) (hb : ∀ {y}, mE g N sc b y = true → PE X y (tE c F b)) : Both X c F (.bin op a b) y := by
  simp only [mE] at h
  split at h
  · simp only [Bool.and_eq_true] at h
    obtain ⟨⟨h1, h2⟩, h3⟩ := h
    refine both_val (PE.imp (pe_op op_any (ha h2) (hb h3)) fun σ H Q ⟨C, O, ρ, S, R, P⟩ => ?_) fun _ => rfl
    simp only [evalE] at P
    refine ⟨C, O, ρ, S, R, Post.bind rE.up P fun r S1 v H1 C1 a1 q P1 => ⟨C1, O, ρ, S1, R.aft a1, Post.bind rE.up P1 fun r2 S2 v2 H2 C2 a2 q2 P2 => ?_⟩⟩
    obtain ⟨z, e, P3⟩ := P2.lft
    simp only [binE, Option.bind_eq_some_iff] at e
    obtain ⟨da, ea, db, eb, e⟩ := e
    exact bin_rule h1 a2.ok ((q.asD a1.ok da ea).aft a2) (q2.asD a2.ok db eb) e P3
  · cases h
theorem dInt_some {v : EV} {i : Int} (h : dInt v = some i) : v = .d (.int i) := by
  cases v with
  | d x => cases x <;> first | (cases h; rfl) | cases h
  | _ => cases h
theorem dBool_some {v : EV} {i : Bool} (h : dBool v = some i) : v = .d (.bool i) := by
  cases v with
  | d x => cases x <;> first | (cases h; rfl) | cases h
  | _ => cases h
theorem both_neg {a : IE} {y : Expr} (h : mE g N sc (.neg a) y = true) (ha : ∀ {y}, mE g N sc a y = true → PE X y (tE c F a)) : Both X c F (.neg a) y := by
  simp only [mE] at h
  split at h
  · refine both_val (PE.imp (pe_un un_neg (ha h)) fun σ H Q ⟨C, O, ρ, S, R, P⟩ => ?_) fun _ => rfl
    simp only [evalE] at P
    refine ⟨C, O, ρ, S, R, Post.bind rE.up P fun r S1 v H1 C1 a1 q P1 => ?_⟩
    obtain ⟨i, e, P2⟩ := P1.lft
    have e := dInt_some e
    subst e
    exact ⟨i, q.1, P2.here a1.ok (rE.ofD (by simp only [VR]))⟩
  · cases h
theorem both_not {a : IE} {y : Expr} (h : mE g N sc (.not a) y = true) (ha : ∀ {y}, mE g N sc a y = true → Both X c F a y) : Both X c F (.not a) y := by
  simp only [mE] at h
  split at h
  · constructor
    · refine PE.imp (pe_not (ha h).1) fun σ H Q ⟨C, O, ρ, S, R, P⟩ => ?_
      simp only [evalE] at P
      refine ⟨C, O, ρ, S, R, Post.bind rE.up P fun r S1 v H1 C1 a1 q P1 => ?_⟩
      obtain ⟨i, e, P2⟩ := P1.lft
      have e := dBool_some e
      subst e
      exact ⟨i, q.1, P2.here a1.ok (rE.ofD (by simp only [VR]))⟩
    · refine PT.imp (pt_not (ha h).2) fun σ H Q ⟨C, O, ρ, S, R, P⟩ => ?_
      simp only [evalE] at P
      refine ⟨C, O, ρ, S, R, ?_⟩
      cases hr : evalE F a ρ S with
      | ok r S1 =>
        rw [hr] at P
        simp only [Res.bind_ok] at P ⊢
        cases hd : dBool r with
        | none =>
          rw [hd] at P
          exact P
        | some b =>
          rw [hd] at P
          exact fun v H1 C1 a1 q => by
            have q' : b = v := q
            subst q'
            exact P (!b) H1 C1 a1 rfl
      | exc n x S1 =>
        rw [hr] at P
        exact P
      | bad =>
        rw [hr] at P
        exact P
  · cases h

def isNoneD : D → Bool
  | .none => true
  | _ => false
theorem isN {C O : List Addr} {H : Hp} {x : D} {v : V} (h : VRw C O H x v) : decide (v = V.non) = isNoneD x := by
  cases x with
  | none => rw [show v = V.non from h]; rfl
  | bool b => rw [show v = V.bl b from h]; rfl
  | int b => rw [show v = V.int b from h]; rfl
  | str b => rw [show v = V.str b from h]; rfl
  | tuple ds =>
    obtain ⟨a, xs, e, _⟩ := h
    subst e
    rfl
  | list ds =>
    obtain ⟨a, xs, e, _⟩ := h
    subst e
    rfl
  | dict _ => exact h.elim
theorem eqD_cases {a b : D} {z : Bool} (e : eqD a b = some z) : (∃ i j, a = .str i ∧ b = .str j ∧ z = (i == j)) ∨ (SeqAt.shaped a = true ∧ SeqAt.shaped b = true ∧ z = PyData.eqv a b) := by
  unfold eqD at e
  split at e
  · cases e
    exact .inl ⟨_, _, rfl, rfl, rfl⟩
  · split at e
    · rename_i hs
      simp only [Bool.and_eq_true] at hs
      cases e
      exact .inr ⟨hs.1, hs.2, rfl⟩
    · cases e
theorem ordR_some {x y : D} {b z : Bool} (h : ordR x y b = some z) : PySem.W.alike x y = true ∧ x.depth ≤ 60 ∧ z = b := by
  unfold ordR at h
  split at h
  · rename_i q
    simp only [Bool.and_eq_true, decide_eq_true_eq] at q
    cases h
    exact ⟨q.1, q.2, rfl⟩
  · cases h
theorem cmp_rule (x : XOk g N sc k F c X) {C O : List Addr} {H : Hp} {Q : VK} {op : COp} {o : CmpOp} (ho : cmpA op o = true) : ∀ {a b : D} {u v : V} {z : Bool}, VRw C O H a u → VRw C O H b v →
    cmpD op a b = some z → Q (.bl z) H → ∃ r : R2, OpR X (compareOp o) r ∧ r u v H Q := by
  intro a b u v z ha hb e q
  have hu := x.room.units
  have hu1 : X.A.units + 65 < cLine := by have := x.room.un; omega
  cases op <;> cases o <;> first | (cases ho) | skip
  · -- eq
    have e : eqD a b = some z := by cases a <;> exact e
    rcases eqD_cases e with ⟨i, j, rfl, rfl, ez⟩ | ⟨h1, h2, ez⟩
    · have eu : u = .str i := ha
      have ev : v = .str j := hb
      subst eu
      subst ev
      subst ez
      exact ⟨_, op_eq, rfl, by rw [L2.dec_str]; exact q⟩
    · subst ez
      exact ⟨_, op_eqD hu, a, b, ha.dp, hb.dp, h1, h2, q⟩
  · -- ne
    have e : (eqD a b).map (fun b => !b) = some z := by cases a <;> exact e
    obtain ⟨z', e2, ez'⟩ := Option.map_eq_some_iff.mp e
    subst ez'
    rcases eqD_cases e2 with ⟨i, j, rfl, rfl, ez⟩ | ⟨h1, h2, ez⟩
    · have eu : u = .str i := ha
      have ev : v = .str j := hb
      subst eu
      subst ev
      subst ez
      exact ⟨_, op_ne, rfl, by rw [L2.dec_str]; exact q⟩
    · subst ez
      exact ⟨_, op_neD hu, a, b, ha.dp, hb.dp, h1, h2, q⟩
  · cases a with
    | int i =>
      cases b with
      | int j =>
        simp only [cmpD, Option.some.injEq] at e
        subst e
        exact ⟨_, op_lt, _, _, ha, hb, q⟩
      | _ => simp [cmpD] at e
    | tuple xs =>
      cases b with
      | tuple ys =>
        simp only [cmpD] at e
        obtain ⟨h1, h2, e3⟩ := ordR_some e
        subst e3
        exact ⟨_, op_ltD hu1, _, _, ha.dp, hb.dp, h1, by simp, h2, q⟩
      | _ => simp [cmpD] at e
    | _ => cases b <;> simp [cmpD] at e
  · cases a with
    | int i =>
      cases b with
      | int j =>
        simp only [cmpD, Option.some.injEq] at e
        subst e
        exact ⟨_, op_le, _, _, ha, hb, q⟩
      | _ => simp [cmpD] at e
    | tuple xs =>
      cases b with
      | tuple ys =>
        simp only [cmpD] at e
        obtain ⟨h1, h2, e3⟩ := ordR_some e
        subst e3
        exact ⟨_, op_leD hu1, _, _, ha.dp, hb.dp, h1, by simp, h2, q⟩
      | _ => simp [cmpD] at e
    | _ => cases b <;> simp [cmpD] at e
  · cases a with
    | int i =>
      cases b with
      | int j =>
        simp only [cmpD, Option.some.injEq] at e
        subst e
        exact ⟨_, op_gt, _, _, ha, hb, q⟩
      | _ => simp [cmpD] at e
    | tuple xs =>
      cases b with
      | tuple ys =>
        simp only [cmpD] at e
        obtain ⟨h1, h2, e3⟩ := ordR_some e
        subst e3
        exact ⟨_, op_gtD hu1, _, _, ha.dp, hb.dp, h1, by simp, h2, q⟩
      | _ => simp [cmpD] at e
    | _ => cases b <;> simp [cmpD] at e
  · cases a with
    | int i =>
      cases b with
      | int j =>
        simp only [cmpD, Option.some.injEq] at e
        subst e
        exact ⟨_, op_ge, _, _, ha, hb, q⟩
      | _ => simp [cmpD] at e
    | tuple xs =>
      cases b with
      | tuple ys =>
        simp only [cmpD] at e
        obtain ⟨h1, h2, e3⟩ := ordR_some e
        subst e3
        exact ⟨_, op_geD hu1, _, _, ha.dp, hb.dp, h1, by simp, h2, q⟩
      | _ => simp [cmpD] at e
    | _ => cases b <;> simp [cmpD] at e
  · -- in
    cases b with
    | list ys =>
      have e' : (if SeqAt.shaped a && SeqAt.shaped (.list ys) then some (ys.any fun z => PyData.eqv z a) else none) = some z := by
        cases a <;> exact e
      split at e'
      · rename_i hs
        simp only [Bool.and_eq_true] at hs
        cases e'
        exact ⟨_, op_inD hu1, a, ys, ha.dp, hb.dp, hs.1, hs.2, q⟩
      · cases e'
    | tuple ys =>
      have e' : (if SeqAt.shaped a && SeqAt.shaped (.tuple ys) then some (ys.any fun z => PyData.eqv z a) else none) = some z := by
        cases a <;> exact e
      split at e'
      · rename_i hs
        simp only [Bool.and_eq_true] at hs
        cases e'
        exact ⟨_, op_inT hu1, a, ys, ha.dp, hb.dp, hs.1, hs.2, q⟩
      · cases e'
    | _ => cases a <;> simp [cmpD] at e
  · cases b with
    | list ys =>
      have e' : (if SeqAt.shaped a && SeqAt.shaped (.list ys) then some (!ys.any fun z => PyData.eqv z a) else none) = some z := by
        cases a <;> exact e
      split at e'
      · rename_i hs
        simp only [Bool.and_eq_true] at hs
        cases e'
        exact ⟨_, op_notInD hu1, a, ys, ha.dp, hb.dp, hs.1, hs.2, q⟩
      · cases e'
    | tuple ys =>
      have e' : (if SeqAt.shaped a && SeqAt.shaped (.tuple ys) then some (!ys.any fun z => PyData.eqv z a) else none) = some z := by
        cases a <;> exact e
      split at e'
      · rename_i hs
        simp only [Bool.and_eq_true] at hs
        cases e'
        exact ⟨_, op_notInT hu1, a, ys, ha.dp, hb.dp, hs.1, hs.2, q⟩
      · cases e'
    | _ => cases a <;> simp [cmpD] at e
  · -- is
    have hn := isN ha
    cases b with
    | none =>
      refine ⟨_, op_isN, hb, ?_⟩
      rw [hn]
      cases a <;> simp [cmpD] at e <;> (subst e; exact q)
    | _ => cases a <;> simp [cmpD] at e
  · have hn := isN ha
    cases b with
    | none =>
      refine ⟨_, op_notN, hb, ?_⟩
      rw [hn]
      cases a <;> simp [cmpD] at e <;> (subst e; exact q)
    | _ => cases a <;> simp [cmpD] at e
/-- a test's reading from a value's: the value is a truth -/
theorem tT_tE {e : IE} {σ : L2.St} {H : Hp} {Q : Bool → Hp → Prop} (t : tT c F e σ H Q) : tE c F e σ H (fun x H' => ∃ k, x = V.bl k ∧ Q k H') := by
  obtain ⟨C, O, ρ, S, R, P⟩ := t
  refine ⟨C, O, ρ, S, R, Post.bind rP.up P fun r S1 v H1 C1 a q P1 => ?_⟩
  obtain ⟨b, e1, P2⟩ := P1.lft
  have er := dBool_some e1
  subst er
  have ev : v = .bl b := q.1
  exact ⟨b, ev, P2 b H1 C1 a.ok.aft rfl⟩
theorem both_of {e : IE} {x : Expr} {T : TE} (h1 : PE X x T) (h2 : PT X x (tTest T)) (i : ∀ σ H Q, tE c F e σ H Q → T σ H Q) : Both X c F e x :=
  ⟨PE.imp h1 i, PT.imp h2 fun σ H Q t => i σ H _ (tT_tE t)⟩
theorem both_cmp (x : XOk g N sc k F c X) {op : COp} {a b : IE} {y : Expr} (h : mE g N sc (.cmp op a b) y = true) (ha : ∀ {y}, mE g N sc a y = true → PE X y (tE c F a)) (hb : ∀ {y}, mE g N sc b y = true → PE X y (tE c F b)) : Both X c F (.cmp op a b) y := by
  simp only [mE] at h
  split at h
  · simp only [Bool.and_eq_true] at h
    obtain ⟨⟨h1, h2⟩, h3⟩ := h
    refine both_of (pe_cmpR op_any (ha h2) (hb h3) (mE_noset h3)) (pt_cmpR op_any (ha h2) (hb h3) (mE_noset h3)) fun σ H Q ⟨C, O, ρ, S, R, P⟩ => ?_
    simp only [evalE] at P
    refine ⟨C, O, ρ, S, R, Post.bind rE.up P fun r S1 v H1 C1 a1 q P1 => ⟨C1, O, ρ, S1, R.aft a1, Post.bind rE.up P1 fun r2 S2 v2 H2 C2 a2 q2 P2 => ?_⟩⟩
    obtain ⟨z, e, P3⟩ := P2.lft
    simp only [cmpE, Option.bind_eq_some_iff] at e
    obtain ⟨da, ea, db, eb, e⟩ := e
    exact cmp_rule x h1 ((q.asD a1.ok da ea).aft a2) (q2.asD a2.ok db eb) e (P3.here a2.ok (rE.ofD (by simp only [VR])))
  · cases h
theorem both_chn (x : XOk g N sc k F c X) {op op' : COp} {a b d : IE} {y : Expr} (h : mE g N sc (.chn a op b op' d) y = true) (ha : ∀ {y}, mE g N sc a y = true → PE X y (tE c F a)) (hb : ∀ {y}, mE g N sc b y = true → PE X y (tE c F b)) (hd : ∀ {y}, mE g N sc d y = true → PE X y (tE c F d)) : Both X c F (.chn a op b op' d) y := by
  simp only [mE] at h
  split at h
  · simp only [Bool.and_eq_true] at h
    obtain ⟨⟨⟨⟨h1, h2⟩, h3⟩, h4⟩, h5⟩ := h
    rename_i o o' z w _
    have hm : lastMarks [o, o'] [z, w] = false := mE_noset (op := o') h5
    refine both_of (pe_chain op_any op_any (ha h3) (hb h4) (hd h5) hm) (pt_chain op_any op_any (ha h3) (hb h4) (hd h5) hm) fun σ H Q ⟨C, O, ρ, S, R, P⟩ => ?_
    simp only [evalE] at P
    refine ⟨C, O, ρ, S, R, Post.bind rE.up P fun r S1 v H1 C1 a1 q P1 => ⟨C1, O, ρ, S1, R.aft a1, Post.bind rE.up P1 fun r2 S2 v2 H2 C2 a2 q2 P2 => ?_⟩⟩
    obtain ⟨t, e, P3⟩ := P2.lft
    simp only [cmpE, Option.bind_eq_some_iff] at e
    obtain ⟨da, ea, db, eb, e⟩ := e
    refine cmp_rule x h1 ((q.asD a1.ok da ea).aft a2) (q2.asD a2.ok db eb) e ⟨t, rfl, ?_⟩
    cases t with
    | false => exact P3.here a2.ok (rE.ofD (by simp only [VR]))
    | true =>
      rw [if_pos rfl] at P3 ⊢
      refine ⟨C2, O, ρ, S2, (R.aft a1).aft a2, Post.bind rE.up P3 fun r3 S3 v3 H3 C3 a3 q3 P4 => ?_⟩
      obtain ⟨z', e', P5⟩ := P4.lft
      simp only [cmpE, Option.bind_eq_some_iff] at e'
      obtain ⟨db', eb', dc, ec, e'⟩ := e'
      exact cmp_rule x h2 ((q2.asD a2.ok db' eb').aft a3) (q3.asD a3.ok dc ec) e' (P5.here a3.ok (rE.ofD (by simp only [VR])))
  · cases h
theorem both_ite {t a b : IE} {y : Expr} (h : mE g N sc (.ite t a b) y = true) (ht : ∀ {y}, mE g N sc t y = true → Both X c F t y) (ha : ∀ {y}, mE g N sc a y = true → Both X c F a y) (hb : ∀ {y}, mE g N sc b y = true → Both X c F b y) : Both X c F (.ite t a b) y := by
  simp only [mE] at h
  split at h
  · simp only [Bool.and_eq_true] at h
    obtain ⟨⟨h1, h2⟩, h3⟩ := h
    rename_i z w u pos
    have main : ∀ (T1 T2 : TE) σ H Q, (∀ σ H Q, tE c F a σ H Q → T1 σ H Q) → (∀ σ H Q, tE c F b σ H Q → T2 σ H Q) → tE c F (.ite t a b) σ H Q → tT c F t σ H (fun k H1 => if k = true then T1 σ H1 Q else T2 σ H1 Q) := by
      intro T1 T2 σ H Q i1 i2 ⟨C, O, ρ, S, R, P⟩
      simp only [evalE] at P
      refine ⟨C, O, ρ, S, R, ?_⟩
      cases hr : evalE F t ρ S with
      | ok r S1 =>
        rw [hr] at P
        simp only [Res.bind_ok] at P ⊢
        cases hd : dBool r with
        | none =>
          rw [hd] at P
          exact P
        | some k =>
          rw [hd] at P
          intro v H1 C1 a1 q
          have q' : k = v := q
          subst q'
          have P' := Post.aft rE.up P a1
          cases k with
          | true => exact i1 _ _ _ ⟨C1, O, ρ, S1, R.aft a1, P'⟩
          | false => exact i2 _ _ _ ⟨C1, O, ρ, S1, R.aft a1, P'⟩
      | exc n x S1 =>
        rw [hr] at P
        exact P
      | bad =>
        rw [hr] at P
        exact P
    refine ⟨PE.imp (pe_ifExp (ht h1).2 (ha h2).1 (hb h3).1) fun σ H Q q => main _ _ σ H Q (fun _ _ _ z => z) (fun _ _ _ z => z) q, ⟨fun pins s σ H Q I q => ?_⟩⟩
    show wpAny _ _ (do if ← isTrue z X.env (eval z X.env) then isTrue w X.env (eval w X.env) else isTrue u X.env (eval u X.env)) _ _ _
    have q2 : tT c F t σ H (fun k H1 => if k = true then tT c F a σ H1 Q else tT c F b σ H1 Q) := by
      obtain ⟨C, O, ρ, S, R, P⟩ := q
      simp only [evalE] at P
      refine ⟨C, O, ρ, S, R, ?_⟩
      cases hr : evalE F t ρ S with
      | ok r S1 =>
        rw [hr] at P
        simp only [Res.bind_ok] at P ⊢
        cases hd : dBool r with
        | none =>
          rw [hd] at P
          exact P
        | some k =>
          rw [hd] at P
          intro v H1 C1 a1 q
          have q' : k = v := q
          subst q'
          have P' := Post.aft rP.up P a1
          cases k with
          | true => exact ⟨C1, O, ρ, S1, R.aft a1, P'⟩
          | false => exact ⟨C1, O, ρ, S1, R.aft a1, P'⟩
      | exc n x S1 =>
        rw [hr] at P
        exact P
      | bad =>
        rw [hr] at P
        exact P
    refine wpAny_bind (thn ((ht h1).2.run pins s σ H _ I q2) fun d s1 ⟨H1, I1, q1⟩ => ?_)
    cases d with
    | true => exact (ha h2).2.run pins s1 σ H1 Q I1 q1
    | false => exact (hb h3).2.run pins s1 σ H1 Q I1 q1
  · cases h
theorem both_and {a b : IE} {y : Expr} (h : mE g N sc (.and a b) y = true) (ha : ∀ {y}, mE g N sc a y = true → Both X c F a y) (hb : ∀ {y}, mE g N sc b y = true → Both X c F b y) : Both X c F (.and a b) y := by
  have vE : ∀ (T1 : TE) σ H Q, (∀ σ H Q, tE c F b σ H Q → T1 σ H Q) → tE c F (.and a b) σ H Q → tAndV (tE c F a) T1 σ H Q := by
    intro T1 σ H Q i1 ⟨C, O, ρ, S, R, P⟩
    simp only [evalE] at P
    refine ⟨C, O, ρ, S, R, Post.bind rE.up P fun r S1 v H1 C1 a1 q P1 => ?_⟩
    obtain ⟨k, e, P2⟩ := P1.lft
    have er := dBool_some e
    subst er
    refine ⟨k, q.1, ?_⟩
    cases k with
    | true => exact i1 _ _ _ ⟨C1, O, ρ, S1, R.aft a1, P2⟩
    | false => exact P2.here a1.ok (rE.ofD (by simp only [VR]))
  have vT : ∀ σ H Q, tT c F (.and a b) σ H Q → tAnd (tT c F a) (tT c F b) σ H Q := by
    intro σ H Q ⟨C, O, ρ, S, R, P⟩
    simp only [evalE] at P
    refine ⟨C, O, ρ, S, R, ?_⟩
    cases hr : evalE F a ρ S with
    | ok r S1 =>
      rw [hr] at P
      simp only [Res.bind_ok] at P ⊢
      cases hd : dBool r with
      | none =>
        rw [hd] at P
        exact P
      | some k =>
        rw [hd] at P
        intro v H1 C1 a1 q
        have q' : k = v := q
        subst q'
        have P' := Post.aft rP.up P a1
        cases k with
        | true => exact ⟨C1, O, ρ, S1, R.aft a1, P'⟩
        | false => exact P' false H1 C1 a1.ok.aft rfl
    | exc n x S1 =>
      rw [hr] at P
      exact P
    | bad =>
      rw [hr] at P
      exact P
  simp only [mE] at h
  split at h
  · simp only [Bool.and_eq_true] at h
    obtain ⟨h1, h2⟩ := h
    exact ⟨PE.imp (pe_and (ha h1).1 (pe_one (hb h2).1)) fun σ H Q q => vE _ σ H Q (fun _ _ _ z => z) q, PT.imp (pw_and (ha h1).2 (pw_and1 (hb h2).2)).pt vT⟩
  · simp only [Bool.and_eq_true] at h
    obtain ⟨h1, h2⟩ := h
    have hb2 := hb h2
    exact ⟨PE.imp (pe_and (ha h1).1 hb2.1) fun σ H Q q => vE _ σ H Q (fun _ _ _ z => z) q, PT.imp (pw_and (ha h1).2 ⟨fun wh pins s σ H Q I q => hb2.2.run pins s σ H Q I q⟩).pt vT⟩
  · cases h
theorem both_or {a b : IE} {y : Expr} (h : mE g N sc (.or a b) y = true) (ha : ∀ {y}, mE g N sc a y = true → Both X c F a y) (hb : ∀ {y}, mE g N sc b y = true → Both X c F b y) : Both X c F (.or a b) y := by
  have vE : ∀ (T1 : TE) σ H Q, (∀ σ H Q, tE c F b σ H Q → T1 σ H Q) → tE c F (.or a b) σ H Q → tOrV (tE c F a) T1 σ H Q := by
    intro T1 σ H Q i1 ⟨C, O, ρ, S, R, P⟩
    simp only [evalE] at P
    refine ⟨C, O, ρ, S, R, Post.bind rE.up P fun r S1 v H1 C1 a1 q P1 => ?_⟩
    obtain ⟨k, e, P2⟩ := P1.lft
    have er := dBool_some e
    subst er
    refine ⟨k, q.1, ?_⟩
    cases k with
    | false => exact i1 _ _ _ ⟨C1, O, ρ, S1, R.aft a1, P2⟩
    | true => exact P2.here a1.ok (rE.ofD (by simp only [VR]))
  have vT : ∀ σ H Q, tT c F (.or a b) σ H Q → tOr (tT c F a) (tT c F b) σ H Q := by
    intro σ H Q ⟨C, O, ρ, S, R, P⟩
    simp only [evalE] at P
    refine ⟨C, O, ρ, S, R, ?_⟩
    cases hr : evalE F a ρ S with
    | ok r S1 =>
      rw [hr] at P
      simp only [Res.bind_ok] at P ⊢
      cases hd : dBool r with
      | none =>
        rw [hd] at P
        exact P
      | some k =>
        rw [hd] at P
        intro v H1 C1 a1 q
        have q' : k = v := q
        subst q'
        have P' := Post.aft rP.up P a1
        cases k with
        | false => exact ⟨C1, O, ρ, S1, R.aft a1, P'⟩
        | true => exact P' true H1 C1 a1.ok.aft rfl
    | exc n x S1 =>
      rw [hr] at P
      exact P
    | bad =>
      rw [hr] at P
      exact P
  simp only [mE] at h
  split at h
  · simp only [Bool.and_eq_true] at h
    obtain ⟨h1, h2⟩ := h
    exact ⟨PE.imp (pe_or (ha h1).1 (pe_one (hb h2).1)) fun σ H Q q => vE _ σ H Q (fun _ _ _ z => z) q, PT.imp (pw_or (ha h1).2 (pw_or1 (hb h2).2)).pt vT⟩
  · simp only [Bool.and_eq_true] at h
    obtain ⟨h1, h2⟩ := h
    have hb2 := hb h2
    exact ⟨PE.imp (pe_or (ha h1).1 hb2.1) fun σ H Q q => vE _ σ H Q (fun _ _ _ z => z) q, PT.imp (pw_or (ha h1).2 ⟨fun wh pins s σ H Q I q => hb2.2.run pins s σ H Q I q⟩).pt vT⟩
  · cases h
end
end SS

end

section
set_option linter.all false
set_option autoImplicit false
set_option maxRecDepth 100000
set_option maxHeartbeats 4000000
/-! t[::-1] of a tuple. -/
namespace SS
open PySem PySem.Spec PyProof.Rows L2 HT
variable [Tabl]
section
variable {prog : Program} {w : World} {A : Around} {E : Value → Shared → Prop} {s : Shared}
theorem adjust_rev (n : Nat) : Builtin.Slice.sliceAdjust none none (-1) (n : Int) = ((n : Int) - 1, -1) := by
  have h1 : ((-1 : Int) < 0) := by omega
  unfold Builtin.Slice.sliceAdjust
  simp only [h1, if_true]
theorem places_rev (n : Nat) : Builtin.Slice.slicePlaces ((n : Int) - 1) (-1) (-1) = n := by
  unfold Builtin.Slice.slicePlaces
  have h1 : ¬ ((-1 : Int) > 0) := by omega
  rw [if_neg h1, show (- -1 : Int) = 1 by decide, Int.ediv_one]
  split <;> omega
theorem fm_congr {α β : Type} {f g : α → Option β} : ∀ (l : List α), (∀ x ∈ l, f x = g x) → l.filterMap f = l.filterMap g
  | [], _ => rfl
  | a :: r, h => by rw [List.filterMap_cons, List.filterMap_cons, h a List.mem_cons_self, fm_congr r fun x m => h x (List.mem_cons_of_mem _ m)]
theorem pick_rev (xs : Array Value) : ((List.range xs.size).filterMap fun (m : Nat) => xs[(((xs.size : Int) - 1) + (m : Int) * (-1)).toNat]?).toArray = xs.toList.reverse.toArray := by
  have e : (List.range xs.size).filterMap (fun (m : Nat) => xs[(((xs.size : Int) - 1) + (m : Int) * (-1)).toNat]?) = ((List.range xs.size).map fun m => xs.size - 1 - m).filterMap (xs[·]?) := by
    rw [List.filterMap_map]
    refine fm_congr _ fun m hm => ?_
    have := List.mem_range.mp hm
    show xs[(((xs.size : Int) - 1) + (m : Int) * (-1)).toNat]? = xs[xs.size - 1 - m]?
    rw [show (((xs.size : Int) - 1) + (m : Int) * (-1)).toNat = xs.size - 1 - m by omega]
  rw [e, PySem.W.krv_range, List.filterMap_reverse, PySem.W.krv_all]
theorem sliceApplied_rev {sl : Addr} {vl vu vs : Value} {n : Nat} {Q : Int × Int × Nat → Shared → Prop} (hs : s.heap.IsSliceOf sl vl vu vs) (pl : IsPart vl none) (pu : IsPart vu none) (ps : IsPart vs (some (-1)))
    (h : Q ((n : Int) - 1, -1, n) s) : wpAny (model prog w) A (Builtin.Slice.sliceApplied (.ref sl) (pure (n : Int))) Q E s := by
  obtain ⟨os, hos, hcs, hds⟩ := id hs
  unfold Builtin.Slice.sliceApplied Builtin.Slice.sliceFields
  refine wpAny_bind (wpAny_bind (wpAny_field hos hds (x := vl) rfl (wpAny_bind (wpAny_field hos hds (x := vu) rfl (wpAny_bind (wpAny_field hos hds (x := vs) rfl (wpAny_pure ?_)))))))
  refine wpAny_bind (slicePart_ ps ?_)
  show wpAny _ _ (if ((-1 : Int) == 0) = true then _ else _) _ _ s
  rw [if_neg (by decide)]
  refine wpAny_bind (slicePart_ pl (wpAny_bind (slicePart_ pu (wpAny_bind (wpAny_pure ?_)))))
  show wpAny _ _ (match Builtin.Slice.sliceAdjust none none (-1) (n : Int) with | (lo, hi) => pure (lo, (-1 : Int), Builtin.Slice.slicePlaces lo hi (-1))) _ _ s
  rw [adjust_rev]
  show wpAny _ _ (pure ((n : Int) - 1, (-1 : Int), Builtin.Slice.slicePlaces ((n : Int) - 1) (-1) (-1))) _ _ s
  rw [places_rev]
  exact wpAny_pure h
theorem getItem_tuple_rev {t sl : Addr} {items : Array Value} {vl vu vs : Value} {Q : Value → Shared → Prop} (ht : IsTup s.heap t items) (hs : s.heap.IsSliceOf sl vl vu vs) (pl : IsPart vl none) (pu : IsPart vu none) (ps : IsPart vs (some (-1)))
    (h : Q (.ref s.heap.objs.size) { s with heap := s.heap.push { cls := .type "tuple", data := .seq items.toList.reverse.toArray } })
    (hsz : items.size ≤ sizeLine) : wpAny (model prog w) A (getItem (.ref t) (.ref sl)) Q E s := by
  have htake : sizeOk (.seq items.toList.reverse.toArray) := by
    show items.toList.reverse.toArray.size ≤ sizeLine
    rw [List.size_toArray, List.length_reverse, Array.length_toList]
    exact hsz
  obtain ⟨os, hos, hcs, hds⟩ := id hs
  have hTs : s.TypeIs (.ref sl) "slice" := ⟨os, hos, hcs⟩
  unfold getItem
  try with_reducible refine wpAny_holding ?_
  first | refine wpAny_bind (wpAny_pure ?_) | skip
  refine wpAny_bind (wpAny_sequenceKey ht.typeIs (by decide) ?_)
  refine wpAny_bind (wpAny_callSpecial?_slot (name := Str.ofString "__getitem__") ht.typeIs PyProof.Rows.slot_tuple_getitem
    (wpAny_call_entry PyProof.Rows.slot_tuple_getitem ht.typeIs entry_tuple_getitem ?_ (args_tuple_getitem _ _)))
  show wpAny _ _ (Builtin.Tuple.tupleItemsOf (.ref t) >>= _) _ _ s
  refine wpAny_bind (tupleItemsOf_ ht ?_)
  refine wpAny_bind (wpAny_typeOf hTs ?_)
  rw [if_pos (by decide)]
  refine wpAny_bind (sliceApplied_rev hs pl pu ps ?_)
  have hno : ¬ ((((items.size : Int) - 1) == 0 && (-1 : Int) == 1 && items.size == items.size) = true) := by
    intro q
    rw [Bool.and_eq_true, Bool.and_eq_true] at q
    exact absurd q.1.2 (by decide)
  show wpAny _ _ (if (((items.size : Int) - 1) == 0 && (-1 : Int) == 1 && items.size == items.size) = true then _ else _) _ _ s
  rw [if_neg hno, pick_rev]
  first
    | exact wpAny_bind (m := Builtin.Tuple.tupleExact _) (wpAny_newObj_type (wpAny_pure ⟨_, rfl, wpAny_pure h⟩) htake)
    | exact wpAny_bind (m := Builtin.Tuple.tupleExact _) (wpAny_newObj_type (wpAny_bind (wpAny_pure (wpAny_pure ⟨_, rfl, wpAny_pure h⟩))) htake)
    | exact wpAny_bind (wpAny_bind (m := Builtin.Tuple.tupleExact _) (wpAny_newObj_type (wpAny_pure (wpAny_pure ⟨_, rfl, wpAny_pure h⟩)) htake))
    | exact wpAny_bind (wpAny_bind (m := Builtin.Tuple.tupleExact _) (wpAny_newObj_type (wpAny_pure ⟨_, rfl, wpAny_pure h⟩) htake))
end
section
variable {X : Cx}
/-- xs[::-1], a list or a tuple -/
def tRevA (K : PySem.W.Frag) (te : TE) : TE := fun σ H Q => te σ H fun x H1 => ∃ a xs, x = .ref a ∧ ((SqL K H1 a xs ∧ ∀ p, H1 p = none → Q (.ref p) (upd H1 p (.lst xs.reverse))) ∨ (SqT K H1 a xs ∧ ∀ p, H1 p = none → Q (.ref p) (upd H1 p (.tup xs.reverse))))
theorem pe_revA {e : Expr} {te : TE} {k : Nat} {p1 p2 p3 pos : Pos} (he : PE X e te) : PE X (.Subscript e (.Slice none none (some (.UnaryOp .USub (.Constant (.int 1) k p1) p2)) p3) pos) (tRevA X.K te) := by
  refine ⟨fun pins s σ H Q I h => ?_⟩
  refine Subscript_ (thn (he.run pins s σ H _ I h) fun v s1 ⟨x, H1, I1, r1, q1⟩ => ?_)
  obtain ⟨a, xs, ex, q1⟩ := q1
  subst ex
  cases r1
  have hst : PO X (some (.UnaryOp .USub (.Constant (.int 1) k p1) p2)) (tPart (tUn (rU fun i => .int (-i)) (tC (.int 1)))) := po_some (pe_un un_neg pe_int)
  refine wpAny_Slice (thn (po_none.run pins s1 σ H1 (fun o H2 => o = none ∧ H2 = H1) I1 ⟨rfl, rfl⟩) fun vl s2 ⟨l, H2, I2, pl, el, e2⟩ => ?_)
  subst el e2
  refine thn (po_none.run pins s2 σ H2 (fun o H3 => o = none ∧ H3 = H2) I2 ⟨rfl, rfl⟩) fun vu s3 ⟨u, H3, I3, pu, eu, e3⟩ => ?_
  subst eu e3
  refine thn (hst.run pins s3 σ H3 (fun o H4 => o = some (-1) ∧ H4 = H3) I3 ⟨1, rfl, -1, rfl, rfl, rfl⟩) fun vs s4 ⟨o, H4, I4, ps, eo, e4⟩ => ?_
  subst eo e4
  have I5 : Inv X pins σ H4 { s4 with heap := s4.heap.push { cls := .type "slice", data := .fields #[vl, vu, vs] } } := I4.kept (t' := s4.toks) fun b ob q => Heap.get?_push_of_some _ q
  show wpAny (model X.prog X.w) X.A (subscriptTail e (.Slice none none (some (.UnaryOp .USub (.Constant (.int 1) k p1) p2)) p3) (.ref a) (.ref s4.heap.objs.size)) (EP X pins σ Q) X.xe { s4 with heap := s4.heap.push { cls := .type "slice", data := .fields #[vl, vu, vs] } }
  rcases q1 with ⟨hx, q⟩ | ⟨hx, q⟩
  · obtain ⟨its, r, ht, hz⟩ := I5.list hx
    have hlen := r.length
    refine tail_any (ops := [.ref a, .ref s4.heap.objs.size]) ht.isList.typeIs (PySem.slot_list_getitem.lookup) ?_ (by with_unfolding_all rfl)
    refine wpAny_getItem_list_slice ht.isList (Heap.IsSliceOf.new _ vl vu vs) pl pu ps (by decide) ?_ (by rw [List.size_toArray]; omega)
    rw [PySem.W.krv_pick]
    refine ⟨.ref _, _, I5.laid (t' := s4.toks) (o := .lst xs.reverse) (fun b ob q => Heap.get?_push_of_some _ q) (Nat.le_refl _) ?_, rfl, q _ (I5.hok.fresh (Nat.le_refl _))⟩
    exact ⟨by rw [List.length_reverse]; exact hz, _, 0, r.reverse, Heap.get?_push_size _ rfl⟩
  · obtain ⟨its, r, ht, hz⟩ := I5.tuple hx
    have hlen := r.length
    refine tail_any (ops := [.ref a, .ref s4.heap.objs.size]) ht.typeIs (PyProof.Rows.slot_tuple_getitem.lookup) ?_ (by with_unfolding_all rfl)
    refine getItem_tuple_rev ht (Heap.IsSliceOf.new _ vl vu vs) pl pu ps ?_ (by rw [List.size_toArray]; omega)
    refine ⟨.ref _, _, I5.laid (t' := s4.toks) (o := .tup xs.reverse) (fun b ob q => Heap.get?_push_of_some _ q) (Nat.le_refl _) ?_, rfl, q _ (I5.hok.fresh (Nat.le_refl _))⟩
    exact ⟨by rw [List.length_reverse]; exact hz, _, r.reverse, IsTup.new _ _⟩
end
end SS

end

section
set_option linter.all false
set_option autoImplicit false
set_option maxRecDepth 100000
set_option maxHeartbeats 4000000
/-! Subscripts, slices, calls, built-ins. -/
namespace SS
open PySem PySem.Spec PyProof.Rows L2
variable [Tabl]
section
variable {g : Sg} {N : List Str} {sc : Scope} {k : Nat} {F : Call} {c : Ct} {X : Cx}

/-- a value, read a little later -/
def VRX (K : PySem.W.Frag) (mg : Str → Option Value) (C O : List Addr) (H : Hp) : EV → V → Prop
  | .d x, v => VRw C O H x v
  | .nw ds, v => VRw C O H (.list ds) v
  | .pk ds, v => VRw C O H (.list ds) v
  | x, v => VRH K mg C O H x v
theorem VRX.aft {K : PySem.W.Frag} {mg : Str → Option Value} {C O C' : List Addr} {S' : Cells} {H H' : Hp} (a : Aft C O H C' S' H') : ∀ {x : EV} {v : V}, VRX K mg C O H x v → VRX K mg C' O H' x v
  | .d _, _, h => VRw.aft a h
  | .nw _, _, h => VRw.aft (x := .list _) a h
  | .pk _, _, h => VRw.aft (x := .list _) a h
  | .cell _, _, h => VRH.aft (K := K) (mg := mg) (x := .cell _) a h
  | .fn _, _, h => VRH.aft (K := K) (mg := mg) (x := .fn _) a h
  | .scr _, _, h => VRH.aft (K := K) (mg := mg) (x := .scr _) a h
theorem rE.x {O C' : List Addr} {H H' : Hp} {S' : Cells} (ok : Ok C' O S' H') {x : EV} {v : V} (h : rE c O H C' S' H' x v) : VRX c.K c.mg C' O H' x v := by
  cases x with
  | d x => exact h.asD ok x rfl
  | nw ds => exact h.asD ok _ rfl
  | pk ds => exact h.asD ok _ rfl
  | cell n => exact h.1
  | fn n => exact h.1
  | scr n => exact h.1

theorem atI_lt {α : Type} {xs : List α} {i : Int} {z : α} (h : atI xs i = some z) : ∃ j, ixN xs.length i = some j ∧ xs[j]? = some z := by
  simp only [atI, Option.bind_eq_some_iff] at h
  exact h
theorem atI_vrs {M : List Addr} {H : Hp} {ds : List D} {xs : List V} {i : Int} {z : D} (r : VRs M H ds xs) (h : atI ds i = some z) : ∃ v, atI xs i = some v ∧ VR M H z v := by
  obtain ⟨j, e1, e2⟩ := atI_lt h
  obtain ⟨v, e3, rv⟩ := r.get e2
  refine ⟨v, ?_, rv⟩
  simp only [atI, Option.bind_eq_some_iff]
  exact ⟨j, by rw [r.length]; exact e1, e3⟩
theorem atI_map {α β : Type} {f : α → β} {xs : List α} {i : Int} {z : α} (h : atI xs i = some z) : atI (xs.map f) i = some (f z) := by
  obtain ⟨j, e1, e2⟩ := atI_lt h
  simp only [atI, Option.bind_eq_some_iff]
  exact ⟨j, by rw [List.length_map]; exact e1, by rw [List.getElem?_map, e2]; rfl⟩

theorem plain_of {y : Expr} (h : plainB y = true) : PlainIx y := by
  cases y <;> first | exact fun _ _ => rfl | cases h
theorem scr_seq {K : PySem.W.Frag} {mg : Str → Option Value} {C O : List Addr} {H : Hp} {ns : List Int} {v : V} (h : VRH K mg C O H (.scr ns) v) : ∃ a, v = .ref a ∧ SqL K H a (ns.map V.int) := by
  obtain ⟨a, e, _, ⟨_, q⟩ | q⟩ := h
  · exact ⟨a, e, .inl q⟩
  · exact ⟨a, e, q H⟩
theorem ix_rule (hK : X.K = c.K) {C O : List Addr} {S : Cells} {H : Hp} {Q : VK} (ok : Ok C O S H) {x : EV} {i : Int} {u : V} {z : D} (hx : VRX c.K c.mg C O H x u) (e : ixD S x i = some z) (q : ∀ v, VR (C ++ O) H z v → Q v H) :
    ∃ r : R2, IxR X r ∧ r u (.int i) H Q := by
  have lst : ∀ (ds : List D), VRw C O H (.list ds) u → atD ds i = some z → ∃ r : R2, IxR X r ∧ r u (.int i) H Q := fun ds ⟨a, xs, eu, _, h, _, r⟩ e => by
    obtain ⟨v, e1, rv⟩ := atI_vrs r e
    exact ⟨_, ix_list, a, xs, i, v, eu, rfl, SqL.of h, e1, q v rv⟩
  cases x with
  | d x =>
    cases x with
    | list ds => exact lst ds hx e
    | tuple ds =>
      obtain ⟨a, xs, eu, _, h, _, r⟩ := hx
      obtain ⟨v, e1, rv⟩ := atI_vrs r e
      exact ⟨_, ix_tup, a, xs, i, v, eu, rfl, SqT.of h, e1, q v rv⟩
    | _ => cases e
  | nw ds => exact lst ds hx e
  | pk ds => exact lst ds hx e
  | cell n =>
    obtain ⟨a, eu, ha⟩ := hx
    simp only [ixD, Option.bind_eq_some_iff] at e
    obtain ⟨ds, hs, e⟩ := e
    obtain ⟨b, xs, hb, h, _, r⟩ := ok.cells.get hs
    rw [ha] at hb
    cases hb
    obtain ⟨v, e1, rv⟩ := atI_vrs r e
    exact ⟨_, ix_list, a, xs, i, v, eu, rfl, SqL.of h, e1, q v rv⟩
  | scr ns =>
    obtain ⟨a, eu, hq⟩ := scr_seq (K := c.K) (mg := c.mg) hx
    simp only [ixD, Option.map_eq_some_iff] at e
    obtain ⟨n, e1, rfl⟩ := e
    exact ⟨_, ix_list, a, _, i, .int n, eu, rfl, by rw [hK]; exact hq, atI_map e1, q _ (by simp only [VR])⟩
  | fn n => cases e
theorem both_ix (x : XOk g N sc k F c X) {a i : IE} {y : Expr} (h : mE g N sc (.ix a i) y = true) (ha : ∀ {y}, mE g N sc a y = true → PE X y (tE c F a)) (hi : ∀ {y}, mE g N sc i y = true → PE X y (tE c F i)) : Both X c F (.ix a i) y := by
  simp only [mE] at h
  split at h
  · simp only [Bool.and_eq_true] at h
    obtain ⟨⟨h1, h2⟩, h3⟩ := h
    refine both_val (PE.imp (pe_ix ix_any (ha h2) (hi h3) (plain_of h1)) fun σ H Q ⟨C, O, ρ, S, R, P⟩ => ?_) fun _ => rfl
    simp only [evalE] at P
    refine ⟨C, O, ρ, S, R, Post.bind rE.up P fun r S1 v H1 C1 a1 q P1 => ⟨C1, O, ρ, S1, R.aft a1, Post.bind rE.up P1 fun r2 S2 v2 H2 C2 a2 q2 P2 => ?_⟩⟩
    obtain ⟨j, e, P3⟩ := P2.lft
    obtain ⟨z, e2, P4⟩ := P3.lft
    have e := dInt_some e
    subst e
    have ev : v2 = .int j := q2.1
    subst ev
    exact ix_rule x.K a2.ok ((q.x a1.ok).aft a2) e2 fun v hv => P4.here a2.ok (rE.ofD hv)
  · cases h

theorem cut_vrs {M : List Addr} {H : Hp} {ds : List D} {xs : List V} (r : VRs M H ds xs) (lo hi : Option Int) : VRs M H (cutD ds lo hi) (cutV xs lo hi) := by
  unfold cutD cutV
  rw [r.length]
  exact (r.drop _).take _
theorem sl_rule (hK : X.K = c.K) {C O : List Addr} {S : Cells} {H : Hp} {σ : L2.St} {Q : VK} (ok : Ok C O S H) {x z : EV} {lo hi : Option Int} {u : V} (hx : VRX c.K c.mg C O H x u) (e : slD x lo hi = some z) (P : Post c O (rE c O) C H σ Q (.ok z S)) :
    ∃ r : V → Option Int → Option Int → Hp → VK → Prop, SlR X r ∧ r u lo hi H Q := by
  have lst : ∀ (ds : List D), VRw C O H (.list ds) u → z = .nw (cutD ds lo hi) → ∃ r : V → Option Int → Option Int → Hp → VK → Prop, SlR X r ∧ r u lo hi H Q := fun ds ⟨a, xs, eu, _, h, zz, r⟩ e => by
    subst e
    exact ⟨_, sl_list, a, xs, eu, SqL.of h, fun p hp => P.newLst ok (Nat.le_trans (cutV_length xs lo hi) zz) (cut_vrs r lo hi) hp⟩
  cases x with
  | d x =>
    cases x with
    | list ds => exact lst ds hx (Option.some.inj e).symm
    | tuple ds =>
      have e := Option.some.inj e
      subst e
      obtain ⟨a, xs, eu, n, h, zz, r⟩ := hx
      refine ⟨_, sl_tupA, a, xs, eu, SqT.of h, fun hw => ?_, fun hw p hp => P.newTup ok (Nat.le_trans (cutV_length xs lo hi) zz) (cut_vrs r lo hi) hp⟩
      subst eu
      have e2 : cutD ds lo hi = ds := by
        unfold cutD
        rw [← r.length, hw.1, hw.2, List.drop_zero, Nat.sub_zero, r.length, List.take_length]
      rw [e2] at P
      exact P.here ok (rE.ofD ⟨a, xs, rfl, n, h, zz, r⟩)
    | _ => cases e
  | nw ds => exact lst ds hx (Option.some.inj e).symm
  | pk ds => exact lst ds hx (Option.some.inj e).symm
  | scr ns =>
    have e := Option.some.inj e
    subst e
    obtain ⟨a, eu, hq⟩ := scr_seq (K := c.K) (mg := c.mg) hx
    refine ⟨_, sl_list, a, _, eu, by rw [hK]; exact hq, fun p hp => P.newLst ok ?_ (cut_vrs (VRs.ofInts ns) lo hi) hp⟩
    have hl := hx.choose_spec.2.1
    refine Nat.le_trans (cutV_length _ lo hi) ?_
    rw [List.length_map]
    exact lim_le hl
  | cell n => cases e
  | fn n => cases e

theorem po_none' {y : Option Expr} (h : mO g N sc .none y = true) : PO X y (tO c F .none) := by
  simp only [mO] at h
  split at h
  · exact PO.imp po_none fun σ H Q ⟨C, O, ρ, S, R, P⟩ => P none H C R.ok.aft rfl
  · cases h
theorem po_some' {e : IE} {y : Option Expr} (h : mO g N sc (.some e) y = true) (he : ∀ {y}, mE g N sc e y = true → PE X y (tE c F e)) : PO X y (tO c F (.some e)) := by
  simp only [mO] at h
  split at h
  · refine PO.imp (po_some (he h)) fun σ H Q ⟨C, O, ρ, S, R, P⟩ => ?_
    simp only [evalO] at P
    refine ⟨C, O, ρ, S, R, Post.bind rP.up P fun r S1 v H1 C1 a1 q P1 => ?_⟩
    obtain ⟨i, e, P2⟩ := P1.lft
    have e := dInt_some e
    subst e
    have ev : v = .int i := q.1
    exact ⟨i, ev, P2 (some i) H1 C1 a1.ok.aft rfl⟩
  · cases h
theorem both_sl (x : XOk g N sc k F c X) {a : IE} {lo hi : IO} {y : Expr} (h : mE g N sc (.sl a lo hi) y = true) (ha : ∀ {y}, mE g N sc a y = true → PE X y (tE c F a)) (hl : ∀ {y}, mO g N sc lo y = true → PO X y (tO c F lo)) (hh : ∀ {y}, mO g N sc hi y = true → PO X y (tO c F hi)) : Both X c F (.sl a lo hi) y := by
  simp only [mE] at h
  split at h
  · simp only [Bool.and_eq_true] at h
    obtain ⟨⟨h1, h2⟩, h3⟩ := h
    refine both_val (PE.imp (pe_slice sl_any (ha h1) (hl h2) (hh h3)) fun σ H Q ⟨C, O, ρ, S, R, P⟩ => ?_) fun _ => rfl
    simp only [evalE] at P
    refine ⟨C, O, ρ, S, R, Post.bind rE.up P fun r S1 v H1 C1 a1 q P1 => ⟨C1, O, ρ, S1, R.aft a1, Post.bind rE.up P1 fun lo' S2 l H2 C2 a2 q2 P2 => ⟨C2, O, ρ, S2, (R.aft a1).aft a2, Post.bind rE.up P2 fun hi' S3 u H3 C3 a3 q3 P3 => ?_⟩⟩⟩
    obtain ⟨z, e2, P4⟩ := P3.lft
    have el : lo' = l := q2
    have eu : hi' = u := q3
    subst el
    subst eu
    exact sl_rule x.K a3.ok (((q.x a1.ok).aft a2).aft a3) e2 P4
  · cases h
theorem minus1 {s : Expr} (h : isMinus1 s = true) : ∃ k p1 p2, s = .UnaryOp .USub (.Constant (.int 1) k p1) p2 := by
  unfold isMinus1 at h
  split at h
  · have e := of_decide_eq_true h
    subst e
    exact ⟨_, _, _, rfl⟩
  · cases h
theorem both_rev {a : IE} {y : Expr} (h : mE g N sc (.rev a) y = true) (ha : ∀ {y}, mE g N sc a y = true → PE X y (tE c F a)) : Both X c F (.rev a) y := by
  simp only [mE] at h
  split at h
  · simp only [Bool.and_eq_true] at h
    obtain ⟨h1, h2⟩ := h
    obtain ⟨kk, p1, p2, rfl⟩ := minus1 h2
    refine both_val (PE.imp (pe_revA (ha h1)) fun σ H Q ⟨C, O, ρ, S, R, P⟩ => ?_) fun _ => rfl
    simp only [evalE] at P
    refine ⟨C, O, ρ, S, R, Post.bind rE.up P fun r S1 v H1 C1 a1 q P1 => ?_⟩
    obtain ⟨xs, e, P2⟩ := P1.lft
    simp only [Option.bind_eq_some_iff] at e
    obtain ⟨d, e1, e2⟩ := e
    cases d with
    | list ds =>
      cases e2
      obtain ⟨b, us, ev, _, hb, z, rr⟩ := q.asD a1.ok _ e1
      exact ⟨b, us, ev, .inl ⟨SqL.of hb, fun p hp => P2.newLst a1.ok (by rw [List.length_reverse]; exact z) rr.reverse hp⟩⟩
    | tuple ds =>
      cases e2
      obtain ⟨b, us, ev, _, hb, z, rr⟩ := q.asD a1.ok _ e1
      exact ⟨b, us, ev, .inr ⟨SqT.of hb, fun p hp => P2.newTup a1.ok (by rw [List.length_reverse]; exact z) rr.reverse hp⟩⟩
    | _ => cases e2
  · cases h

/-! ### calls of the text's defs -/
theorem noStar : ∀ {es : IEs} {xs : List Expr} {env : PySem.Env} {pos : Pos}, mEs g N sc es xs = true → (backTo pos (starEach xs env)).any (·.1) = false
  | .nil, xs, env, pos, h => by
    simp only [mEs] at h
    split at h
    · rfl
    · cases h
  | .cons e es, xs, env, pos, h => by
    simp only [mEs] at h
    split at h
    · simp only [Bool.and_eq_true] at h
      rw [star_of h.1.2]
      have ih := noStar (env := env) (pos := pos) h.2
      simp only [backTo, List.map_cons, List.any_cons, Bool.false_or] at ih ⊢
      exact ih
    · cases h
theorem kwNames : ∀ {zs : IEs} {ks : List Str} {kws : List Keyword} {env : PySem.Env} {pos : Pos}, mKs g N sc zs ks kws = true →
    (backToKw pos (keywordEach kws env)).all (·.1.isSome) = true ∧ (backToKw pos (keywordEach kws env)).filterMap (·.1) = ks ∧ (backToKw pos (keywordEach kws env)).any (·.1.isNone) = false
  | .nil, ks, kws, env, pos, h => by
    simp only [mKs] at h
    split at h
    · exact ⟨rfl, rfl, rfl⟩
    · cases h
  | .cons e es, ks, kws, env, pos, h => by
    simp only [mKs] at h
    split at h
    · simp only [Bool.and_eq_true, decide_eq_true_eq] at h
      obtain ⟨⟨e1, _⟩, h3⟩ := h
      subst e1
      obtain ⟨i1, i2, i3⟩ := kwNames (env := env) (pos := pos) h3
      simp only [keywordEach, backToKw, List.map_cons, List.all_cons, List.any_cons, List.filterMap_cons, Option.isSome_some, Option.isNone_some, Bool.true_and, Bool.false_or] at i1 i2 i3 ⊢
      exact ⟨i1, by rw [i2], i3⟩
    · cases h
theorem pk_nil' {ks : List Str} {kws : List Keyword} (h : mKs g N sc .nil ks kws = true) : PK X kws (tEs c F .nil) := by
  simp only [mKs] at h
  split at h
  · exact ⟨fun pos pins s σ H Q I q => (pk_nil (X := X)).run pos pins s σ H Q I (by
      obtain ⟨C, O, ρ, S, R, P⟩ := q
      exact P [] H C R.ok.aft rfl)⟩
  · cases h
theorem pk_cons' {e : IE} {es : IEs} {ks : List Str} {kws : List Keyword} (h : mKs g N sc (.cons e es) ks kws = true) (he : ∀ {y}, mE g N sc e y = true → PE X y (tE c F e)) (hes : ∀ {ks ys}, mKs g N sc es ks ys = true → PK X ys (tEs c F es)) : PK X kws (tEs c F (.cons e es)) := by
  simp only [mKs] at h
  split at h
  · simp only [Bool.and_eq_true] at h
    obtain ⟨⟨_, h2⟩, h3⟩ := h
    refine ⟨fun pos pins s σ H Q I ⟨C, O, ρ, S, R, P⟩ => (pk_cons (he h2) (hes h3)).run pos pins s σ H Q I ?_⟩
    simp only [evalEs] at P
    refine ⟨C, O, ρ, S, R, Post.bind rEs.up P fun r S1 v H1 C1 a q P1 => ⟨C1, O, ρ, S1, R.aft a, Post.bind rEs.up P1 fun rs S2 vs H2 C2 a2 q2 P2 => ?_⟩⟩
    exact P2 (v :: vs) H2 C2 a2.ok.aft ⟨v, vs, rfl, fun y e => (q.held a.ok y e).aft a2, fun y e => (q.strict a.ok y e).mono a2.keeps, fun y e => (q.asD a.ok y e).aft a2, q2⟩
  · cases h

theorem Paired.getD {α β : Type} {R : α → β → Prop} {d : α} {e : β} : ∀ {xs : List α} {ys : List β} (i : Nat), Paired R xs ys → i < xs.length → R (xs.getD i d) (ys.getD i e)
  | _, _, _, .nil, h => absurd h (Nat.not_lt_zero _)
  | _, _, 0, .cons r _, _ => r
  | _, _, i + 1, .cons _ t, h => by
    have := Paired.getD (d := d) (e := e) i t (by simpa using h)
    simpa using this
theorem Paired.perm {α β : Type} {R : α → β → Prop} {d : α} {e : β} {xs : List α} {ys : List β} (h : Paired R xs ys) : ∀ p : List Nat, (∀ i ∈ p, i < xs.length) → Paired R (p.map fun i => xs.getD i d) (p.map fun i => ys.getD i e)
  | [], _ => .nil
  | i :: p, hp => .cons (Paired.getD i h (hp i List.mem_cons_self)) (Paired.perm h p fun j m => hp j (List.mem_cons_of_mem _ m))
theorem Paired.app {α β : Type} {R : α → β → Prop} : ∀ {xs xs' : List α} {ys ys' : List β}, Paired R xs ys → Paired R xs' ys' → Paired R (xs ++ xs') (ys ++ ys')
  | _, _, _, _, .nil, t => t
  | _, _, _, _, .cons r s, t => .cons r (Paired.app s t)

theorem Post.bindE {α β γ δ : Type} {c : Ct} {O C : List Addr} {H : Hp} {σ : L2.St} {rel : Hp → List Addr → Cells → Hp → α → β → Prop} {rel2 : Hp → List Addr → Cells → Hp → γ → δ → Prop} (up : Up O rel2) {Q : δ → Hp → Prop} {Q' : β → Hp → Prop} {a : Res α} {k : α → Cells → Res γ}
    (h : Post c O rel2 C H σ Q (a.bind k)) (f : ∀ r S1, a = .ok r S1 → ∀ v H1 C1, Aft C O H C1 S1 H1 → rel H C1 S1 H1 r v → Post c O rel2 C1 H1 σ Q (k r S1) → Q' v H1) : Post c O rel C H σ Q' a := by
  cases a with
  | ok r S1 => exact fun v H1 C1 b q => f r S1 rfl v H1 C1 b q (Post.aft up h b)
  | exc n x S' => exact h
  | bad => exact h
def IEs.len : IEs → Nat
  | .nil => 0
  | .cons _ es => es.len + 1
theorem bind_okE {α β : Type} {a : Res α} {f : α → Cells → Res β} {r : β} {S : Cells} (h : a.bind f = .ok r S) : ∃ x S1, a = .ok x S1 ∧ f x S1 = .ok r S := by
  cases a with
  | ok x S1 => exact ⟨x, S1, rfl, h⟩
  | exc n x S1 => cases h
  | bad => cases h
theorem evalEs_len : ∀ {es : IEs} {ρ : Env} {S : Cells} {rs : List EV} {S1 : Cells}, evalEs F es ρ S = .ok rs S1 → rs.length = es.len
  | .nil, _, _, _, _, h => by
    simp only [evalEs] at h
    cases h
    rfl
  | .cons e es, _, _, _, _, h => by
    simp only [evalEs] at h
    obtain ⟨v, S2, _, h⟩ := bind_okE h
    obtain ⟨vs, S3, h2, h⟩ := bind_okE h
    cases h
    rw [List.length_cons, evalEs_len h2]
    rfl
theorem mEs_len : ∀ {es : IEs} {xs : List Expr}, mEs g N sc es xs = true → es.len = xs.length
  | .nil, _, h => by
    simp only [mEs] at h
    split at h
    · rfl
    · cases h
  | .cons e es, _, h => by
    simp only [mEs] at h
    split at h
    · simp only [Bool.and_eq_true] at h
      rw [List.length_cons, ← mEs_len h.2]
      rfl
    · cases h
theorem mKs_len : ∀ {es : IEs} {ks : List Str} {xs : List Keyword}, mKs g N sc es ks xs = true → es.len = ks.length
  | .nil, _, _, h => by
    simp only [mKs] at h
    split at h
    · rfl
    · cases h
  | .cons e es, _, _, h => by
    simp only [mKs] at h
    split at h
    · simp only [Bool.and_eq_true] at h
      rw [List.length_cons, ← mKs_len h.2]
      rfl
    · cases h
/-- a callee's promise, from the caller's side -/
theorem call_rule (hK : X.K = c.K) (hmg : X.mg = c.mg) {C O : List Addr} {S : Cells} {H : Hp} {σ : L2.St} {Q : VK} {run : List EV → Cells → Res EV} {args : List EV} {vs : List V} (ok : Ok C O S H) (tb : LamX.Tabs Tabl.tabs H) (r : Paired (fun x v => VRH c.K c.mg C O H x v) args vs) (P : Post c O (rE c O) C H σ Q (run args S)) :
    spF X.K X.mg c.att Tabl.tabs run vs H Q (fun cls d H => c.W cls d σ H) := by
  refine ⟨C, O, S, args, ok, tb, by rw [hK, hmg]; exact r, ?_⟩
  cases hr : run args S with
  | bad =>
    rw [hr] at P
    exact P
  | exc n x S' =>
    rw [hr] at P
    intro cls d H' C' a ⟨b, e1, e2, e3⟩
    exact P cls d H' C' a ⟨b, e1, by rw [← hmg]; exact e2, e3⟩
  | ok r S' =>
    rw [hr] at P
    intro v H' C' a q fr
    refine P v H' C' a ⟨?_, fr⟩
    rw [hK, hmg] at q
    cases r with
    | pk ds =>
      obtain ⟨_, _, _, _, z, _⟩ := q
      cases z
    | _ => exact q
theorem both_call (x : XOk g N sc k F c X) {f : Str} {ks : List Str} {p : List Nat} {es zs : IEs} {y : Expr} (h : mE g N sc (.call f ks p es zs) y = true) (hes : ∀ {ys}, mEs g N sc es ys = true → PA X ys (tEs c F es)) (hzs : ∀ {ks ys}, mKs g N sc zs ks ys = true → PK X ys (tEs c F zs)) : Both X c F (.call f ks p es zs) y := by
  simp only [mE] at h
  split at h
  · simp only [Bool.and_eq_true, decide_eq_true_eq] at h
    obtain ⟨⟨⟨⟨⟨e1, hg⟩, hd⟩, hm⟩, h5⟩, h6⟩ := h
    subst e1
    rename_i pn xs kws pos
    obtain ⟨a, fd, ps, ha, hk, FF, hb, hpl, hpi⟩ := x.facts.calls _ _ _ _ hm
    refine both_val ⟨fun pins s σ H Q I ⟨C, O, ρ, S, R, P⟩ => ?_⟩ fun _ => rfl
    simp only [evalE] at P
    refine wpAny_Call_Name_kw (ld_glob I (gl_of x hg) ha ?_ (dbg1 hd))
    obtain ⟨k1, k2, k3⟩ := kwNames (env := X.env) (pos := pos) h6
    have hst := noStar (env := X.env) (pos := pos) h5
    -- behind the arguments
    have run : ∀ {us ws : List Value} {vs zs' : List V} {s2 : Shared} {H2 : Hp} {rs rz : List EV} {S2 : Cells} {C2 : List Addr}, Inv X pins σ H2 s2 → Vals vs us → Vals zs' ws → Ok C2 O S2 H2 → LamX.Tabs Tabl.tabs H2 → VREs c C2 O H2 rs vs → VREs c C2 O H2 rz zs' → us.length = xs.length → ws.length = ks.length →
        Post c O (rE c O) C2 H2 σ Q (lft (EV.mapHeld (rs ++ rz)) fun us => F f (p.map fun i => us.getD i (.d .none)) S2) →
        wpAny (model X.prog X.w) X.A (call (.ref a) us (ks.zip ws)) (EP X pins σ Q) X.xe s2 := by
      intro us ws vs zs' s2 H2 rs rz S2 C2 I2 rv rw' ok2 tb2 q1 q2 l1 l2 P2
      obtain ⟨as, e, P3⟩ := P2.lft
      have pr := (q1.append q2).held e
      have hlen : (us ++ ws).length = xs.length + ks.length := by rw [List.length_append, l1, l2]
      have r2 : Vals (vs ++ zs') (us ++ ws) := rv.append rw'
      have lv : (vs ++ zs').length = xs.length + ks.length := by rw [r2.length]; exact hlen
      have pl := Paired.length pr
      have pr2 := Paired.perm (d := .d .none) (e := V.non) pr p fun i m => by rw [pl, lv]; exact hpi i m
      have rv2 : Vals (p.map fun i => (vs ++ zs').getD i V.non) (p.map fun i => (us ++ ws).getD i Value.none) := Paired.perm (d := V.non) (e := Value.none) r2 p fun i m => by rw [lv]; exact hpi i m
      refine wpAny_call (codeAny_mono (FF.run X.A X.stack s2 H2 ⟨us, ks.zip ws⟩ (p.map fun i => (us ++ ws).getD i Value.none) (p.map fun i => (vs ++ zs').getD i V.non) Q (fun cls d H => c.W cls d σ H) x.room x.grd I2.env0 (.of_eq (hb us ws l1 l2)) rv2 (call_rule x.K x.mg (σ := σ) ok2 tb2 pr2 P3)) fun r s' hq => ?_)
      cases r with
      | error e => exact x.pas σ pins H2 s2 e s' I2 hq
      | ok fl =>
        cases fl with
        | ret u => exact I2.after hq
        | next => exact False.elim hq
        | brk => exact False.elim hq
        | cont => exact False.elim hq
    have l5 := mEs_len h5
    have l6 := mKs_len h6
    cases xs with
    | nil =>
      cases es with
      | cons e es => simp [mEs] at h5
      | nil =>
        simp only [evalEs, Res.bind_ok] at P
        refine PySem.W.callWith_KW0 (h₀ := X.base) I.ok.mod.kin hk k1 ?_ (by rw [k3]; rfl)
        refine thn ((hzs h6).run pos pins s σ H (fun ws H2 => ∃ C2 S2 rz, Ok C2 O S2 H2 ∧ LamX.Tabs Tabl.tabs H2 ∧ VREs c C2 O H2 rz ws ∧ rz.length = ks.length ∧ Post c O (rE c O) C2 H2 σ Q (lft (EV.mapHeld ([] ++ rz)) fun us => F f (p.map fun i => us.getD i (.d .none)) S2)) I ?_) fun ws s2 ⟨zs', H2, I2, rz', C2, S2, rz, ok2, tb2, q2, lz, P2⟩ => ⟨I2.kIn, ?_⟩
        · exact ⟨C, O, ρ, S, R, Post.bindE rE.up P fun rz S2 hz ws H2 C2 a2 q2 P2 => ⟨C2, S2, rz, a2.ok, a2.grow.tabs (x.tabsAt R), q2, by rw [evalEs_len hz, l6], P2⟩⟩
        · rw [k2]
          exact run (us := []) (vs := []) (rs := []) I2 .nil rz' ok2 tb2 rfl q2 rfl (by rw [← rz'.length, q2.length, lz]) P2
    | cons e0 es0 =>
      have hs0 : starEach (e0 :: es0) X.env = (false, eval e0 X.env) :: starEach es0 X.env := by
        cases es with
        | nil => simp [mEs] at h5
        | cons e es =>
          simp only [mEs, Bool.and_eq_true] at h5
          exact star_of h5.1.2
      refine PySem.W.callWith_KW (h₀ := X.base) I.ok.mod.kin hk k1 ?_ (by rw [hst, k3]; rfl) hs0
      refine thn ((hes h5).run pos pins s σ H (fun vs H1 => ∃ C1 S1 rs, Rel c C1 O ρ S1 σ H1 ∧ VREs c C1 O H1 rs vs ∧ rs.length = (e0 :: es0).length ∧ Post c O (rE c O) C1 H1 σ Q ((evalEs F zs ρ S1).bind fun ws S => lft (EV.mapHeld (rs ++ ws)) fun us => F f (p.map fun i => us.getD i (.d .none)) S)) I ?_) fun us s1 ⟨vs, H1, I1, rv, C1, S1, rs, R1, q1, lr, P1⟩ => ?_
      · exact ⟨C, O, ρ, S, R, Post.bindE rE.up P fun rs S1 hr vs H1 C1 a1 q1 P1 => ⟨C1, S1, rs, R.aft a1, q1, by rw [evalEs_len hr, l5], P1⟩⟩
      refine thn ((hzs h6).run pos pins s1 σ H1 (fun ws H2 => ∃ C2 S2 rz, Ok C2 O S2 H2 ∧ LamX.Tabs Tabl.tabs H2 ∧ VREs c C2 O H2 rs vs ∧ VREs c C2 O H2 rz ws ∧ rz.length = ks.length ∧ Post c O (rE c O) C2 H2 σ Q (lft (EV.mapHeld (rs ++ rz)) fun us => F f (p.map fun i => us.getD i (.d .none)) S2)) I1 ?_) fun ws s2 ⟨zs', H2, I2, rz', C2, S2, rz, ok2, tb2, q1', q2, lz, P2⟩ => ⟨I2.kIn, ?_⟩
      · exact ⟨C1, O, ρ, S1, R1, Post.bindE rE.up P1 fun rz S2 hz ws H2 C2 a2 q2 P2 => ⟨C2, S2, rz, a2.ok, a2.grow.tabs (x.tabsAt R1), q1.aft a2, q2, by rw [evalEs_len hz, l6], P2⟩⟩
      · rw [k2]
        show wpAny _ _ (call (.ref a) us (ks.zip ws)) _ _ _
        exact run I2 rv rz' ok2 tb2 q1' q2 (by rw [← rv.length, q1'.length, lr]) (by rw [← rz'.length, q2.length, lz]) P2
  · cases h
end
end SS

end

section
set_option linter.all false
set_option autoImplicit false
set_option maxRecDepth 100000
set_option maxHeartbeats 4000000
/-! Built-ins the layer lacks: sums, greatest and least of tuples; repr of data; walks of tuples by enumerate, of mixed pairs by zip. -/
namespace SS
open PySem PySem.Spec PyProof.Rows L2
variable [Tabl]
section
variable {prog : Program} {w : World} {A : Around} {E : Value → Shared → Prop} {s : Shared} {l : Addr} {xs : Array (Int × Tok)}
theorem it_tup {items : Array Value} {Q : Value → Shared → Prop} (hl : s.heap.IsTuple l items)
    (h : ∀ s2 : Shared, s2 = { s with heap := s.heap.push { cls := .type "tuple_iterator", data := .fields #[.ref l, .int 0 0] } } →
      (s2.heap.IsTupleIter s.heap.objs.size l 0 ∧ s2.heap.IsTuple l items) → (∀ b ∈ [s.heap.objs.size, l], b < s2.heap.objs.size) → l ≠ s.heap.objs.size → Q (.ref s.heap.objs.size) s2) :
    wpAny (model prog w) A (pyIter (.ref l)) Q E s := by
  have hlt : l < s.heap.objs.size := let ⟨_, e, _⟩ := hl; Heap.lt_size e
  refine wpAny_pyIter_tuple hl (h _ rfl ⟨⟨_, Heap.get?_push_size _ rfl, rfl, rfl⟩, hl.push _⟩ (fun b hb => ?_) (Nat.ne_of_lt hlt))
  have sz : (s.heap.push { cls := .type "tuple_iterator", data := .fields #[.ref l, .int 0 0] }).objs.size = s.heap.objs.size + 1 := Heap.size_push _ _
  show b < (s.heap.push { cls := .type "tuple_iterator", data := .fields #[.ref l, .int 0 0] }).objs.size
  rw [sz]
  simp only [List.mem_cons, List.not_mem_nil, or_false] at hb
  rcases hb with e | e
  · rw [e]
    exact Nat.lt_succ_self _
  · rw [e]
    exact Nat.lt_succ_of_lt hlt
theorem kept_tup {o : Obj} {h' : Heap} (hk : ∀ b u, b ∉ [s.heap.objs.size] → (s.heap.push o).get? b = some u → h'.get? b = some u) : ∀ b u, s.heap.get? b = some u → h'.get? b = some u := fun b u e => by
  refine hk b u (fun hm => ?_) (Heap.get?_push_of_some _ e)
  have := Heap.lt_size e
  rw [List.mem_singleton.mp hm] at this
  exact Nat.lt_irrefl _ this
theorem sum_tup {Q : Value → Shared → Prop} (hh : A.handled = none) (hl : s.heap.IsTuple l (intItems xs))
    (h : ∀ h' tk t', (∀ b o, s.heap.get? b = some o → h'.get? b = some o) → Q (.int (preSum (numAt xs) xs.size) t') { s with heap := h', toks := tk }) : wpAny (model prog w) A (call (.builtin "sum") [.ref l]) Q E s := by
  refine call_sum_walkG (it_tup hl fun s2 e st hfp hlI => ?_)
  subst e
  refine ⟨_, _, _, _, _, _, numAt xs, rfl, Walks.tuple (A := A.in1) hh _ l hlI (intItems xs), st, hfp, (fun _ _ => intItems_at), fun h' tk t' hk => ?_⟩
  have q := h h' tk t' (kept_tup hk)
  simpa [intItems] using q
theorem max_tup {Q : Value → Shared → Prop} (hh : A.handled = none) (hl : s.heap.IsTuple l (intItems xs)) (hne : 0 < xs.size)
    (h : ∀ v h' tk, (intItems xs)[argBest (fun i j => decide (numAt xs i > numAt xs j)) (xs.size - 1)]? = some v → (∀ b o, s.heap.get? b = some o → h'.get? b = some o) → Q v { s with heap := h', toks := tk }) :
    wpAny (model prog w) A (call (.builtin "max") [.ref l]) Q E s := by
  refine call_max_walk (it_tup hl fun s2 e st hfp hlI => ?_)
  subst e
  refine ⟨_, _, _, _, _, _, _, rfl, Walks.tuple (A := A.in1) hh _ l hlI (intItems xs), st, hfp, by simpa [intItems] using hne, CmpOf.ints_gt (numAt xs) (fun _ _ => intItems_at), fun v h' tk hP hk => ?_⟩
  exact h v h' tk (by simpa [intItems] using hP) (kept_tup hk)
theorem min_tup {Q : Value → Shared → Prop} (hh : A.handled = none) (hl : s.heap.IsTuple l (intItems xs)) (hne : 0 < xs.size)
    (h : ∀ v h' tk, (intItems xs)[argBest (fun i j => decide (numAt xs i < numAt xs j)) (xs.size - 1)]? = some v → (∀ b o, s.heap.get? b = some o → h'.get? b = some o) → Q v { s with heap := h', toks := tk }) :
    wpAny (model prog w) A (call (.builtin "min") [.ref l]) Q E s := by
  refine call_min_walk (it_tup hl fun s2 e st hfp hlI => ?_)
  subst e
  refine ⟨_, _, _, _, _, _, _, rfl, Walks.tuple (A := A.in1) hh _ l hlI (intItems xs), st, hfp, by simpa [intItems] using hne, CmpOf.ints_lt (numAt xs) (fun _ _ => intItems_at), fun v h' tk hP hk => ?_⟩
  exact h v h' tk (by simpa [intItems] using hP) (kept_tup hk)
end
section
variable {X : Cx}
def rSumT (K : PySem.W.Frag) : List V → Hp → VK → Prop := fun vs H Q => ∃ (a : Addr) (ns : List Int), vs = [V.ref a] ∧ SqT K H a (ns.map V.int) ∧ Q (.int ns.sum) H
theorem cr_sumT (hc : X.calm = true) : CallR X (.builtin "sum") (rSumT X.K) := by
  intro pins s σ H vs us Q I r h
  obtain ⟨a, ns, rfl, hs, q⟩ := h
  obtain ⟨its, rv, hl, _⟩ := I.tuple hs
  obtain ⟨ys, e⟩ := rv.ints.allInts.items
  have hn : numsOf (intItems ys).toList = ns := by rw [← e]; exact rv.ints.numsOf
  rw [nums_intItems] at hn
  rw [e] at hl
  rw [Vals.ref1 r]
  refine sum_tup (I.ok.hd hc) hl fun h' tk t' hk => ?_
  have z : EP X pins σ Q (.int ns.sum t') { s with heap := h', toks := tk } := ⟨.int _, H, I.kept hk, ⟨_, rfl⟩, q⟩
  rw [preSum_eq, List.take_of_length_le (by simp), hn]
  exact z
def rMaxT (K : PySem.W.Frag) : List V → Hp → VK → Prop := fun vs H Q => ∃ (a : Addr) (ns : List Int), vs = [V.ref a] ∧ SqT K H a (ns.map V.int) ∧ 0 < ns.length ∧ ∀ m, m ∈ ns → (∀ y, y ∈ ns → y ≤ m) → Q (.int m) H
def rMinT (K : PySem.W.Frag) : List V → Hp → VK → Prop := fun vs H Q => ∃ (a : Addr) (ns : List Int), vs = [V.ref a] ∧ SqT K H a (ns.map V.int) ∧ 0 < ns.length ∧ ∀ m, m ∈ ns → (∀ y, y ∈ ns → m ≤ y) → Q (.int m) H
theorem cr_maxT (hc : X.calm = true) : CallR X (.builtin "max") (rMaxT X.K) := by
  intro pins s σ H vs us Q I r h
  obtain ⟨a, ns, rfl, hs, hne, q⟩ := h
  obtain ⟨its, rv, hl, _⟩ := I.tuple hs
  obtain ⟨ys, e⟩ := rv.ints.allInts.items
  have hn : numsOf (intItems ys).toList = ns := by rw [← e]; exact rv.ints.numsOf
  rw [nums_intItems] at hn
  subst hn
  rw [e] at hl
  rw [Vals.ref1 r]
  have hsz : 0 < ys.size := by simpa using hne
  refine max_tup (I.ok.hd hc) hl hsz fun v h' tk hv hk => ?_
  obtain ⟨t, rfl⟩ := intItems_at hv
  obtain ⟨h1, h2⟩ := argBest_gt (numAt ys) (ys.size - 1)
  refine ⟨.int _, H, I.kept hk, ⟨_, rfl⟩, q _ ?_ fun a ha => ?_⟩
  · rw [numAt_eq]; exact PySem.getD_mem (by rw [List.length_map, Array.length_toList]; omega)
  · obtain ⟨j, hj, rfl⟩ := mem_getD ha
    rw [List.length_map, Array.length_toList] at hj
    rw [← numAt_eq]; exact h2 j (by omega)
theorem cr_minT (hc : X.calm = true) : CallR X (.builtin "min") (rMinT X.K) := by
  intro pins s σ H vs us Q I r h
  obtain ⟨a, ns, rfl, hs, hne, q⟩ := h
  obtain ⟨its, rv, hl, _⟩ := I.tuple hs
  obtain ⟨ys, e⟩ := rv.ints.allInts.items
  have hn : numsOf (intItems ys).toList = ns := by rw [← e]; exact rv.ints.numsOf
  rw [nums_intItems] at hn
  subst hn
  rw [e] at hl
  rw [Vals.ref1 r]
  have hsz : 0 < ys.size := by simpa using hne
  refine min_tup (I.ok.hd hc) hl hsz fun v h' tk hv hk => ?_
  obtain ⟨t, rfl⟩ := intItems_at hv
  obtain ⟨h1, h2⟩ := argBest_lt (numAt ys) (ys.size - 1)
  refine ⟨.int _, H, I.kept hk, ⟨_, rfl⟩, q _ ?_ fun a ha => ?_⟩
  · rw [numAt_eq]; exact PySem.getD_mem (by rw [List.length_map, Array.length_toList]; omega)
  · obtain ⟨j, hj, rfl⟩ := mem_getD ha
    rw [List.length_map, Array.length_toList] at hj
    rw [← numAt_eq]; exact h2 j (by omega)
/-- repr of data that stands as an object -/
def rRepr (K : PySem.W.Frag) : List V → Hp → VK → Prop := fun vs H Q => ∃ (a : Addr) (d : D), vs = [V.ref a] ∧ Dp K H (.ref a) d ∧ d.showable = true ∧ d.hasDict = false ∧ d.depth ≤ 64 ∧ d.shown.length ≤ sizeLine ∧ Q (.str d.shown) H
theorem cr_repr (hg : X.A.guards = some []) (hu : X.A.units + 65 < cLine) : CallR X (.builtin "repr") (rRepr X.K) := by
  intro pins s σ H vs us Q I r h
  obtain ⟨a, d, rfl, hd, h1, h2, h3, h4, q⟩ := h
  rw [Vals.ref1 r]
  obtain ⟨as, rd⟩ := Dp.reads I d (.ref a) (.ref a) hd rfl
  refine repr_of_reads' rd h1 (fun e => by rw [h2] at e; cases e) hg (by omega) (fun _ _ e => e) (fun h' u tk hk => ?_) h4
  exact ⟨.str _, H, I.kept hk, ⟨_, rfl⟩, q⟩
end
end SS

end

section
set_option linter.all false
set_option autoImplicit false
set_option maxRecDepth 100000
set_option maxHeartbeats 4000000
/-! enumerate of a tuple; what is walked, all forms. -/
namespace SS
open PySem PySem.Spec PyProof.Rows L2
variable [Tabl]

set_option maxHeartbeats 8000000 in
theorem meets_enum1 {v : Value} {o : Obj} {G : Heap → Prop} (B : Begins v o G) :
    Meets (Builtin.«enumerate.__new__» ⟨[.type "enumerate", v], []⟩) (fun _ R s => G s.heap ∧
      R (.ok (.ret (.ref (s.heap.push o).objs.size))) { s with heap := (s.heap.push o).push { cls := .type "enumerate", data := .fields #[.none, .bool false, .ref s.heap.objs.size, rawInt 0, .none, .none] } }) :=
  .of_wp fun prog w A R s h => by
    obtain ⟨hp, g, d, tk, os⟩ := s
    obtain ⟨h1, h⟩ := h
    have hsub := sub_enumerate
    have q1 : ∀ {A' : Around} {E : Value → Shared → Prop} {Q : Value → Shared → Prop}, Q (.ref hp.objs.size) ⟨hp.push o, g, d, tk, os⟩ → wpAny (model prog w) A' (pyIter v) Q E ⟨hp, g, d, tk, os⟩ :=
      fun q => B.iter prog w _ _ ⟨hp, g, d, tk, os⟩ _ h1 q
    wp_walk using q1
    refine wpAny_stack_any fun st => wpAny_pure ?_
    split
    · rename_i c _ _ _ _ _
      cases (c == Value.type "enumerate")
      · wp_walk using q1
        exact ⟨_, rfl, h⟩
      · wp_walk using q1
        exact ⟨_, rfl, h⟩
    · wp_walk using q1
      exact ⟨_, rfl, h⟩
theorem enum1 {prog : Program} {w : World} {A : Around} {E : Value → Shared → Prop} {s : Shared} {v : Value} {o : Obj} {G : Heap → Prop} {Q : Value → Shared → Prop} (B : Begins v o G) (h1 : G s.heap)
    (h : ∀ h', IsEnum h' (s.heap.objs.size + 1) s.heap.objs.size 0 .none → h'.get? s.heap.objs.size = some o → h'.objs.size = s.heap.objs.size + 2 →
      (∀ b o, s.heap.get? b = some o → h'.get? b = some o) → Q (.ref (s.heap.objs.size + 1)) { s with heap := h' }) :
    wpAny (model prog w) A (call (.type "enumerate") [v]) Q E s := by
  refine callType_new F.called_enumerate (by decide) (F.typeCall_enumerate_1 _) (F.newCall_enumerate_1 _) (fun obj => F.args_object_init_2 obj _) F.entry_enumerate_new (meets_enum1 B) ⟨h1, ?_⟩
  have hz : (s.heap.push o).objs.size = s.heap.objs.size + 1 := Heap.size_push ..
  have he : IsEnum ((s.heap.push o).push { cls := .type "enumerate", data := .fields #[.none, .bool false, .ref s.heap.objs.size, rawInt 0, .none, .none] }) (s.heap.objs.size + 1) s.heap.objs.size 0 .none := by
    have q := Heap.get?_push_size (s.heap.push o) (o := { cls := .type "enumerate", data := .fields #[.none, .bool false, .ref s.heap.objs.size, rawInt 0, .none, .none] }) rfl
    rw [hz] at q
    exact q
  have hz2 : ((s.heap.push o).push { cls := .type "enumerate", data := .fields #[.none, .bool false, .ref s.heap.objs.size, rawInt 0, .none, .none] }).objs.size = s.heap.objs.size + 2 := by rw [Heap.size_push, hz]
  show _ ∧ _
  rw [hz]
  exact ⟨⟨_, he, rfl⟩, h _ he (Heap.get?_push_of_some _ (Heap.get?_push_size _ B.free)) hz2 fun b u x => Heap.get?_push_of_some _ (Heap.get?_push_of_some _ x)⟩

/-- the tuple at a, each item in a new pair -/
def IteT (K : PySem.W.Frag) (a : Addr) : It :=
  ⟨fun i H => ∃ (xs : List V) (x : V), SqT K H a xs ∧ xs[i]? = some x, fun i H v H' => ∃ T x, v = .ref T ∧ H T = none ∧ H' = upd H T (.tup [.int (i : Nat), x]) ∧ ∀ xs, SqT K H a xs → xs[i]? = some x, fun i H => ∃ xs : List V, SqT K H a xs ∧ xs.length ≤ i⟩
theorem turn_enumT {P : Program} {w : World} {K : PySem.W.Frag} {elts : List Expr} {kk : Nat} {tpos : Pos} (a e it : Addr) :
    Turn P w K (.Tuple elts kk tpos) (IteT K a) [e, it] e (fun i h => (∃ old, IsEnum h e it ((i : Nat) : Int) old) ∧ h.IsTupleIter it a i ∧ e ≠ it ∧ a ≠ it ∧ a ≠ e) where
  mem := by simp
  obj := fun i h st b hb => by
    obtain ⟨⟨old, he⟩, ⟨o, ho, hc, hd⟩, _⟩ := st
    simp only [List.mem_cons, List.not_mem_nil, or_false] at hb
    rcases hb with z | z
    · rw [z]
      exact ⟨_, he, fun v q => nomatch q⟩
    · rw [z]
      exact ⟨o, ho, fun v q => by rw [hd] at q; cases q⟩
  keep := fun i h h' ⟨⟨old, he⟩, hi, hne⟩ k => ⟨⟨old, k e (by simp) _ he⟩, hi.at fun o q => k it (by simp) o q, hne⟩
  item := by
    intro X hP hw hK hc i pins s σ H E I hf st hg
    subst hP hw hK
    obtain ⟨⟨old, he⟩, hit, hne, hai, hae⟩ := st
    obtain ⟨xs, x, hq, hx⟩ := hg
    obtain ⟨its, rv, p, hz⟩ := I.tuple hq
    obtain ⟨u, hu, ru⟩ := rv.get hx
    have hel : e < s.heap.objs.size := Heap.lt_size he
    have hil : it < s.heap.objs.size := let ⟨_, q, _⟩ := hit; Heap.lt_size q
    have hlt : i < its.toArray.size := by
      rcases Nat.lt_or_ge i its.length with q | q
      · simpa using q
      · rw [List.getElem?_eq_none q] at hu; cases hu
    have DD := Draws.tuple (prog := X.prog) (w := X.w) (A := X.A.in1) (I.ok.hd hc) it a hai its.toArray
    refine wpAny_pyNext_enum_itemD DD he ⟨hit, p⟩ hlt hne (by simp only [List.mem_cons, List.not_mem_nil, or_false, not_or]; exact ⟨hne, Ne.symm hae⟩) fun y h' tk hy ho hst' hT hsz hk => ?_
    have ey : y = u := by
      have q : its[i]? = some y := by simpa using hy
      rw [hu] at q
      exact (Option.some.inj q).symm
    subst ey
    refine ⟨_, rfl, wpAny_letOwnedTupleGo_enum (s := { s with heap := h', toks := tk + 1 }) ho fun h'' he' sb => ?_⟩
    have hT2 : h''.get? s.heap.objs.size = some { cls := .type "tuple", data := .seq #[.int i tk, y] } := (sb.2 _ (Nat.ne_of_gt hel)).trans hT
    have new : ObjOk X.prog X.w (upd H s.heap.objs.size (.tup [.int (i : Nat), x])) h'' s.heap.objs.size (.tup [.int (i : Nat), x]) :=
      ⟨by show 2 ≤ sizeLine; decide, [.int i tk, y], .cons ⟨_, rfl⟩ (.cons ru .nil), ⟨_, hT2, rfl, _, rfl⟩⟩
    have I1 : L2.Inv X pins σ (upd H s.heap.objs.size (.tup [.int (i : Nat), x])) { s with heap := h'', toks := tk + 1 } :=
      I.turnedNew (ch := [e, it]) (fun b ob hb q => (sb.2 b (fun z => hb (by simp [z]))).trans (hk b ob (fun z => hb (by simp [z])) (fun z => hb (by simp [z])) q)) hf (Nat.le_refl _) new
    refine ⟨.ref s.heap.objs.size, _, I1, rfl, ⟨_, x, rfl, I.hok.fresh (Nat.le_refl _), rfl, fun ys hy => by rw [I.tuple_inj hy hq]; exact hx⟩, ⟨⟨y, ?_⟩, hst'.1.at fun o q => (sb.2 it (Ne.symm hne)).trans q, hne, hai, hae⟩, fun b hb => ?_⟩
    · have e1 : ((i + 1 : Nat) : Int) = (i : Int) + 1 := by omega
      rw [e1]
      exact he'
    · have hb' : b < s.heap.objs.size := by
        simp only [List.mem_cons, List.not_mem_nil, or_false] at hb
        rcases hb with z | z
        · rw [z]; exact hel
        · rw [z]; exact hil
      rw [upd_ne (Nat.ne_of_lt hb')]
      exact (hf b hb).1
  done := by
    intro X hP hw hK hc i pins s σ H E I hf st hg
    subst hP hw hK
    obtain ⟨⟨old, he⟩, hit, hne, hai, hae⟩ := st
    obtain ⟨xs, hq, hx⟩ := hg
    obtain ⟨its, rv, p, hz⟩ := I.tuple hq
    obtain ⟨f0, f1, f2, f3, f4, f5⟩ := hf it (by simp)
    have hl := rv.length
    have nt : its.toArray[i]? = none := by simp; omega
    have DD := Draws.tuple (prog := X.prog) (w := X.w) (A := X.A.in1) (I.ok.hd hc) it a hai its.toArray
    have DE : Draws X.prog X.w X.A.in1 it [it, a] i (fun j v => False) (fun j h => j = i ∧ h.IsTupleIter it a i ∧ h.IsTuple a its.toArray) :=
      ⟨fun j h st => let ⟨o, q, _⟩ := st.2.1; ⟨o, q⟩, fun j h h' st k => ⟨st.1, st.2.1.at fun o q => k it (by simp) o q, st.2.2.at fun o q => k a (by simp) o q⟩, fun j s Q E hj st _ => absurd st.1 (Nat.ne_of_lt hj),
        fun s Q E st hE => wpAny_nextOf_tuple_end (I.ok.hd hc) st.2.1 st.2.2 nt hE⟩
    exact wpAny_pyNext_enum_endD DE he ⟨rfl, hit, p⟩ fun h' eb => ⟨rfl, I.turned (t' := s.toks) (fun b o hb q => eb b o hb q) f0 f1 f3 f4 f5⟩
  self := fun A i s Q E st h => let ⟨⟨_, he⟩, _⟩ := st; wpAny_pyIter_enum he h
def iEnumT (K : PySem.W.Frag) (ta : TA) : TI := fun σ H R => ta σ H fun vs H1 => ∃ a xs, vs = [.ref a] ∧ SqT K H1 a xs ∧ R (IteT K a) H1
theorem pi_enumT {X : Cx} {e : Expr} {ta : TA} {p pos tpos : Pos} {elts : List Expr} {kk : Nat} (hg : Gl X "enumerate") (hm : X.mg "enumerate" = none) (ha : PA X [e] ta) (hs : starEach [e] X.env = [(false, eval e X.env)]) :
    PI X (.Tuple elts kk tpos) (.Call (.Name "enumerate" p) [e] [] pos) (iEnumT X.K ta) := by
  refine ⟨fun pins s σ H R I h => ?_⟩
  refine Call_ (ld_blt I hg hm boot_enumerate (PyProof.Rows.callWith_type1 (thn (ha.run pos pins s σ H _ I h) fun us s1 ⟨vs, H1, I1, r1, q1⟩ => ?_) hs rfl))
  obtain ⟨a, xs, ex, hq, q⟩ := q1
  subst ex
  cases r1 with
  | cons r rr =>
    cases rr
    cases r
    obtain ⟨its, rv, p', hz⟩ := I1.tuple hq
    have hlt : a < s1.heap.objs.size := p'.lt
    refine enum1 (begins_tuple a its.toArray) p' fun h' he hit hsz hk => wpAny_pyIter_enum he ?_
    have I2 : L2.Inv X pins σ H1 { s1 with heap := h' } := I1.kept (t' := s1.toks) hk
    refine ⟨s1.heap.objs.size + 1, [s1.heap.objs.size + 1, s1.heap.objs.size], _, _, H1, rfl, I2, turn_enumT a (s1.heap.objs.size + 1) s1.heap.objs.size, ⟨⟨.none, he⟩, ⟨_, hit, rfl, rfl⟩, Nat.succ_ne_self _, Nat.ne_of_lt hlt, Nat.ne_of_lt (Nat.lt_succ_of_lt hlt)⟩, fun b hb => ?_, q⟩
    have hle : s1.heap.objs.size ≤ b := by
      simp only [List.mem_cons, List.not_mem_nil, or_false] at hb
      rcases hb with z | z
      · rw [z]; exact Nat.le_add_right _ _
      · rw [z]; exact Nat.le_refl _
    exact I1.fpOk hle (I1.hok.fresh hle)
theorem PI.either {X : Cx} {tg iter : Expr} {w1 w2 : TI} (h1 : PI X tg iter w1) (h2 : PI X tg iter w2) : PI X tg iter (fun σ H R => w1 σ H R ∨ w2 σ H R) := ⟨fun pins s σ H R I q => q.elim (h1.run pins s σ H R I) (h2.run pins s σ H R I)⟩
theorem PI.imp {X : Cx} {tg iter : Expr} {w1 w2 : TI} (h : PI X tg iter w1) (i : ∀ σ H R, w2 σ H R → w1 σ H R) : PI X tg iter w2 := ⟨fun pins s σ H R I q => h.run pins s σ H R I (i _ _ _ q)⟩
end SS

end

section
set_option linter.all false
set_option maxRecDepth 100000
set_option maxHeartbeats 4000000
namespace SS
open PySem PySem.Spec PyProof.Rows L2
variable [Tabl]
section
variable {prog : Program} {w : World} {A : Around} {E : Value → Shared → Prop} {s : Shared}
/-- a tuple's items, gathered into a list of their own -/
theorem gather_tup {t : Addr} {vs : List Value} {Q : List Value → Shared → Prop} (ht : IsTup s.heap t vs.toArray) (hz : vs.length ≤ sizeLine)
    (h : Q vs { s with heap := (s.heap.push (seqObj "list" #[] 0)).update s.heap.objs.size (Obj.mapSeq (· ++ vs.toArray)) }) : wpAny (model prog w) A (collect (.ref t)) Q E s := by
  obtain ⟨o, ho, hc, n, hd⟩ := id ht
  unfold collect
  refine wpAny_bind (wpAny_runValue (codeAny_builtin entry_proto_collect' ?_))
  refine wpAny_bind (wpAny_newList (wpAny_pure ⟨Code.quiet_builtin _ (by decide +kernel), codeAny_builtin entry_list_iadd' ?_⟩))
  show wpAny _ _ (Builtin.List.listExtendWith (.ref s.heap.objs.size) (.ref t) (.ref s.heap.objs.size)) _ _ _
  unfold Builtin.List.listExtendWith
  have hp : (s.heap.push (seqObj "list" #[] 0)).get? t = some o := Heap.get?_push_of_some _ ho
  refine wpAny_bind (wpAny_typeOf (T := "tuple") ⟨o, hp, hc⟩ ?_)
  rw [if_pos (by simp)]
  refine wpAny_bind (listItems_at hp hd ?_)
  refine wpAny_bind (listItems_at (xs := #[]) (n := 0) (Heap.get?_push_size _ rfl) rfl ?_)
  rw [if_neg (by simp)]
  have small : ((#[] : Array Value) ++ vs.toArray).size ≤ sizeLine + 1 := by
    rw [Array.size_append, List.size_toArray]
    exact Nat.le_trans (by simpa using hz) (Nat.le_succ _)
  refine wpAny_bind (listUpdate_at (xs := #[]) (n := 0) (Heap.get?_push_size _ rfl) rfl (wpAny_pure ?_) (Nat.zero_le _) small)
  refine wpAny_bind (wpAny_load (get?_update_seq (Heap.get?_push_size _ rfl) _) ?_)
  refine wpAny_pure ?_
  rw [show ((#[] : Array Value) ++ vs.toArray).toList = vs by simp]
  exact h
/-- sorted(t), t a tuple -/
theorem sorted_tup {t : Addr} {vs : List Value} {ltv : Value → Value → Bool} {Q : Value → Shared → Prop} (O : SrtO.Swo ltv) (ht : IsTup s.heap t vs.toArray) (hz : vs.length ≤ sizeLine)
    (hS : 2 ≤ vs.length → ∀ (g : Heap) (a : Addr), SrtO.SortableO prog w A.in1.in1 { s with heap := g } a vs ltv)
    (h : ∀ out : List Value, SrtO.Srtd ltv out → SrtO.Stb ltv out vs → Q (.ref (s.heap.objs.size + 1)) { s with heap := sortedAll s.heap vs out.toArray }) :
    wpAny (model prog w) A (call (.builtin "sorted") [.ref t]) Q E s := by
  refine Calls.call_function_entry kind_sorted plain_sorted entry_sorted (args_sorted1 _) ?_
  unfold Builtin.«sorted»
  refine wpAny_bind (m := checkCount "sorted" 1 1 _) (wpAny_pure ?_)
  refine wpAny_bind (gather_tup ht hz (wpAny_bind (wpAny_newList ?_ hz)))
  -- the list that is sorted stands behind the gathered one
  generalize hg : (s.heap.push (seqObj "list" #[] 0)).update s.heap.objs.size (Obj.mapSeq (· ++ vs.toArray)) = g
  have sz : g.objs.size = s.heap.objs.size + 1 := by rw [← hg, Heap.size_update, size_push']
  have here : (g.push (seqObj "list" vs.toArray 0)).get? (s.heap.objs.size + 1) = some (seqObj "list" vs.toArray 0) := by
    rw [← sz]
    exact Heap.get?_push_size _ rfl
  show wpAny _ _ _ _ _ { s with heap := g.push (seqObj "list" vs.toArray 0) }
  rw [sz]
  refine wpAny_bind (wpAny_holding (wpAny_call_entry slot_list_sort ⟨_, here, rfl⟩ entry_list_sort (SrtO.list_sort_ord O here hz (fun h2 => hS h2 _ _) fun out hs hb => ⟨_, rfl, wpAny_pure ⟨_, rfl, ?_⟩⟩) (args_list_sort _)))
  have q := h out hs hb
  subst hg
  exact q
end
section
variable {X : Cx}
def rSortedTI (K : PySem.W.Frag) : List V → Hp → VK → Prop := fun vs H Q => ∃ (a : Addr) (ns : List Int), vs = [V.ref a] ∧ SqT K H a (ns.map V.int) ∧
  ∀ (ns' : List Int) (p : Addr), ns'.Perm ns → ns'.Pairwise (· ≤ ·) → H p = none → Q (.ref p) (L2.upd H p (.lst (ns'.map V.int)))
theorem cr_sortedTI : CallR X (.builtin "sorted") (rSortedTI X.K) := by
  intro pins s σ H vs us Q I r h
  obtain ⟨a, ns, rfl, hs, q⟩ := h
  obtain ⟨its, rv, hl, hz⟩ := I.tuple hs
  rw [Vals.ref1 r]
  have hi := rv.ints
  have hzs : its.length ≤ sizeLine := by
    have e2 := rv.length
    rw [← e2]
    exact hz
  refine sorted_tup SrtO.swo_int hl hzs (fun h2 g b => SrtO.ints_sortable hi h2) fun out h1 h2 => ?_
  obtain ⟨k1, k2, k3⟩ := SrtO.ints_out hi h1 h2
  obtain ⟨ep, at_⟩ := PyProof.Rows.sortedAll_at s.heap its out.toArray
  have len : ((out.map SrtO.iv).map V.int).length ≤ sizeLine := by
    have e1 := k2.length_eq
    have e2 := rv.length
    rw [List.length_map] at e2
    rw [List.length_map, e1, e2]
    exact hzs
  refine ⟨.ref _, L2.upd H (s.heap.objs.size + 1) (.lst ((out.map SrtO.iv).map V.int)), ?_, rfl, q _ _ k2 k3 (I.hok.fresh (Nat.le_succ _))⟩
  exact I.laid (t' := s.toks) (fun _ _ => PyProof.Rows.sortedAll_old) (Nat.le_succ _) ⟨len, out, ep, vals_of_ints k1, at_⟩
theorem sorted_tupR {prog : Program} {w : World} {A : Around} {E : Value → Shared → Prop} {s : Shared} {t : Addr} {vs : List Value} {b : Bool} {ltv : Value → Value → Bool} {Q : Value → Shared → Prop} (O : SrtO.Swo ltv) (ht : IsTup s.heap t vs.toArray) (hz : vs.length ≤ sizeLine)
    (hS : 2 ≤ vs.length → ∀ (g : Heap) (a : Addr), SrtO.SortableO prog w A.in1.in1 { s with heap := g } a vs ltv)
    (h : ∀ out : List Value, SrtO.Srtd ltv out → SrtO.Stb ltv out (if b = true then vs.reverse else vs) → Q (.ref (s.heap.objs.size + 1)) { s with heap := sortedAll s.heap vs (if b = true then out.toArray.reverse else out.toArray) }) :
    wpAny (model prog w) A (call (.builtin "sorted") [.ref t] [(Str.ofString "reverse", .bool b)]) Q E s := by
  refine call_function_entry_kw kind_sorted plain_sorted entry_sorted (PyProof.Rows.args_sorted_rev _ _) ?_
  unfold Builtin.«sorted»
  refine wpAny_bind (m := checkCount "sorted" 1 1 _) (wpAny_pure ?_)
  refine wpAny_bind (gather_tup ht hz (wpAny_bind (wpAny_newList ?_ hz)))
  generalize hg : (s.heap.push (seqObj "list" #[] 0)).update s.heap.objs.size (Obj.mapSeq (· ++ vs.toArray)) = g
  have sz : g.objs.size = s.heap.objs.size + 1 := by rw [← hg, Heap.size_update, size_push']
  have here : (g.push (seqObj "list" vs.toArray 0)).get? (s.heap.objs.size + 1) = some (seqObj "list" vs.toArray 0) := by
    rw [← sz]
    exact Heap.get?_push_size _ rfl
  show wpAny _ _ _ _ _ { s with heap := g.push (seqObj "list" vs.toArray 0) }
  rw [sz]
  refine wpAny_bind (wpAny_holding (wpAny_call_entry_kw slot_list_sort ⟨_, here, rfl⟩ entry_list_sort (SrtR.list_sort_ordR O here hz (fun h2 => hS h2 _ _) fun out hs hb => ⟨_, rfl, wpAny_pure ⟨_, rfl, ?_⟩⟩) (PyProof.Rows.args_list_sort_rev _ _)))
  have q := h out hs hb
  subst hg
  exact q
def rSortedTR (K : PySem.W.Frag) (b : Bool) : List V → List V → Hp → VK → Prop := fun vs zs H Q => ∃ (a : Addr) (ns : List Int), vs = [V.ref a] ∧ zs = [.bl b] ∧ SqT K H a (ns.map V.int) ∧
  ∀ (ns' : List Int) (p : Addr), ns'.Perm ns → OrdB b ns' → H p = none → Q (.ref p) (L2.upd H p (.lst (ns'.map V.int)))
theorem cr_sortedTR {b : Bool} : CallRK X (.builtin "sorted") [Str.ofString "reverse"] (rSortedTR X.K b) := by
  intro pins s σ H vs zs us ws Q I r rz h
  obtain ⟨a, ns, rfl, rfl, hs, q⟩ := h
  obtain rfl := Vals.ref1 r
  obtain ⟨w1, rfl, e1⟩ := vals1 rz
  cases (show w1 = Value.bool b from e1)
  obtain ⟨its, rv, hl, hz⟩ := I.tuple hs
  have hi := rv.ints
  have hzs : its.length ≤ sizeLine := by
    have e2 := rv.length
    rw [← e2]
    exact hz
  refine sorted_tupR SrtO.swo_int hl hzs (fun h2 g b => SrtO.ints_sortable hi h2) fun out h1 h2 => ?_
  obtain ⟨ns', k1, k2, k3⟩ := SrtR.ints_outR hi h1 h2
  obtain ⟨ep, at_⟩ := PyProof.Rows.sortedAll_at s.heap its (if b = true then out.toArray.reverse else out.toArray)
  have len : (ns'.map V.int).length ≤ sizeLine := by
    have e2 := rv.length
    rw [List.length_map] at e2
    rw [List.length_map, k2.length_eq, e2]
    exact hzs
  have e0 : ((if b = true then out.toArray.reverse else out.toArray).toList).toArray = (if b = true then out.toArray.reverse else out.toArray) := by rw [Array.toArray_toList]
  refine ⟨.ref _, L2.upd H (s.heap.objs.size + 1) (.lst (ns'.map V.int)), ?_, rfl, q _ _ k2 k3 (I.hok.fresh (Nat.le_succ _))⟩
  exact I.laid (t' := s.toks) (fun _ _ => PyProof.Rows.sortedAll_old) (Nat.le_succ _) ⟨len, _, ep, vals_of_ints k1, by rw [e0]; exact at_⟩
/-- sorted(t), t a tuple of data -/
def rSortedDT (K : PySem.W.Frag) (vs : List V) (H : Hp) (Q : VK) : Prop := ∃ (a : Addr) (bs : List (V × D)), vs = [.ref a] ∧ SqT K H a (bs.map (·.1)) ∧ (∀ b ∈ bs, Dp K H b.1 b.2) ∧ srtOk (bs.map (·.2)) = true ∧
  ∀ p, H p = none → Q (.ref p) (L2.upd H p (.lst ((bs.mergeSort (PySem.W.dataLe false (·.2))).map (·.1))))
theorem cr_sortedDT (hu : X.A.units + 65 < cLine) : CallR X (.builtin "sorted") (rSortedDT X.K) := by
  intro pins s σ H vs us Q I r h
  obtain ⟨a, bs, rfl, hs, hd, ho, q⟩ := h
  obtain ⟨its, rv, hl, hz⟩ := I.tuple hs
  rw [Vals.ref1 r]
  have er : PySem.W.EachIs (fun v (b : V × D) => ∃ as, Reads s.heap v b.2 as) its bs := (PySem.W.each_mem (eachR rv)).mono fun v b ⟨r1, m⟩ => Dp.reads I b.2 b.1 v (hd b m) r1
  have dep := srtOk_depth ho
  have hzs : its.length ≤ sizeLine := by
    rw [← rv.length]
    exact hz
  refine Calls.call_function_entry kind_sorted plain_sorted entry_sorted (args_sorted1 _) ?_
  unfold Builtin.«sorted»
  refine wpAny_bind (m := checkCount "sorted" 1 1 _) (wpAny_pure ?_)
  refine wpAny_bind (gather_tup hl hzs (wpAny_bind (wpAny_newList ?_ hzs)))
  generalize hg : (s.heap.push (seqObj "list" #[] 0)).update s.heap.objs.size (Obj.mapSeq (· ++ its.toArray)) = g
  have sz : g.objs.size = s.heap.objs.size + 1 := by rw [← hg, Heap.size_update, size_push']
  have here : (g.push (seqObj "list" its.toArray 0)).get? (s.heap.objs.size + 1) = some (seqObj "list" its.toArray 0) := by
    rw [← sz]
    exact Heap.get?_push_size _ rfl
  show wpAny _ _ _ _ _ { s with heap := g.push (seqObj "list" its.toArray 0) }
  rw [sz]
  have k0 : ∀ b o, s.heap.get? b = some o → g.get? b = some o := fun b o e => by
    rw [← hg, Heap.get?_update_ne _ _ _ _ (Nat.ne_of_lt (Heap.lt_size e))]
    exact Heap.get?_push_of_some _ e
  have er' : PySem.W.EachIs (fun v (b : V × D) => ∃ as, Reads (PySem.W.sortingHeap (g.push (seqObj "list" its.toArray 0)) (s.heap.objs.size + 1) its) v b.2 as) its bs :=
    er.mono fun _ _ ⟨as, r⟩ => ⟨as, PyProof.Rows.Reads.keeps (fun b o e => PySem.W.sortingHeap_old (Nat.ne_of_lt (Nat.lt_succ_of_lt (Heap.lt_size e))) (Heap.get?_push_of_some _ (k0 b o e))) r⟩
  have hL : bs.length ≤ sizeLine := by
    rw [List.length_map] at hz
    exact hz
  refine wpAny_bind (wpAny_holding (wpAny_call_entry slot_list_sort ⟨_, here, rfl⟩ entry_list_sort (PySem.W.list_sort_vals (κ := PySem.W.dataKind (PySem.W.sortingHeap (g.push (seqObj "list" its.toArray 0)) (s.heap.objs.size + 1) its) (bs.map (·.2))) here
    (PySem.W.SortsAt.data (s := { s with heap := PySem.W.sortingHeap (g.push (seqObj "list" its.toArray 0)) (s.heap.objs.size + 1) its }) (PySem.W.each_map (R := fun v d => ∃ as, Reads (PySem.W.sortingHeap (g.push (seqObj "list" its.toArray 0)) (s.heap.objs.size + 1) its) v d as) (fun b : V × D => b.2) er') (srtOk_alike ho) (srtOk_kind ho) (fun d hd => ?_)) hzs ⟨.none, rfl, ?_⟩) (args_list_sort _)))
  · have := dep d hd
    show X.A.units + 2 + d.depth < cLine
    omega
  · refine wpAny_pure ⟨_, rfl, ?_⟩
    have ho2 := PySem.W.sortVals_data (enc := (·.2)) false (eachR rv) er' (srtOk_alike ho)
    have rv2 := valsR ho2
    subst hg
    obtain ⟨ep, he'⟩ := PyProof.Rows.sortedAll_at s.heap its (PySem.W.sortVals (PySem.W.dataKind (PySem.W.sortingHeap (((s.heap.push (seqObj "list" #[] 0)).update s.heap.objs.size (Obj.mapSeq (· ++ its.toArray))).push (seqObj "list" its.toArray 0)) (s.heap.objs.size + 1) its) (bs.map (·.2))) false its its).toArray
    refine ⟨.ref _, L2.upd H (s.heap.objs.size + 1) (.lst ((bs.mergeSort (PySem.W.dataLe false (·.2))).map (·.1))), ?_, rfl, q _ (I.hok.fresh (Nat.le_succ _))⟩
    refine I.laid (t' := s.toks) (fun _ _ => PyProof.Rows.sortedAll_old) (Nat.le_succ _) ⟨?_, _, ep, rv2, he'⟩
    rw [List.length_map, List.length_mergeSort]
    exact hL
/-- a tuple of data, sorted -/
theorem sorted_tupD {c : Ct} {C O : List Addr} {S : Cells} {H : Hp} {σ : L2.St} {Q : VK} (ok : Ok C O S H) {ds : List D} {u : V} (hw : VRw C O H (.tuple ds) u) (ho : srtOk ds = true) (P : Post c O (rE c O) C H σ Q (.ok (.nw (sortD false ds)) S)) : rSortedDT X.K [u] H Q := by
  obtain ⟨a, xs, rfl, _, h, zz, r⟩ := hw
  have hl := r.length
  refine ⟨a, xs.zip ds, rfl, by rw [zip_fst hl]; exact SqT.of h, fun b hb => VR.dp (VRs.zip r b hb), by rw [zip_snd hl]; exact ho, fun p hp => ?_⟩
  have e : sortD false ds = ((xs.zip ds).mergeSort (PySem.W.dataLe false (·.2))).map (·.2) := by rw [sorted_bs, zip_snd hl]
  rw [e] at P
  refine P.newLst ok ?_ (VRs.ofZip fun b hb => VRs.zip r b ?_) hp
  · rw [List.length_map, List.length_mergeSort, List.length_zip, hl, Nat.min_self, ← hl]
    exact zz
  · exact (List.mergeSort_perm _ _).mem_iff.mp hb
end
end SS

end

section
set_option linter.all false
set_option autoImplicit false
set_option maxRecDepth 100000
set_option maxHeartbeats 4000000
/-! set(xs) of a list of whole numbers. -/
namespace SS
open PySem PySem.Spec PyProof.Rows L2
variable [Tabl]
theorem insU_mem {x y : Int} : ∀ {l : List Int}, y ∈ insU x l ↔ y = x ∨ y ∈ l
  | [] => by simp [insU]
  | z :: r => by
    unfold insU
    by_cases h : x < z
    · rw [if_pos h]; simp
    · rw [if_neg h]
      by_cases e : x = z
      · rw [if_pos e]
        subst e
        simp
      · rw [if_neg e, List.mem_cons, insU_mem (l := r), List.mem_cons]
        constructor
        · rintro (a | a | a)
          · exact .inr (.inl a)
          · exact .inl a
          · exact .inr (.inr a)
        · rintro (a | a | a)
          · exact .inr (.inl a)
          · exact .inl a
          · exact .inr (.inr a)
theorem insU_up {x : Int} : ∀ {l : List Int}, l.Pairwise (· < ·) → (insU x l).Pairwise (· < ·)
  | [], _ => by simp [insU]
  | z :: r, h => by
    have h1 := List.pairwise_cons.mp h
    unfold insU
    by_cases c : x < z
    · rw [if_pos c]
      refine List.pairwise_cons.mpr ⟨fun y m => ?_, h⟩
      rcases List.mem_cons.mp m with rfl | m
      · exact c
      · exact Int.lt_trans c (h1.1 y m)
    · rw [if_neg c]
      by_cases e : x = z
      · rw [if_pos e]; exact h
      · rw [if_neg e]
        refine List.pairwise_cons.mpr ⟨fun y m => ?_, insU_up h1.2⟩
        rcases insU_mem.mp m with rfl | m
        · omega
        · exact h1.1 y m
theorem uniq_mem {y : Int} : ∀ {l : List Int}, y ∈ uniqI l ↔ y ∈ l
  | [] => Iff.rfl
  | x :: r => by
    show y ∈ insU x (uniqI r) ↔ _
    rw [insU_mem, uniq_mem (l := r), List.mem_cons]
theorem uniq_up : ∀ l : List Int, (uniqI l).Pairwise (· < ·)
  | [] => .nil
  | x :: r => insU_up (uniq_up r)
theorem insU_len (x : Int) : ∀ l : List Int, (insU x l).length ≤ l.length + 1
  | [] => Nat.le_refl _
  | y :: r => by
    unfold insU
    have := insU_len x r
    split
    · simp
    · split
      · simp
      · simp only [List.length_cons]
        omega
theorem uniq_len : ∀ l : List Int, (uniqI l).length ≤ l.length
  | [] => Nat.le_refl _
  | x :: r => by
    have h1 := insU_len x (uniqI r)
    have h2 := uniq_len r
    show (insU x (uniqI r)).length ≤ r.length + 1
    omega
theorem up_nodup {l : List Int} (h : l.Pairwise (· < ·)) : l.Nodup := h.imp fun q e => by
  rw [e] at q
  exact Int.lt_irrefl _ q
theorem nodup_len {a b : List Int} (ha : a.Nodup) (hb : b.Nodup) (h : ∀ k, k ∈ a ↔ k ∈ b) : a.length = b.length :=
  ((List.perm_ext_iff_of_nodup ha hb).mpr h).length_eq
theorem up_eq {a b : List Int} (ha : a.Pairwise (· < ·)) (hb : b.Pairwise (· < ·)) (h : ∀ k, k ∈ a ↔ k ∈ b) : a = b :=
  List.Perm.eq_of_pairwise (le := (· < ·)) (fun x y _ _ p q => absurd (Int.lt_trans p q) (Int.lt_irrefl _)) ha hb ((List.perm_ext_iff_of_nodup (up_nodup ha) (up_nodup hb)).mpr h)
section
variable {P : Program} {w : World} {A : Around}
/-- the loop that fills a set -/
theorem fill_loop {R : Result → Shared → Prop} {it : Addr} {fp wr : List Addr} {G : Array GenState → Array GenState → Prop} {n : Nat} {Pt : Nat → Value → Prop} {St : Nat → Shared → Prop}
    (W : WalksS P w A.in1 it fp wr G n Pt St) (a : Addr) (ha : a ∉ fp) (f : Nat → Int) (hf : ∀ i v, Pt i v → ∃ t, v = .int (f i) t) (room : n + 1 < scanBound) :
    ∀ (m i : Nat) (s : Shared), n - i = m → i ≤ n → St i s → SetR w s.heap a (fun j => (firstMet f i).any (· == j)) (firstMet f i).length →
      (∀ s', Moved (a :: wr) G s s' → SetR w s'.heap a (fun j => (firstMet f n).any (· == j)) (firstMet f n).length → R (.ok (.ret .none)) s') →
      codeAny (model P w) A (.builtin "set.update.loop" ⟨[.ref a, .ref it], []⟩) R s := by
  have haw : a ∉ wr := fun z => ha (W.sub _ z)
  have more : ∀ b ∈ wr, b ∈ a :: wr := fun b z => List.mem_cons_of_mem _ z
  intro m
  induction m with
  | zero =>
    intro i s e hi st hS fin
    obtain rfl : i = n := by omega
    refine codeAny_builtin F.entry_set_update_loop ?_
    rw [Around.under_plainId F.plain_set_update_loop _]
    refine wpAny_bind (W.done s _ _ st fun s2 mv => ?_)
    exact wpAny_pure (fin s2 (mv.mono more) (hS.at fun o z => mv.heap a _ haw z))
  | succ m ih =>
    intro i s e hi st hS fin
    have lt : i < n := by omega
    refine codeAny_builtin F.entry_set_update_loop ?_
    rw [Around.under_plainId F.plain_set_update_loop _]
    refine wpAny_bind (W.item i s _ _ lt st fun v s2 hv st2 mv => ?_)
    obtain ⟨t, rfl⟩ := hf i v hv
    have hS2 := hS.at fun o z => mv.heap a _ haw z
    show wpAny _ A.in1 (holding [Value.int (f i) t] (setAdd a (.int (f i) t)) >>= _) _ _ s2
    refine wpAny_bind (wpAny_holding ?_)
    unfold setAdd
    refine wpAny_holding (wpAny_bind ((intKind P w).pyHash (k := f i) (intKind_is _ _ _ _) ?_))
    have hr : (firstMet f i).length + 1 < scanBound := by have := firstMet_length_le f i; omega
    refine setR_add_hashed (s := { s2 with toks := s2.toks + 1 }) hS2 hr fun h3 sb hS3 => ?_
    have hS4 : SetR w h3 a (fun j => (firstMet f (i + 1)).any (· == j)) (firstMet f (i + 1)).length := by
      have e1 : (firstMet f (i + 1)).length = if (firstMet f i).any (· == f i) = true then (firstMet f i).length else (firstMet f i).length + 1 := by
        rw [firstMet_succ, step_length]
      rw [e1]
      exact hS3.congr fun j => by rw [firstMet_succ, step_any]
    refine wpAny_pure ⟨plainId_quiet F.plain_set_update_loop _, ih (i + 1) _ (by omega) lt (W.frame _ s2 _ _ st2 (Nat.le_succ _) fun b hb o z => ?_) hS4 fun s5 mv5 q5 => ?_⟩
    · rw [sb.2 b (fun y : b = a => ha (by rw [← y]; exact hb))]
      exact z
    · refine fin s5 (Moved.trans W.gtrans ((mv.mono more).then_heap (Nat.le_succ _) fun b o hb z => ?_) mv5) q5
      rw [sb.2 b (fun y : b = a => hb (by rw [y]; exact List.mem_cons_self))]
      exact z

/-- an empty set, as it is laid -/
abbrev bareSet (w : World) : Obj := { cls := .type "set", dict := none, data := .set #[] 0 (.fresh 0 0 (!w.params.followText "set-order")) }
theorem set_laid {s : Shared} {E : Value → Shared → Prop} {a : Value} {Q : Value → Shared → Prop} (h : Q (.ref s.heap.objs.size) { s with heap := s.heap.push (bareSet w) }) :
    codeAny (model P w) A (.call (.builtin "set.__new__") ⟨[.type "set", a], []⟩) (wants Q E) s := by
  refine codeAny_of_tree (show wpAny _ A.in1 (do checkBuiltinCall "set.__new__" ⟨[.type "set", a], []⟩; again (.builtin "set.__new__" ⟨[.type "set", a], []⟩)) _ _ s from ?_)
  refine wpAny_bind (wpAny_of_eq (F.newCall_set_1 a) ?_)
  refine wpAny_pure ⟨plainId_quiet F.plain_set_new _, codeAny_builtin F.entry_set_new ?_⟩
  rw [Around.under_plainId F.plain_set_new _]
  unfold Builtin.«set.__new__» Builtin.Frozenset.newClass
  have sub1 := sub_set_self
  obtain ⟨s1, s2, s3, s4, s5⟩ := s
  dsimp only
  wp_walk
  refine wpAny_askSetting (wpAny_pure ?_)
  dsimp only
  simp only [newObj]
  exact wpAny_bind (wpAny_alloc (wpAny_pure (wpAny_pure h)))
set_option maxHeartbeats 8000000 in
/-- set(l) -/
theorem setOfL {s : Shared} {E : Value → Shared → Prop} {l : Addr} {its : Array Value} {ns : List Int} {Q : Value → Shared → Prop} (noH : A.handled = none) (hl : s.heap.IsList l its) (hi : IntsAre its.toList ns) (room : its.size + 1 < scanBound)
    (h : ∀ (g : Heap) (tk : Nat), SetR w g s.heap.objs.size (fun j => (firstMet (fun i => ns.getD i 0) its.size).any (· == j)) (firstMet (fun i => ns.getD i 0) its.size).length →
      (∀ b o, b < s.heap.objs.size → s.heap.get? b = some o → g.get? b = some o) → Q (.ref s.heap.objs.size) { s with heap := g, toks := tk }) :
    wpAny (model P w) A (call (.type "set") [.ref l]) Q E s := by
  obtain ⟨c, tl, mro1⟩ := F.called_set.mro
  have made1 := F.called_set.made
  have sub1 := F.called_set.sub
  refine wpAny_call (codeAny_of_tree ?_)
  show wpAny _ _ (callAny (.type "set") _) _ _ _
  refine wpAny_pure ⟨Code.quiet_builtin _ (by decide +kernel), codeAny_builtin F.entry_type_call ?_⟩
  rw [Around.under_plain (weight_type_call_type "set" [.ref l] []) rfl]
  have f1 := F.called_set.notType
  have f2 := F.called_set.canCreate
  have f3 := F.typeCall_set_1 (.ref l)
  repeat (any_goals (first | assumption | wp_step))
  refine codeAny_mono (set_laid (a := .ref l) (E := E) (Q := fun u s1 => u = .ref s.heap.objs.size ∧ s1 = { s with heap := s.heap.push (bareSet w) }) ⟨rfl, rfl⟩) fun r s1 q => ?_
  cases r with
  | error e => exact q
  | ok fl =>
    cases fl with
    | ret u =>
      obtain ⟨rfl, rfl⟩ := q
      have at1 : (s.heap.push (bareSet w)).get? s.heap.objs.size = some (bareSet w) := Heap.get?_push_size _ rfl
      have ty1 : Shared.TypeIs { s with heap := s.heap.push (bareSet w) } (.ref s.heap.objs.size) "set" := ⟨_, at1, rfl⟩
      have look1 := F.called_set.init.lookup
      have bind1 := F.called_set.init.bind (.ref s.heap.objs.size)
      repeat (any_goals (first | assumption | wp_step))
      refine codeAny_mono (codeAny_call_builtin (R := wants (fun r s2 => r = .none ∧ ∃ g tk, s2 = { s with heap := g, toks := tk } ∧ SetR w g s.heap.objs.size (fun j => (firstMet (fun i => ns.getD i 0) its.size).any (· == j)) (firstMet (fun i => ns.getD i 0) its.size).length ∧
          (∀ b o, b < s.heap.objs.size → s.heap.get? b = some o → g.get? b = some o)) E) F.called_set.init.plain F.entry_set_init (check_set_init_1 ty1 ?_)) fun r2 s2 q2 => ?_
      · obtain ⟨ol, o1, o2, nl, o3⟩ := hl
        obtain ⟨p1, p2, p3, p4⟩ := ol
        simp only at o2 o3
        subst o2
        subst o3
        have at2 : (s.heap.push (bareSet w)).get? l = some { cls := .type "list", dict := p2, data := .seq its nl, slots := p4 } := Heap.get?_push_of_some _ o1
        have g1 := F.sub_list_set
        have g2 := F.sub_list_frozenset
        have g3 : (Value.type "list" == Value.type "dict") = false := by decide
        have hl1 : (s.heap.push (bareSet w)).IsList l its := ⟨_, at2, rfl, nl, rfl⟩
        unfold Builtin.«set.__init__» noKeywords Builtin.Frozenset.updateFrom
        generalize ePI : pyIter = PI
        wp_walk
        subst ePI
        refine wpAny_pyIter_list hl1 (wpAny_bind (wpAny_runValue ?_))
        have ltS : l < s.heap.objs.size := Heap.lt_size o1
        have noH3 : A.in1.in1.in1.handled = none := by simp [noH]
        have neI : l ≠ (s.heap.push (bareSet w)).objs.size := by
          rw [Heap.size_push]
          exact Nat.ne_of_lt (Nat.lt_succ_of_lt ltS)
        have notf : s.heap.objs.size ∉ [(s.heap.push (bareSet w)).objs.size, l] := by
          rw [Heap.size_push]
          simp only [List.mem_cons, List.mem_singleton, List.not_mem_nil, or_false, not_or]
          exact ⟨Nat.ne_of_lt (Nat.lt_succ_self _), Nat.ne_of_gt ltS⟩
        have vals : ∀ (i : Nat) (v : Value), its[i]? = some v → ∃ t, v = .int ((fun i => ns.getD i 0) i) t := fun i v e => IntsAre.int_at hi i v (by rw [Array.getElem?_toList]; exact e)
        refine fill_loop ((Walks.list noH3 _ l neI its).toS) s.heap.objs.size notf (fun i => ns.getD i 0) vals room (its.size - 0) 0 _ (by omega) (Nat.zero_le _) ⟨⟨_, Heap.get?_push_size _ rfl, rfl, rfl⟩, (hl1.push _)⟩ ?_ ?_
        · exact (setR_fresh w).at fun o e => Heap.get?_push_of_some _ e
        · intro s5 mv R5
          obtain ⟨h5, g5, d5, t5, os5⟩ := s5
          have eg : g5 = s.gens := mv.gens
          have ed : d5 = s.drawn := mv.drawn
          have eo : os5 = s.os := mv.os
          subst eg ed eo
          refine wpAny_pure (show wpAny _ _ (ret Value.none) _ _ _ from wpAny_pure ⟨rfl, h5, t5, rfl, R5, fun b o lt e => ?_⟩)
          have n1 : b ≠ s.heap.objs.size := Nat.ne_of_lt lt
          have n2 : b ≠ (s.heap.push (bareSet w)).objs.size := by
            rw [Heap.size_push]
            exact Nat.ne_of_lt (Nat.lt_succ_of_lt lt)
          refine mv.heap b o ?_ (Heap.get?_push_of_some _ (Heap.get?_push_of_some _ e))
          simp only [List.mem_cons, List.mem_singleton, List.not_mem_nil, or_false, not_or]
          exact ⟨n1, n2⟩
      · cases r2 with
        | error e => exact q2
        | ok fl2 =>
          cases fl2 with
          | ret r =>
            obtain ⟨rfl, g, tk, rfl, R5, keep⟩ := q2
            repeat (any_goals (first | assumption | wp_step))
            exact h _ _ R5 keep
          | _ => exact q2.elim
    | _ => exact q.elim
end
section
variable {X : Cx}
def rSetI (K : PySem.W.Frag) (w : World) : List V → Hp → VK → Prop := fun vs H Q => ∃ (a : Addr) (ns : List Int), vs = [V.ref a] ∧ SqL K H a (ns.map V.int) ∧ ns.length ≤ 1000 ∧
  ∀ (p : Addr) (S : Int → Bool), H p = none → (∀ k, S k = true ↔ k ∈ ns) → Q (.ref p) (L2.upd H p (SetO w p S (uniqI ns).length))
theorem met_mem {ns : List Int} {k : Int} : (firstMet (fun i => ns.getD i 0) ns.length).any (· == k) = true ↔ k ∈ ns := by
  rw [firstMet_any, List.any_eq_true]
  constructor
  · rintro ⟨x, m, e⟩
    obtain ⟨i, hi, rfl⟩ := List.mem_map.mp m
    rw [List.mem_range] at hi
    rw [← eq_of_beq e, List.getD_eq_getElem?_getD, List.getElem?_eq_getElem hi]
    exact List.getElem_mem hi
  · intro m
    obtain ⟨i, hi, e⟩ := List.mem_iff_getElem.mp m
    refine ⟨k, List.mem_map.mpr ⟨i, List.mem_range.mpr hi, ?_⟩, beq_self_eq_true k⟩
    rw [List.getD_eq_getElem?_getD, List.getElem?_eq_getElem hi]
    exact e
theorem set_size {w : World} {h : Heap} {a : Addr} {S : Int → Bool} {n : Nat} {ns : List Int} (R : SetR w h a S n) (hS : ∀ k, S k = true ↔ k ∈ ns) : n = (uniqI ns).length := by
  obtain ⟨o, es, ep, t, ho, hex, hd, g, nd, hm, hb, hf, hn, hr⟩ := R
  have e := nodup_len nd (up_nodup (uniq_up ns)) fun k => by rw [← hm, hS, uniq_mem]
  rw [List.length_map, Array.length_toList, hn] at e
  exact e
theorem cr_setI (hc : X.calm = true) : CallR X (.type "set") (rSetI X.K X.w) := by
  intro pins s σ H vs us Q I r h
  obtain ⟨a, ns, rfl, hs, hl, q⟩ := h
  obtain ⟨its, rv, il, hz⟩ := I.list hs
  rw [Vals.ref1 r]
  have hi : IntsAre its ns := rv.ints
  have el : its.length = ns.length := hi.length
  refine setOfL (its := its.toArray) (ns := ns) (I.ok.hd hc) il.isList (by simpa using hi) (by rw [List.size_toArray, el]; unfold scanBound; omega) fun g tk R keep => ?_
  have esz : its.toArray.size = ns.length := by rw [List.size_toArray, el]
  rw [esz] at R
  have mem : ∀ k, (firstMet (fun i => ns.getD i 0) ns.length).any (· == k) = true ↔ k ∈ ns := fun k => met_mem
  rw [set_size R mem] at R
  have kp : ∀ b o, s.heap.get? b = some o → g.get? b = some o := fun b o e => keep b o (Heap.lt_size e) e
  have hn : H s.heap.objs.size = none := I.hok.fresh (Nat.le_refl _)
  have J : Inv X pins σ (L2.upd H s.heap.objs.size (SetO X.w s.heap.objs.size (fun j => (firstMet (fun i => ns.getD i 0) ns.length).any (· == j)) (uniqI ns).length)) { s with heap := g, toks := tk } :=
    I.laid kp (Nat.le_refl _) (setO_new R)
  exact ⟨.ref s.heap.objs.size, _, J, rfl, q _ _ hn mem⟩
def rLenSet (w : World) : List V → Hp → VK → Prop := fun vs H Q => ∃ (a : Addr) (S : Int → Bool) (n : Nat), vs = [V.ref a] ∧ H a = some (SetO w a S n) ∧ n ≤ 1000 ∧ Q (.int n) H
theorem cr_lenSet : CallR X (.builtin "len") (rLenSet X.w) := by
  intro pins s σ H vs us Q I r h
  obtain ⟨a, S, n, rfl, ha, hn, q⟩ := h
  obtain ⟨o, es, ep, t, ho, hex, hd, _, _, _, _, hf, en, _⟩ := setO_get I ha
  rw [Vals.ref1 r]
  have fit : (es.size : Int) < 2 ^ 63 := by
    have : (2 : Int) ^ 63 = 9223372036854775808 := by decide
    omega
  refine call_len_set ho hex hd hf fit ?_
  exact ⟨.int n, H, I.kept fun _ _ z => z, ⟨_, by rw [en]⟩, q⟩
end
end SS

end

section
set_option linter.all false
set_option autoImplicit false
set_option maxRecDepth 100000
set_option maxHeartbeats 4000000
/-! What is walked, flat targets, comprehensions. -/
namespace SS
open PySem PySem.Spec PyProof.Rows L2
variable [Tabl]

/-! ### what is walked -/
structure Serves (J : It) (ds : List D) (T : List Addr → List Addr → Hp → Prop) : Prop where
  keep : ∀ {W M H W' M' H'}, T W M H → Keeps W H W' H' → Keeps M H M' H' → T W' M' H'
  go : ∀ {W M H i}, T W M H → i < ds.length → J.go i H
  yld : ∀ {W M H i x H'}, T W M H → i < ds.length → J.yld i H x H' → (∀ p, H p = none → p ∉ M) → ∃ d, ds[i]? = some d ∧ VR M H' d x ∧ (H' = H ∨ ∃ p u, H p = none ∧ H' = upd H p u)
  stop : ∀ {W M H i}, T W M H → ds.length ≤ i → J.stop i H

/-- the list at a, as it stood -/
def stL (a : Addr) (ds : List D) : List Addr → List Addr → Hp → Prop := fun W M H => ∃ xs, a ∉ W ∧ H a = some (.lst xs) ∧ VRs M H ds xs
def stT (a : Addr) (ds : List D) : List Addr → List Addr → Hp → Prop := fun W M H => ∃ xs, a ∉ W ∧ H a = some (.tup xs) ∧ VRs M H ds xs
theorem stL.keep {a : Addr} {ds : List D} {W M W' M' : List Addr} {H H' : Hp} (h : stL a ds W M H) (k : Keeps W H W' H') (l : Keeps M H M' H') : stL a ds W' M' H' := by
  obtain ⟨xs, n, e, r⟩ := h
  exact ⟨xs, (k _ _ e nt_lst n).2, (k _ _ e nt_lst n).1, r.mono l⟩
theorem stT.keep {a : Addr} {ds : List D} {W M W' M' : List Addr} {H H' : Hp} (h : stT a ds W M H) (k : Keeps W H W' H') (l : Keeps M H M' H') : stT a ds W' M' H' := by
  obtain ⟨xs, n, e, r⟩ := h
  exact ⟨xs, (k _ _ e nt_tup n).2, (k _ _ e nt_tup n).1, r.mono l⟩
theorem sqL_of_lst {K : PySem.W.Frag} {H : Hp} {a : Addr} {xs ys : List V} {n : V} {i : Nat} (e : H a = some (.lst xs)) (f : ∀ ys, SqL K H a ys → ys[i]? = some n) : xs[i]? = some n := f xs (SqL.of e)
theorem serves_list {K : PySem.W.Frag} {a : Addr} {ds : List D} : Serves (Itl K a) ds (stL a ds) where
  keep := stL.keep
  go := fun ⟨xs, _, e, r⟩ h => by
    obtain ⟨x, hx, _⟩ := r.get (List.getElem?_eq_getElem h)
    exact ⟨xs, x, SqL.of e, hx⟩
  yld := fun ⟨xs, _, e, r⟩ h ⟨q, f⟩ _ => by
    obtain ⟨x, hx, rx⟩ := r.get (List.getElem?_eq_getElem h)
    have := f xs (SqL.of e)
    rw [hx] at this
    cases this
    subst q
    exact ⟨_, List.getElem?_eq_getElem h, rx, .inl rfl⟩
  stop := fun ⟨xs, _, e, r⟩ h => ⟨xs, SqL.of e, by rw [r.length]; exact h⟩
theorem serves_tup {K : PySem.W.Frag} {a : Addr} {ds : List D} : Serves (Itt K a) ds (stT a ds) where
  keep := stT.keep
  go := fun ⟨xs, _, e, r⟩ h => by
    obtain ⟨x, hx, _⟩ := r.get (List.getElem?_eq_getElem h)
    exact ⟨xs, x, SqT.of e, hx⟩
  yld := fun ⟨xs, _, e, r⟩ h ⟨q, f⟩ _ => by
    obtain ⟨x, hx, rx⟩ := r.get (List.getElem?_eq_getElem h)
    have := f xs (SqT.of e)
    rw [hx] at this
    cases this
    subst q
    exact ⟨_, List.getElem?_eq_getElem h, rx, .inl rfl⟩
  stop := fun ⟨xs, _, e, r⟩ h => ⟨xs, SqT.of e, by rw [r.length]; exact h⟩
theorem rangeD_at {a b : Int} {i : Nat} (h : i < (rangeD a b).length) : (rangeD a b)[i]? = some (.int (a + (i : Nat))) := by
  unfold rangeD at h ⊢
  rw [List.length_map, List.length_range] at h
  rw [List.getElem?_map, List.getElem?_range h]
  rfl
theorem rangeD_len {a b : Int} : (rangeD a b).length = (b - a).toNat := by
  unfold rangeD
  rw [List.length_map, List.length_range]
theorem serves_range {a b : Int} : Serves (Itr a (b - a).toNat) (rangeD a b) (fun _ _ _ => True) where
  keep := fun _ _ _ => trivial
  go := fun _ h => by
    rw [rangeD_len] at h
    exact h
  yld := fun _ h ⟨q, e⟩ _ => by
    subst q
    subst e
    exact ⟨_, rangeD_at h, by simp only [VR], .inl rfl⟩
  stop := fun _ h => by
    rw [rangeD_len] at h
    exact h
theorem enumD_len {xs : List D} : (enumD xs).length = xs.length := by
  unfold enumD
  rw [List.length_zipWith, List.length_range, Nat.min_self]
theorem enumD_at {xs : List D} {i : Nat} {x : D} (h : xs[i]? = some x) : (enumD xs)[i]? = some (.tuple [.int (i : Nat), x]) := by
  have hl : i < xs.length := by
    rcases Nat.lt_or_ge i xs.length with q | q
    · exact q
    · rw [List.getElem?_eq_none q] at h; cases h
  unfold enumD
  rw [List.getElem?_zipWith, List.getElem?_range hl, h]
theorem zipD_len {xs ys : List D} : (zipD xs ys).length = min xs.length ys.length := by
  unfold zipD
  rw [List.length_zipWith]
theorem zipD_at {xs ys : List D} {i : Nat} {x y : D} (h : xs[i]? = some x) (h' : ys[i]? = some y) : (zipD xs ys)[i]? = some (.tuple [x, y]) := by
  unfold zipD
  rw [List.getElem?_zipWith, h, h']
theorem pair_new {M : List Addr} {H : Hp} {p : Addr} {d e : D} {x y : V} (hp : H p = none) (n : p ∉ M) (h1 : VR M H d x) (h2 : VR M H e y) : VR M (upd H p (.tup [x, y])) (.tuple [d, e]) (.ref p) := by
  have k : Keeps M H M (upd H p (.tup [x, y])) := fun b u q _ m => ⟨by rw [upd_ne (ne_of_none q hp)]; exact q, m⟩
  exact ⟨p, [x, y], rfl, n, upd_same, by show 2 ≤ sizeLine; decide, .cons (h1.mono k) (.cons (h2.mono k) .nil)⟩
theorem serves_enum {K : PySem.W.Frag} {a : Addr} {ds : List D} : Serves (Ite K a) (enumD ds) (stL a ds) where
  keep := stL.keep
  go := fun ⟨xs, _, e, r⟩ h => by
    rw [enumD_len] at h
    obtain ⟨x, hx, _⟩ := r.get (List.getElem?_eq_getElem h)
    exact ⟨xs, x, SqL.of e, hx⟩
  yld := fun ⟨xs, _, e, r⟩ h ⟨T, x', ev, nT, q, f⟩ fr => by
    rw [enumD_len] at h
    obtain ⟨x, hx, rx⟩ := r.get (List.getElem?_eq_getElem h)
    have := f xs (SqL.of e)
    rw [hx] at this
    cases this
    subst q
    subst ev
    exact ⟨_, enumD_at (List.getElem?_eq_getElem h), pair_new nT (fr _ nT) (by simp only [VR]) rx, .inr ⟨T, _, nT, rfl⟩⟩
  stop := fun ⟨xs, _, e, r⟩ h => ⟨xs, SqL.of e, by rw [r.length, ← enumD_len]; exact h⟩
theorem serves_enumT {K : PySem.W.Frag} {a : Addr} {ds : List D} : Serves (IteT K a) (enumD ds) (stT a ds) where
  keep := stT.keep
  go := fun ⟨xs, _, e, r⟩ h => by
    rw [enumD_len] at h
    obtain ⟨x, hx, _⟩ := r.get (List.getElem?_eq_getElem h)
    exact ⟨xs, x, SqT.of e, hx⟩
  yld := fun ⟨xs, _, e, r⟩ h ⟨T, x', ev, nT, q, f⟩ fr => by
    rw [enumD_len] at h
    obtain ⟨x, hx, rx⟩ := r.get (List.getElem?_eq_getElem h)
    have := f xs (SqT.of e)
    rw [hx] at this
    cases this
    subst q
    subst ev
    exact ⟨_, enumD_at (List.getElem?_eq_getElem h), pair_new nT (fr _ nT) (by simp only [VR]) rx, .inr ⟨T, _, nT, rfl⟩⟩
  stop := fun ⟨xs, _, e, r⟩ h => ⟨xs, SqT.of e, by rw [r.length, ← enumD_len]; exact h⟩
theorem serves_zip {K : PySem.W.Frag} {a b : Addr} {ds es : List D} : Serves (Itz K a b) (zipD ds es) (fun W M H => stL a ds W M H ∧ stL b es W M H) where
  keep := fun h k l => ⟨h.1.keep k l, h.2.keep k l⟩
  go := fun ⟨⟨xs, _, e, r⟩, ⟨ys, _, e', r'⟩⟩ h => by
    rw [zipD_len] at h
    have h1 := Nat.lt_of_lt_of_le h (Nat.min_le_left _ _)
    have h2 := Nat.lt_of_lt_of_le h (Nat.min_le_right _ _)
    obtain ⟨x, hx, _⟩ := r.get (List.getElem?_eq_getElem h1)
    obtain ⟨y, hy, _⟩ := r'.get (List.getElem?_eq_getElem h2)
    exact ⟨xs, ys, x, y, SqL.of e, SqL.of e', hx, hy⟩
  yld := fun ⟨⟨xs, _, e, r⟩, ⟨ys, _, e', r'⟩⟩ h ⟨T, x', y', ev, nT, q, f, f'⟩ fr => by
    rw [zipD_len] at h
    have h1 := Nat.lt_of_lt_of_le h (Nat.min_le_left _ _)
    have h2 := Nat.lt_of_lt_of_le h (Nat.min_le_right _ _)
    obtain ⟨x, hx, rx⟩ := r.get (List.getElem?_eq_getElem h1)
    obtain ⟨y, hy, ry⟩ := r'.get (List.getElem?_eq_getElem h2)
    have z := f xs (SqL.of e)
    rw [hx] at z
    cases z
    have z := f' ys (SqL.of e')
    rw [hy] at z
    cases z
    subst q
    subst ev
    exact ⟨_, zipD_at (List.getElem?_eq_getElem h1) (List.getElem?_eq_getElem h2), pair_new nT (fr _ nT) rx ry, .inr ⟨T, _, nT, rfl⟩⟩
  stop := fun ⟨⟨xs, _, e, r⟩, ⟨ys, _, e', r'⟩⟩ h => ⟨xs, ys, SqL.of e, SqL.of e', by
    rw [r.length, r'.length]
    rw [zipD_len] at h
    omega⟩
theorem serves_zipT {K : PySem.W.Frag} {a b : Addr} {ds es : List D} : Serves (RZ.ItzT K a b) (zipD ds es) (fun W M H => stT a ds W M H ∧ stT b es W M H) where
  keep := fun h k l => ⟨h.1.keep k l, h.2.keep k l⟩
  go := fun ⟨⟨xs, _, e, r⟩, ⟨ys, _, e', r'⟩⟩ h => by
    rw [zipD_len] at h
    have h1 := Nat.lt_of_lt_of_le h (Nat.min_le_left _ _)
    have h2 := Nat.lt_of_lt_of_le h (Nat.min_le_right _ _)
    obtain ⟨x, hx, _⟩ := r.get (List.getElem?_eq_getElem h1)
    obtain ⟨y, hy, _⟩ := r'.get (List.getElem?_eq_getElem h2)
    exact ⟨xs, ys, x, y, SqT.of e, SqT.of e', hx, hy⟩
  yld := fun ⟨⟨xs, _, e, r⟩, ⟨ys, _, e', r'⟩⟩ h ⟨T, x', y', ev, nT, q, f, f'⟩ fr => by
    rw [zipD_len] at h
    have h1 := Nat.lt_of_lt_of_le h (Nat.min_le_left _ _)
    have h2 := Nat.lt_of_lt_of_le h (Nat.min_le_right _ _)
    obtain ⟨x, hx, rx⟩ := r.get (List.getElem?_eq_getElem h1)
    obtain ⟨y, hy, ry⟩ := r'.get (List.getElem?_eq_getElem h2)
    have z := f xs (SqT.of e)
    rw [hx] at z
    cases z
    have z := f' ys (SqT.of e')
    rw [hy] at z
    cases z
    subst q
    subst ev
    exact ⟨_, zipD_at (List.getElem?_eq_getElem h1) (List.getElem?_eq_getElem h2), pair_new nT (fr _ nT) rx ry, .inr ⟨T, _, nT, rfl⟩⟩
  stop := fun ⟨⟨xs, _, e, r⟩, ⟨ys, _, e', r'⟩⟩ h => ⟨xs, ys, SqT.of e, SqT.of e', by
    rw [r.length, r'.length]
    rw [zipD_len] at h
    omega⟩

section
variable {g : Sg} {N : List Str} {sc : Scope} {k : Nat} {F : Call} {c : Ct} {X : Cx}
/-- an iterator that serves; W: what may change meanwhile -/
def rI (st : Bool) (O : List Addr) : Hp → List Addr → Cells → Hp → List D → It → Prop := fun _ C' _ H' ds J => ∃ T, Serves J ds T ∧ T (if st then C' ++ O else C') (C' ++ O) H'
theorem rI.up {st : Bool} {O : List Addr} : Up O (rI st O) := fun _ _ _ _ _ _ _ _ _ _ _ q => q
def tI (c : Ct) (F : Call) (st : Bool) (e : Src) : TI := fun σ H R => ∃ C O ρ S, Rel c C O ρ S σ H ∧ Post c O (rI st O) C H σ R (evalSrc F st e ρ S)

theorem rE.src {O C' : List Addr} {H H' : Hp} {S' : Cells} (ok : Ok C' O S' H') {st : Bool} {x : EV} {v : V} (h : rE c O H C' S' H' x v) {ds : List D} (e : x.srcD st = some (.list ds)) :
    ∃ a xs, v = .ref a ∧ H' a = some (.lst xs) ∧ stL a ds (if st then C' ++ O else C') (C' ++ O) H' := by
  cases st with
  | true =>
    obtain ⟨a, xs, ev, n, hh, _, r⟩ := h.strict ok _ e
    exact ⟨a, xs, ev, hh, xs, n, hh, r⟩
  | false =>
    obtain ⟨a, xs, ev, n, hh, _, r⟩ := h.asD ok _ e
    exact ⟨a, xs, ev, hh, xs, n, hh, r⟩
theorem rE.srcT {O C' : List Addr} {H H' : Hp} {S' : Cells} (ok : Ok C' O S' H') {st : Bool} {x : EV} {v : V} (h : rE c O H C' S' H' x v) {ds : List D} (e : x.srcD st = some (.tuple ds)) :
    ∃ a xs, v = .ref a ∧ H' a = some (.tup xs) ∧ stT a ds (if st then C' ++ O else C') (C' ++ O) H' := by
  have e' : x = .d (.tuple ds) := by
    cases x <;> cases st <;> simp [EV.srcD, EV.strict, EV.asD] at e <;> rw [e]
  subst e'
  obtain ⟨a, xs, ev, n, hh, _, r⟩ := h.1
  refine ⟨a, xs, ev, hh, xs, ?_, hh, r⟩
  cases st with
  | true => exact n
  | false => exact fun q => n (List.mem_append_left _ q)
theorem psrc_it {st : Bool} {e : IE} {y tg : Expr} (h : mSrc g N sc (.it e) y = true) (he : ∀ {y}, mE g N sc e y = true → PE X y (tE c F e)) : PI X tg y (tI c F st (.it e)) := by
  simp only [mSrc, Bool.and_eq_true] at h
  refine PI.imp (PI.either (pi_list (he h.2)) (pi_tup (he h.2))) fun σ H Rr ⟨C, O, ρ, S, R, P⟩ => ?_
  simp only [evalSrc] at P
  cases hr : evalE F e ρ S with
  | bad =>
    rw [hr] at P
    exact P.elim
  | exc n x S1 =>
    rw [hr] at P
    refine .inl ⟨C, O, ρ, S, R, ?_⟩
    rw [hr]
    exact P
  | ok r S1 =>
    rw [hr] at P
    simp only [Res.bind_ok] at P
    obtain ⟨ds, e1, P2⟩ := P.lft
    simp only [Option.bind_eq_some_iff] at e1
    obtain ⟨d, e1, e2⟩ := e1
    cases d with
    | list xs =>
      cases e2
      refine .inl ⟨C, O, ρ, S, R, ?_⟩
      rw [hr]
      intro v H1 C1 a q
      obtain ⟨b, us, ev, hb, s⟩ := q.src a.ok e1
      exact ⟨b, ev, ⟨us, SqL.of hb⟩, P2 (Itl X.K b) H1 C1 a ⟨_, serves_list, s⟩⟩
    | tuple xs =>
      cases e2
      refine .inr ⟨C, O, ρ, S, R, ?_⟩
      rw [hr]
      intro v H1 C1 a q
      obtain ⟨b, us, ev, hb, s⟩ := q.srcT a.ok e1
      exact ⟨b, ev, ⟨us, SqT.of hb⟩, P2 (Itt X.K b) H1 C1 a ⟨_, serves_tup, s⟩⟩
    | _ => cases e2
theorem pa_one {x : Expr} {t : TE} (h : PE X x t) (hs : starB x = true) : PA X [x] (tCons t tNil) := pa_cons h pa_nil (star_of hs)
theorem pa_two {x z : Expr} {t u : TE} (h : PE X x t) (h' : PE X z u) (hs : starB x = true) (hs' : starB z = true) : PA X [x, z] (tCons t (tCons u tNil)) := pa_cons h (pa_one h' hs') (star_of hs)
theorem psrc_rng1 (x : XOk g N sc k F c X) {st : Bool} {a : IE} {y tg : Expr} (h : mSrc g N sc (.rng1 a) y = true) (ha : ∀ {y}, mE g N sc a y = true → PE X y (tE c F a)) : PI X tg y (tI c F st (.rng1 a)) := by
  simp only [mSrc] at h
  split at h
  · simp only [Bool.and_eq_true, decide_eq_true_eq] at h
    obtain ⟨⟨⟨e1, hb⟩, hs⟩, h4⟩ := h
    subst e1
    obtain ⟨b1, b2, _, _⟩ := blt_of x hb
    refine PI.imp (pi_range1 b1 b2 (pa_one (ha h4) hs) (by rw [star_of hs]; rfl)) fun σ H Rr ⟨C, O, ρ, S, R, P⟩ => ?_
    simp only [evalSrc] at P
    refine ⟨C, O, ρ, S, R, Post.bind rI.up P fun r S1 v H1 C1 a1 q P1 => ?_⟩
    obtain ⟨n, e, P2⟩ := P1.lft
    have e := dInt_some e
    subst e
    obtain ⟨hn0, P3⟩ := P2.iff
    have hn : -1000000 ≤ n ∧ n ≤ 1000000 := by omega
    have ev : v = .int n := q.1
    subst ev
    refine ⟨n, rfl, by omega, by omega, P3 (Itr 0 n.toNat) H1 C1 a1.ok.aft ⟨fun _ _ _ => True, ?_, trivial⟩⟩
    have := serves_range (a := 0) (b := n)
    rw [Int.sub_zero] at this
    exact this
  · cases h
theorem psrc_rng2 (x : XOk g N sc k F c X) {st : Bool} {a b : IE} {y tg : Expr} (h : mSrc g N sc (.rng2 a b) y = true) (ha : ∀ {y}, mE g N sc a y = true → PE X y (tE c F a)) (hb : ∀ {y}, mE g N sc b y = true → PE X y (tE c F b)) : PI X tg y (tI c F st (.rng2 a b)) := by
  simp only [mSrc] at h
  split at h
  · simp only [Bool.and_eq_true, decide_eq_true_eq] at h
    obtain ⟨⟨⟨⟨⟨e1, hbb⟩, hs⟩, hs'⟩, h4⟩, h5⟩ := h
    subst e1
    obtain ⟨b1, b2, _, _⟩ := blt_of x hbb
    refine PI.imp (pi_range2 b1 b2 (pa_two (ha h4) (hb h5) hs hs') (by rw [star_of hs, star_of hs']; rfl) (by rw [star_of hs']; rfl)) fun σ H Rr ⟨C, O, ρ, S, R, P⟩ => ?_
    simp only [evalSrc] at P
    refine ⟨C, O, ρ, S, R, Post.bind rI.up P fun r S1 v H1 C1 a1 q P1 => ⟨C1, O, ρ, S1, R.aft a1, Post.bind rI.up P1 fun r2 S2 v2 H2 C2 a2 q2 P2 => ?_⟩⟩
    obtain ⟨m, e, P3⟩ := P2.lft
    obtain ⟨n, e', P4⟩ := P3.lft
    have e := dInt_some e
    subst e
    have e' := dInt_some e'
    subst e'
    obtain ⟨hn0, P5⟩ := P4.iff
    have hn : (-1000000 ≤ m ∧ m ≤ 1000000) ∧ -1000000 ≤ n ∧ n ≤ 1000000 := by omega
    have ev : v = .int m := q.1
    have ev2 : v2 = .int n := q2.1
    subst ev
    subst ev2
    exact ⟨m, n, rfl, ⟨by omega, by omega, by omega, by omega⟩, P5 (Itr m (n - m).toNat) H2 C2 a2.ok.aft ⟨fun _ _ _ => True, serves_range, trivial⟩⟩
  · cases h
theorem rangedD_len {a b : Int} : (rangedD a b).length = (a - b).toNat := by
  unfold rangedD
  rw [List.length_map, List.length_range]
theorem rangedD_at {a b : Int} {i : Nat} (h : i < (rangedD a b).length) : (rangedD a b)[i]? = some (.int (a + (i : Nat) * (-1))) := by
  rw [rangedD_len] at h
  unfold rangedD
  rw [List.getElem?_map, List.getElem?_range h]
  show some (PyData.int (a - (i : Nat))) = _
  congr 2
  omega
theorem serves_ranged {a b : Int} : Serves (Itc a (-1) (a - b).toNat) (rangedD a b) (fun _ _ _ => True) where
  keep := fun _ _ _ => trivial
  go := fun _ h => by
    rw [rangedD_len] at h
    exact h
  yld := fun _ h ⟨q, e⟩ _ => by
    subst q
    subst e
    exact ⟨_, rangedD_at h, by simp only [VR], .inl rfl⟩
  stop := fun _ h => by
    rw [rangedD_len] at h
    exact h
theorem minus1E {s : Expr} (h : isMinus1 s = true) : ∃ k p1 p2, s = .UnaryOp .USub (.Constant (.int 1) k p1) p2 := by
  unfold isMinus1 at h
  split at h
  · have e := of_decide_eq_true h
    subst e
    exact ⟨_, _, _, rfl⟩
  · cases h
theorem psrc_rngd (x : XOk g N sc k F c X) {st : Bool} {a b : IE} {y tg : Expr} (h : mSrc g N sc (.rngd a b) y = true) (ha : ∀ {y}, mE g N sc a y = true → PE X y (tE c F a)) (hb : ∀ {y}, mE g N sc b y = true → PE X y (tE c F b)) : PI X tg y (tI c F st (.rngd a b)) := by
  simp only [mSrc] at h
  split at h
  · simp only [Bool.and_eq_true, decide_eq_true_eq] at h
    obtain ⟨⟨⟨⟨⟨⟨⟨e1, hbb⟩, hs⟩, hs'⟩, hs''⟩, hm⟩, h4⟩, h5⟩ := h
    subst e1
    obtain ⟨b1, b2, _, _⟩ := blt_of x hbb
    obtain ⟨kk, p1, p2, rfl⟩ := minus1E hm
    refine PI.imp (pi_range3 b1 b2 (pa_cons (ha h4) (pa_two (hb h5) (pe_un un_neg pe_int) hs' hs'') (star_of hs)) (by rw [star_of hs]) (by rw [star_of hs', star_of hs'']; rfl)) fun σ H Rr ⟨C, O, ρ, S, R, P⟩ => ?_
    simp only [evalSrc] at P
    refine ⟨C, O, ρ, S, R, Post.bind rI.up P fun r S1 v H1 C1 a1 q P1 => ⟨C1, O, ρ, S1, R.aft a1, Post.bind rI.up P1 fun r2 S2 v2 H2 C2 a2 q2 P2 => ?_⟩⟩
    obtain ⟨m, e, P3⟩ := P2.lft
    obtain ⟨n, e', P4⟩ := P3.lft
    have e := dInt_some e
    subst e
    have e' := dInt_some e'
    subst e'
    obtain ⟨hn0, P5⟩ := P4.iff
    have hn : (-1000000 ≤ m ∧ m ≤ 1000000) ∧ -1000000 ≤ n ∧ n ≤ 1000000 := by omega
    have ev : v = .int m := q.1
    have ev2 : v2 = .int n := q2.1
    subst ev
    subst ev2
    exact ⟨1, rfl, m, n, -1, (m - n).toNat, rfl, RgC.neg (by omega) (by omega) (by omega) (by omega), P5 (Itc m (-1) (m - n).toNat) H2 C2 a2.ok.aft ⟨fun _ _ _ => True, serves_ranged, trivial⟩⟩
  · cases h
theorem psrc_enum (x : XOk g N sc k F c X) {st : Bool} {e : IE} {y : Expr} {elts : List Expr} {kk : Nat} {tp : Pos} (h : mSrc g N sc (.enum e) y = true) (he : ∀ {y}, mE g N sc e y = true → PE X y (tE c F e)) : PI X (.Tuple elts kk tp) y (tI c F st (.enum e)) := by
  simp only [mSrc] at h
  split at h
  · rename_i nm pn z pc
    simp only [Bool.and_eq_true, decide_eq_true_eq] at h
    obtain ⟨⟨⟨e1, hb⟩, hs⟩, h4⟩ := h
    subst e1
    obtain ⟨b1, b2, _, _⟩ := blt_of x hb
    have hst : starEach [z] X.env = [(false, eval z X.env)] := by
      rw [star_of hs]
      rfl
    refine PI.imp (PI.either (pi_enum b1 b2 (pa_one (he h4) hs) hst) (pi_enumT b1 b2 (pa_one (he h4) hs) hst)) fun σ H Rr ⟨C, O, ρ, S, R, P⟩ => ?_
    simp only [evalSrc] at P
    cases hr : evalE F e ρ S with
    | bad =>
      rw [hr] at P
      exact P.elim
    | exc n x S1 =>
      rw [hr] at P
      refine .inl ⟨C, O, ρ, S, R, ?_⟩
      rw [hr]
      exact P
    | ok r S1 =>
      rw [hr] at P
      simp only [Res.bind_ok] at P
      obtain ⟨ds, e1, P2⟩ := P.lft
      simp only [Option.bind_eq_some_iff] at e1
      obtain ⟨d, e1, e2⟩ := e1
      cases d with
      | list xs =>
        cases e2
        refine .inl ⟨C, O, ρ, S, R, ?_⟩
        rw [hr]
        intro v H1 C1 a q
        obtain ⟨b, us, ev, hb, s⟩ := q.src a.ok e1
        subst ev
        exact ⟨b, us, rfl, SqL.of hb, P2 (Ite X.K b) H1 C1 a ⟨_, serves_enum, s⟩⟩
      | tuple xs =>
        cases e2
        refine .inr ⟨C, O, ρ, S, R, ?_⟩
        rw [hr]
        intro v H1 C1 a q
        obtain ⟨b, us, ev, hb, s⟩ := q.srcT a.ok e1
        subst ev
        exact ⟨b, us, rfl, SqT.of hb, P2 (IteT X.K b) H1 C1 a ⟨_, serves_enumT, s⟩⟩
      | _ => cases e2
  · cases h
theorem psrc_zip (x : XOk g N sc k F c X) {st : Bool} {e e' : IE} {y : Expr} {elts : List Expr} {kk : Nat} {tp : Pos} (h : mSrc g N sc (.zip e e') y = true) (he : ∀ {y}, mE g N sc e y = true → PE X y (tE c F e)) (he' : ∀ {y}, mE g N sc e' y = true → PE X y (tE c F e')) : PI X (.Tuple elts kk tp) y (tI c F st (.zip e e')) := by
  simp only [mSrc] at h
  split at h
  · simp only [Bool.and_eq_true, decide_eq_true_eq] at h
    obtain ⟨⟨⟨⟨⟨e1, hb⟩, hs⟩, hs'⟩, h4⟩, h5⟩ := h
    subst e1
    obtain ⟨b1, b2, _, _⟩ := blt_of x hb
    refine PI.imp (RZ.pi_zipA b1 b2 (pa_two (he h4) (he' h5) hs hs') (star_of hs) (by rw [star_of hs']; rfl)) fun σ H Rr ⟨C, O, ρ, S, R, P⟩ => ?_
    simp only [evalSrc] at P
    refine ⟨C, O, ρ, S, R, Post.bind rI.up P fun r S1 v H1 C1 a1 q P1 => ⟨C1, O, ρ, S1, R.aft a1, Post.bind rI.up P1 fun r2 S2 v2 H2 C2 a2 q2 P2 => ?_⟩⟩
    obtain ⟨ds, e1, P3⟩ := P2.lft
    simp only [Option.bind_eq_some_iff] at e1
    obtain ⟨d1, e1, d2, e2, e3⟩ := e1
    have kp := a2.keeps
    have kw : Keeps (if st then C1 ++ O else C1) H1 (if st then C2 ++ O else C2) H2 := by
      cases st with
      | true => exact kp
      | false =>
        intro b u hb t n
        refine ⟨a2.ext b u hb t n, fun z => ?_⟩
        rcases a2.new b z with z | z
        · exact n z
        · rw [z] at hb; cases hb
    cases d1 with
    | list xs =>
      cases d2 with
      | list ys =>
        cases e3
        obtain ⟨b, us, ev, hb, s⟩ := q.src a1.ok e1
        obtain ⟨b', us', ev', hb', s'⟩ := q2.src a2.ok e2
        subst ev
        subst ev'
        have s2 := s.keep kw kp
        obtain ⟨vs, _, hb2, _⟩ := id s2
        exact ⟨b, b', vs, us', rfl, .inl ⟨SqL.of hb2, SqL.of hb', P3 (Itz X.K b b') H2 C2 a2.ok.aft ⟨_, serves_zip, s2, s'⟩⟩⟩
      | _ => cases e3
    | tuple xs =>
      cases d2 with
      | tuple ys =>
        cases e3
        obtain ⟨b, us, ev, hb, s⟩ := q.srcT a1.ok e1
        obtain ⟨b', us', ev', hb', s'⟩ := q2.srcT a2.ok e2
        subst ev
        subst ev'
        have s2 := s.keep kw kp
        obtain ⟨vs, _, hb2, _⟩ := id s2
        exact ⟨b, b', vs, us', rfl, .inr ⟨SqT.of hb2, SqT.of hb', P3 (RZ.ItzT X.K b b') H2 C2 a2.ok.aft ⟨_, serves_zipT, s2, s'⟩⟩⟩
      | _ => cases e3
    | _ => cases d2 <;> cases e3
  · cases h

/-! ### flat targets -/
def tgsIx : Tgs → List Nat
  | .nil => []
  | .cons (.nm i) ts => i :: tgsIx ts
  | .cons _ ts => tgsIx ts
def setAll : List Nat → List V → L2.St → L2.St
  | i :: is, x :: xs, σ => setAll is xs (σ.set i (some x))
  | _, _, σ => σ
def setAllE : List Nat → List D → Env → Env
  | i :: is, x :: xs, ρ => setAllE is xs (ρ.set i (.v (.d x)))
  | _, _, ρ => ρ
/-- a value is stored into a slot -/
theorem Rel.set {C O : List Addr} {ρ : Env} {S : Cells} {σ : L2.St} {H : Hp} (R : Rel c C O ρ S σ H) (i : Nat) {x : EV} {v : V} (r : VRH c.K c.mg C O H x v) : Rel c C O (ρ.set i (.v x)) S (σ.set i (some v)) H where
  len := by rw [List.length_set, List.length_set]; exact R.len
  ok := R.ok
  ofr := R.ofr
  osub := R.osub
  pre := R.pre
  ext := R.ext
  grow := R.grow
  new := R.new
  slots := fun j sv e => by
    by_cases hj : i = j
    · subst hj
      have hl : i < ρ.length := by
        rcases Nat.lt_or_ge i ρ.length with q | q
        · exact q
        · rw [List.getElem?_eq_none (by rw [List.length_set]; exact q)] at e; cases e
      rw [List.getElem?_set_self hl] at e
      cases e
      exact ⟨v, List.getElem?_set_self (by rw [← R.len]; exact hl), r⟩
    · rw [List.getElem?_set_ne hj] at e
      rw [List.getElem?_set_ne hj]
      exact R.slots j sv e
  dist := fun j l ds es a h1 h2 h3 h4 => by
    have a1 : ∀ m (fs : List D), (ρ.set i (.v x))[m]? = some (.own fs) → i ≠ m := fun m fs e z => by
      subst z
      have hl : i < ρ.length := by
        rcases Nat.lt_or_ge i ρ.length with q | q
        · exact q
        · rw [List.getElem?_eq_none (by rw [List.length_set]; exact q)] at e; cases e
      rw [List.getElem?_set_self hl] at e
      cases e
    have n1 := a1 j ds h1
    have n2 := a1 l es h2
    rw [List.getElem?_set_ne n1] at h1 h3
    rw [List.getElem?_set_ne n2] at h2 h4
    exact R.dist j l ds es a h1 h2 h3 h4
theorem Rel.setAll {C O : List Addr} {S : Cells} {H : Hp} : ∀ (is : List Nat) {ds : List D} {xs : List V} {ρ : Env} {σ : L2.St}, Rel c C O ρ S σ H → VRs (C ++ O) H ds xs → Rel c C O (setAllE is ds ρ) S (setAll is xs σ) H
  | [], _, _, _, _, R, _ => by
    unfold SS.setAll setAllE
    exact R
  | i :: is, [], _, _, _, R, r => by
    rw [show _ = [] from r]
    exact R
  | i :: is, d :: ds, _, _, _, R, r => by
    obtain ⟨x, xs, rfl, h1, h2⟩ := r
    exact Rel.setAll is (R.set i (x := .d d) h1) h2
theorem bindPures_flat : ∀ {ts : Tgs} {ds : List D} {ρ ρ' : Env}, flatTg.flatTgs ts = true → bindPures ts ds ρ = some ρ' → ds.length = (tgsIx ts).length ∧ ρ' = setAllE (tgsIx ts) ds ρ
  | .nil, [], _, _, _, h => by
    simp only [bindPures] at h
    cases h
    exact ⟨rfl, rfl⟩
  | .nil, _ :: _, _, _, _, h => by simp [bindPures] at h
  | .cons (.nm i) ts, [], _, _, _, h => by simp [bindPures] at h
  | .cons (.nm i) ts, d :: ds, _, _, hf, h => by
    simp only [bindPures, bindPure, Option.bind_some] at h
    obtain ⟨h1, h2⟩ := bindPures_flat (ts := ts) (by simpa [flatTg.flatTgs] using hf) h
    exact ⟨by rw [List.length_cons, h1]; rfl, h2⟩
  | .cons (.tup _) _, _, _, _, hf, _ => by simp [flatTg.flatTgs] at hf
  | .cons (.sub _ _) _, _, _, _, hf, _ => by simp [flatTg.flatTgs] at hf
  | .cons (.osub _ _) _, _, _, _, hf, _ => by simp [flatTg.flatTgs] at hf
theorem wipe_set : ∀ {vs : List Nat} {σ : L2.St} {v : Nat} {y : Option V}, v ∉ vs → (wipe σ vs).set v y = wipe (σ.set v y) vs
  | [], _, _, _, _ => rfl
  | u :: vs, σ, v, y, h => by
    simp only [List.mem_cons, not_or] at h
    show ((wipe σ vs).set u none).set v y = (wipe (σ.set v y) vs).set u none
    rw [List.set_comm _ _ (Ne.symm h.1), wipe_set h.2]
theorem wipe_in : ∀ {vs : List Nat} {σ : L2.St} {v : Nat} {y : Option V}, v ∈ vs → wipe (σ.set v y) vs = wipe σ vs
  | u :: vs, σ, v, y, h => by
    show (wipe (σ.set v y) vs).set u none = (wipe σ vs).set u none
    by_cases e : v ∈ vs
    · rw [wipe_in e]
    · have e2 : v = u := by
        rcases List.mem_cons.mp h with q | q
        · exact q
        · exact absurd q e
      subst e2
      rw [← wipe_set e, List.set_set]
theorem wipe_setAll : ∀ {is : List Nat} {xs : List V} {vs : List Nat} {σ : L2.St}, (∀ i ∈ is, i ∈ vs) → wipe (setAll is xs σ) vs = wipe σ vs
  | [], _, _, _, _ => by unfold setAll; rfl
  | _ :: _, [], _, _, _ => by unfold setAll; rfl
  | i :: is, x :: xs, vs, σ, h => by
    show wipe (setAll is xs (σ.set i (some x))) vs = _
    rw [wipe_setAll fun j m => h j (List.mem_cons_of_mem _ m), wipe_in (h i List.mem_cons_self)]
theorem setAll_wipe : ∀ {is : List Nat} {xs : List V} {σ : L2.St}, is.Nodup → xs.length = is.length → setAll is xs (wipe σ is) = setAll is xs σ
  | [], [], _, _, _ => rfl
  | [], _ :: _, _, _, h => by cases h
  | _ :: _, [], _, _, h => by cases h
  | i :: is, x :: xs, σ, nd, h => by
    show setAll is xs (((wipe σ is).set i none).set i (some x)) = setAll is xs (σ.set i (some x))
    rw [List.set_set, wipe_set (List.nodup_cons.mp nd).1]
    exact setAll_wipe (List.nodup_cons.mp nd).2 (by simpa using h)

theorem wipe_ids {N : List Str} : ∀ {is : List Nat}, (∀ i ∈ is, i < N.length) → (ownOf N is).map (·.2) = is
  | [], _ => rfl
  | i :: is, h => by
    have hi := h i List.mem_cons_self
    have e : N[i]? = some N[i] := List.getElem?_eq_getElem hi
    unfold ownOf
    rw [List.filterMap_cons, e]
    show i :: ((ownOf N is).map (·.2)) = _
    rw [wipe_ids fun j m => h j (List.mem_cons_of_mem _ m)]
theorem tgs_eq : ∀ ts : Tgs, tgIx.tgIxs ts = tgsIx ts
  | .nil => rfl
  | .cons (.nm i) ts => by
    show i :: tgIx.tgIxs ts = i :: tgsIx ts
    rw [tgs_eq ts]
  | .cons (.tup _) ts => tgs_eq ts
  | .cons (.sub _ _) ts => tgs_eq ts
  | .cons (.osub _ _) ts => tgs_eq ts
/-- the reading of a flat target's parts -/
def gAll (is : List Nat) : TGs := fun vs σ H Q => vs.length = is.length ∧ Q (setAll is vs σ) H
theorem assign_len : ∀ {ts : Tgs} {es : List Expr} {env : PySem.Env} {sc : Scope}, mTgFs N sc ts es = true → (assignEach es env).length = es.length ∧ (assignEach es env).findIdx? (·.1) = none
  | .nil, es, env, sc, h => by
    simp only [mTgFs] at h
    split at h
    · exact ⟨rfl, rfl⟩
    · cases h
  | .cons t ts, es, env, sc, h => by
    simp only [mTgFs] at h
    split at h
    · rename_i y ys
      simp only [Bool.and_eq_true] at h
      obtain ⟨⟨_, h2⟩, h3⟩ := h
      obtain ⟨i1, i2⟩ := assign_len (env := env) h3
      have e : assignEach (y :: ys) env = (false, assign y env) :: assignEach ys env := by
        cases y <;> first | rfl | cases h2
      rw [e]
      exact ⟨by rw [List.length_cons, List.length_cons, i1], by rw [List.findIdx?_cons, i2]; rfl⟩
    · cases h
theorem pgs_flat (hN : X.N = N) (nd : N.Nodup) (hl : ∀ x, lclB sc x = true → L2.Loc X.env.scope x ∧ (X.fn x = true ∨ X.env.scope.names.lookup x = some .local)) : ∀ {ts : Tgs} {es : List Expr}, flatTg.flatTgs ts = true → mTgFs N sc ts es = true → PGs X es (gAll (tgsIx ts)) ∧ (tgsIx ts).length = es.length
  | .nil, es, _, h => by
    simp only [mTgFs] at h
    split at h
    · refine ⟨⟨fun pins s σ H vs us Q I r q => pgs_nil.run pins s σ H vs us Q I r ?_⟩, rfl⟩
      obtain ⟨e, q⟩ := q
      have e' : vs = [] := List.length_eq_zero_iff.mp e
      subst e'
      exact ⟨rfl, q⟩
    · cases h
  | .cons t ts, es, hf, h => by
    cases t with
    | nm i =>
      simp only [mTgFs] at h
      split at h
      · rename_i y ys
        simp only [Bool.and_eq_true] at h
        obtain ⟨⟨h1, h2⟩, h3⟩ := h
        simp only [mTgF] at h1
        split at h1
        · simp only [Bool.and_eq_true, decide_eq_true_eq] at h1
          obtain ⟨h4, h5⟩ := h1
          obtain ⟨ih, il⟩ := pgs_flat hN nd hl (ts := ts) (by simpa [flatTg.flatTgs] using hf) h3
          refine ⟨⟨fun pins s σ H vs us Q I r q => (pgs_cons (pg_name (i := i) (by rw [hN]; exact nd) (by rw [hN]; exact h4) (hl _ h5).1 (hl _ h5).2) ih).run pins s σ H vs us Q I r ?_⟩, by
            show (tgsIx ts).length + 1 = _
            rw [il]
            rfl⟩
          obtain ⟨e, q⟩ := q
          cases vs with
          | nil => cases e
          | cons v vs => exact ⟨v, vs, rfl, by simpa [tgsIx] using e, q⟩
        · cases h1
      · cases h
    | _ => simp [flatTg.flatTgs] at hf
/-- a flat target's reading -/
def gFlat (K : PySem.W.Frag) : Tg → TG
  | .nm i => gName i
  | .tup ts => gTup K (tgsIx ts).length (gAll (tgsIx ts))
  | _ => fun _ _ _ _ => False
theorem pg_flat (hN : X.N = N) (nd : N.Nodup) (hc : X.calm = true) (hl : ∀ x, lclB sc x = true → L2.Loc X.env.scope x ∧ (X.fn x = true ∨ X.env.scope.names.lookup x = some .local)) {t : Tg} {e : Expr} (hf : flatTg t = true) (h : mTgF N sc t e = true) : PG X e (gFlat X.K t) := by
  cases t with
  | nm i =>
    simp only [mTgF] at h
    split at h
    · simp only [Bool.and_eq_true, decide_eq_true_eq] at h
      exact pg_name (i := i) (by rw [hN]; exact nd) (by rw [hN]; exact h.1) (hl _ h.2).1 (hl _ h.2).2
    · cases h
  | tup ts =>
    simp only [mTgF] at h
    split at h
    · obtain ⟨ih, il⟩ := pgs_flat hN nd hl hf h
      obtain ⟨l1, l2⟩ := assign_len (env := X.env) h
      exact pg_tup hc ih (by rw [l1, il]) l2
    · cases h
  | _ => simp [flatTg] at hf
/-- .. what it does -/
theorem flat_does {C O : List Addr} {S : Cells} {H : Hp} {ρ ρ' : Env} {σ : L2.St} {t : Tg} {d : D} {v : V} {K : PySem.W.Frag} (hf : flatTg t = true) (R : Rel c C O ρ S σ H) (r : VR (C ++ O) H d v) (e : bindPure t d ρ = some ρ') :
    ∃ vs : List V, vs.length = (tgIx t).length ∧ Rel c C O ρ' S (setAll (tgIx t) vs σ) H ∧ ∀ (τ : L2.St) (Q : L2.St → Hp → Prop), Q (setAll (tgIx t) vs τ) H → gFlat K t v τ H Q := by
  cases t with
  | nm i =>
    simp only [bindPure] at e
    cases e
    exact ⟨[v], rfl, R.set i (x := .d d) r, fun τ Q q => q⟩
  | tup ts =>
    cases d with
    | tuple ds =>
      simp only [bindPure] at e
      obtain ⟨l, e⟩ := bindPures_flat hf e
      subst e
      obtain ⟨a, xs, rfl, _, h, _, rr⟩ := r
      refine ⟨xs, by rw [rr.length, l]; show _ = (tgIx.tgIxs ts).length; rw [tgs_eq], ?_, fun τ Q q => ⟨a, xs, rfl, SqT.of h, by rw [rr.length, l], by rw [rr.length, l], ?_⟩⟩
      · show Rel c C O _ S (setAll (tgIx.tgIxs ts) xs σ) H
        rw [tgs_eq]
        exact R.setAll _ rr
      · have q' : Q (setAll (tgIx.tgIxs ts) xs τ) H := q
        rw [tgs_eq] at q'
        exact q'
    | _ => simp [bindPure] at e
  | _ => simp [flatTg] at hf
end
end SS

end

section
set_option linter.all false
set_option autoImplicit false
set_option maxRecDepth 100000
set_option maxHeartbeats 4000000
/-! Comprehensions. -/
namespace SS
open PySem PySem.Spec PyProof.Rows L2
variable [Tabl]
section
variable {g : Sg} {N : List Str} {sc : Scope} {k : Nat} {F : Call} {c : Ct} {X : Cx}

/-- within a comprehension no error is let out -/
def Ct.calm (c : Ct) : Ct := { c with W := fun _ _ _ _ => False }
def tC (c : Ct) (F : Call) (e : IO) : TT := fun σ H Q => ∃ C O ρ S, Rel c C O ρ S σ H ∧ Post c O (rP Bool) C H σ Q (evalC F e ρ S)
theorem PTs.imp {X : Cx} {e : List Expr} {t t' : TT} (h : PTs X e t) (i : ∀ σ H Q, t' σ H Q → t σ H Q) : PTs X e t' := ⟨fun pins s σ H Q I q => h.run pins s σ H Q I (i _ _ _ q)⟩
theorem pc_none {ys : List Expr} (h : mC g N sc .none ys = true) : PTs X ys (tC c F .none) := by
  simp only [mC] at h
  split at h
  · exact PTs.imp pts_nil fun σ H Q ⟨C, O, ρ, S, R, P⟩ => P true H C R.ok.aft rfl
  · cases h
theorem pc_some {e : IE} {ys : List Expr} (h : mC g N sc (.some e) ys = true) (he : ∀ {y}, mE g N sc e y = true → PT X y (tT c F e)) : PTs X ys (tC c F (.some e)) := by
  simp only [mC] at h
  split at h
  · exact PTs.imp (pts_one (he h)) fun σ H Q q => q
  · cases h
theorem Rel.calm {C O : List Addr} {ρ : Env} {S : Cells} {σ : L2.St} {H : Hp} (R : Rel c C O ρ S σ H) : Rel c.calm C O ρ S σ H :=
  ⟨R.len, R.ok, R.ofr, R.osub, R.pre, R.ext, R.grow, R.new, fun i sv e => by
    have := R.slots i sv e
    cases sv <;> exact this, R.dist⟩
theorem XOk.blk (x : XOk g N sc k F c X) {s : Shared} {H : Hp} {scope : Scope} {C : Addr} {cl : List (Str × Addr)} {fp : List Addr} : XOk g N (relS scope sc) k F c.calm (X.blk s H scope (compEnvC scope cl C X.env) fp) where
  hN := x.hN
  nd := x.nd
  sc := by
    show relS scope X.env.scope = _
    rw [x.sc]
  calm := x.calm
  room := x.room
  grd := x.grd
  K := x.K
  mg := x.mg
  pas := fun σ pins H s e s' _ h => by
    obtain ⟨_, _, _, _, _, _, _, _, _, _, _, _, z⟩ := h
    exact z.elim
  facts := x.facts
  tabs := x.tabs
  lam := fun h => x.lam h

theorem Ok.less {C O : List Addr} {S : Cells} {H : Hp} {p : Addr} (k : Ok C (p :: O) S H) : Ok C O S H where
  nd := by
    have h := k.nd
    rw [List.nodup_append] at h ⊢
    exact ⟨h.1, (List.nodup_cons.mp h.2.1).2, fun a ha b hb => h.2.2 a ha b (List.mem_cons_of_mem _ hb)⟩
  cells := k.cells.mono (Keeps.sub fun a m => by
    rcases List.mem_append.mp m with q | q
    · exact List.mem_append_left _ q
    · exact List.mem_append_right _ (List.mem_cons_of_mem _ q)) fun _ _ _ h => h
  otrk := fun a m => k.otrk a (List.mem_cons_of_mem _ m)
theorem Aft.less {C O C' : List Addr} {S' : Cells} {H H' : Hp} {p : Addr} (a : Aft C (p :: O) H C' S' H') : Aft C O H C' S' H' := ⟨a.pre, a.ext, a.grow, a.new, a.ok.less⟩
theorem Keeps.mut {M : List Addr} {H : Hp} {p : Addr} {o : HO} (h : p ∈ M) : Keeps M H M (L2.upd H p o) := fun b u e _ n => by
  have ne : b ≠ p := fun z => n (by rw [z]; exact h)
  exact ⟨by rw [upd_ne ne]; exact e, n⟩
/-- an owned list is written -/
theorem Ok.mut {C O : List Addr} {S : Cells} {H : Hp} {p : Addr} {xs : List V} (k : Ok C O S H) (h : p ∈ O) : Ok C O S (L2.upd H p (.lst xs)) where
  nd := k.nd
  cells := k.cells.mono (Keeps.mut (List.mem_append_right _ h)) fun a m u e => by
    have ne : a ≠ p := fun z => k.apart h (by rw [← z]; exact m)
    rw [upd_ne ne]
    exact e
  otrk := fun a m => by
    by_cases e : a = p
    · subst e
      exact ⟨xs, upd_same⟩
    · obtain ⟨ys, q⟩ := k.otrk a m
      exact ⟨ys, by rw [upd_ne e]; exact q⟩
theorem Ok.start {C O : List Addr} {S : Cells} {H : Hp} {p : Addr} (k : Ok C O S H) (hp : H p = none) : Ok C (p :: O) S (L2.upd H p (.lst [])) ∧ Keeps (C ++ O) H (C ++ (p :: O)) (L2.upd H p (.lst [])) := by
  have n := k.free hp
  have kp : Keeps (C ++ O) H (C ++ (p :: O)) (L2.upd H p (.lst [])) := fun b u e _ q => by
    have ne : b ≠ p := ne_of_none e hp
    refine ⟨by rw [upd_ne ne]; exact e, fun m => ?_⟩
    rcases List.mem_append.mp m with m | m
    · exact q (List.mem_append_left _ m)
    · rcases List.mem_cons.mp m with m | m
      · exact ne m
      · exact q (List.mem_append_right _ m)
  refine ⟨(k.upd hp).push upd_same (fun m => n (List.mem_append_left _ m)) (fun m => n (List.mem_append_right _ m)) (k.cells.mono kp fun b m u e => ?_), kp⟩
  rw [upd_ne (ne_of_none e hp)]
  exact e
/-- one more list is owned, that of a comprehension -/
theorem Rel.more {C O C' : List Addr} {ρ : Env} {S S' : Cells} {σ : L2.St} {H H' : Hp} {p : Addr} (R : Rel c C O ρ S σ H) (hp : H p = none) (a : Aft C O H C' S' H') (ok : Ok C' (p :: O) S' H') : Rel c C' (p :: O) ρ S' σ H' := by
  have R1 := R.aft a
  have kp : Keeps (C ++ O) H (C' ++ (p :: O)) H' := fun b u e t n => by
    obtain ⟨h1, h2⟩ := a.keeps b u e t n
    refine ⟨h1, fun m => ?_⟩
    rcases List.mem_append.mp m with m | m
    · exact h2 (List.mem_append_left _ m)
    · rcases List.mem_cons.mp m with m | m
      · rw [m, hp] at e; cases e
      · exact h2 (List.mem_append_right _ m)
  refine ⟨R1.len, ok, fun b m => ?_, fun b m => List.mem_cons_of_mem _ (R1.osub b m), R1.pre, R1.ext, R1.grow, R1.new, fun i sv e => ?_, R1.dist⟩
  · rcases List.mem_cons.mp m with m | m
    · refine .inr ?_
      rw [m]
      by_cases z : p ∈ c.E.C
      · obtain ⟨M, hM⟩ := R.pre
        have : p ∈ C ++ O := by
          rw [hM]
          exact List.mem_append_left _ (List.mem_append_left _ z)
        exact absurd this (R.ok.free hp)
      · exact R.live hp z
    · exact R1.ofr b m
  · have q := R.slots i sv e
    cases sv with
    | un => trivial
    | v x =>
      obtain ⟨v, e1, r⟩ := q
      refine ⟨v, e1, ?_⟩
      cases x with
      | d x => exact VR.mono kp r
      | cell n =>
        obtain ⟨b, e2, q⟩ := r
        exact ⟨b, e2, a.lt q⟩
      | fn f => exact r
      | scr ns =>
        obtain ⟨b, e2, l, q | q⟩ := r
        · refine ⟨b, e2, l, .inl ?_⟩
          obtain ⟨n, q⟩ := q
          rcases q with q | ⟨o, q⟩
          · exact ⟨(kp _ _ q nt_lst n).2, .inl (kp _ _ q nt_lst n).1⟩
          · exact ⟨(kp _ _ q nt_frz n).2, .inr ⟨o, (kp _ _ q nt_frz n).1⟩⟩
        · exact ⟨b, e2, l, .inr q⟩
      | nw _ => exact r.elim
      | pk _ => exact r.elim
    | own ds =>
      obtain ⟨b, xs, e1, m, f, h, z, r⟩ := q
      exact ⟨b, xs, e1, List.mem_cons_of_mem _ m, f, a.ext b _ h nt_lst (R.ok.apart m), z, r.mono kp⟩

/-- the turn of a comprehension -/
def compF (F : Call) (tg : Tg) (cnd : IO) (elt : IE) (ρ : Env) : D → Cells → Res (Option D) := fun x S => lft (bindPure tg x ρ) fun ρ' => (evalC F cnd ρ' S).bind fun b S => if b then (evalE F elt ρ' S).bind fun v S => lft v.strict fun d => .ok (some d) S else .ok none S
theorem compLoop_out {f : D → Cells → Res (Option D)} : ∀ {ds : List D} {S : Cells} {n : Str} {x : D} {S' : Cells}, compLoop f ds S ≠ .exc n x S'
  | [], _, _, _, _, h => by cases h
  | d :: ds, S, n, x, S', h => by
    simp only [compLoop] at h
    split at h
    · rename_i o S1 _
      cases hr : compLoop f ds S1 with
      | ok r S2 =>
        rw [hr] at h
        cases h
      | exc m y S2 => exact compLoop_out hr
      | bad =>
        rw [hr] at h
        cases h
    · cases h
theorem compLoop_cons {f : D → Cells → Res (Option D)} {d : D} {ds : List D} {S : Cells} {rs : List D} {S' : Cells} (h : compLoop f (d :: ds) S = .ok rs S') : ∃ o S1 r, f d S = .ok o S1 ∧ compLoop f ds S1 = .ok r S' ∧ rs = (match o with | some e => e :: r | none => r) := by
  simp only [compLoop] at h
  split at h
  · rename_i o S1 hf
    obtain ⟨r, S2, h1, h2⟩ := bind_okE h
    cases h2
    exact ⟨o, S1, r, hf, h1, rfl⟩
  · cases h
theorem lft_okE {α β : Type} {o : Option α} {f : α → Res β} {r : β} {S : Cells} (h : lft o f = .ok r S) : ∃ a, o = some a ∧ f a = .ok r S := by
  cases o with
  | none => cases h
  | some a => exact ⟨a, rfl, h⟩

theorem comp_reads {elt : IE} {tg : Tg} {src : Src} {cnd : IO} {KK : PySem.W.Frag} (hf : flatTg tg = true) (nd : (tgIx tg).Nodup) {σ : L2.St} {H : Hp} {Q : VK} (t : tE c F (.comp elt tg src cnd) σ H Q) :
    tLc (tI c F false src) (gFlat KK tg) (tC c.calm F cnd) (tE c.calm F elt) (tgIx tg) σ H Q := by
  obtain ⟨C, O, ρ, S, R, P⟩ := t
  simp only [evalE] at P
  refine ⟨C, O, ρ, S, R, Post.bind rE.up P fun ds S1 J H1 C1 a1 ⟨T, SV, hT⟩ P1 => fun Dp hD => ?_⟩
  have P1 : Post c O (rE c O) C1 H1 σ Q ((compLoop (compF F tg cnd elt ρ) ds S1).bind fun rs S => if ds.length ≤ lim then .ok (.nw rs) S else .bad) := P1
  have R1 := R.aft a1
  cases hr : compLoop (compF F tg cnd elt ρ) ds S1 with
  | bad =>
    rw [hr] at P1
    exact P1.elim
  | exc n x S' => exact absurd hr compLoop_out
  | ok rs Sf =>
    rw [hr] at P1
    simp only [Res.bind_ok] at P1
    obtain ⟨hl, P2⟩ := P1.iff
    have hT : T C1 (C1 ++ O) H1 := hT
    have nfree := R1.ok.free hD
    have nC : Dp ∉ C1 := fun m => nfree (List.mem_append_left _ m)
    have nO : Dp ∉ O := fun m => nfree (List.mem_append_right _ m)
    obtain ⟨ok0, kp0⟩ := R1.ok.start hD
    refine ⟨fun i m Hc => m = ds.length - i ∧ i ≤ ds.length ∧ ∃ Ci Si acc dn rest, Aft C1 O H1 Ci Si Hc ∧ Ok Ci (Dp :: O) Si Hc ∧ Hc Dp = some (.lst acc) ∧ acc.length ≤ i ∧ VRs (Ci ++ (Dp :: O)) Hc dn acc ∧ T (Ci ++ [Dp]) (Ci ++ (Dp :: O)) Hc ∧ compLoop (compF F tg cnd elt ρ) (ds.drop i) Si = .ok rest Sf ∧ rs = dn ++ rest,
      ⟨ds.length, by simp, Nat.zero_le _, C1, S1, [], [], rs, R1.ok.aft.upd hD, ok0, upd_same, Nat.le_refl _, .nil, SV.keep hT (fun b u e _ n => ?_) kp0, hr, rfl⟩, ?_⟩
    · have ne : b ≠ Dp := ne_of_none e hD
      refine ⟨by rw [upd_ne ne]; exact e, fun m => ?_⟩
      rcases List.mem_append.mp m with m | m
      · exact n m
      · exact ne (List.mem_singleton.mp m)
    rintro i m Hc ⟨rfl, hi, Ci, Si, acc, dn, rest, aa, oki, hDc, hacc, rd, hTi, hrun, hrs⟩
    have nCi : Dp ∉ Ci := oki.apart List.mem_cons_self
    by_cases hlt : i < ds.length
    · refine .inr ⟨SV.go hTi hlt, fun H' => i + 1 ≤ ds.length ∧ ∃ Ci Si acc dn rest, Aft C1 O H1 Ci Si H' ∧ Ok Ci (Dp :: O) Si H' ∧ H' Dp = some (.lst acc) ∧ acc.length ≤ i + 1 ∧ VRs (Ci ++ (Dp :: O)) H' dn acc ∧ T (Ci ++ [Dp]) (Ci ++ (Dp :: O)) H' ∧ compLoop (compF F tg cnd elt ρ) (ds.drop (i + 1)) Si = .ok rest Sf ∧ rs = dn ++ rest, fun H' q => ⟨ds.length - (i + 1), by omega, rfl, q⟩, fun x H' hy => ?_⟩
      obtain ⟨d, hd, rx, hH⟩ := SV.yld hTi hlt hy fun p hp => oki.free hp
      -- the new pair, if any
      have a' : Aft Ci (Dp :: O) Hc Ci Si H' := by
        rcases hH with e | ⟨p, u, hp, e⟩
        · rw [e]
          exact oki.aft
        · rw [e]
          exact oki.aft.upd hp
      have hdrop : ds.drop i = d :: ds.drop (i + 1) := by
        rw [List.drop_eq_getElem_cons hlt]
        rw [List.getElem?_eq_getElem hlt] at hd
        cases hd
        rfl
      rw [hdrop] at hrun
      obtain ⟨o, S2, r2, hf1, hrun2, hre⟩ := compLoop_cons hrun
      obtain ⟨ρ', hb, hf2⟩ := lft_okE hf1
      obtain ⟨b, S3, hcn, hf3⟩ := bind_okE hf2
      have aa2 : Aft C1 O H1 Ci Si H' := aa.trans a'.less
      have Rb : Rel c.calm Ci (Dp :: O) ρ Si σ H' := (R1.more hD aa2 a'.ok).calm
      obtain ⟨vs, hvl, R', gd⟩ := flat_does (K := KK) hf Rb rx hb
      refine gd (wipe σ (tgIx tg)) _ ?_
      rw [setAll_wipe nd hvl]
      refine ⟨wipe_setAll fun j m => m, Ci, Dp :: O, ρ', Si, R', ?_⟩
      rw [hcn]
      intro b' H3 C3 a3 eb
      have eb' : b = b' := eb
      subst eb'
      have n3 : Dp ∉ C3 := a3.ok.apart List.mem_cons_self
      have hD' : H' Dp = some (.lst acc) := by
        have := a'.ext Dp _ hDc nt_lst nCi
        exact this
      have hD3 : H3 Dp = some (.lst acc) := a3.ext Dp _ hD' nt_lst nCi
      have kW : ∀ {C4 : List Addr} {S4 : Cells} {H4 : Hp}, Aft Ci (Dp :: O) H' C4 S4 H4 → Keeps (Ci ++ [Dp]) H' (C4 ++ [Dp]) H4 := fun {C4 S4 H4} a4 z u e t n => by
        simp only [List.mem_append, List.mem_singleton, not_or] at n ⊢
        refine ⟨a4.ext z u e t n.1, fun q => ?_, n.2⟩
        rcases a4.new z q with q | q
        · exact n.1 q
        · rw [q] at e; cases e
      have kW' : Keeps (Ci ++ [Dp]) Hc (Ci ++ [Dp]) H' := fun z u e t n => by
        refine ⟨?_, n⟩
        exact a'.ext z u e t fun q => n (List.mem_append_left _ q)
      have hT' := SV.keep hTi kW' a'.keeps
      cases b with
      | false =>
        rw [if_neg Bool.false_ne_true] at hf3 ⊢
        cases hf3
        simp only at hre
        refine ⟨hlt, C3, _, acc, dn, r2, aa2.trans a3.less, a3.ok, hD3, by omega, (rd.mono a'.keeps).mono a3.keeps, SV.keep hT' (kW a3) a3.keeps, hrun2, ?_⟩
        rw [hrs, hre]
      | true =>
        rw [if_pos rfl] at hf3 ⊢
        obtain ⟨v, S4, hev, hf4⟩ := bind_okE hf3
        obtain ⟨e, hst, hf5⟩ := lft_okE hf4
        cases hf5
        simp only at hre
        refine ⟨C3, Dp :: O, ρ', S3, R'.aft a3, ?_⟩
        rw [hev]
        intro y H4 C4 a4 q
        have n4 : Dp ∉ C4 := a4.ok.apart List.mem_cons_self
        have hD4 : H4 Dp = some (.lst acc) := a4.ext Dp _ hD3 nt_lst n3
        have ry := q.strict a4.ok e hst
        have a34 := a3.trans a4
        have kM : Keeps (C4 ++ (Dp :: O)) H4 (C4 ++ (Dp :: O)) (upd H4 Dp (.lst (acc ++ [y]))) := Keeps.mut (List.mem_append_right _ List.mem_cons_self)
        have aa4 : Aft C1 O H1 C4 _ H4 := aa2.trans a34.less
        have okm : Ok C4 (Dp :: O) _ (upd H4 Dp (.lst (acc ++ [y]))) := a4.ok.mut List.mem_cons_self
        refine ⟨acc, hD4, Nat.lt_of_le_of_lt hacc (lim_lt (Nat.le_trans hi hl)), hlt, C4, _, acc ++ [y], dn ++ [e], r2, ⟨aa4.pre, fun z u hz t n => ?_, aa4.grow.trans (.mut hD4), aa4.new, okm.less⟩, okm, upd_same, by rw [List.length_append]; exact Nat.succ_le_succ hacc, ?_, ?_, hrun2, ?_⟩
        · have ne : z ≠ Dp := ne_of_none hz hD
          rw [upd_ne ne]
          exact aa4.ext z u hz t n
        · exact ((((rd.mono a'.keeps).mono a34.keeps)).mono kM).append (.cons (ry.mono kM) .nil)
        · refine SV.keep (SV.keep hT' (kW a34) a34.keeps) (fun z u hz t n => ?_) kM
          have ne : z ≠ Dp := fun q => n (by rw [q]; exact List.mem_append_right _ (List.mem_singleton.mpr rfl))
          exact ⟨by rw [upd_ne ne]; exact hz, n⟩
        · rw [hrs, hre, List.append_assoc]
          rfl
    · have e : i = ds.length := by omega
      subst e
      rw [List.drop_length] at hrun
      cases hrun
      rw [List.append_nil] at hrs
      subst hrs
      exact .inl ⟨SV.stop hTi (Nat.le_refl _), P2 (.ref Dp) Hc Ci aa ⟨⟨Dp, acc, rfl, hDc, Nat.le_trans hacc (lim_le hl), nCi, nO, rd, oki.cells⟩, fun b e => by cases e; exact hD⟩⟩
end
end SS

end

section
set_option linter.all false
set_option autoImplicit false
set_option maxRecDepth 100000
set_option maxHeartbeats 4000000
/-! Built-ins by their names; every expression. -/
namespace SS
open PySem PySem.Spec PyProof.Rows L2
variable [Tabl]

/-! ### shown data is not long -/
theorem fold_ge {ns : List Int} : ∀ {a : Int}, a ≤ ns.foldl (fun a b => if a < b then b else a) a := by
  induction ns with
  | nil => exact fun {a} => Int.le_refl _
  | cons n ns ih =>
    intro a
    rw [List.foldl_cons]
    refine Int.le_trans ?_ ih
    split <;> omega
theorem fold_all {ns : List Int} : ∀ {a y : Int}, y ∈ ns → y ≤ ns.foldl (fun a b => if a < b then b else a) a := by
  induction ns with
  | nil => intro a y h; cases h
  | cons n ns ih =>
    intro a y h
    rw [List.foldl_cons]
    rcases List.mem_cons.mp h with e | e
    · subst e
      refine Int.le_trans ?_ fold_ge
      split <;> omega
    · exact ih e
theorem fold_mem {ns : List Int} : ∀ {a : Int}, ns.foldl (fun a b => if a < b then b else a) a = a ∨ ns.foldl (fun a b => if a < b then b else a) a ∈ ns := by
  induction ns with
  | nil => exact fun {a} => .inl rfl
  | cons n ns ih =>
    intro a
    rw [List.foldl_cons]
    rcases ih (a := if a < n then n else a) with e | e
    · rw [e]
      split
      · exact .inr List.mem_cons_self
      · exact .inl rfl
    · exact .inr (List.mem_cons_of_mem _ e)
theorem maxL_top {ns : List Int} {m : Int} (h : m ∈ ns) (t : ∀ y, y ∈ ns → y ≤ m) : maxL ns = m := by
  cases ns with
  | nil => cases h
  | cons n r =>
    show r.foldl _ n = m
    have h1 : m ≤ r.foldl (fun a b => if a < b then b else a) n := by
      rcases List.mem_cons.mp h with e | e
      · rw [e]
        exact fold_ge
      · exact fold_all e
    have h2 : r.foldl (fun a b => if a < b then b else a) n ≤ m := by
      rcases fold_mem (ns := r) (a := n) with e | e
      · rw [e]
        exact t _ List.mem_cons_self
      · exact t _ (List.mem_cons_of_mem _ e)
    omega
theorem fold_le' {ns : List Int} : ∀ {a : Int}, ns.foldl (fun a b => if b < a then b else a) a ≤ a := by
  induction ns with
  | nil => exact fun {a} => Int.le_refl _
  | cons n ns ih =>
    intro a
    rw [List.foldl_cons]
    refine Int.le_trans ih ?_
    split <;> omega
theorem fold_all' {ns : List Int} : ∀ {a y : Int}, y ∈ ns → ns.foldl (fun a b => if b < a then b else a) a ≤ y := by
  induction ns with
  | nil => intro a y h; cases h
  | cons n ns ih =>
    intro a y h
    rw [List.foldl_cons]
    rcases List.mem_cons.mp h with e | e
    · subst e
      refine Int.le_trans fold_le' ?_
      split <;> omega
    · exact ih e
theorem fold_mem' {ns : List Int} : ∀ {a : Int}, ns.foldl (fun a b => if b < a then b else a) a = a ∨ ns.foldl (fun a b => if b < a then b else a) a ∈ ns := by
  induction ns with
  | nil => exact fun {a} => .inl rfl
  | cons n ns ih =>
    intro a
    rw [List.foldl_cons]
    rcases ih (a := if n < a then n else a) with e | e
    · rw [e]
      split
      · exact .inr List.mem_cons_self
      · exact .inl rfl
    · exact .inr (List.mem_cons_of_mem _ e)
theorem minL_low {ns : List Int} {m : Int} (h : m ∈ ns) (t : ∀ y, y ∈ ns → m ≤ y) : minL ns = m := by
  cases ns with
  | nil => cases h
  | cons n r =>
    show r.foldl _ n = m
    have h1 : r.foldl (fun a b => if b < a then b else a) n ≤ m := by
      rcases List.mem_cons.mp h with e | e
      · rw [e]
        exact fold_le'
      · exact fold_all' e
    have h2 : m ≤ r.foldl (fun a b => if b < a then b else a) n := by
      rcases fold_mem' (ns := r) (a := n) with e | e
      · rw [e]
        exact t _ List.mem_cons_self
      · exact t _ (List.mem_cons_of_mem _ e)
    omega
theorem insI_perm (x : Int) : ∀ l : List Int, (insI x l).Perm (x :: l)
  | [] => .refl _
  | y :: r => by
    unfold insI
    split
    · exact .refl _
    · exact ((insI_perm x r).cons y).trans (.swap x y r)
theorem sortI_perm : ∀ l : List Int, (sortI l).Perm l
  | [] => .refl _
  | x :: r => (insI_perm x (sortI r)).trans ((sortI_perm r).cons x)
theorem insI_sorted (x : Int) : ∀ {l : List Int}, l.Pairwise (· ≤ ·) → (insI x l).Pairwise (· ≤ ·)
  | [], _ => by simp [insI]
  | y :: r, h => by
    unfold insI
    have ⟨h1, h2⟩ := List.pairwise_cons.mp h
    split
    · rename_i hxy
      exact List.pairwise_cons.mpr ⟨fun z hz => by
        rcases List.mem_cons.mp hz with e | e
        · omega
        · have := h1 z e
          omega, h⟩
    · rename_i hxy
      refine List.pairwise_cons.mpr ⟨fun z hz => ?_, insI_sorted x h2⟩
      have := (insI_perm x r).mem_iff.mp hz
      rcases List.mem_cons.mp this with e | e
      · omega
      · exact h1 z e
theorem sortI_sorted : ∀ l : List Int, (sortI l).Pairwise (· ≤ ·)
  | [] => .nil
  | x :: r => insI_sorted x (sortI_sorted r)
theorem sorted_one {a b : List Int} (p : a.Perm b) (ha : a.Pairwise (· ≤ ·)) (hb : b.Pairwise (· ≤ ·)) : a = b :=
  List.Perm.eq_of_pairwise (fun x y _ _ h1 h2 => Int.le_antisymm h1 h2) ha hb p
end SS
namespace SS
open PySem PySem.Spec PyProof.Rows L2
variable [Tabl]
section
variable {g : Sg} {N : List Str} {sc : Scope} {k : Nat} {F : Call} {c : Ct} {X : Cx}

theorem reprOk_len {d : D} (h : reprOk d = true) : d.showable = true ∧ d.hasDict = false ∧ d.depth ≤ 64 ∧ d.shown.length ≤ sizeLine := by
  simp only [reprOk, Bool.and_eq_true, decide_eq_true_eq] at h
  obtain ⟨⟨⟨⟨h1, h2⟩, h3⟩, h4⟩, h5⟩ := h
  have hl := PyData.shown_le 70 (by decide) d (PyData.leavesShort_of_canLay0 70 d h1 h4)
  refine ⟨h2, PyData.hasDict_of_canLay d h1, h3, ?_⟩
  rw [sizeLine_eq]
  omega
def rReprF : List V → Hp → VK → Prop := fun vs H Q => (vs = [.non] ∧ Q (.str "None") H) ∨ (∃ b, vs = [.bl b] ∧ Q (.str (if b then "True" else "False")) H) ∨ (∃ i, vs = [.int i] ∧ i.natAbs.log2 < 1920 ∧ Q (.str (toString i)) H) ∨ (∃ z, vs = [.str z] ∧ (PySem.reprText z).length ≤ sizeLine ∧ Q (.str (PySem.reprText z)) H)
theorem cr_reprF : CallR X (.builtin "repr") rReprF := by
  intro pins s σ H vs us Q I r h
  rcases h with ⟨rfl, q⟩ | ⟨b, rfl, q⟩ | ⟨i, rfl, hz, q⟩ | ⟨z, rfl, hz, q⟩
  · obtain ⟨u, rfl, e⟩ := vals1 r
    cases e
    exact PySem.P.repr_of_none ⟨.str _, H, I.tok _, ⟨_, rfl⟩, q⟩
  · obtain ⟨u, rfl, e⟩ := vals1 r
    cases e
    exact PySem.P.repr_of_bool ⟨.str _, H, I.tok _, ⟨_, rfl⟩, q⟩
  · obtain ⟨u, rfl, t, rfl⟩ := vals1 r
    exact PySem.P.repr_of_int hz ⟨.str _, H, I.tok _, ⟨_, rfl⟩, q⟩
  · obtain ⟨u, rfl, t, rfl⟩ := vals1 r
    exact PySem.P.repr_of_str ⟨.str _, H, I.tok _, ⟨_, rfl⟩, q⟩ hz
def b1V : B1 → Value
  | .len => .builtin "len" | .int => .type "int" | .abs => .builtin "abs" | .sum => .builtin "sum" | .max => .builtin "max" | .min => .builtin "min" | .tuple => .type "tuple" | .list => .type "list" | .all => .builtin "all" | .repr => .builtin "repr" | .str => .type "str" | .sorted => .builtin "sorted"
/-- a built-in function of one argument, by what it does to data -/
theorem b1_rule (x : XOk g N sc k F c X) {C O : List Addr} {S : Cells} {H H0 : Hp} {σ : L2.St} {Q : VK} (ok : Ok C O S H) {b : B1} {v z : EV} {u : V} (q : rE c O H0 C S H v u) (e : b1E b v = some z) (P : Post c O (rE c O) C H σ Q (.ok z S)) : ∃ r : List V → Hp → VK → Prop, CallR X (b1V b) r ∧ r [u] H Q := by
  have hc := x.calm
  have main : ∀ d, v.asD = some d → (match b1D b d with
      | some y => some (EV.d y)
      | none => (b1N b d).map .nw) = some z → ∃ r : List V → Hp → VK → Prop, CallR X (b1V b) r ∧ r [u] H Q := by
    intro d ed e
    have hw := q.asD ok d ed
    cases b with
    | len =>
      cases d with
      | list ds =>
        simp only [b1D] at e
        cases e
        obtain ⟨a, xs, rfl, _, h, _, r⟩ := hw
        exact ⟨_, call_len_seq, a, xs, rfl, .inl (SqL.of h), by rw [r.length]; exact P.here ok (rE.ofD (by simp only [VR]))⟩
      | tuple ds =>
        simp only [b1D] at e
        cases e
        obtain ⟨a, xs, rfl, _, h, _, r⟩ := hw
        exact ⟨_, call_len_seq, a, xs, rfl, .inr (SqT.of h), by rw [r.length]; exact P.here ok (rE.ofD (by simp only [VR]))⟩
      | str y =>
        simp only [b1D] at e
        split at e
        · rename_i y' he
          split at he
          · rename_i hl
            cases he
            cases e
            have eu : u = .str y := hw
            subst eu
            exact ⟨_, call_len_str, y, rfl, lim_le hl, P.here ok (rE.ofD (by simp only [VR]))⟩
          · cases he
        · simp [b1N] at e
      | _ => simp [b1D, b1N] at e
    | int =>
      cases d with
      | int i =>
        simp only [b1D] at e
        cases e
        have eu : u = .int i := hw
        subst eu
        exact ⟨_, call_int1, .inl ⟨i, rfl, P.here ok (rE.ofD (by simp only [VR]))⟩⟩
      | bool i =>
        simp only [b1D] at e
        cases e
        have eu : u = .bl i := hw
        subst eu
        exact ⟨_, call_int1, .inr ⟨i, rfl, P.here ok (rE.ofD (by simp only [VR, b2i]))⟩⟩
      | _ => simp [b1D, b1N] at e
    | abs =>
      cases d with
      | int i =>
        simp only [b1D] at e
        cases e
        have eu : u = .int i := hw
        subst eu
        exact ⟨_, call_abs, i, rfl, P.here ok (rE.ofD (by simp only [VR]))⟩
      | _ => simp [b1D, b1N] at e
    | sum =>
      cases d with
      | list ds =>
        simp only [b1D] at e
        cases hi : asInts ds with
        | none =>
          rw [hi] at e
          simp [b1N] at e
        | some ns =>
          rw [hi] at e
          cases e
          obtain ⟨a, xs, rfl, _, h, _, r⟩ := hw
          have ex := r.ints hi
          subst ex
          exact ⟨_, cr_sum hc, a, ns, rfl, SqL.of h, P.here ok (rE.ofD (by simp only [VR]))⟩
      | tuple ds =>
        simp only [b1D] at e
        cases hi : asInts ds with
        | none =>
          rw [hi] at e
          simp [b1N] at e
        | some ns =>
          rw [hi] at e
          cases e
          obtain ⟨a, xs, rfl, _, h, _, r⟩ := hw
          have ex := r.ints hi
          subst ex
          exact ⟨_, cr_sumT hc, a, ns, rfl, SqT.of h, P.here ok (rE.ofD (by simp only [VR]))⟩
      | _ => simp [b1D, b1N] at e
    | max =>
      cases d with
      | list ds =>
        simp only [b1D] at e
        cases hi : asInts ds with
        | none =>
          rw [hi] at e
          simp [b1N] at e
        | some ns =>
          rw [hi] at e
          cases ns with
          | nil => simp [b1N] at e
          | cons n r0 =>
            simp at e
            subst e
            obtain ⟨a, xs, rfl, _, h, _, r⟩ := hw
            have ex := r.ints hi
            subst ex
            refine ⟨_, cr_max hc, a, n :: r0, rfl, SqL.of h, Nat.succ_pos _, fun m h1 h2 => ?_⟩
            rw [← maxL_top h1 h2]
            exact P.here ok (rE.ofD (by simp only [VR]))
      | tuple ds =>
        simp only [b1D] at e
        cases hi : asInts ds with
        | none =>
          rw [hi] at e
          simp [b1N] at e
        | some ns =>
          rw [hi] at e
          cases ns with
          | nil => simp [b1N] at e
          | cons n r0 =>
            simp at e
            subst e
            obtain ⟨a, xs, rfl, _, h, _, r⟩ := hw
            have ex := r.ints hi
            subst ex
            refine ⟨_, cr_maxT hc, a, n :: r0, rfl, SqT.of h, Nat.succ_pos _, fun m h1 h2 => ?_⟩
            rw [← maxL_top h1 h2]
            exact P.here ok (rE.ofD (by simp only [VR]))
      | _ => simp [b1D, b1N] at e
    | min =>
      cases d with
      | list ds =>
        simp only [b1D] at e
        cases hi : asInts ds with
        | none =>
          rw [hi] at e
          simp [b1N] at e
        | some ns =>
          rw [hi] at e
          cases ns with
          | nil => simp [b1N] at e
          | cons n r0 =>
            simp at e
            subst e
            obtain ⟨a, xs, rfl, _, h, _, r⟩ := hw
            have ex := r.ints hi
            subst ex
            refine ⟨_, cr_min hc, a, n :: r0, rfl, SqL.of h, Nat.succ_pos _, fun m h1 h2 => ?_⟩
            rw [← minL_low h1 h2]
            exact P.here ok (rE.ofD (by simp only [VR]))
      | tuple ds =>
        simp only [b1D] at e
        cases hi : asInts ds with
        | none =>
          rw [hi] at e
          simp [b1N] at e
        | some ns =>
          rw [hi] at e
          cases ns with
          | nil => simp [b1N] at e
          | cons n r0 =>
            simp at e
            subst e
            obtain ⟨a, xs, rfl, _, h, _, r⟩ := hw
            have ex := r.ints hi
            subst ex
            refine ⟨_, cr_minT hc, a, n :: r0, rfl, SqT.of h, Nat.succ_pos _, fun m h1 h2 => ?_⟩
            rw [← minL_low h1 h2]
            exact P.here ok (rE.ofD (by simp only [VR]))
      | _ => simp [b1D, b1N] at e
    | tuple =>
      cases d with
      | list ds =>
        simp only [b1D] at e
        cases e
        obtain ⟨a, xs, rfl, _, h, zz, r⟩ := hw
        exact ⟨_, call_tuple_of, a, xs, rfl, .inl ⟨SqL.of h, fun p hp => P.newTup ok zz r hp⟩⟩
      | tuple ds =>
        simp only [b1D] at e
        cases e
        obtain ⟨a, xs, rfl, n, h, zz, r⟩ := hw
        exact ⟨_, call_tuple_of, a, xs, rfl, .inr ⟨SqT.of h, P.here ok (rE.ofD ⟨a, xs, rfl, n, h, zz, r⟩)⟩⟩
      | _ => simp [b1D, b1N] at e
    | list =>
      cases d with
      | list ds =>
        simp only [b1D, b1N] at e
        cases e
        obtain ⟨a, xs, rfl, _, h, zz, r⟩ := hw
        exact ⟨_, call_list_of, a, xs, rfl, .inl (SqL.of h), fun p hp => P.newLst ok zz r hp⟩
      | tuple ds =>
        simp only [b1D, b1N] at e
        cases e
        obtain ⟨a, xs, rfl, n, h, zz, r⟩ := hw
        exact ⟨_, call_list_of, a, xs, rfl, .inr (SqT.of h), fun p hp => P.newLst ok zz r hp⟩
      | _ => simp [b1D, b1N] at e
    | all =>
      cases d with
      | list ds =>
        simp only [b1D] at e
        cases hi : asBools ds with
        | none =>
          rw [hi] at e
          simp [b1N] at e
        | some ns =>
          rw [hi] at e
          cases e
          obtain ⟨a, xs, rfl, _, h, _, r⟩ := hw
          have ex := r.bools hi
          subst ex
          exact ⟨_, cr_all hc, a, ns, rfl, SqL.of h, P.here ok (rE.ofD (by simp only [VR]))⟩
      | _ => simp [b1D, b1N] at e
    | repr =>
      have hu : X.A.units + 65 < cLine := by have := x.room.un; omega
      cases d with
      | none =>
        simp only [b1D] at e
        cases e
        have eu : u = .non := hw
        subst eu
        exact ⟨_, cr_reprF, .inl ⟨rfl, P.here ok (rE.ofD (by simp only [VR]))⟩⟩
      | bool b =>
        simp only [b1D] at e
        cases e
        have eu : u = .bl b := hw
        subst eu
        exact ⟨_, cr_reprF, .inr (.inl ⟨b, rfl, P.here ok (rE.ofD (by simp only [VR]))⟩)⟩
      | int i =>
        by_cases hl : i.natAbs.log2 < 1920
        · simp only [b1D, if_pos hl] at e
          cases e
          have eu : u = .int i := hw
          subst eu
          exact ⟨_, cr_reprF, .inr (.inr (.inl ⟨i, rfl, hl, P.here ok (rE.ofD (by simp only [VR]))⟩))⟩
        · simp only [b1D, if_neg hl, b1N] at e
          cases e
      | str y =>
        by_cases hl : (PySem.reprText y).length ≤ lim
        · simp only [b1D, if_pos hl] at e
          cases e
          have eu : u = .str y := hw
          subst eu
          exact ⟨_, cr_reprF, .inr (.inr (.inr ⟨y, rfl, lim_le hl, P.here ok (rE.ofD (by simp only [VR]))⟩))⟩
        · simp only [b1D, if_neg hl, b1N] at e
          cases e
      | list ds =>
        by_cases hl : reprOk (.list ds) = true
        · simp only [b1D, if_pos hl] at e
          cases e
          obtain ⟨h1, h2, h3, h4⟩ := reprOk_len hl
          have dp := hw.dp (K := X.K)
          obtain ⟨a, xs, rfl, _⟩ := hw
          exact ⟨_, cr_repr x.grd hu, a, .list ds, rfl, dp, h1, h2, h3, h4, P.here ok (rE.ofD (by simp only [VR]))⟩
        · simp only [b1D, if_neg hl, b1N] at e
          cases e
      | tuple ds =>
        by_cases hl : reprOk (.tuple ds) = true
        · simp only [b1D, if_pos hl] at e
          cases e
          obtain ⟨h1, h2, h3, h4⟩ := reprOk_len hl
          have dp := hw.dp (K := X.K)
          obtain ⟨a, xs, rfl, _⟩ := hw
          exact ⟨_, cr_repr x.grd hu, a, .tuple ds, rfl, dp, h1, h2, h3, h4, P.here ok (rE.ofD (by simp only [VR]))⟩
        · simp only [b1D, if_neg hl, b1N] at e
          cases e
      | dict _ => simp [b1D, b1N] at e
    | str => cases d <;> simp [b1D, b1N] at e
    | sorted =>
      cases d with
      | list ds =>
        simp only [b1D, b1N] at e
        cases hi : asInts ds with
        | none =>
          rw [hi] at e
          by_cases hs : srtOk ds = true
          · simp only [srtL, hs, if_true, Option.map_some] at e
            cases e
            exact ⟨_, cr_sortedD (by have := x.room.un; omega), sorted_list false ok hw hs P⟩
          · simp only [srtL, hs] at e
            cases e
        | some ns =>
          rw [hi] at e
          cases e
          obtain ⟨a, xs, rfl, _, h, zz, r⟩ := hw
          have ex := r.ints hi
          subst ex
          refine ⟨_, cr_sortedI, a, ns, rfl, SqL.of h, fun ns' p hp1 hp2 hp => ?_⟩
          have en : ns' = sortI ns := sorted_one (hp1.trans (sortI_perm ns).symm) hp2 (sortI_sorted ns)
          subst en
          refine P.newLst ok ?_ (VRs.ofInts _) hp
          rw [List.length_map, (sortI_perm ns).length_eq]
          rw [List.length_map] at zz
          exact zz
      | tuple ds =>
        simp only [b1D, b1N] at e
        cases hi : asInts ds with
        | none =>
          rw [hi] at e
          by_cases hs : srtOk ds = true
          · simp only [srtL, hs, if_true, Option.map_some] at e
            cases e
            exact ⟨_, cr_sortedDT (by have := x.room.un; omega), sorted_tupD ok hw hs P⟩
          · simp only [srtL, hs] at e
            cases e
        | some ns =>
          rw [hi] at e
          cases e
          obtain ⟨a, xs, rfl, _, h, zz, r⟩ := hw
          have ex := r.ints hi
          subst ex
          refine ⟨_, cr_sortedTI, a, ns, rfl, SqT.of h, fun ns' p hp1 hp2 hp => ?_⟩
          have en : ns' = sortI ns := sorted_one (hp1.trans (sortI_perm ns).symm) hp2 (sortI_sorted ns)
          subst en
          refine P.newLst ok ?_ (VRs.ofInts _) hp
          rw [List.length_map, (sortI_perm ns).length_eq]
          rw [List.length_map] at zz
          exact zz
      | _ => simp [b1D, b1N] at e
  cases v with
  | scr ns =>
    cases b <;> simp [b1E] at e
    subst e
    obtain ⟨a, rfl, hq⟩ := scr_seq (K := c.K) (mg := c.mg) (show VRH c.K c.mg C O H (.scr ns) u from q.1)
    refine ⟨_, call_len_seq, a, _, rfl, .inl (by rw [x.K]; exact hq), ?_⟩
    rw [List.length_map]
    exact P.here ok (rE.ofD (by simp only [VR]))
  | d y => exact main y rfl e
  | nw ds => exact main _ rfl e
  | pk ds => exact main _ rfl e
  | cell n => simp [b1E, EV.asD] at e
  | fn n => simp [b1E, EV.asD] at e
theorem both_b1 (x : XOk g N sc k F c X) {b : B1} {a : IE} {y : Expr} (h : mE g N sc (.b1 b a) y = true) (ha : ∀ {y}, mE g N sc a y = true → PE X y (tE c F a)) : Both X c F (.b1 b a) y := by
  simp only [mE] at h
  split at h
  · rename_i nm pn z pc
    simp only [Bool.and_eq_true, decide_eq_true_eq] at h
    obtain ⟨⟨⟨e1, hb⟩, hs⟩, h4⟩ := h
    obtain ⟨b1, b2, b3, b4⟩ := blt_of x hb
    have hpa := pa_one (ha h4) hs
    have hst : starEach [z] X.env = (false, eval z X.env) :: starEach [] X.env := star_of hs
    have go : ∀ (T : TE), PE X (.Call (.Name nm pn) [z] [] pc) T → (T = fun σ H Q => tCons (tE c F a) tNil σ H fun vs H1 => ∃ r : List V → Hp → VK → Prop, CallR X (b1V b) r ∧ r vs H1 Q) → Both X c F (.b1 b a) (.Call (.Name nm pn) [z] [] pc) := by
      intro T hT e
      subst e
      refine both_val (PE.imp hT fun σ H Q ⟨C, O, ρ, S, R, P⟩ => ?_) fun _ => rfl
      simp only [evalE] at P
      refine ⟨C, O, ρ, S, R, Post.bind rE.up P fun r S1 v H1 C1 a1 q P1 => ?_⟩
      obtain ⟨w, e2, P2⟩ := P1.lft
      exact b1_rule x a1.ok q e2 P2
    cases b <;> (simp only [b1A] at e1; subst e1)
    · exact go _ (pe_callB call_any b1 b2 (by decide +kernel) hpa b4 b3 hst rfl) rfl
    · exact go _ (pe_callTy call_any b1 b2 (by decide +kernel) hpa b4 b3 hst rfl) rfl
    · exact go _ (pe_callB call_any b1 b2 (by decide +kernel) hpa b4 b3 hst rfl) rfl
    · exact go _ (pe_callB call_any b1 b2 (by decide +kernel) hpa b4 b3 hst rfl) rfl
    · exact go _ (pe_callB call_any b1 b2 (by decide +kernel) hpa b4 b3 hst rfl) rfl
    · exact go _ (pe_callB call_any b1 b2 (by decide +kernel) hpa b4 b3 hst rfl) rfl
    · exact go _ (pe_callTy call_any b1 b2 (by decide +kernel) hpa b4 b3 hst rfl) rfl
    · exact go _ (pe_callTy call_any b1 b2 (by decide +kernel) hpa b4 b3 hst rfl) rfl
    · exact go _ (pe_callB call_any b1 b2 (by decide +kernel) hpa b4 b3 hst rfl) rfl
    · exact go _ (pe_callB call_any b1 b2 (by decide +kernel) hpa b4 b3 hst rfl) rfl
    · exact go _ (pe_callTy call_any b1 b2 (by decide +kernel) hpa b4 b3 hst rfl) rfl
    · exact go _ (pe_callB call_any b1 b2 (by decide +kernel) hpa b4 b3 hst rfl) rfl
  · cases h
end
end SS

end

section
set_option linter.all false
set_option autoImplicit false
set_option maxRecDepth 100000
set_option maxHeartbeats 4000000
/-! All expressions. -/
namespace SS
open PySem PySem.Spec PyProof.Rows L2
variable [Tabl]
section
variable {g : Sg} {N : List Str} {sc : Scope} {k : Nat} {F : Call} {c : Ct} {X : Cx}

/-- a built-in type's name -/
def tyS : Ty → String
  | .int => "int" | .bool => "bool" | .str => "str" | .tuple => "tuple" | .list => "list"
def kindS : D → String
  | .none => "NoneType" | .bool _ => "bool" | .int _ => "int" | .str _ => "str" | .tuple _ => "tuple" | .list _ => "list" | .dict _ => "dict"
theorem VRw.tyX {C O : List Addr} {H : Hp} {d : D} {v : V} (h : VRw C O H d v) : TyX X.K H v (.type (kindS d)) := by
  cases d with
  | none => have e : v = .non := h; subst e; exact .base .non
  | bool b => have e : v = .bl b := h; subst e; exact .base (.bl b)
  | int b => have e : v = .int b := h; subst e; exact .base (.int b)
  | str b => have e : v = .str b := h; subst e; exact .base (.str b)
  | tuple ds =>
    obtain ⟨a, xs, rfl, _, t, _⟩ := h
    exact .base (.tup t)
  | list ds =>
    obtain ⟨a, xs, rfl, _, t, _⟩ := h
    exact .base (.lst t)
  | dict _ => exact h.elim
def notDict : D → Bool
  | .dict _ => false
  | _ => true
theorem VRw.notDict {C O : List Addr} {H : Hp} {d : D} {v : V} (h : VRw C O H d v) : SS.notDict d = true := by
  cases d with
  | dict _ => exact h.elim
  | _ => rfl
theorem kit_isi {K : PySem.W.Frag} (t : Ty) (d : D) (h : notDict d = true) : PySem.W.kitOne K (.type (kindS d)) (.type (tyS t)) = some (isiD t d) := by
  cases d <;> first | (cases h; done) | (cases t <;> exact kit_ty (by simp only [kindS, tyS, isiD]; decide +kernel))
theorem both_isi (x : XOk g N sc k F c X) {a : IE} {t : Ty} {y : Expr} (h : mE g N sc (.isi a t) y = true) (ha : ∀ {y}, mE g N sc a y = true → PE X y (tE c F a)) : Both X c F (.isi a t) y := by
  simp only [mE] at h
  split at h
  · rename_i nm pn z w pw pc
    simp only [Bool.and_eq_true, decide_eq_true_eq] at h
    obtain ⟨⟨⟨⟨⟨e1, hb⟩, hs⟩, h4⟩, e2⟩, hb2⟩ := h
    subst e1
    subst e2
    obtain ⟨b1, b2, b3, b4⟩ := blt_of x hb
    obtain ⟨c1, c2, c3, c4⟩ := blt_of x hb2
    have hv : bootBuiltins (tyA t) = some (.type (tyS t)) := by cases t <;> decide +kernel
    have hst : starEach [z, .Name (tyA t) pw] X.env = (false, eval z X.env) :: starEach [.Name (tyA t) pw] X.env := star_of hs
    have hpa := pa_cons (ha h4) (pa_cons (pe_bltn (v := .ty (tyS t)) (pos := pw) c1 c2 hv rfl c4 c3) pa_nil rfl) hst
    refine both_val (PE.imp (pe_callB call_isi b1 b2 (by decide +kernel) hpa b4 b3 hst rfl) fun σ H Q ⟨C, O, ρ, S, R, P⟩ => ?_) fun _ => rfl
    simp only [evalE] at P
    refine ⟨C, O, ρ, S, R, Post.bind rE.up P fun r S1 v H1 C1 a1 q P1 => ?_⟩
    obtain ⟨d, e2, P2⟩ := P1.lft
    have hw := q.asD a1.ok d e2
    exact ⟨v, .ty (tyS t), .type (kindS d), .type (tyS t), isiD t d, rfl, .ty _, hw.tyX, kit_isi t d hw.notDict, P2.here a1.ok (rE.ofD (by simp only [VR]))⟩
  · cases h
theorem both_b2 (x : XOk g N sc k F c X) {b : B2} {a e : IE} {y : Expr} (h : mE g N sc (.b2 b a e) y = true) (ha : ∀ {y}, mE g N sc a y = true → PE X y (tE c F a)) (he : ∀ {y}, mE g N sc e y = true → PE X y (tE c F e)) : Both X c F (.b2 b a e) y := by
  simp only [mE] at h
  split at h
  · rename_i nm pn z w pc
    simp only [Bool.and_eq_true, decide_eq_true_eq] at h
    obtain ⟨⟨⟨⟨⟨e1, hb⟩, hs⟩, hs'⟩, h4⟩, h5⟩ := h
    obtain ⟨b1, b2, b3, b4⟩ := blt_of x hb
    have hst : starEach [z, w] X.env = (false, eval z X.env) :: starEach [w] X.env := star_of hs
    have hpa := pa_two (ha h4) (he h5) hs hs'
    have hpl : (backTo pc (starEach [w] X.env)).any (·.1) = false := by
      rw [star_of hs']
      rfl
    have go : ∀ {r : List V → Hp → VK → Prop}, PE X (.Call (.Name nm pn) [z, w] [] pc) (tCB r (tCons (tE c F a) (tCons (tE c F e) tNil))) → (∀ {C O : List Addr} {S : Cells} {H : Hp} {σ : L2.St} {Q : VK} {d d' z : D} {v w : V}, Ok C O S H → VRw C O H d v → VRw C O H d' w → b2D b d d' = some z → Post c O (rE c O) C H σ Q (.ok (.d z) S) → r [v, w] H Q) → Both X c F (.b2 b a e) (.Call (.Name nm pn) [z, w] [] pc) := by
      intro r hp hr
      refine both_val (PE.imp hp fun σ H Q ⟨C, O, ρ, S, R, P⟩ => ?_) fun _ => rfl
      simp only [evalE] at P
      refine ⟨C, O, ρ, S, R, Post.bind rE.up P fun r S1 v H1 C1 a1 q P1 => ⟨C1, O, ρ, S1, R.aft a1, Post.bind rE.up P1 fun r2 S2 v2 H2 C2 a2 q2 P2 => ?_⟩⟩
      obtain ⟨z, e2, P3⟩ := P2.lft
      simp only [Option.bind_eq_some_iff] at e2
      obtain ⟨da, ea, db, eb, e2⟩ := e2
      exact hr a2.ok ((q.asD a1.ok da ea).aft a2) (q2.asD a2.ok db eb) e2 P3
    cases b <;> (simp only [b2A] at e1; subst e1)
    · refine go (pe_callB (call_max2 x.calm) b1 b2 (by decide +kernel) hpa b4 b3 hst hpl) fun {C O S H σ Q d d' z v w} ok q1 q2 e P => ?_
      cases d <;> cases d' <;> simp [b2D] at e
      subst e
      exact ⟨_, _, by rw [show v = .int _ from q1, show w = .int _ from q2], P.here ok (rE.ofD (by simp only [VR]))⟩
    · refine go (pe_callB (call_min2 x.calm) b1 b2 (by decide +kernel) hpa b4 b3 hst hpl) fun {C O S H σ Q d d' z v w} ok q1 q2 e P => ?_
      cases d <;> cases d' <;> simp [b2D] at e
      subst e
      exact ⟨_, _, by rw [show v = .int _ from q1, show w = .int _ from q2], P.here ok (rE.ofD (by simp only [VR]))⟩
    · refine go (pe_callB call_divmod b1 b2 (by decide +kernel) hpa b4 b3 hst hpl) fun {C O S H σ Q d d' z v w} ok q1 q2 e P => ?_
      cases d with
      | int i =>
        cases d' with
        | int j =>
          by_cases hl : 0 < j ∧ j.natAbs < 1073741824
          · simp only [b2D, hl, if_true, and_self] at e
            cases e
            refine ⟨i, j, by rw [show v = .int _ from q1, show w = .int _ from q2], ⟨hl.1, by have := hl.2; omega⟩, fun p hp => ?_⟩
            exact P.newTup ok (by show 2 ≤ sizeLine; decide) (.cons (by simp only [VR]) (.cons (by simp only [VR]) .nil)) hp
          · simp [b2D, hl] at e
        | _ => simp [b2D] at e
      | _ => simp [b2D] at e
  · cases h
/-- xs.index(y), xs.count(y) -/
theorem m1_rule (x : XOk g N sc k F c X) {m : M1} {C O : List Addr} {S : Cells} {H : Hp} {σ : L2.St} {Q : VK} {d e : D} {u v : V} {z : D} (ok : Ok C O S H) (hd : VRw C O H d u) (he : VRw C O H e v) (hm : m1D m d e = some z) (P : Post c O (rE c O) C H σ Q (.ok (.d z) S)) :
    ∃ ds a xs, d = .list ds ∧ u = .ref a ∧ H a = some (.lst xs) ∧ (m = .index → rIndexD X.K u [v] H Q) ∧ (m = .count → rCountD X.K u [v] H Q) := by
  cases d with
  | list ds =>
    have dd : Dp X.K H u (.list ds) := hd.dp
    have de : Dp X.K H v e := he.dp
    obtain ⟨a, xs, rfl, _, hh, _, _⟩ := hd
    cases m with
    | index =>
      simp only [m1D] at hm
      split at hm
      · rename_i hs
        simp only [Bool.and_eq_true] at hs
        obtain ⟨j, ej, ez⟩ := Option.map_eq_some_iff.mp hm
        subst ez
        obtain ⟨z', h1, h2, h3⟩ := idx_at ej
        exact ⟨ds, a, xs, rfl, rfl, hh, fun _ => ⟨a, v, e, ds, j, z', rfl, rfl, dd, de, hs.1, hs.2, h1, h2, h3, P.here ok (rE.ofD (by simp only [VR]))⟩, fun z => by cases z⟩
      · cases hm
    | count =>
      simp only [m1D] at hm
      split at hm
      · rename_i hs
        simp only [Bool.and_eq_true] at hs
        cases hm
        exact ⟨ds, a, xs, rfl, rfl, hh, fun z => (by cases z), fun _ => ⟨a, v, e, ds, rfl, rfl, dd, de, hs.1, hs.2, P.here ok (rE.ofD (by simp only [VR]))⟩⟩
      · cases hm
  | _ => cases m <;> simp [m1D] at hm
theorem both_m1 (x : XOk g N sc k F c X) {m : M1} {a e : IE} {y : Expr} (h : mE g N sc (.m1 m a e) y = true) (ha : ∀ {y}, mE g N sc a y = true → PE X y (tE c F a)) (he : ∀ {y}, mE g N sc e y = true → PE X y (tE c F e)) : Both X c F (.m1 m a e) y := by
  simp only [mE] at h
  split at h
  · rename_i o nm p v cc
    simp only [Bool.and_eq_true, decide_eq_true_eq] at h
    obtain ⟨⟨⟨⟨⟨e1, hb⟩, hs⟩, hl⟩, h4⟩, h5⟩ := h
    have hu : X.A.units + 65 < cLine := by have := x.room.un; omega
    have hst : starEach [v] X.env = (false, eval v X.env) :: starEach [] X.env := star_of hs
    have go : ∀ {id : String} {r : V → List V → Hp → VK → Prop}, Slot "list" nm id → typeOf (.builtin id) = pure (.type "method_descriptor") → MtR X id r → (∀ u v H Q, (m = .index → rIndexD X.K u [v] H Q) → (m = .count → rCountD X.K u [v] H Q) → r u [v] H Q) → Both X c F (.m1 m a e) (.Call (.Attribute o nm p) [v] [] cc) := by
      intro id r slot hty hm hr
      refine both_val (PE.imp (pe_bm PySem.F.plainAttrs_list slot hty hm (ha h4) (pa_one (he h5) hs) (base_of hb) (by rw [hst]; rfl) hl hst rfl) fun σ H Q ⟨C, O, ρ, S, R, P⟩ => ?_) fun _ => rfl
      simp only [evalE] at P
      refine ⟨C, O, ρ, S, R, Post.bind rE.up P fun r1 S1 v1 H1 C1 a1 q1 P1 => ?_⟩
      obtain ⟨xs, e0, P1⟩ := P1.lft
      simp only [Option.bind_eq_some_iff] at e0
      obtain ⟨da, ea, el⟩ := e0
      have hw := q1.asD a1.ok da ea
      cases da with
      | list xs' =>
        cases el
        refine ⟨?_, C1, O, ρ, S1, R.aft a1, Post.bind rE.up P1 fun r2 S2 v2 H2 C2 a2 q2 P2 => ?_⟩
        · obtain ⟨a, us, rfl, _, hh, _, _⟩ := hw
          exact .inl ⟨rfl, _, SqL.of hh⟩
        · obtain ⟨z, e2, P3⟩ := P2.lft
          simp only [Option.bind_eq_some_iff] at e2
          obtain ⟨db, eb, e2⟩ := e2
          obtain ⟨_, _, _, _, _, _, k1, k2⟩ := m1_rule x a2.ok (hw.aft a2) (q2.asD a2.ok db eb) e2 P3
          exact hr _ _ _ _ k1 k2
      | _ => cases el
    cases m <;> (simp only [m1A] at e1; subst e1)
    · exact go PySem.F.slot_list_index PySem.F.type_list_index (mt_indexD hu) fun u v H Q k1 _ => k1 rfl
    · exact go PySem.F.slot_list_count PySem.F.type_list_count (mt_countD hu) fun u v H Q _ k2 => k2 rfl
  · cases h
theorem both_callv (x : XOk g N sc k F c X) {i : Nat} {es : IEs} {y : Expr} (h : mE g N sc (.callv i es) y = true) (hes : ∀ {ys}, mEs g N sc es ys = true → PA X ys (tEs c F es)) : Both X c F (.callv i es) y := by
  simp only [mE] at h
  split at h
  · rename_i nm pn w ws pos
    simp only [Bool.and_eq_true, decide_eq_true_eq] at h
    obtain ⟨⟨⟨hn, hv⟩, hd⟩, h5⟩ := h
    have hs0 : starEach (w :: ws) X.env = (false, eval w X.env) :: starEach ws X.env := by
      cases es with
      | nil => simp [mEs] at h5
      | cons e es =>
        simp only [mEs, Bool.and_eq_true] at h5
        exact star_of h5.1.2
    have hpl : (backTo pos (starEach ws X.env)).any (·.1) = false := by
      have := noStar (env := X.env) (pos := pos) h5
      rw [hs0] at this
      simpa [backTo] using this
    refine both_val ⟨fun pins s σ H Q I ⟨C, O, ρ, S, R, P⟩ => ?_⟩ fun _ => rfl
    simp only [evalE] at P
    split at P
    · rename_i f hf
      obtain ⟨v, hs, a, rfl, hm, hk⟩ := R.slots i _ hf
      rw [← x.mg] at hm
      rw [← x.K] at hk
      refine wpAny_Call_Name_kw (thn ((pe_var (pos := pn) (by rw [x.hN]; exact hn) (vis_of x hv) (dbg1 hd) (dbg2 hd)).run pins s σ H (fun v H1 => v = .ref a ∧ H1 = H) I ⟨.ref a, hs, rfl, rfl⟩) fun u s1 ⟨v, H1, I1, r1, q1⟩ => ?_)
      obtain ⟨rfl, rfl⟩ := q1
      cases r1
      refine PySem.W.callWith_K (h₀ := X.base) I.ok.mod.kin hk (thn ((hes h5).run pos pins s1 σ H1 (fun vs H2 => ∃ C2 S2 rs, Ok C2 O S2 H2 ∧ LamX.Tabs Tabl.tabs H2 ∧ VREs c C2 O H2 rs vs ∧ Post c O (rE c O) C2 H2 σ Q (lft (EV.mapHeld rs) fun vs => F f vs S2)) I1 ?_) fun us s2 ⟨vs, H2, I2, r, C2, S2, rs, ok2, tb2, q2, P2⟩ => ⟨I2.kIn, ?_⟩) hs0 hpl
      · exact ⟨C, O, ρ, S, R, Post.bind rE.up P fun rs S2 vs H2 C2 a2 q2 P2 => ⟨C2, S2, rs, a2.ok, a2.grow.tabs (x.tabsAt R), q2, P2⟩⟩
      · obtain ⟨as, e, P3⟩ := P2.lft
        have hb : F f as S2 ≠ .bad := fun z => by
          rw [z] at P3
          exact P3
        obtain ⟨fd, ps, FF, hB⟩ := x.facts.runs f a as S2 hm hb
        have sp := call_rule x.K x.mg (σ := σ) ok2 tb2 (q2.held e) P3
        have hl : (us ++ []).length = ps.length := by
          rw [List.append_nil, ← r.length]
          exact FF.len _ _ _ _ sp
        have b := hB s2 us I2.kIn hl
        rw [List.append_nil] at b
        refine wpAny_call (codeAny_mono (FF.run X.A X.stack s2 H2 ⟨us, []⟩ us vs Q (fun cls d H => c.W cls d σ H) x.room x.grd I2.env0 b r sp) fun r s' hq => ?_)
        cases r with
        | error e => exact x.pas σ pins H2 s2 e s' I2 hq
        | ok fl =>
          cases fl with
          | ret u => exact I2.after hq
          | next => exact False.elim hq
          | brk => exact False.elim hq
          | cont => exact False.elim hq
    · exact P.elim
  · cases h
theorem fold_of {e : Expr} {env : PySem.Env} (h : setB e = true) : ∀ x, foldedSetIterable e env x = pure x := by
  intro x
  cases e <;> first | rfl | cases h
theorem msrc_set {st : Src} {y : Expr} (h : mSrc g N sc st y = true) : setB y = true := by
  cases st with
  | it e =>
    simp only [mSrc, Bool.and_eq_true] at h
    exact h.1
  | _ =>
    simp only [mSrc] at h
    split at h
    · rfl
    · cases h
theorem lookup_map {g : Str → NameKind → NameKind} (x : Str) : ∀ l : List (Str × NameKind), (l.map fun p => (p.1, g p.1 p.2)).lookup x = (l.lookup x).map (g x)
  | [] => rfl
  | (n, k) :: r => by
    rw [List.map_cons, List.lookup_cons, List.lookup_cons]
    by_cases e : x == n
    · rw [e]
      simp only [Option.map_some]
      rw [eq_of_beq e]
    · simp only [Bool.not_eq_true] at e
      rw [e]
      exact lookup_map x r
theorem lcl_of {scope : Scope} (hs : X.env.scope = relS scope sc) (hf : X.fn = fun x => scope.names.lookup x == some .cell) : ∀ x, lclB (tgS scope) x = true → L2.Loc X.env.scope x ∧ (X.fn x = true ∨ X.env.scope.names.lookup x = some .local) := fun x h => by
  have h1 : (tgS scope).names.lookup x = some .local := by
    unfold lclB at h
    split at h <;> first | assumption | cases h
  have e1 : (tgS scope).names = scope.names.map fun p => (p.1, if p.2 == .cell then .local else p.2) := by
    unfold tgS
    simp only
    refine List.map_congr_left fun p _ => ?_
    split <;> rfl
  rw [e1, lookup_map (g := fun _ k => if k == .cell then .local else k)] at h1
  obtain ⟨k, h2, h3⟩ := Option.map_eq_some_iff.mp h1
  have e2 : (relS scope sc).names.lookup x = (scope.names.lookup x).map fun k => if (k == .free && sc.kind == .function && sc.names.lookup x == some .cell) then .cell else k := by
    rw [← lookup_map (g := fun n k => if (k == .free && sc.kind == .function && sc.names.lookup n == some .cell) then .cell else k)]
    unfold relS
    simp only
    congr 1
    refine List.map_congr_left fun p _ => ?_
    split <;> rfl
  rw [h2] at e2
  unfold L2.Loc
  rw [hs, e2, hf]
  simp only [h2]
  cases k <;> simp at h3 ⊢
theorem both_comp (x : XOk g N sc k F c X) {elt : IE} {tg : Tg} {src : Src} {cnd : IO} {y : Expr} (h : mE g N sc (.comp elt tg src cnd) y = true)
    (hsrc : ∀ {t y : Expr}, (∃ sc', mTgF N sc' tg t = true) → srcTg src tg = true → mSrc g N sc src y = true → PI X t y (tI c F false src))
    (hcnd : ∀ {sc' : Scope} {X' : Cx} {ys}, XOk g N sc' k F c.calm X' → mC g N sc' cnd ys = true → PTs X' ys (tC c.calm F cnd))
    (helt : ∀ {sc' : Scope} {X' : Cx} {y}, XOk g N sc' k F c.calm X' → mE g N sc' elt y = true → PE X' y (tE c.calm F elt)) : Both X c F (.comp elt tg src cnd) y := by
  simp only [mE] at h
  split at h
  · rename_i e t i ifs scope pos
    simp only [Bool.and_eq_true, decide_eq_true_eq, List.all_eq_true] at h
    obtain ⟨⟨⟨⟨⟨⟨⟨⟨⟨h1, h2⟩, h3⟩, h4⟩, h5⟩, h6⟩, h7⟩, h8⟩, h9⟩, h10⟩ := h
    have bk : BlkOk X.N X.env.scope scope (ownOf N (tgIx tg)) := by
      rw [x.hN, x.sc]
      exact blkOk_by h4
    refine both_val (PE.imp (pe_lc x.calm (by rw [x.hN]; exact x.nd) (hsrc ⟨_, h8⟩ h3 h7) bk (g := gFlat X.K tg) (tt := tC c.calm F cnd) (te := tE c.calm F elt) (fun s H C cl fp => ?_) (fun s H C cl fp => hcnd x.blk h9) (fun s H C cl fp => helt x.blk h10) (fold_of (msrc_set h7))) fun σ H Q q => ?_) fun _ => rfl
    · have xb := x.blk (s := s) (H := H) (scope := scope) (C := C) (cl := cl) (fp := fp)
      exact pg_flat xb.hN xb.nd xb.calm (lcl_of xb.sc rfl) h2 h8
    · rw [wipe_ids h6]
      exact comp_reads h2 h5 q
  · cases h
theorem callK_any {X : Cx} {f : Value} {ks : List Str} : CallRK X f ks (fun xs zs H Q => ∃ r : List V → List V → Hp → VK → Prop, CallRK X f ks r ∧ r xs zs H Q) := fun pins s σ H xs zs us ws Q I r1 r2 ⟨r, h, q⟩ => h pins s σ H xs zs us ws Q I r1 r2 q
theorem sorted_down {a b : List Int} (p : a.Perm b) (ha : a.Pairwise (· ≥ ·)) (hb : b.Pairwise (· ≤ ·)) : a = b.reverse := by
  have h1 : a.reverse = b := sorted_one ((List.reverse_perm a).trans p) (List.pairwise_reverse.mpr ha) hb
  rw [← h1, List.reverse_reverse]
theorem both_sset (x : XOk g N sc k F c X) {ln : Bool} {a : IE} {y : Expr} (h : mE g N sc (.sset ln a) y = true) (ha : ∀ {y}, mE g N sc a y = true → PE X y (tE c F a)) : Both X c F (.sset ln a) y := by
  simp only [mE] at h
  split at h
  · rename_i nm pn nm2 pn2 z pc pc2
    simp only [Bool.and_eq_true, decide_eq_true_eq] at h
    obtain ⟨⟨⟨⟨⟨e1, hb⟩, e2⟩, hb2⟩, hs⟩, h4⟩ := h
    subst e2
    obtain ⟨c1, c2, c3, c4⟩ := blt_of x hb2
    have hst : starEach [z] X.env = [(false, eval z X.env)] := by
      rw [star_of hs]
      rfl
    have inner := pe_callTy (p := pn2) (pos := pc) (cr_setI x.calm) c1 c2 (by decide +kernel) (pa_one (ha h4) hs) c4 c3 (star_of hs) rfl
    obtain ⟨b1, b2, b3, b4⟩ := blt_of x hb
    have key : ∀ {σ : L2.St} {H : Hp} {Q Q' : VK}, tE c F (.sset ln a) σ H Q → (∀ (p : Addr) (S : Int → Bool) (ns : List Int) (H' : Hp), H' p = some (SetO X.w p S (uniqI ns).length) → ns.length ≤ 60 → (∀ k, S k = true ↔ k ∈ ns) →
        (∃ C O S, Ok C O S H' ∧ Post c O (rE c O) C H' σ Q (.ok (if ln then .d (.int (uniqI ns).length) else .nw ((uniqI ns).map .int)) S)) → Q' (.ref p) H') → tCB (rSetI X.K X.w) (tCons (tE c F a) tNil) σ H Q' := fun {σ H Q Q'} ⟨C, O, ρ, S, R, P⟩ fin => by
      simp only [evalE] at P
      refine ⟨C, O, ρ, S, R, Post.bind rE.up P fun r S1 v H1 C1 a1 q P1 => ?_⟩
      obtain ⟨ns, e, P2⟩ := P1.lft
      simp only [Option.bind_eq_some_iff] at e
      obtain ⟨d, e3, e4⟩ := e
      have hw := q.asD a1.ok d e3
      cases d with
      | list xs =>
        have e4 : uqOk xs.length (asInts xs) = some ns := e4
        cases e5 : asInts xs with
        | none => rw [e5] at e4; cases e4
        | some ms =>
          rw [e5] at e4
          simp only [uqOk] at e4
          split at e4
          · rename_i hl
            cases e4
            obtain ⟨p, us, rfl, _, hh, zz, rr⟩ := hw
            have el := rr.length
            have ex := rr.ints e5
            subst ex
            rw [List.length_map] at el
            refine ⟨p, ns, rfl, SqL.of hh, by omega, fun p2 S2 hp hS => ?_⟩
            exact fin p2 S2 ns _ upd_same (by omega) hS ⟨C1, O, S1, a1.ok.upd hp, Post.aft rE.up P2 (a1.ok.aft.upd hp)⟩
          · cases e4
      | _ => cases e4
    cases ln with
    | true =>
      have e1 : nm = "len" := e1
      subst e1
      refine both_val (PE.imp (pe_callB (p := pn) (pos := pc2) cr_lenSet b1 b2 PySem.boot_len (pa_one inner rfl) b4 b3 rfl rfl) fun σ H Q t => key t fun p S ns H' hp hl hS ⟨C, O, S', ok, P⟩ => ?_) fun _ => rfl
      have := uniq_len ns
      exact ⟨p, S, _, rfl, hp, by omega, P.here ok (rE.ofD (by simp only [VR]))⟩
    | false =>
      have e1 : nm = "sorted" := e1
      subst e1
      refine both_val (PE.imp (pe_callB (p := pn) (pos := pc2) (cr_sortedSet x.calm) b1 b2 (by decide +kernel) (pa_one inner rfl) b4 b3 rfl rfl) fun σ H Q t => key t fun p S ns H' hp hl hS ⟨C, O, S', ok, P⟩ => ?_) fun _ => rfl
      have := uniq_len ns
      refine ⟨p, S, _, rfl, hp, by omega, fun ms p2 h1 h2 h3 hp2 => ?_⟩
      have e : ms = uniqI ns := up_eq h1 (uniq_up ns) fun k => by rw [h2, hS, uniq_mem]
      subst e
      exact P.newLst ok (by rw [List.length_map, sizeLine_eq]; omega) (VRs.ofInts _) hp2
  · cases h
theorem both_srtR (x : XOk g N sc k F c X) {a : IE} {y : Expr} (h : mE g N sc (.srtR a) y = true) (ha : ∀ {y}, mE g N sc a y = true → PE X y (tE c F a)) : Both X c F (.srtR a) y := by
  simp only [mE] at h
  split at h
  · rename_i nm pn z kk j pk pk2 pc
    simp only [Bool.and_eq_true, decide_eq_true_eq] at h
    obtain ⟨⟨⟨⟨e1, hb⟩, hs⟩, e2⟩, h4⟩ := h
    subst e1
    subst e2
    obtain ⟨b1, b2, b3, b4⟩ := blt_of x hb
    have hst : starEach [z] X.env = [(false, eval z X.env)] := by
      rw [star_of hs]
      rfl
    refine both_val (PE.imp (pe_callBK (id := "sorted") (ks := [Str.ofString "reverse"]) callK_any b1 b2 (by decide +kernel) (pa_one (ha h4) hs) (pk_cons pe_bl pk_nil) b4 b3 (by rw [star_of hs]; rfl) (by rw [hst]; rfl) rfl rfl rfl) fun σ H Q ⟨C, O, ρ, S, R, P⟩ => ?_) fun _ => rfl
    simp only [evalE] at P
    refine ⟨C, O, ρ, S, R, Post.bind rE.up P fun r S1 v H1 C1 a1 q P1 => ?_⟩
    obtain ⟨ds, e, P2⟩ := P1.lft
    simp only [Option.bind_eq_some_iff] at e
    obtain ⟨d, e3, e4⟩ := e
    have hw := q.asD a1.ok d e3
    cases d with
    | list xs =>
      have e4 : srtLR xs (asInts xs) = some ds := e4
      cases e5 : asInts xs with
      | none =>
        rw [e5] at e4
        by_cases hs : srtOk xs = true
        · simp only [srtLR, hs, if_true] at e4
          cases e4
          exact ⟨_, cr_sortedDR (by have := x.room.un; omega), rfl, sorted_list true a1.ok hw hs P2⟩
        · simp only [srtLR, hs] at e4
          cases e4
      | some ns =>
      rw [e5] at e4
      cases e4
      obtain ⟨p, us, rfl, _, hh, zz, rr⟩ := hw
      have ex := rr.ints e5
      subst ex
      refine ⟨_, cr_sortedRev (b := true), p, ns, rfl, rfl, SqL.of hh, fun ns' p2 hp1 hp2 hp => ?_⟩
      have en : ns' = (sortI ns).reverse := sorted_down (hp1.trans (sortI_perm ns).symm) hp2 (sortI_sorted ns)
      subst en
      refine P2.newLst a1.ok ?_ (VRs.ofInts _) hp
      rw [List.length_map, List.length_reverse, (sortI_perm ns).length_eq]
      rw [List.length_map] at zz
      exact zz
    | tuple xs =>
      have e4 : srtTR (asInts xs) = some ds := e4
      cases e5 : asInts xs with
      | none =>
        rw [e5] at e4
        cases e4
      | some ns =>
      rw [e5] at e4
      cases e4
      obtain ⟨p, us, rfl, _, hh, zz, rr⟩ := hw
      have ex := rr.ints e5
      subst ex
      refine ⟨_, cr_sortedTR (b := true), p, ns, rfl, rfl, SqT.of hh, fun ns' p2 hp1 hp2 hp => ?_⟩
      have en : ns' = (sortI ns).reverse := sorted_down (hp1.trans (sortI_perm ns).symm) hp2 (sortI_sorted ns)
      subst en
      refine P2.newLst a1.ok ?_ (VRs.ofInts _) hp
      rw [List.length_map, List.length_reverse, (sortI_perm ns).length_eq]
      rw [List.length_map] at zz
      exact zz
    | _ => cases e4
  · cases h
theorem rgV_rel {M : List Addr} {H : Hp} (a b : Int) : VRs M H (rangeD a b) (rgV a b) := by
  have e : rangeD a b = ((List.range (b - a).toNat).map fun i => a + ((i : Nat) : Int)).map PyData.int := by
    unfold rangeD
    rw [List.map_map]
    rfl
  have e2 : rgV a b = ((List.range (b - a).toNat).map fun i => a + ((i : Nat) : Int)).map V.int := by
    unfold rgV
    rw [List.map_map]
    rfl
  rw [e, e2]
  exact VRs.ofInts _
/-- list(range(..)), tuple(range(..)) -/
theorem both_rgl (x : XOk g N sc k F c X) {tp : Bool} {src : Src} {y : Expr} (h : mE g N sc (.rgl tp src) y = true) (h1 : ∀ {a}, src = .rng1 a → ∀ {y}, mE g N sc a y = true → PE X y (tE c F a)) (h2 : ∀ {a b}, src = .rng2 a b → ∀ {y}, (mE g N sc a y = true → PE X y (tE c F a)) ∧ (mE g N sc b y = true → PE X y (tE c F b))) : Both X c F (.rgl tp src) y := by
  simp only [mE] at h
  split at h
  · rename_i nm pn z pc
    simp only [Bool.and_eq_true, decide_eq_true_eq] at h
    obtain ⟨⟨⟨⟨e1, hb⟩, hs⟩, hr⟩, h4⟩ := h
    obtain ⟨b1, b2, b3, b4⟩ := blt_of x hb
    have hst : starEach [z] X.env = (false, eval z X.env) :: starEach [] X.env := star_of hs
    -- the range's own reading
    have key : ∃ te, PRg X z te ∧ ∀ σ H Q, tE c F (.rgl tp src) σ H Q → te σ H fun a b H1 => RgOk a b ∧ ∀ q, H1 q = none → Q (.ref q) (L2.upd H1 q (if tp then .tup (rgV a b) else .lst (rgV a b))) := by
      have fin : ∀ {C O : List Addr} {S : Cells} {H : Hp} {σ : L2.St} {Q : VK} {m n : Int}, Ok C O S H → (-1000000 ≤ m ∧ m ≤ 1000000) → (-1000000 ≤ n ∧ n ≤ 1000000) → Post c O (rE c O) C H σ Q (.ok (if tp then .d (.tuple (rangeD m n)) else .nw (rangeD m n)) S) →
          RgOk m n ∧ ∀ q, H q = none → Q (.ref q) (L2.upd H q (if tp then .tup (rgV m n) else .lst (rgV m n))) := by
        intro C O S H σ Q m n ok hm hn P
        refine ⟨⟨by omega, by omega, by omega, by omega, by omega⟩, fun q hq => ?_⟩
        have z : (rgV m n).length ≤ sizeLine := by rw [rgV_length, sizeLine_eq]; omega
        cases tp with
        | true => exact P.newTup ok z (rgV_rel m n) hq
        | false => exact P.newLst ok z (rgV_rel m n) hq
      cases src with
      | rng1 a =>
        simp only [mSrc] at h4
        split at h4
        · simp only [Bool.and_eq_true, decide_eq_true_eq] at h4
          obtain ⟨⟨⟨f1, fb⟩, fs⟩, f4⟩ := h4
          subst f1
          obtain ⟨c1, c2, _, _⟩ := blt_of x fb
          refine ⟨_, prg_1 c1 c2 (h1 rfl f4) (star_of fs), fun σ H Q ⟨C, O, ρ, S, R, P⟩ => ?_⟩
          simp only [evalE, evalSrc] at P
          refine ⟨C, O, ρ, S, R, ?_⟩
          cases hr : evalE F a ρ S with
          | bad => rw [hr] at P; exact P
          | exc n x S1 => rw [hr] at P; exact P
          | ok r S1 =>
            rw [hr] at P
            simp only [Res.bind_ok] at P
            intro v H1 C1 a1 q
            cases e : dInt r with
            | none => rw [e] at P; exact P.elim
            | some n =>
              rw [e] at P
              simp only [lft_some] at P
              have e' := dInt_some e
              subst e'
              by_cases hn : n.natAbs ≤ 1000000
              · rw [if_pos hn] at P
                exact ⟨n, q.1, fin a1.ok (by omega) (by omega) (Post.aft rE.up P a1)⟩
              · rw [if_neg hn] at P
                exact P.elim
        · cases h4
      | rng2 a b =>
        simp only [mSrc] at h4
        split at h4
        · simp only [Bool.and_eq_true, decide_eq_true_eq] at h4
          obtain ⟨⟨⟨⟨⟨f1, fb⟩, fs⟩, fs'⟩, f4⟩, f5⟩ := h4
          subst f1
          obtain ⟨c1, c2, _, _⟩ := blt_of x fb
          refine ⟨_, prg_2 c1 c2 ((h2 rfl).1 f4) ((h2 rfl).2 f5) (star_of fs) (star_of fs') (by rw [star_of fs']; rfl), fun σ H Q ⟨C, O, ρ, S, R, P⟩ => ?_⟩
          simp only [evalE, evalSrc] at P
          refine ⟨C, O, ρ, S, R, ?_⟩
          cases hr : evalE F a ρ S with
          | bad => rw [hr] at P; exact P
          | exc n x S1 => rw [hr] at P; exact P
          | ok r S1 =>
            rw [hr] at P
            simp only [Res.bind_ok] at P
            intro v H1 C1 a1 q
            refine ⟨C1, O, ρ, S1, R.aft a1, ?_⟩
            have P' := Post.aft rE.up P a1
            clear P
            cases hr2 : evalE F b ρ S1 with
            | bad => rw [hr2] at P'; exact P'
            | exc n x S2 => rw [hr2] at P'; exact P'
            | ok r2 S2 =>
              rw [hr2] at P'
              simp only [Res.bind_ok] at P'
              intro v2 H2 C2 a2 q2
              cases e : dInt r with
              | none => rw [e] at P'; exact P'.elim
              | some m =>
                rw [e] at P'
                simp only [lft_some] at P'
                cases e2 : dInt r2 with
                | none => rw [e2] at P'; exact P'.elim
                | some n =>
                  rw [e2] at P'
                  simp only [lft_some] at P'
                  have e' := dInt_some e
                  subst e'
                  have e2' := dInt_some e2
                  subst e2'
                  by_cases hn : m.natAbs ≤ 1000000 ∧ n.natAbs ≤ 1000000
                  · rw [if_pos hn] at P'
                    exact ⟨m, n, q.1, q2.1, fin a2.ok (by omega) (by omega) (Post.aft rE.up P' a2)⟩
                  · rw [if_neg hn] at P'
                    exact P'.elim
        · cases h4
      | _ => cases hr
    obtain ⟨te, hp, ht⟩ := key
    cases tp with
    | true =>
      have e1 : nm = "tuple" := e1
      subst e1
      exact both_val (PE.imp (pe_tupRg x.calm b1 b2 hp hst) fun σ H Q q => ht σ H Q q) fun _ => rfl
    | false =>
      have e1 : nm = "list" := e1
      subst e1
      exact both_val (PE.imp (pe_listRg x.calm b1 b2 hp hst) fun σ H Q q => ht σ H Q q) fun _ => rfl
  · cases h
end
end SS

end

section
set_option linter.all false
set_option autoImplicit false
set_option maxRecDepth 100000
set_option maxHeartbeats 4000000
/-! Lambdas of one name. -/
namespace SS
open PySem PySem.Spec PyProof.Rows L2
variable [Tabl]

/-- one name of its own; captured ones and globals beside it -/
structure LamS1 (sc scope : Scope) (p : Str) : Prop where
  kind : scope.kind = .function
  co : scope.isCoroutine = false
  gen : scope.isGenerator = false
  par : scope.names.lookup p = some .local
  own : ∀ y ∈ scope.names, y.2 ≠ .cell ∧ (y.2 = .local → y.1 = p)
  free : ∀ y ∈ scope.names, y.2 = .free → sc.names.lookup y.1 = some .cell ∨ sc.names.lookup y.1 = some .free
theorem lamS1_by {sc scope : Scope} {p : Str} (h : lamS1B sc scope p = true) : LamS1 sc scope p := by
  unfold lamS1B at h
  simp only [Bool.and_eq_true, Bool.or_eq_true, Bool.not_eq_true', decide_eq_true_eq, decide_eq_false_iff_not, List.all_eq_true] at h
  obtain ⟨⟨⟨⟨h1, h2⟩, h3⟩, h5⟩, h4⟩ := h
  refine ⟨h1, h2, h3, h5, fun y hy => ⟨(h4 y hy).1.1, fun e => ?_⟩, fun y hy e => ?_⟩
  · rcases (h4 y hy).1.2 with z | z
    · exact absurd e z
    · exact z
  · rcases (h4 y hy).2 with (z | z) | z
    · exact absurd e z
    · exact .inl z
    · exact .inr z
theorem LamS1.has {X : Cx} {scope : Scope} {p : Str} (L : LamS1 X.env.scope scope p) (ok : X.Ok) : ∀ y ∈ scope.names, y.2 = .free → ∃ c, X.env.cells.lookup y.1 = some c := fun y hy e => by
  rcases L.free y hy e with z | z
  · exact ok.has _ (.inl z)
  · exact ok.has _ (.inr z)
section
variable {X : Cx} {pins : List (Addr × Obj)} {σ : L2.St} {H : Hp} {s : Shared} {scope : Scope} {p : Str} {f c' : Addr}
theorem lam1_start {A : Around} {E : XK} {h₁ : Heap} {tk i : Nat} {u : Value} {w : V} (I : Inv X pins σ H s) (L : LamS1 X.env.scope scope p) (e0 : Env0 X.prog X.w X.K X.mg X.base A X.stack s H) (hd : A.handled = none) (nd : X.N.Nodup) (hi : X.N[i]? = some p)
    (hns : h₁.Ns s.heap.objs.size fun y => ([(p, u)] : List (Str × Value)).reverse.lookup y) (kp : ∀ b o, s.heap.get? b = some o → h₁.get? b = some o) (r : RelV w u) :
    Inv (LamX.lamCx X A X.stack s H E scope f c') [] (σ.set i (some w)) H { s with heap := h₁, toks := tk } := by
  have hfree := L.has I.ok
  have cm : ∀ {y c}, (cloFrom X.env.cells scope.names []).lookup y = some c → X.env.cells.lookup y = some c := fun {y c} e => by
    rcases cloFrom_mem (PySem.mem_of_lookup e) with hm | ⟨h1, h2⟩
    · cases hm
    · obtain ⟨c1, hc⟩ := hfree _ h1 rfl
      have hc : X.env.cells.lookup y = some c1 := hc
      have e2 : c = c1 := by
        rw [h2, hc] <;> rfl
      rw [e2]
      exact hc
  have look : ∀ {y}, scope.names.lookup y = some .free → ∃ c, (cloFrom X.env.cells scope.names []).lookup y = some c := fun {y} hl => by
    have hy : (y, NameKind.free) ∈ scope.names := PySem.mem_of_lookup hl
    exact mem_lookup (cloFrom_has (cells := X.env.cells) (acc := []) hy)
  have cellK : ∀ {c : Addr} {v : Option Value}, s.heap.IsCell c v → h₁.IsCell c v := fun {c v} ⟨o, ho, hd⟩ => ⟨o, kp _ _ ho, hd⟩
  have noA : ∀ b : Addr, b ∉ (LamX.lamCx X A X.stack s H E scope f c').ex := fun b z => absurd (show b ∈ ([] : List Addr) from z) (by simp)
  have hil : i < σ.length := by
    rw [I.len]
    exact (List.getElem?_eq_some_iff.mp hi).1
  refine ⟨⟨e0.mod, L.kind, rfl, rfl, Nat.le_refl _, fun y z c e1 e2 => I.ok.inj y z c (cm e1) (cm e2), fun y hy => ?_, fun y c z _ => ?_, fun _ => hd, Around.frames_deeper e0.frames, .inr ⟨rfl, rfl⟩, fun b z => absurd z (noA b), e0.bs, e0.bsz, fun b _ _ => noA b,
      fun b z => absurd z (noA b), e0.funs, e0.frf⟩,
    rfl, e0.bare, Un.kept kp, ⟨_, hns, fun j y v e1 e2 e3 => ?_⟩, fun y c e => ?_, e0.hok.fresh (Nat.le_refl _), fun y c e => ?_, fun q hq => absurd (show q ∈ ([] : List (Addr × Obj)) ++ [] from hq) (by simp), e0.hok.kept kp, by rw [List.length_set]; exact I.len⟩
  · have hy : scope.names.lookup y = some .cell ∨ scope.names.lookup y = some .free := hy
    rcases hy with hy | hy
    · exact absurd rfl (L.own _ (PySem.mem_of_lookup hy)).1
    · exact look hy
  · have z : false = true := z
    cases z
  · have e1 : X.N[j]? = some y := e1
    have e3 : Vis scope y := e3
    rcases e3 with k | k | k
    · have ey : y = p := (L.own _ (PySem.mem_of_lookup k)).2 rfl
      subst ey
      have ej : i = j := nodup_ix nd hi e1
      subst ej
      rw [List.getElem?_set_self hil] at e2
      cases e2
      refine ⟨u, r, .inl ⟨k, ?_⟩⟩
      show ([(y, u)] : List (Str × Value)).reverse.lookup y = some u
      simp [List.lookup]
    · exact absurd rfl (L.own _ (PySem.mem_of_lookup k)).1
    · have ny : y ≠ p := fun z => by
        rw [z, L.par] at k
        cases k
      have nj : i ≠ j := fun z => ny (by
        subst z
        rw [hi] at e1
        cases e1
        rfl)
      rw [List.getElem?_set_ne nj] at e2
      obtain ⟨m, hn, hl⟩ := I.loc
      have hvis : Vis X.env.scope y := (L.free _ (PySem.mem_of_lookup k) rfl).elim (fun k => .inr (.inl k)) (fun k => .inr (.inr k))
      obtain ⟨w', r', q⟩ := hl j y v e1 e2 hvis
      obtain ⟨c2, h2⟩ := look k
      refine ⟨w', r', .inr ⟨.inr k, c2, h2, ?_⟩⟩
      have c1 := cm h2
      rcases q with ⟨k', _⟩ | ⟨_, c3, e', z⟩
      · have k' : X.env.scope.names.lookup y = some .local := k'
        rcases L.free _ (PySem.mem_of_lookup k) rfl with k2 | k2 <;> rw [show X.env.scope.names.lookup y = _ from k2] at k' <;> cases k'
      · rw [c1] at e'
        cases e'
        exact cellK z
  · obtain ⟨w', z⟩ := I.cell y c (cm e)
    exact ⟨w', cellK z⟩
  · exact I.freeC y c (cm e)
/-- no error leaves it -/
def xNo : XK := fun _ _ _ => False
/-- the lambda is called, from within a built-in -/
theorem lam1_call {A : Around} {k i : Nat} {u pm ctv : Value} {w : V} {params : Arguments} {body : Expr} {tb : TE} {Q : VK} (I : Inv X pins σ H s) (L : LamS1 X.env.scope scope p) (nd : X.N.Nodup) (hi : X.N[i]? = some p)
    (hf : s.heap.get? f = some (PySem.W.kla_obj "<lambda>" (X.env.qual ++ "<lambda>") params body scope (cloFrom X.env.cells scope.names []) pm c' ctv)) (hc : H c' = some (LamX.CodeO c' (X.env.qual ++ "<lambda>")))
    (hbind : ∀ u, bindArgs (PySem.W.kla_fn "<lambda>" (X.env.qual ++ "<lambda>") params body scope (cloFrom X.env.cells scope.names []) pm (.ref c') ctv) ⟨[u], []⟩ = pure [(p, u)])
    (hA : A.frames = X.A.frames) (hh : A.handled = none) (hr : A.depth < recursionLimit) (r : RelV w u)
    (hbody : PE (LamX.lamCx X A X.stack s H xNo scope f c') body tb) (q : tb (σ.set i (some w)) H Q) : wpAny (model X.prog X.w) A (call (.ref f) [u]) (EP X pins σ Q) (fun _ _ => False) s := by
  have e0 : Env0 X.prog X.w X.K X.mg X.base A X.stack s H := { I.env0 with frames := hA.trans I.env0.frames }
  obtain ⟨⟨oc, vs, t, hoc, hdc, hvc⟩, _, _⟩ := I.hok c' _ hc
  have rc : codeAny (model X.prog X.w) A (.call (.ref f) ⟨[u], []⟩) (CR (L2.CX X.prog X.w) X.stack X.prog X.w H s Q xNo) s := by
    refine PySem.W.kla_callFunE hr hf rfl L.co L.gen rfl ⟨c', oc, vs, t, rfl, hoc, hdc, hvc⟩ ?_
    rw [hbind]
    refine wpAny_pure (wpAny_newFunctionEnv (fun y hy => (L.own y hy).1) (fun y hy => ?_) (fun h₁ hns hsb => ⟨I.nolimit.fresh _ hsb, ?_⟩) L.kind)
    · rw [List.mem_singleton.mp hy]
      exact L.par
    · show codeAny _ _ (.expr body (LamX.lamEnv X scope s.heap.objs.size f c')) _ _
      have kp : ∀ b o, s.heap.get? b = some o → h₁.get? b = some o := fun b o e => hsb.extBut b o (Nat.ne_of_lt (Heap.lt_size e)) (Heap.get?_push_of_some _ e)
      have J := lam1_start (E := xNo) (f := f) (c' := c') (tk := s.toks + ([(p, u)] : List (Str × Value)).length) I L e0 hh nd hi hns kp r
      refine PySem.W.kla_codeExpr (wpAny_mono (hbody.run [] _ _ H Q J q) (fun v s' hq => ?_) fun e s' hq => hq)
      obtain ⟨w', H', J', rv, q⟩ := hq
      exact ⟨w', H', J'.os, J'.bare, J'.base, J'.hok, rv, q⟩
  refine wpAny_call (codeAny_mono rc fun r s' hq => ?_)
  cases r with
  | error e =>
    obtain ⟨_, _, _, _, _, _, _, _, _, _, _, _, z⟩ := hq
    exact z.elim
  | ok fl =>
    cases fl with
    | ret u => exact I.after hq
    | next => exact False.elim hq
    | brk => exact False.elim hq
    | cont => exact False.elim hq
end
end SS

end

section
set_option linter.all false
set_option autoImplicit false
set_option maxRecDepth 100000
set_option maxHeartbeats 4000000
/-! sorted(xs, key=f), f a lambda: the calls of f may touch the heap. -/
namespace SS
open PySem PySem.Spec PyProof.Rows L2
variable [Tabl]
section
variable {X : Cx} {pins : List (Addr × Obj)} {σ : L2.St} {H : Hp} {s : Shared}
/-- an object of ours, neither tracked nor pinned -/
def KOk (X : Cx) (pins : List (Addr × Obj)) (b : Addr) : Prop := (b ∈ X.ex ∨ X.s_0.heap.objs.size ≤ b) ∧ b ≠ X.env.locals ∧ (∀ x c, X.env.cells.lookup x = some c → c ≠ b) ∧ ∀ p ∈ X.pn ++ pins, p.1 ≠ b
theorem KOk.new {b : Addr} (I : Inv X pins σ H s) (h : s.heap.objs.size ≤ b) : KOk X pins b :=
  ⟨.inr (Nat.le_trans I.sz h), fun z => Nat.lt_irrefl _ (Nat.lt_of_lt_of_le (by rw [z]; exact I.lt) h), fun x c e z => by
    obtain ⟨v, q⟩ := I.cell x c e
    exact Nat.lt_irrefl _ (Nat.lt_of_lt_of_le (by rw [← z]; exact q.lt) h), fun p hp z => Nat.lt_irrefl _ (Nat.lt_of_lt_of_le (by rw [← z]; exact Heap.lt_size (I.pin p hp).1) h)⟩
theorem KOk.pin {b : Addr} {o : Obj} (k : KOk X pins b) (I : Inv X pins σ H s) (hb : s.heap.objs.size ≤ b) {s' : Shared} (J : Inv X pins σ H s') (e : s'.heap.get? b = some o) (hd : ∀ v, o.data ≠ .cell v) : Inv X ((b, o) :: pins) σ H s' := by
  refine J.pins_of fun p hp => ?_
  rcases List.mem_cons.mp hp with rfl | hp
  · exact ⟨e, I.hok.fresh hb, k.2.1, I.nofs hb, hd⟩
  · exact J.pin p (List.mem_append_right _ hp)
theorem unpin1 {q : Addr × Obj} (I : Inv X (q :: pins) σ H s) : Inv X pins σ H s := I.pins_of fun p hp => I.pin p (List.mem_append_right _ (List.mem_cons_of_mem _ hp))
/-- the first pin's object has turned -/
theorem repin {b : Addr} {o o' : Obj} {h' : Heap} {t' : Nat} (I : Inv X ((b, o) :: pins) σ H s) (k : KOk X pins b) (kk : ∀ c u, c ≠ b → s.heap.get? c = some u → h'.get? c = some u) (e : h'.get? b = some o') (hd : ∀ v, o'.data ≠ .cell v) : Inv X ((b, o') :: pins) σ H { s with heap := h', toks := t' } := by
  obtain ⟨p1, p2, p3, p4, p5⟩ := I.pin (b, o) (List.mem_append_right _ List.mem_cons_self)
  have J := (unpin1 I).turned (t' := t') kk p2 p3 k.1 k.2.2.1 k.2.2.2
  refine J.pins_of fun p hp => ?_
  rcases List.mem_cons.mp hp with rfl | hp
  · exact ⟨e, p2, p3, p4, hd⟩
  · exact J.pin p (List.mem_append_right _ hp)
theorem dp_each (I : Inv X pins σ H s) : ∀ {xs : List V} {us : List Value} {ds : List D}, DpAll X.K H xs ds → Vals xs us → PySem.W.EachIs (fun v d => ∃ as, Reads s.heap v d as) us ds
  | _, _, _, .nil, .nil => .nil
  | _, _, _, .cons h t, .cons r rs => .cons (Dp.reads I _ _ _ h r) (dp_each I t rs)
theorem zipR : ∀ {xs : List V} {us : List Value} {ks : List D}, ks.length = xs.length → Vals xs us → PySem.W.EachIs (fun v (b : V × D) => RelV b.1 v) us (xs.zip ks)
  | _, _, [], e, .nil => .nil
  | _, _, _ :: _, e, .nil => by simp at e
  | _, _, [], e, .cons _ _ => by simp at e
  | _, _, k :: ks, e, .cons r rs => .cons r (zipR (by simpa using e) rs)
/-- the end: the list is tracked -/
theorem keyed_end {a kS : Addr} {h' : Heap} {tk c : Nat} {us : List V} {out : List Value} {o1 o2 : Obj} (I : Inv X ((kS, o1) :: (a, o2) :: pins) σ H s) (ka : KOk X pins a) (kk : KOk X pins kS) (hz : us.length ≤ sizeLine)
    (kp : ∀ b o, b ≠ a → b ≠ kS → s.heap.get? b = some o → h'.get? b = some o) (e : h'.get? a = some (seqObj "list" out.toArray c)) (r : Vals us out) : Inv X pins σ (upd H a (.lst us)) { s with heap := h', toks := tk } := by
  obtain ⟨p1, p2, p3, p4, p5⟩ := I.pin (kS, o1) (List.mem_append_right _ List.mem_cons_self)
  obtain ⟨q1, q2, q3, q4, q5⟩ := I.pin (a, o2) (List.mem_append_right _ (List.mem_cons_of_mem _ List.mem_cons_self))
  have J := unpin1 (unpin1 I)
  have at_ : ∀ b u, H b = some u → upd H a (.lst us) b = some u := fun b u z => by
    rw [upd_ne (ne_of_none z q2)]
    exact z
  have nk : ∀ b u, H b = some u → b ≠ kS := fun b u z => ne_of_none z p2
  refine J.step (g' := s.gens) (d' := s.drawn) (ch := [a, kS]) (fun b hb => ?_) (fun b o _ _ hc e _ => kp b o (fun z => hc (by simp [z])) (fun z => hc (by simp [z])) e) (fun b o _ _ hc e _ => ⟨o.slots, kp b o (fun z => hc (by simp [z])) (fun z => hc (by simp [z])) e⟩) (fun b o hc _ n => ?_)
    (fun b o hc e => ⟨o, kp b o (fun z => hc (by simp [z])) (fun z => hc (by simp [z])) e⟩) (fun b _ e => at_ b _ e) (fun b _ _ e => at_ b _ e) (fun b ps e => ⟨#[], by rw [at_ b _ e]; simp⟩) (fun m hm => ?_) (fun b u e' => ?_) J.bare
  · rcases List.mem_cons.mp hb with rfl | hb
    · exact ka
    · rw [List.mem_singleton.mp hb]
      exact kk
  · rw [upd_ne (fun z => hc (by simp [z]))]
    exact n
  · obtain ⟨o, es, ep, ho, r⟩ := hm
    exact ⟨o, es, ep, kp _ o (Ne.symm q3) (Ne.symm p3) ho, r⟩
  · by_cases hb : b = a
    · subst hb
      rw [upd_same] at e'
      cases e'
      exact ⟨hz, out, c, r, e⟩
    · rw [upd_ne hb] at e'
      refine (J.hok b u e').stay (fun d v hd q => kp d v ?_ ?_ q) (fun d z => at_ d _ z) fun d xs z => at_ d _ z
      · rcases hd with z | z
        · rw [z]; exact hb
        · exact ne_of_none z q2
      · rcases hd with z | z
        · rw [z]; exact nk b u e'
        · exact nk d _ z
/-- the sorted ones -/
def keyedV (us : List V) (kz : List D) : List V := ((us.zip kz).mergeSort (PySem.W.dataLe false (·.2))).map (·.1)
theorem keyedV_length {us : List V} {kz : List D} (h : kz.length = us.length) : (keyedV us kz).length = us.length := by
  unfold keyedV
  rw [List.length_map, List.length_mergeSort, List.length_zip, h, Nat.min_self]
theorem keyed_rest {A : Around} {E : Value → Shared → Prop} {a kS : Addr} {e1 : Nat} {vs : List Value} {us : List V} {f : Value} {Q : VK} (Ψ : Nat → List V → Hp → Prop) (ka : KOk X pins a) (kk : KOk X pins kS) (hka : kS ≠ a) (hu : A.units + 65 < cLine) (hZ : vs.length ≤ sizeLine) (rv : Vals us vs)
    (I : Inv X ((kS, seqObj "list" #[] 0) :: (a, seqObj "list" #[] e1) :: pins) σ H s) (h0 : Ψ 0 [] H)
    (turn : ∀ (i : Nat) (x : Value) (acc : List V) (Hc : Hp) (s' : Shared) (o1 o2 : Obj), vs[i]? = some x → Inv X ((kS, o1) :: (a, o2) :: pins) σ Hc s' → Ψ i acc Hc →
      wpAny (model X.prog X.w) A (call f [x]) (EP X ((kS, o1) :: (a, o2) :: pins) σ fun v H' => Ψ (i + 1) (acc ++ [v]) H') (fun _ _ => False) s')
    (fin : ∀ acc Hc, Ψ vs.length acc Hc → ∃ kz, DpAll X.K Hc acc kz ∧ srtOk kz = true ∧ ∀ p, Hc p = none → Q (.ref p) (upd Hc p (.lst (keyedV us kz)))) :
    wpAny (model X.prog X.w) A (ksk_rest a f false vs.toArray e1 (.ref kS)) (fun fl s' => fl = .done (.ret .none) ∧ EP X pins σ Q (.ref a) s') E s := by
  have lv := rv.length
  have kk2 : ∀ o, KOk X ((a, o) :: pins) kS := fun o => ⟨kk.1, kk.2.1, kk.2.2.1, fun p hp => by
    rcases List.mem_append.mp hp with hp | hp
    · exact kk.2.2.2 p (List.mem_append_left _ hp)
    · rcases List.mem_cons.mp hp with rfl | hp
      · exact hka.symm
      · exact kk.2.2.2 p (List.mem_append_right _ hp)⟩
  unfold ksk_rest
  refine wpAny_bind (wpAny_rule ?_)
  first
    | rw [List.forIn_toArray]
    | (rw [← Array.forIn_toList]; simp only [List.toList_toArray])
    | rw [← Array.forIn_toList]
  refine wpAny_bind (ksk_fold (fun i s' => ∃ (kA : Array Value) (e : Nat) (acc : List V) (Hc : Hp), Inv X ((kS, seqObj "list" kA e) :: (a, seqObj "list" #[] e1) :: pins) σ Hc s' ∧ Vals acc kA.toList ∧ Ψ i acc Hc ∧ kA.size = i) vs 0 s
    ⟨#[], 0, [], H, I, .nil, h0, rfl⟩ ?step ?done)
  case step =>
    rintro j x s' hx ⟨kA, e, acc, Hc, J, rk, hq, hsz⟩
    simp only [Nat.zero_add] at hq hsz ⊢
    have hj : j < vs.length := (List.getElem?_eq_some_iff.mp hx).1
    refine wpAny_bind (wpAny_attempt (wpAny_mono (turn j x acc Hc s' _ _ hx J hq) (fun v s'' he => ?_) fun _ _ hF => hF.elim))
    obtain ⟨w, H', J', rw', hq'⟩ := he
    try dsimp only
    obtain ⟨p1, p2, p3, p4, p5⟩ := J'.pin (kS, seqObj "list" kA e) (List.mem_append_right _ List.mem_cons_self)
    have s1 := Heap.SameBut.update s''.heap kS (Obj.mapSeq (·.push v))
    obtain ⟨c2, hc2⟩ : ∃ c2, (s''.heap.update kS (Obj.mapSeq (·.push v))).get? kS = some (seqObj "list" (kA.push v) c2) := ⟨_, get?_update_seq p1 (·.push v)⟩
    have hz : kA.size ≤ vs.length := by omega
    refine wpAny_bind (listUpdate_at p1 rfl ?_ (Nat.le_trans hz hZ) (Nat.le_trans (Nat.le_of_eq (Array.size_push ..)) (Nat.succ_le_succ (Nat.le_trans hz hZ))))
    have ea : (kA.push v).toList = kA.toList ++ [v] := by simp
    refine wpAny_pure ⟨rfl, kA.push v, c2, acc ++ [w], H', repin (t' := s''.toks) J' (kk2 _) (fun b o hb q => (s1.2 b hb).trans q) hc2 (fun v z => by cases z), ?_, hq', by rw [Array.size_push, hsz]⟩
    rw [ea]
    exact rk.append (.cons rw' .nil)
  case done =>
    rintro s' ⟨kA, e, acc, Hc, J, rk, hq, hsz⟩
    rw [Nat.zero_add] at hq hsz
    obtain ⟨kz, hd, ho, q⟩ := fin acc Hc hq
    obtain ⟨p1, p2, p3, p4, p5⟩ := J.pin (kS, seqObj "list" kA e) (List.mem_append_right _ List.mem_cons_self)
    obtain ⟨q1, q2, q3, q4, q5⟩ := J.pin (a, seqObj "list" #[] e1) (List.mem_append_right _ (List.mem_cons_of_mem _ List.mem_cons_self))
    have hk := dp_each J hd rk
    have lk : kz.length = vs.length := by
      have h1 := hk.length
      rw [Array.length_toList] at h1
      omega
    obtain ⟨G, g1, g2⟩ := L2.restrict s'.heap fun b => !decide (b = kS)
    refine wpAny_bind (listItems_at p1 rfl ?_)
    refine PySem.W.keyH_end (κ := PySem.W.dataKind s'.heap kz) (h₁ := G) (fun b o hb z => ?_) (g2 kS (by simp)) p1 q1 hka (PySem.W.SortsAt.data (s := s') hk (srtOk_alike ho) (srtOk_kind ho) fun d hd => ?_) (by rw [hsz]) hZ fun h3 tk3 c k3 n3 => ?_
    · by_cases h : b = kS
      · rw [g2 b (by simp [h])] at z
        cases z
      · rw [← g1 b (by simp [h])]
        exact z
    · have := srtOk_depth ho d hd
      omega
    · have ko : PySem.W.KeyedOut false kz vs (PySem.W.sortVals (PySem.W.dataKind s'.heap kz) false kA.toList vs) := ⟨s'.heap, kA.toList, srtOk_alike ho, rfl, hk⟩
      have zs : kz = (us.zip kz).map (·.2) := (zip_snd (by rw [lk]; exact lv)).symm
      have er := PySem.W.keyedOut_each (rev := false) (bs := us.zip kz) (R := fun v (b : V × D) => RelV b.1 v) (·.2) (by rw [← zs]; exact ko) (zipR (by rw [lk]; exact lv.symm) rv)
      refine ⟨rfl, .ref a, upd Hc a (.lst (keyedV us kz)), ?_, rfl, q a q2⟩
      refine keyed_end (o1 := seqObj "list" kA e) (o2 := seqObj "list" #[] e1) (c := c) J ka kk ?_ (fun b o hb hb2 z => k3 b o hb (by rw [g1 b (by simp [hb2])]; exact z)) n3 (valsR er)
      rw [keyedV_length (by rw [lk]; exact lv.symm), lv]
      exact hZ
/-- what collect makes of u -/
def Collects (X : Cx) (s : Shared) (A : Around) (u : Value) (us : List V) : Prop := ∀ (E : Value → Shared → Prop) (Q : List Value → Shared → Prop),
  (∀ (vs : List Value) (g : Heap) (t : Nat), Vals us vs → (∀ b o, s.heap.get? b = some o → g.get? b = some o) → Q vs { s with heap := g, toks := t }) → wpAny (model X.prog X.w) A (collect u) Q E s
theorem collects_list (I : Inv X pins σ H s) {A : Around} {a : Addr} {us : List V} (h : SqL X.K H a us) : Collects X s A (.ref a) us := fun E Q q => by
  obtain ⟨its, rv, hl, hz⟩ := I.list h
  refine collect_list hl.isList ?_ (by rw [← rv.length]; exact hz)
  exact q its _ s.toks rv fun b o e => by
    rw [Heap.get?_update_ne _ _ _ _ (Nat.ne_of_lt (Heap.lt_size e))]
    exact Heap.get?_push_of_some _ e
theorem collects_tup (I : Inv X pins σ H s) {A : Around} {a : Addr} {us : List V} (h : SqT X.K H a us) : Collects X s A (.ref a) us := fun E Q q => by
  obtain ⟨its, rv, hl, hz⟩ := I.tuple h
  refine gather_tup hl (by rw [← rv.length]; exact hz) ?_
  exact q its _ s.toks rv fun b o e => by
    rw [Heap.get?_update_ne _ _ _ _ (Nat.ne_of_lt (Heap.lt_size e))]
    exact Heap.get?_push_of_some _ e
theorem Vals.back : ∀ {xs : List V} {us : List Value} {i : Nat} {x : Value}, Vals xs us → us[i]? = some x → ∃ w, xs[i]? = some w ∧ RelV w x
  | _, _, _, _, .nil, h => by simp at h
  | _, _, 0, _, .cons a t, h => by
    cases h
    exact ⟨_, rfl, a⟩
  | _, _, i + 1, _, .cons a t, h => Vals.back (i := i) t (by simpa using h)
theorem keyed_tree {A : Around} {E : Value → Shared → Prop} {a : Addr} {n : Nat} {vs : List Value} {us : List V} {f : Value} {Q : VK} (Ψ : Nat → List V → Hp → Prop) (I : Inv X pins σ H s) (ka : KOk X pins a) (na : H a = none) (nf : a ∉ X.fs) (ho : s.heap.get? a = some (seqObj "list" vs.toArray n))
    (hu : A.units + 65 < cLine) (hZ : vs.length ≤ sizeLine) (rv : Vals us vs) (h0 : Ψ 0 [] H)
    (turn : ∀ (i : Nat) (x : Value) (acc : List V) (Hc : Hp) (s' : Shared) (pins' : List (Addr × Obj)), vs[i]? = some x → (∀ p ∈ pins, p ∈ pins') → Inv X pins' σ Hc s' → Ψ i acc Hc →
      wpAny (model X.prog X.w) A (call f [x]) (EP X pins' σ fun v H' => Ψ (i + 1) (acc ++ [v]) H') (fun _ _ => False) s')
    (fin : ∀ acc Hc, Ψ vs.length acc Hc → ∃ kz, DpAll X.K Hc acc kz ∧ srtOk kz = true ∧ ∀ p, Hc p = none → Q (.ref p) (upd Hc p (.lst (keyedV us kz)))) :
    wpAny (model X.prog X.w) A (ksk_tree a f false) (fun fl s' => fl = .done (.ret .none) ∧ EP X pins σ Q (.ref a) s') E s := by
  have ha : a < s.heap.objs.size := Heap.lt_size ho
  obtain ⟨e1, ho1⟩ : ∃ e1, (s.heap.update a (Obj.mapSeq fun _ => (#[] : Array Value))).get? a = some (seqObj "list" #[] e1) := ⟨_, get?_update_seq ho fun _ => #[]⟩
  have hkS : ((s.heap.update a (Obj.mapSeq fun _ => (#[] : Array Value))).push (seqObj "tuple" vs.toArray 0)).objs.size = s.heap.objs.size + 1 := by rw [size_push', Heap.size_update]
  unfold ksk_tree
  refine wpAny_bind (listItems_at ho rfl ?_)
  refine wpAny_bind (listUpdate_at ho rfl ?_ (by rw [List.size_toArray]; exact hZ) (Nat.zero_le _))
  refine wpAny_bind (seqEpoch_at ho1 rfl ?_)
  refine wpAny_bind (wpAny_newTuple ?_ (by show vs.length ≤ _; exact hZ))
  refine wpAny_bind (wpAny_newList ?_ (Nat.zero_le _))
  refine wpAny_holding ?_
  have hk : s.heap.objs.size ≤ ((s.heap.update a (Obj.mapSeq fun _ => (#[] : Array Value))).push (seqObj "tuple" vs.toArray 0)).objs.size := by
    rw [hkS]
    exact Nat.le_succ _
  have kk := KOk.new I hk
  have J : Inv X pins σ H { s with heap := PySem.W.sortingHeap s.heap a vs } := I.turned (t' := s.toks) (it := a) (fun b o hb e => PySem.W.sortingHeap_old hb e) na ka.2.1 ka.1 ka.2.2.1 ka.2.2.2
  refine keyed_rest (s := { s with heap := PySem.W.sortingHeap s.heap a vs }) (Q := Q) (us := us) Ψ ka kk (by rw [hkS]; exact Nat.ne_of_gt (Nat.lt_succ_of_lt ha)) hu hZ rv (J.pins_of fun p hp => ?_) h0 (fun i x acc Hc s' o1 o2 hx J' hq => turn i x acc Hc s' _ hx (fun p hp => List.mem_cons_of_mem _ (List.mem_cons_of_mem _ hp)) J' hq) fin
  rcases List.mem_cons.mp hp with rfl | hp
  · exact ⟨Heap.get?_push_size _ rfl, I.hok.fresh hk, kk.2.1, I.nofs hk, fun v z => by cases z⟩
  · rcases List.mem_cons.mp hp with rfl | hp
    · exact ⟨Heap.get?_push_of_some _ (Heap.get?_push_of_some _ ho1), na, ka.2.1, nf, fun v z => by cases z⟩
    · exact J.pin p (List.mem_append_right _ hp)
theorem keyed_sorted {E : Value → Shared → Prop} {u : Value} {us : List V} {f : Addr} {Q : VK} (Ψ : Nat → List V → Hp → Prop) (I : Inv X pins σ H s) (hc : Collects X s X.A.in1 u us) (hz : us.length ≤ sizeLine) (hu : X.A.units + 70 < cLine) (h0 : Ψ 0 [] H)
    (turn : ∀ (i : Nat) (w : V) (x : Value) (acc : List V) (Hc : Hp) (s' : Shared) (pins' : List (Addr × Obj)), us[i]? = some w → RelV w x → (∀ p ∈ pins, p ∈ pins') → Inv X pins' σ Hc s' → Ψ i acc Hc →
      wpAny (model X.prog X.w) X.A.in1.in1 (call (.ref f) [x]) (EP X pins' σ fun v H' => Ψ (i + 1) (acc ++ [v]) H') (fun _ _ => False) s')
    (fin : ∀ acc Hc, Ψ us.length acc Hc → ∃ kz, DpAll X.K Hc acc kz ∧ srtOk kz = true ∧ ∀ p, Hc p = none → Q (.ref p) (upd Hc p (.lst (keyedV us kz)))) :
    wpAny (model X.prog X.w) X.A (call (.builtin "sorted") [u] [(Str.ofString "key", .ref f)]) (EP X pins σ Q) E s := by
  refine call_function_entry_kw kind_sorted plain_sorted entry_sorted (ksk_s1 _ _) ?_
  unfold Builtin.«sorted»
  refine wpAny_bind (m := checkCount "sorted" 1 1 _) (wpAny_pure ?_)
  refine wpAny_bind (hc _ _ fun vs g t rv kg => ?_)
  have lv := rv.length
  have hz' : vs.length ≤ sizeLine := by rw [← lv]; exact hz
  have I1 : Inv X pins σ H { s with heap := g, toks := t } := I.kept kg
  refine wpAny_bind (wpAny_newList ?_ hz')
  have here : (g.push (seqObj "list" vs.toArray 0)).get? g.objs.size = some (seqObj "list" vs.toArray 0) := Heap.get?_push_size _ rfl
  have I2 : Inv X pins σ H { s with heap := g.push (seqObj "list" vs.toArray 0), toks := t } := I1.kept (t' := t) fun b o e => Heap.get?_push_of_some _ e
  refine wpAny_bind (wpAny_holding (wpAny_call_entry_kw slot_list_sort ⟨_, here, rfl⟩ entry_list_sort ?_ (ksk_l1 _ _)))
  rw [ksk_t1]
  refine wpAny_mono (keyed_tree (E := E) (s := { s with heap := g.push (seqObj "list" vs.toArray 0), toks := t }) (Q := Q) (us := us) Ψ I2 (KOk.new I1 (Nat.le_refl _)) (I1.hok.fresh (Nat.le_refl _)) (I1.nofs (Nat.le_refl _)) here ?_ hz' rv h0 (fun i x acc Hc s' pins' hx hp J' hq => ?_) (fun acc Hc hq => fin acc Hc (by rw [lv]; exact hq))) (fun fl s' h => ?_) fun _ _ e => e
  · show X.A.in1.in1.units + 65 < cLine
    have e : X.A.in1.in1.units = X.A.units + 2 := rfl
    omega
  · obtain ⟨w, hw, rw'⟩ := Vals.back rv hx
    exact turn i w x acc Hc s' _ hw rw' hp J' hq
  · obtain ⟨rfl, h⟩ := h
    exact ⟨_, rfl, wpAny_pure ⟨_, rfl, h⟩⟩
end
end SS

end

section
set_option linter.all false
set_option autoImplicit false
set_option maxRecDepth 100000
set_option maxHeartbeats 4000000
/-! sorted(xs, key=lambda p: ..). -/
namespace SS
open PySem PySem.Spec PyProof.Rows L2
variable [Tabl]
section
variable {X : Cx} {pins : List (Addr × Obj)} {σ : L2.St} {H : Hp} {s : Shared}
theorem lam_nofr (I : Inv X pins σ H s) {f : Addr} (h : s.heap.objs.size ≤ f) : f ∉ frs X.stack := fun z => by
  rcases List.mem_cons.mp (I.stkSub _ z) with e | e
  · exact Nat.lt_irrefl _ (Nat.lt_of_lt_of_le (by rw [e]; exact I.lt) h)
  · exact I.nofs h e
/-- a lambda is made; of the heap's tables just its own one grows -/
theorem lam_new {co P : Addr} {params : Arguments} {body : Expr} {scope : Scope} {pos : Pos} {E : Value → Shared → Prop} {Q : Value → Shared → Prop} (I : Inv X pins σ H s) (TB : LamX.TabB X.base X.mg co P) (hcode : X.env.code = .ref co) (hT : LamX.TabS H P (X.env.qual ++ "<lambda>"))
    (hdef : defaultsOf params X.env = ([], [])) (hfree : ∀ y ∈ scope.names, y.2 = .free → ∃ c, X.env.cells.lookup y.1 = some c)
    (h : ∀ (f c' : Addr) (pm ctv : Value) (H1 : Hp) (s' : Shared), Inv X pins σ H1 s' → LamX.ExtN H H1 → (∀ b ps, H b = some (.tbl ps) → ∃ qs, H1 b = some (.tbl qs)) → LamX.TabS H1 P (X.env.qual ++ "<lambda>") → (∀ b q, b ≠ P → LamX.TabS H b q → LamX.TabS H1 b q) →
      s'.heap.get? f = some (PySem.W.kla_obj "<lambda>" (X.env.qual ++ "<lambda>") params body scope (cloFrom X.env.cells scope.names []) pm c' ctv) → H1 f = none → f ∉ frs X.stack → H1 c' = some (LamX.CodeO c' (X.env.qual ++ "<lambda>")) → Q (.ref f) s') :
    wpAny (model X.prog X.w) X.A (eval (.Lambda params body scope pos) X.env) Q E s := by
  have hT0 := hT
  obtain ⟨ps, hP, ht, ha⟩ := hT
  have hP' : s.heap.get? P = some { cls := .none, data := .fields ps } := I.hok P _ hP
  have bP : s.heap.BuiltinsAt X.mg P := TB.bm.keeps I.bk
  refine PySem.W.kla_eval hdef ?_
  cases hc : codeAmong pos ps.toList with
  | some cv =>
    obtain ⟨c', rfl, hco⟩ := ha pos cv hc
    refine PySem.W.kla_makeFunctionHit (mg := X.mg) (c := co) (P := P) (ps := ps) (closure_ok hfree) I.ok.glob (I.mod.glob.keeps I.bk) hcode (TB.code.keeps I.bk) hP' ht hc bP fun ctv g tk kp sz => ?_
    exact h _ c' _ ctv H _ (I.kept fun b o e => Heap.get?_push_of_some _ (kp b o e)) (.refl H) (fun b qs e => ⟨qs, e⟩) hT0 (fun _ _ _ t => t) (Heap.get?_push_size _ rfl) (I.hok.fresh sz) (lam_nofr I sz) hco
  | none =>
    refine PySem.W.kla_makeFunction (mg := X.mg) (c := co) (P := P) (ps := ps) (closure_ok hfree) I.ok.glob (I.mod.glob.keeps I.bk) hcode (TB.code.keeps I.bk) hP' ht hc TB.gP bP fun c' ctv g tk hx hge hlt hrec htb => ?_
    obtain ⟨c2, oc, vs, t, e2, hoc, hd, hv⟩ := hrec
    cases e2
    have sz : s.heap.objs.size ≤ g.objs.size := Nat.le_trans hge (Nat.le_of_lt hlt)
    have nC : H c' = none := I.hok.fresh hge
    have nP : P ≠ c' := ne_of_none hP nC
    have J := LamX.inv_table (t' := tk) (more := #[rawInt pos.line, rawInt pos.col, .ref c']) (h' := g.push (PySem.W.kla_obj "<lambda>" (X.env.qual ++ "<lambda>") params body scope (cloFrom X.env.cells scope.names []) ((X.mg "__name__").getD .none) c' ctv)) I hP
      (fun b o hb e => Heap.get?_push_of_some _ (hx b o hb e)) (Heap.get?_push_of_some _ htb) hge ⟨oc, vs, t, Heap.get?_push_of_some _ hoc, hd, hv⟩
    generalize hm : ps ++ #[rawInt pos.line, rawInt pos.col, .ref c'] = ps' at J
    have el : ps'.toList = ps.toList ++ [rawInt pos.line, rawInt pos.col, .ref c'] := by rw [← hm]; simp
    have atP : upd (upd H P (.tbl ps')) c' (LamX.CodeO c' (X.env.qual ++ "<lambda>")) P = some (.tbl ps') := by rw [upd_ne nP, upd_same]
    have off : ∀ b u, b ≠ P → H b = some u → upd (upd H P (.tbl ps')) c' (LamX.CodeO c' (X.env.qual ++ "<lambda>")) b = some u := fun b u n e => by
      rw [upd_ne (ne_of_none e nC), upd_ne n]
      exact e
    have offC : ∀ b q, H b = some (LamX.CodeO b q) → upd (upd H P (.tbl ps')) c' (LamX.CodeO c' (X.env.qual ++ "<lambda>")) b = some (LamX.CodeO b q) := fun b q e => off b _ (fun z => by
      rw [z, hP] at e
      exact LamX.codeO_ne ps (Option.some.inj e).symm) e
    refine h g.objs.size c' _ ctv _ _ J (fun b o e n => off b o (fun z => n ps (Option.some.inj (e.symm.trans (by rw [z]; exact hP)))) e) (fun b qs e => ?_) ⟨ps', atP, by rw [el]; exact PySem.TriplesOk_snoc _ _ _ _ ht, fun p2 cv hcv => ?_⟩ (fun b q n t => ?_) (Heap.get?_push_size _ rfl) ?_ (lam_nofr I sz) upd_same
    · by_cases hb : b = P
      · rw [hb]
        exact ⟨ps', atP⟩
      · exact ⟨qs, off b _ hb e⟩
    · rw [el] at hcv
      rcases LamX.among_app _ ht hcv with z | z
      · obtain ⟨c0, e1, e2⟩ := ha p2 cv z
        exact ⟨c0, e1, offC _ _ e2⟩
      · exact ⟨c', z, upd_same⟩
    · obtain ⟨qs, a1, a2, a3⟩ := t
      refine ⟨qs, off b _ n a1, a2, fun p2 cv hcv => ?_⟩
      obtain ⟨c0, e1, e2⟩ := a3 p2 cv hcv
      exact ⟨c0, e1, offC _ _ e2⟩
    · have n1 : g.objs.size ≠ c' := Nat.ne_of_gt hlt
      have n2 : g.objs.size ≠ P := Nat.ne_of_gt (Nat.lt_of_lt_of_le (Heap.lt_size hP') sz)
      rw [upd_ne n1, upd_ne n2]
      exact I.hok.fresh sz

/-! ### what is walked -/
/-- an expression that collect makes a row of -/
def PCl (X : Cx) (e : Expr) (t : L2.St → Hp → (List V → Hp → Prop) → Prop) : Prop := ∀ (pins : List (Addr × Obj)) (s : Shared) (σ : L2.St) (H : Hp) (Q : List V → Hp → Prop), Inv X pins σ H s → t σ H Q →
  wpAny (model X.prog X.w) X.A (eval e X.env) (fun x s' => ∃ us H' pins', (∀ p ∈ pins, p ∈ pins') ∧ Inv X pins' σ H' s' ∧ (∀ (pins2 : List (Addr × Obj)) (s2 : Shared) (H2 : Hp), (∀ p ∈ pins', p ∈ pins2) → Inv X pins2 σ H2 s2 → LamX.ExtN H' H2 → Collects X s2 X.A.in1 x us) ∧ us.length ≤ sizeLine ∧ Q us H') X.xe s
def rKs (O : List Addr) : Hp → List Addr → Cells → Hp → List D → List V → Prop := fun _ C' _ H' ds us => VRs (C' ++ O) H' ds us
theorem rKs.up {O : List Addr} : Up O (rKs O) := fun _ _ _ _ _ _ _ _ _ _ _ q => q
def tKs (c : Ct) (F : Call) (src : Src) : L2.St → Hp → (List V → Hp → Prop) → Prop := fun σ H Q => ∃ C O ρ S, Rel c C O ρ S σ H ∧ Post c O (rKs O) C H σ Q (evalSrc F false src ρ S)
variable {g : Sg} {N : List Str} {sc : Scope} {k : Nat} {F : Call} {c : Ct}
theorem pcl_it {a : IE} {y : Expr} (ha : PE X y (tE c F a)) : PCl X y (tKs c F (.it a)) := by
  intro pins s σ H Q I ⟨C, O, ρ, S, R, P⟩
  simp only [evalSrc] at P
  refine thn (ha.run pins s σ H (fun v H' => ∃ b xs, v = .ref b ∧ (H' b = some (.lst xs) ∨ H' b = some (.tup xs)) ∧ xs.length ≤ sizeLine ∧ Q xs H') I ⟨C, O, ρ, S, R, Post.bind rKs.up P fun r S1 v H1 C1 a1 q P1 => ?_⟩) fun x s1 ⟨v, H1, I1, r1, b, xs, e, hb, hz, hq⟩ => ?_
  · obtain ⟨ds, e2, P2⟩ := P1.lft
    simp only [EV.srcD, Bool.false_eq_true, if_false, Option.bind_eq_some_iff] at e2
    obtain ⟨d, e3, e4⟩ := e2
    have hw := q.asD a1.ok d e3
    cases d with
    | list xs =>
      cases e4
      obtain ⟨b, us, rfl, _, hh, zz, rr⟩ := hw
      exact ⟨b, us, rfl, .inl hh, zz, P2 us H1 C1 a1.ok.aft rr⟩
    | tuple xs =>
      cases e4
      obtain ⟨b, us, rfl, _, hh, zz, rr⟩ := hw
      exact ⟨b, us, rfl, .inr hh, zz, P2 us H1 C1 a1.ok.aft rr⟩
    | _ => cases e4
  · subst e
    cases r1
    refine ⟨xs, H1, pins, fun p hp => hp, I1, fun pins2 s2 H2 _ I2 eN => ?_, hz, hq⟩
    rcases hb with hb | hb
    · exact collects_list I2 (SqL.of (eN b _ hb nt_lst))
    · exact collects_tup I2 (SqT.of (eN b _ hb nt_tup))
theorem pcl_rng1 (x : XOk g N sc k F c X) {a : IE} {y : Expr} (h : mSrc g N sc (.rng1 a) y = true) (ha : ∀ {y}, mE g N sc a y = true → PE X y (tE c F a)) : PCl X y (tKs c F (.rng1 a)) := by
  simp only [mSrc] at h
  split at h
  · rename_i nm pn z pc
    simp only [Bool.and_eq_true, decide_eq_true_eq] at h
    obtain ⟨⟨⟨e1, hb⟩, hs⟩, h4⟩ := h
    subst e1
    obtain ⟨c1, c2, _, _⟩ := blt_of x hb
    intro pins s σ H Q I ⟨C, O, ρ, S, R, P⟩
    simp only [evalSrc] at P
    have na : starEach [z] X.env = (false, eval z X.env) :: starEach [] X.env := star_of hs
    refine Call_ (ld_blt I c1 c2 boot_range (PyProof.Rows.callWith_type1 (one_arg (R := fun v H' => ∃ n : Int, v = .int n ∧ n.natAbs ≤ 1000000 ∧ Q (rgV 0 n) H') (ha h4) I ⟨C, O, ρ, S, R, Post.bind rKs.up P fun r S1 v H1 C1 a1 q P1 => ?_⟩ (fun v s2 xx H2 I2 r q => ?_) na) na))
    · obtain ⟨n, e2, P2⟩ := P1.lft
      obtain ⟨hn, P3⟩ := P2.iff
      have e' := dInt_some e2
      subst e'
      exact ⟨n, q.1, hn, P3 _ H1 C1 a1.ok.aft (rgV_rel 0 n)⟩
    · obtain ⟨n, rfl, hn, hq⟩ := q
      obtain ⟨t, rfl⟩ := r
      have kp : ∀ b o, s2.heap.get? b = some o → (s2.heap.push { cls := .type "range", data := .fields #[.int 0 s2.toks, .int n t, .int 1 (s2.toks + 1)] }).get? b = some o := fun b o e => Heap.get?_push_of_some _ e
      have J : Inv X pins σ H2 { s2 with heap := s2.heap.push { cls := .type "range", data := .fields #[.int 0 s2.toks, .int n t, .int 1 (s2.toks + 1)] }, toks := s2.toks + 1 + 1 } := I2.kept kp
      have ko := KOk.new I2 (Nat.le_refl _)
      refine call_range_1 ⟨rgV 0 n, H2, (s2.heap.objs.size, { cls := .type "range", data := .fields #[.int 0 s2.toks, .int n t, .int 1 (s2.toks + 1)] }) :: pins, fun p hp => List.mem_cons_of_mem _ hp, J.pins_of fun p hp => ?_, fun pins2 s3 H3 hp I3 _ => ?_, by rw [rgV_length, sizeLine_eq]; omega, hq⟩
      · rcases List.mem_cons.mp hp with rfl | hp
        · exact ⟨Heap.get?_push_size _ rfl, I2.hok.fresh (Nat.le_refl _), ko.2.1, I2.nofs (Nat.le_refl _), fun v z => by cases z⟩
        · exact J.pin p (List.mem_append_right _ hp)
      · intro E Q' q'
        have at_ := (I3.pin _ (List.mem_append_right _ (hp _ List.mem_cons_self))).1
        have lo : -(2 ^ 62) ≤ n ∧ n < 2 ^ 62 := ⟨by omega, by omega⟩
        refine collect_range (n := (n - 0).toNat) ((I3.ok.hd x.calm)) (r := s2.heap.objs.size) (a := 0) (b := n) (c := 1) (t := s2.toks) (u := t) (v := s2.toks + 1) at_ (small_one (by decide) (by decide) lo.1 lo.2) (rangeSize_nat 0 n) (by omega) fun h' tk acc hk hi => ?_
        exact q' acc.toList h' tk (vals_rg hi) hk
  · cases h
theorem merge_map {α β : Type} (f : α → β) (k : β → D) (l : List α) : (l.map f).mergeSort (PySem.W.dataLe false k) = (l.mergeSort (PySem.W.dataLe false fun a => k (f a))).map f := (List.map_mergeSort (f := f) fun a _ b _ => rfl).symm
/-- one value is bound to the one name -/
theorem bind_one {q : Str} {p : Str} {an : Option Expr} {ap : Pos} {body : Expr} {scope : Scope} {cl : List (Str × Addr)} {pm cv ctv u : Value} :
    bindArgs (PySem.W.kla_fn "<lambda>" q ⟨[], [⟨p, an, ap⟩], none, [], [], none, []⟩ body scope cl pm cv ctv) ⟨[u], []⟩ = pure [(p, u)] := by
  unfold bindArgs
  simp [List.lookup, seqItems?, notAStandIn]
theorem keyed_rel {M : List Addr} {H : Hp} {ds ks : List D} {us : List V} (h : VRs M H ds us) (hk : ks.length = ds.length) : VRs M H (keyD ds ks) (keyedV us ks) := by
  have hl := h.length
  have e1 : us.zip ks = ((us.zip ds).zip ks).map fun b => (b.1.1, b.2) := by
    have z : (us.zip ds).map (·.1) = us := zip_fst hl
    conv => lhs; rw [← z]
    rw [List.zip_map_left]
    exact List.map_congr_left fun _ _ => rfl
  have e2 : ds.zip ks = ((us.zip ds).zip ks).map fun b => (b.1.2, b.2) := by
    have z : (us.zip ds).map (·.2) = ds := zip_snd hl
    conv => lhs; rw [← z]
    rw [List.zip_map_left]
    exact List.map_congr_left fun _ _ => rfl
  have m1 : keyedV us ks = ((((us.zip ds).zip ks).mergeSort (PySem.W.dataLe false (·.2))).map (·.1)).map (·.1) := by
    unfold keyedV
    rw [e1, merge_map, List.map_map, List.map_map]
    rfl
  have m2 : keyD ds ks = ((((us.zip ds).zip ks).mergeSort (PySem.W.dataLe false (·.2))).map (·.1)).map (·.2) := by
    unfold keyD
    rw [e2, merge_map, List.map_map, List.map_map]
    rfl
  rw [m1, m2]
  refine VRs.ofZip fun b hb => ?_
  obtain ⟨t, ht, rfl⟩ := List.mem_map.mp hb
  have h1 := (List.mergeSort_perm _ _).mem_iff.mp ht
  obtain ⟨t1, t2⟩ := t
  exact h.zip _ (List.of_mem_zip h1).1
theorem Ok.extN {C O : List Addr} {S : Cells} {H H' : Hp} (ok : Ok C O S H) (e : LamX.ExtN H H') : Ok C O S H' where
  nd := ok.nd
  cells := ok.cells.mono (fun b o q t n => ⟨e b o q t, n⟩) fun b m o q => by
    obtain ⟨xs, q2⟩ := ok.cells.trk b m
    rw [q2] at q
    cases q
    exact e b _ q2 nt_lst
  otrk := fun b m => by
    obtain ⟨xs, q⟩ := ok.otrk b m
    exact ⟨xs, e b _ q nt_lst⟩
theorem fs_stack (I : Inv X pins σ H s) {b : Addr} (h : b ∉ frs X.stack) : b ∉ X.fs := fun z => by
  rcases I.ok.stk with e | ⟨e, _⟩
  · exact h (by rw [e]; exact z)
  · refine h ?_
    rw [e]
    unfold frs
    obtain ⟨v, hv, q⟩ := List.mem_filterMap.mp (show b ∈ List.filterMap _ X.outer from z)
    exact List.mem_filterMap.mpr ⟨v, List.mem_cons_of_mem _ hv, q⟩
/-- the context of the lambda's body -/
theorem XOk.lamc (x : XOk g N sc k F c X) {scope : Scope} {f c' : Addr} (hr : Room (k + 1) X.A) : XOk { g with lam := false } N scope k F c.calm (LamX.lamCx X X.A.in1.in1 X.stack s H xNo scope f c') where
  hN := x.hN
  nd := x.nd
  sc := rfl
  calm := rfl
  room := ⟨hr.hd, by have := hr.dp; show X.A.depth + 1 + 3 * k + 5 < _; omega, by have := hr.un; show X.A.units + 1 + 1 + 3 + 16 * k + 200 < _; omega⟩
  grd := x.grd
  K := x.K
  mg := x.mg
  pas := fun σ pins H s e s' _ h => by
    obtain ⟨_, _, _, _, _, _, _, _, _, _, _, _, z⟩ := h
    exact z.elim
  facts := ⟨x.facts.consts, x.facts.blt, x.facts.fns, x.facts.runs, x.facts.calls, x.facts.errs, x.facts.hears, x.facts.att⟩
  tabs := x.tabs
  lam := fun h => by cases h
theorem both_srtK (x : XOk g N sc k F c X) {src : Src} {i : Nat} {b : IE} {y : Expr} (h : mE g N sc (.srtK src i b) y = true)
    (h1 : ∀ {a}, src = .it a → ∀ {y}, mE g N sc a y = true → PE X y (tE c F a)) (h2 : ∀ {a}, src = .rng1 a → ∀ {y}, mE g N sc a y = true → PE X y (tE c F a))
    (hb : ∀ {sc' : Scope} {X' : Cx} {y}, XOk { g with lam := false } N sc' k F c.calm X' → mE { g with lam := false } N sc' b y = true → PE X' y (tE c.calm F b)) : Both X c F (.srtK src i b) y := by
  simp only [mE] at h
  split at h
  · rename_i nm pn z kk p pa1 pa2 w scope lpos kpos pos
    simp only [Bool.and_eq_true, decide_eq_true_eq] at h
    obtain ⟨⟨⟨⟨⟨⟨⟨⟨⟨⟨e1, hbl⟩, hs⟩, e2⟩, hlam⟩, nd⟩, hi⟩, hL⟩, hsrc⟩, hz⟩, hbody⟩ := h
    subst e1
    subst e2
    obtain ⟨b1, b2, b3, b4⟩ := blt_of x hbl
    obtain ⟨co, P, TB, hcode, hm, hu, hroom⟩ := x.lam hlam
    have hroom := hroom.mono (show k + 1 ≤ k + 3 by omega)
    have L : LamS1 X.env.scope scope p := by
      rw [x.sc]
      exact lamS1_by hL
    have hcl : PCl X z (tKs c F src) := by
      cases src with
      | it a =>
        simp only [mSrc, Bool.and_eq_true] at hz
        exact pcl_it (h1 rfl hz.2)
      | rng1 a => exact pcl_rng1 x hz (h2 rfl)
      | _ => cases hsrc
    have hst : starEach [z] X.env = (false, eval z X.env) :: starEach [] X.env := star_of hs
    refine both_val ⟨fun pins s σ H Q I t => ?_⟩ fun _ => rfl
    obtain ⟨C, O, ρ, S, R, Pt⟩ := t
    simp only [evalE] at Pt
    refine wpAny_Call_Name_kw (ld_blt I b1 b2 (u := .builtin "sorted") (by decide +kernel) ?_ b4 b3)
    refine PyProof.Rows.callWith_kw ?_ (by rw [hst]; rfl) (by rw [hst]; rfl) rfl rfl
    rw [hst]
    show wpAny _ _ (spliced ((false, eval z X.env) :: backTo pos (starEach [] X.env))) _ _ s
    refine Calls.spliced_cons (thn (hcl pins s σ H (fun us H1 => ∃ C1 S1 ds, Aft C O H C1 S1 H1 ∧ VRs (C1 ++ O) H1 ds us ∧ Post c O (rE c O) C1 H1 σ Q ((compLoop (fun x S => (evalE F b (ρ.set i (.v (.d x))) S).bind fun v S => lft v.strict fun d => .ok (some d) S) ds S1).bind
        fun ks S => if ds.length ≤ lim ∧ srtOk ks = true then .ok (.nw (keyD ds ks)) S else .bad)) I ⟨C, O, ρ, S, R, Post.bind rE.up Pt fun ds S1 us H1 C1 a1 q P1 => ⟨C1, S1, ds, a1, q, P1⟩⟩) fun x1 s1 ⟨us, H1, pins1, hp1, I1, hcol, hzu, C1, S1, ds, a1, hus, P1⟩ => Calls.spliced_nil ?_)
    have R1 := R.aft a1
    show wpAny _ _ (evalAll ((do let v ← eval (.Lambda _ w scope lpos) X.env; standAt pos; pure v) :: (backToKw pos (keywordEach [] X.env)).map (·.2))) _ _ s1
    refine wpAny_evalAll_cons (wpAny_bind (lam_new I1 TB hcode (x.tabsAt R1 _ hm) rfl (L.has I1.ok) fun f c' pm ctv H2 s2 I2 eN htb hT1 hT2 hf hfn hfr hco => wpAny_bind (wpAny_standAt (wpAny_pure (wpAny_evalAll_nil ?_)))))
    show wpAny _ _ (call (.builtin "sorted") [x1] [(Str.ofString "key", .ref f)]) _ _ s2
    have aL : Aft C1 O H1 C1 S1 H2 := ⟨⟨[], (List.append_nil _).symm⟩, fun b o e n _ => eN b o e n, ⟨htb, fun q hq t => by
      by_cases hP : q.1 = P
      · rw [hP, hu q hq hP]
        exact hT1
      · exact hT2 _ _ hP t⟩, fun _ h => .inl h, R1.ok.extN eN⟩
    have hus2 := hus.mono aL.keeps
    have R2 := R1.aft aL
    have P2 := Post.aft rE.up P1 aL
    clear P1 Pt
    have lus := hus.length
    cases hr : compLoop (fun x S => (evalE F b (ρ.set i (.v (.d x))) S).bind fun v S => lft v.strict fun d => .ok (some d) S) ds S1 with
    | bad =>
      rw [hr] at P2
      exact P2.elim
    | exc n x S' => exact absurd hr compLoop_out
    | ok ks Sf =>
    rw [hr] at P2
    simp only [Res.bind_ok] at P2
    obtain ⟨⟨hlen, hso⟩, P3⟩ := P2.iff
    have nL : f ≠ X.env.locals := fun q => by
      obtain ⟨m, ⟨o, es, ep, ho, hd, _⟩, _⟩ := I2.loc
      rw [← q, hf] at ho
      cases ho
      cases hd
    have I3 : Inv X ((f, PySem.W.kla_obj "<lambda>" (X.env.qual ++ "<lambda>") ⟨[], [⟨p, pa1, pa2⟩], none, [], [], none, []⟩ w scope (cloFrom X.env.cells scope.names []) pm c' ctv) :: pins1) σ H2 s2 := I2.pins_of fun q hq => by
      rcases List.mem_cons.mp hq with rfl | hq
      · exact ⟨hf, hfn, nL, fs_stack I2 hfr, fun v z => by cases z⟩
      · exact I2.pin q (List.mem_append_right _ hq)
    have nCc : c' ∉ C1 := fun m => by
      obtain ⟨xs, e⟩ := R2.ok.cells.trk c' m
      rw [hco] at e
      unfold LamX.CodeO at e
      cases e
    refine wpAny_mono (keyed_sorted (Q := Q) (us := us) (fun j acc Hc => ∃ Ci Si dn rest, Aft C1 O H2 Ci Si Hc ∧ VRs (Ci ++ O) Hc dn acc ∧ compLoop (fun x S => (evalE F b (ρ.set i (.v (.d x))) S).bind fun v S => lft v.strict fun d => .ok (some d) S) (ds.drop j) Si = .ok rest Sf ∧ ks = dn ++ rest ∧ dn.length = j)
      I3 (hcol _ s2 H2 (fun q hq => List.mem_cons_of_mem _ hq) I3 eN) hzu (by have := hroom.un; omega) ⟨C1, S1, [], ks, R2.ok.aft, .nil, by rw [List.drop_zero]; exact hr, rfl, rfl⟩ (fun j wv xv acc Hc s' pins' hw rwv hp J hq => ?_) (fun acc Hc hq => ?_)) (fun u s' hq => ?_) fun _ _ e => e
    · obtain ⟨Ci, Si, dn, rest, aa, rd, hrun, hks, hdn⟩ := hq
      have hj : j < ds.length := by
        rw [← lus]
        exact (List.getElem?_eq_some_iff.mp hw).1
      have hd : ds[j]? = some ds[j] := List.getElem?_eq_getElem hj
      obtain ⟨wv', hw', rd'⟩ := (hus2.mono aa.keeps).get hd
      rw [hw] at hw'
      cases hw'
      rw [List.drop_eq_getElem_cons hj] at hrun
      obtain ⟨o, S2, r2, hf1, hrun2, hre⟩ := compLoop_cons hrun
      obtain ⟨v, S3, hev, hf2⟩ := bind_okE hf1
      obtain ⟨e, hst2, hf3⟩ := lft_okE hf2
      cases hf3
      simp only at hre
      have hfo := (J.pin _ (List.mem_append_right _ (hp _ List.mem_cons_self))).1
      refine lam1_call (A := X.A.in1.in1) (k := k) (i := i) J L (by rw [x.hN]; exact nd) (by rw [x.hN]; exact hi) hfo (aa.ext c' _ hco LamX.codeO_ne nCc) (fun u => bind_one) rfl (J.ok.hd x.calm) (by have := hroom.dp; show X.A.depth < _; omega) rwv (hb (x.lamc hroom) hbody) ?_
      refine ⟨Ci, O, _, Si, ((R2.aft aa).set i (x := .d ds[j]) rd').calm, ?_⟩
      rw [hev]
      intro yv H' C' a' q'
      exact ⟨C', _, dn ++ [e], r2, aa.trans a', (rd.mono a'.keeps).append (.cons (q'.strict a'.ok e hst2) .nil), hrun2, by rw [hks, hre, List.append_assoc]; rfl, by rw [List.length_append, hdn]; rfl⟩
    · obtain ⟨Ci, Si, dn, rest, aa, rd, hrun, hks, hdn⟩ := hq
      rw [lus, List.drop_length] at hrun
      cases hrun
      rw [List.append_nil] at hks
      subst hks
      refine ⟨ks, rd.dp, hso, fun q hq => (Post.aft rE.up P3 aa).newLst aa.ok ?_ (keyed_rel (hus2.mono aa.keeps) (by rw [hdn, lus])) hq⟩
      rw [keyedV_length hdn]
      exact hzu
    · obtain ⟨v, H', J, rv, q⟩ := hq
      exact ⟨v, H', J.pins_of fun r hr => J.pin r (List.mem_append_right _ (List.mem_cons_of_mem _ (hp1 r hr))), rv, q⟩
  · cases h
end
end SS

end

section
set_option linter.all false
set_option autoImplicit false
set_option maxRecDepth 100000
set_option maxHeartbeats 4000000
/-! h(lambda: b): a def that hears how a call ends. -/
namespace SS
open PySem PySem.Spec PyProof.Rows L2
variable [Tabl]
section
variable {X : Cx} {pins : List (Addr × Obj)} {σ : L2.St} {H : Hp} {s : Shared}
/-- within the def that was handed the lambda: its call -/
theorem act_pe {Ng : List Str} {qg : Str} {sg : Scope} {g f c' : Addr} {cdg pm ctv : Value} {params : Arguments} {body : Expr} {scope : Scope} {k : Nat} {a : Str} {pn : List (Addr × Obj)} {xe : Value → Shared → Prop} {W : WX} {E : XK} {tb : TE} {p1 p2 : Pos}
    (I : Inv X pins σ H s) (L : LamX.LamS X.env.scope scope) (hf : s.heap.get? f = some (PySem.W.kla_obj "<lambda>" (X.env.qual ++ "<lambda>") params body scope (cloFrom X.env.cells scope.names []) pm c' ctv)) (hfn : H f = none) (hfr : f ∉ frs X.stack)
    (hbind : bindArgs (PySem.W.kla_fn "<lambda>" (X.env.qual ++ "<lambda>") params body scope (cloFrom X.env.cells scope.names []) pm (.ref c') ctv) ⟨[], []⟩ = pure [])
    (tk : Takes ((cxOf C8.CX0 X.prog X.w X.K X.mg X.base Ng qg sg g cdg X.A X.stack s H C8.E0).tr pn xe) W) (hW : ∀ cls d τ G, E cls d G → W cls d τ G) (hr : Room (k + 1) (X.A.deeper (envOfC qg sg s.heap.objs.size g cdg)))
    (hbody : ∀ (z : Shared) (G : Hp), PE (LamX.lamCx X (X.A.deeper (envOfC qg sg s.heap.objs.size g cdg)) (envOfC qg sg s.heap.objs.size g cdg :: X.stack) z G E scope f c') body tb)
    (hN : Ng[0]? = some a) (hv : Vis sg a) (hd : dbgB a = true) :
    PE ((cxOf C8.CX0 X.prog X.w X.K X.mg X.base Ng qg sg g cdg X.A X.stack s H C8.E0).tr pn xe) (.Call (.Name a p1) [] [] p2)
      (fun τ G Q => τ[0]? = some (some (.ref f)) ∧ G c' = some (LamX.CodeO c' (X.env.qual ++ "<lambda>")) ∧ tb σ G Q) := by
  constructor
  intro pz z τ G Q J ⟨e1, e2, e3⟩
  have hx : Passes (L2.CX X.prog X.w) ((cxOf C8.CX0 X.prog X.w X.K X.mg X.base Ng qg sg g cdg X.A X.stack s H C8.E0).tr pn xe) E := passes_call tk hW
  refine wpAny_Call_Name_kw (thn ((pe_var (pos := p1) (i := 0) hN hv (dbg1 hd) (dbg2 hd)).run pz z τ G (fun v G1 => v = .ref f ∧ G1 = G) J ⟨.ref f, e1, rfl, rfl⟩) fun u z1 ⟨v, G1, J1, rv, ev, eG⟩ => ?_)
  subst ev
  rw [eG] at J1
  cases (show u = Value.ref f from rv)
  have un : Un (frs X.stack) [] H G s.heap z1.heap := J1.base
  have hfo := un.keep f _ hf hfn hfr (fun y => by cases y)
  obtain ⟨⟨oc, vs, t, hoc, hdc, hvc⟩, _⟩ := J1.hok c' _ e2
  refine PySem.W.callWith_F0 ⟨_, _, _, _, hfo⟩ (wpAny_call (codeAny_mono (?_ : codeAny (model X.prog X.w) (X.A.deeper (envOfC qg sg s.heap.objs.size g cdg)) (.call (.ref f) ⟨[], []⟩) (CR (L2.CX X.prog X.w) (envOfC qg sg s.heap.objs.size g cdg :: X.stack) X.prog X.w G z1 Q E) z1) fun r z2 hq => ?_))
  · refine PySem.W.kla_callFunE hr.depth hfo rfl L.co L.gen rfl ⟨c', oc, vs, t, rfl, hoc, hdc, hvc⟩ ?_
    rw [hbind]
    refine wpAny_pure (wpAny_newFunctionEnv (fun y hy => (L.own y hy).2) (fun y hy => by cases hy) (fun g1 hns hsb => ⟨J1.nolimit.fresh _ hsb, ?_⟩) L.kind)
    have J2 := LamX.lam_start2 (c' := c') (f := f) (E := E) (tk := z1.toks + ([] : List (Str × Value)).length) I L J1.env0 hr.hd un hns fun b o e => hsb.extBut b o (Nat.ne_of_lt (Heap.lt_size e)) (Heap.get?_push_of_some _ e)
    show codeAny _ _ (.expr body (LamX.lamEnv X scope z1.heap.objs.size f c')) _ _
    refine PySem.W.kla_codeExpr (wpAny_mono ((hbody z1 G).run [] _ σ G Q J2 e3) (fun v z3 hz => ?_) fun _ _ hz => hz)
    obtain ⟨y, G3, J3, r3, q3⟩ := hz
    exact ⟨y, G3, J3.os, J3.bare, J3.base, J3.hok, r3, q3⟩
  · match r, hq with
    | .error e, hq => exact hx pz τ G z1 e z2 J1 hq
    | .ok (.ret u), hq => exact J1.after hq
theorem guards_dp {A : Around} {env : PySem.Env} (h : A.guards = some []) : (A.deeper env).guards = some [] := by
  first | exact h | (simpa [Around.deeper] using h)
/-- exceptions wished for by W -/
def Ct.wish (c : Ct) (W : WX) : Ct := { c with W := W }
variable {g : Sg} {N : List Str} {sc : Scope} {k : Nat} {F : Call} {c : Ct}
theorem Rel.wish {C O : List Addr} {ρ : Env} {S : Cells} {σ : L2.St} {H : Hp} (R : Rel c C O ρ S σ H) (W : WX) : Rel (c.wish W) C O ρ S σ H :=
  ⟨R.len, R.ok, R.ofr, R.osub, R.pre, R.ext, R.grow, R.new, fun i sv e => by
    have q := R.slots i sv e
    cases sv <;> exact q, R.dist⟩
theorem XOk.lamh (x : XOk g N sc k F c X) {A : Around} {outer : List PySem.Env} {E : XK} {scope : Scope} {f c' : Addr} (hr : Room k (A.deeper (LamX.lamEnv X scope s.heap.objs.size f c'))) (hg : A.guards = some []) :
    XOk { g with lam := false } N scope k F (c.wish fun cls d _ G => E cls d G) (LamX.lamCx X A outer s H E scope f c') where
  hN := x.hN
  nd := x.nd
  sc := rfl
  calm := rfl
  room := hr
  grd := by first | exact hg | (simpa [LamX.lamCx, Around.deeper] using hg)
  K := x.K
  mg := x.mg
  pas := fun σ => passAt (takes_of rfl rfl rfl rfl) σ
  facts := ⟨x.facts.consts, x.facts.blt, x.facts.fns, x.facts.runs, x.facts.calls, x.facts.errs, x.facts.hears, x.facts.att⟩
  tabs := x.tabs
  lam := fun h => by cases h
theorem ExtH.aft {C O C' : List Addr} {S' : Cells} {H H' G : Hp} (a : Aft C O H C' S' H') (e : ExtH H' G) : Aft C O H C' S' G where
  pre := a.pre
  ext := fun b o h t n => e b o (a.ext b o h t n)
  grow := a.grow.trans (.ext e)
  new := a.new
  ok := a.ok.extN (fun b o h _ => e b o h)
theorem shown_rel {M : List Addr} {H : Hp} {k : Nat} {w : Str} {x : D} {v : V} (h : VR M H x v) : VRs M H (shownH .str (.bool true) k w x) (shownH .str (.bl true) k w v) := by
  unfold shownH
  split
  · exact .cons (by simp only [VR]) .nil
  · exact .cons (by simp only [VR]) (.cons h .nil)
  · exact .cons (by simp only [VR]) (.cons h (.cons (by simp only [VR]) .nil))
  · exact .cons (by simp only [VR]) (.cons (by simp only [VR]) .nil)
theorem shown_len {α : Type} {s : Str → α} {t x : α} {k : Nat} {w : Str} : (shownH s t k w x).length ≤ 3 := by
  unfold shownH
  split <;> simp
theorem lookup_in {α β : Type} [BEq α] [LawfulBEq α] {x : α} {y : β} : ∀ {l : List (α × β)}, l.lookup x = some y → (x, y) ∈ l
  | [], h => by cases h
  | (a, b) :: r, h => by
    by_cases e : x = a
    · subst e
      simp [List.lookup] at h
      rw [h]
      exact List.mem_cons_self
    · have e' : (x == a) = false := by simpa using e
      simp only [List.lookup, e'] at h
      exact List.mem_cons_of_mem _ (lookup_in h)
theorem both_hear (x : XOk g N sc k F c X) {hn : Str} {t : HrT} {o : Option (Nat × Int)} {b : IE} {y : Expr} (h : mE g N sc (.hear hn t o b) y = true)
    (hb : ∀ {sc' : Scope} {X' : Cx} {c' : Ct} {y}, XOk { g with lam := false } N sc' k F c' X' → mE { g with lam := false } N sc' b y = true → PE X' y (tE c' F b)) : Both X c F (.hear hn t o b) y := by
  simp only [mE] at h
  split at h
  · rename_i nm pn w scope lpos pos
    simp only [Bool.and_eq_true, decide_eq_true_eq] at h
    obtain ⟨⟨⟨⟨⟨⟨rfl, hgl⟩, hdb⟩, hmem⟩, hlam⟩, hL⟩, hbody⟩ := h
    obtain ⟨co, P, TB, hcode, hm, hu, hroom⟩ := x.lam hlam
    have L : LamX.LamS X.env.scope scope := by
      rw [x.sc]
      exact LamX.lamS_by hL
    obtain ⟨gd, pg, bg, sg, dV, kV, doc, pm, cdv, ct, oc, an, od, osl, Ng, a, mgg, kpg, lk, hcg, hbnd, FS, hN0, hva, hda, hG⟩ := x.facts.hears _ _ hmem
    have hr2 : Room (k + 1 + 1) X.A := hroom.mono (by omega)
    refine both_val ⟨fun pins s σ H Q I tt => ?_⟩ fun _ => rfl
    obtain ⟨C, O, ρ, S, R, Pt⟩ := tt
    simp only [evalE] at Pt
    refine wpAny_Call_Name_kw (ld_glob I (gl_of x hgl) mgg ?_ (dbg1 hdb))
    have hst : starEach [Expr.Lambda ⟨[], [], none, [], [], none, []⟩ w scope lpos] X.env = (false, eval (Expr.Lambda ⟨[], [], none, [], [], none, []⟩ w scope lpos) X.env) :: starEach [] X.env := star_of rfl
    refine PySem.W.callWith_K (h₀ := X.base) I.ok.mod.kin kpg ?_ hst (by rfl)
    rw [hst]
    show wpAny _ _ (spliced ((false, eval (Expr.Lambda ⟨[], [], none, [], [], none, []⟩ w scope lpos) X.env) :: backTo pos (starEach [] X.env))) _ _ s
    refine Calls.spliced_cons (lam_new I TB hcode (x.tabsAt R _ hm) rfl (L.has I.ok) fun f c' pm' ctv H1 s1 I1 eN htb hT1 hT2 hf hfn hfr hco => Calls.spliced_nil ⟨I1.kIn, ?_⟩)
    have aL : Aft C O H C S H1 := ⟨⟨[], (List.append_nil _).symm⟩, fun b o e n _ => eN b o e n, ⟨htb, fun q hq t => by
      by_cases hP : q.1 = P
      · rw [hP, hu q hq hP]
        exact hT1
      · exact hT2 _ _ hP t⟩, fun _ h => .inl h, R.ok.extN eN⟩
    have R1 := R.aft aL
    have P1 := Post.aft rE.up Pt aL
    clear Pt
    refine wpAny_call (codeAny_mono (?_ : codeAny (model X.prog X.w) X.A (.call (.ref gd) ⟨[.ref f], []⟩) (CR C8.CX0 X.stack X.prog X.w H1 s1 Q C8.E0) s1) fun r s2 hq => ?_)
    · refine LamX.run_ofS (N := Ng) (ps := [a]) (us := [.ref f]) (vs := [.ref f]) lk hcg FS hr2 I1.env0 (hbnd s1 [.ref f] I1.kIn rfl) (.cons rfl .nil) rfl fun hr' => ?_
      have key : tHear X.mg c.att t (fun E G Q' => tE (c.wish fun cls d _ G => E cls d G) F b σ G Q') H1 Q := by
        refine ⟨C, O, ρ, S, R1.wish _, ?_⟩
        cases hev : evalE F b ρ S with
        | bad =>
          rw [hev] at P1
          exact P1.elim
        | ok r S' =>
          rw [hev] at P1
          intro v H' C' a' q G p hG2 hp
          have aG := ExtH.aft a' hG2
          by_cases ht : t.told = true
          · simp only [ht, if_true] at P1 ⊢
            obtain ⟨d, ed, P2⟩ := P1.lft
            have rv : VR (C' ++ O) G d v := (q.strict a'.ok d ed).mono (by
              intro b o e n m
              exact ⟨hG2 b o e, m⟩)
            exact (Post.aft rE.up P2 aG).newLst aG.ok (by show 2 ≤ sizeLine; decide) (.cons (by simp only [VR]) (.cons rv .nil)) hp
          · have ht' : t.told = false := by simpa using ht
            simp only [ht', Bool.false_eq_true, if_false] at P1 ⊢
            exact (Post.aft rE.up P1 aG).newLst aG.ok (by show 1 ≤ sizeLine; decide) (.cons (by simp only [VR]) .nil) hp
        | exc n xx S' =>
          rw [hev] at P1
          obtain ⟨p0, ep, P2⟩ := P1.lft
          intro cls d H' C' a' he
          obtain ⟨Ca, e1, e2, e3⟩ := he
          refine ⟨n, p0.1, p0.2, Ca, lookup_in ep, e1, by rw [x.mg]; exact e2, ?_⟩
          rcases e3 with ⟨z1, z2, z3⟩ | ⟨dx, v, z0, z1, z2, z3⟩
          · refine .inl ⟨z1, z2, fun G p hG2 hp => ?_⟩
            subst z3
            have aG := ExtH.aft a' hG2
            exact (Post.aft rE.up P2 aG).newLst aG.ok (Nat.le_trans shown_len (by decide)) (shown_rel (by simp only [VR])) hp
          · refine .inr ⟨dx, v, z0, z1, z2, fun G p hG2 hp => ?_⟩
            have aG := ExtH.aft a' hG2
            have rv : VR (C' ++ O) G xx v := VR.mono (by
              intro b o e n m
              exact ⟨hG2 b o e, m⟩) z3
            exact (Post.aft rE.up P2 aG).newLst aG.ok (Nat.le_trans shown_len (by decide)) (shown_rel rv) hp
      obtain ⟨t', ht', hq'⟩ := hG X (X.env.qual ++ "<lambda>") rfl rfl rfl rfl rfl (hr2.mono (by omega)) f c' s1 H1 Q (fun E G Q' => tE (c.wish fun cls d _ G => E cls d G) F b σ G Q') (fun W pn xe E p1 p2 tk hW => act_pe I1 L hf hfn hfr (by rfl) tk hW hr' (fun z G => hb (x.lamh (hr'.deeper _) (guards_dp x.grd)) hbody) hN0 hva hda) hco key
      exact ⟨t', ht'.nox, hq'⟩
    · match r, hq with
      | .error e, hq => exact (show False from hq).elim
      | .ok (.ret u), hq => exact I1.after hq
  · cases h
end
end SS

end

section
set_option linter.all false
set_option autoImplicit false
set_option maxRecDepth 100000
set_option maxHeartbeats 4000000
/-! The mutual theorem of the expressions. -/
namespace SS
open PySem PySem.Spec PyProof.Rows L2
variable [Tabl]
section
variable {N : List Str} {k : Nat} {F : Call}

theorem both_newc' {c : Ct} {X : Cx} {e : IE} {y : Expr} (he : Both X c F e y) (h1 : PE X y (tE c F (.newc e))) : Both X c F (.newc e) y := by
  refine ⟨h1, PT.imp he.2 fun σ H Q ⟨C, O, ρ, S, R, P⟩ => ⟨C, O, ρ, S, R, ?_⟩⟩
  simp only [evalE] at P
  cases hr : evalE F e ρ S with
  | bad =>
    rw [hr] at P
    exact P.elim
  | exc n x S1 =>
    rw [hr] at P
    exact P
  | ok r S1 =>
    rw [hr] at P
    cases r <;> exact P.elim
/-- enumerate and zip want a written tuple -/
def TgFits (tg : Tg) (t : Expr) : Prop := ∀ ts, tg = .tup ts → ∃ elts kk tp, t = .Tuple elts kk tp
theorem fits_flat {sc : Scope} {tg : Tg} {t : Expr} (h : mTgF N sc tg t = true) : TgFits tg t := by
  intro ts e
  subst e
  simp only [mTgF] at h
  split at h
  · exact ⟨_, _, _, rfl⟩
  · cases h
mutual
theorem all_E : ∀ (e : IE) {g : Sg} {sc : Scope} {c : Ct} {X : Cx} {y : Expr}, XOk g N sc k F c X → mE g N sc e y = true → Both X c F e y
  | .lit d, _, _, _, _, _, _, h => both_lit h
  | .glob z i, _, _, _, _, _, x, h => both_glob x h
  | .fnv f, _, _, _, _, _, x, h => both_fnv x h
  | .var i, _, _, _, _, _, x, h => both_var x h
  | .peek i, _, _, _, _, _, x, h => both_peek x h
  | .tup es, _, _, _, _, _, x, h => both_tup h fun h => all_Es es x h
  | .lst es, _, _, _, _, _, x, h => both_lst h fun h => all_Es es x h
  | .newc e, _, sc, _, _, _, x, h => both_newc' (all_E e x (by simp only [mE] at h; exact h)) (pe_newc (all_E e x (by simp only [mE] at h; exact h)).1)
  | .bin op a b, _, _, _, _, _, x, h => both_bin h (fun h => (all_E a x h).1) fun h => (all_E b x h).1
  | .neg a, _, _, _, _, _, x, h => both_neg h fun h => (all_E a x h).1
  | .not a, _, _, _, _, _, x, h => both_not h fun h => all_E a x h
  | .cmp op a b, _, _, _, _, _, x, h => both_cmp x h (fun h => (all_E a x h).1) fun h => (all_E b x h).1
  | .chn a op b op' d, _, _, _, _, _, x, h => both_chn x h (fun h => (all_E a x h).1) (fun h => (all_E b x h).1) fun h => (all_E d x h).1
  | .and a b, _, _, _, _, _, x, h => both_and h (fun h => all_E a x h) fun h => all_E b x h
  | .or a b, _, _, _, _, _, x, h => both_or h (fun h => all_E a x h) fun h => all_E b x h
  | .ite t a b, _, _, _, _, _, x, h => both_ite h (fun h => all_E t x h) (fun h => all_E a x h) fun h => all_E b x h
  | .ix a i, _, _, _, _, _, x, h => both_ix x h (fun h => (all_E a x h).1) fun h => (all_E i x h).1
  | .sl a lo hi, _, _, _, _, _, x, h => both_sl x h (fun h => (all_E a x h).1) (fun h => all_O lo x h) fun h => all_O hi x h
  | .rev a, _, _, _, _, _, x, h => both_rev h fun h => (all_E a x h).1
  | .call f ks p es zs, _, _, _, _, _, x, h => both_call x h (fun h => all_Es es x h) fun h => all_Ks zs x h
  | .callv i es, _, _, _, _, _, x, h => both_callv x h fun h => all_Es es x h
  | .b1 b a, _, _, _, _, _, x, h => both_b1 x h fun h => (all_E a x h).1
  | .b2 b a d, _, _, _, _, _, x, h => both_b2 x h (fun h => (all_E a x h).1) fun h => (all_E d x h).1
  | .isi a t, _, _, _, _, _, x, h => both_isi x h fun h => (all_E a x h).1
  | .srtR a, _, _, _, _, _, x, h => both_srtR x h fun h => (all_E a x h).1
  | .sset ln a, _, _, _, _, _, x, h => both_sset x h fun h => (all_E a x h).1
  | .srtK (.it e) i b, _, _, _, _, _, x, h => both_srtK x h (fun z _ h => by cases z; exact (all_E e x h).1) (fun z => by cases z) fun x h => (all_E b x h).1
  | .srtK (.rng1 e) i b, _, _, _, _, _, x, h => both_srtK x h (fun z => by cases z) (fun z _ h => by cases z; exact (all_E e x h).1) fun x h => (all_E b x h).1
  | .srtK (.rng2 _ _) i b, _, _, _, _, _, x, h => by simp [mE, keySrc] at h; split at h <;> simp at h
  | .srtK (.rngd _ _) i b, _, _, _, _, _, x, h => by simp [mE, keySrc] at h; split at h <;> simp at h
  | .srtK (.enum _) i b, _, _, _, _, _, x, h => by simp [mE, keySrc] at h; split at h <;> simp at h
  | .srtK (.zip _ _) i b, _, _, _, _, _, x, h => by simp [mE, keySrc] at h; split at h <;> simp at h
  | .hear _ _ _ b, _, _, _, _, _, x, h => both_hear x h fun x h => (all_E b x h).1
  | .m1 m a e, _, _, _, _, _, x, h => both_m1 x h (fun h => (all_E a x h).1) fun h => (all_E e x h).1
  | .rgl tp (.rng1 a), _, _, _, _, _, x, h => both_rgl x h (fun e _ h => by cases e; exact (all_E a x h).1) (fun e => by cases e)
  | .rgl tp (.rng2 a b), _, _, _, _, _, x, h => both_rgl x h (fun e => by cases e) (fun e => by cases e; exact ⟨fun h => (all_E a x h).1, fun h => (all_E b x h).1⟩)
  | .rgl tp (.rngd _ _), _, _, _, _, _, x, h => by simp [mE, isRg] at h; split at h <;> simp at h
  | .rgl tp (.it _), _, _, _, _, _, x, h => by simp [mE, isRg] at h; split at h <;> simp at h
  | .rgl tp (.enum _), _, _, _, _, _, x, h => by simp [mE, isRg] at h; split at h <;> simp at h
  | .rgl tp (.zip _ _), _, _, _, _, _, x, h => by simp [mE, isRg] at h; split at h <;> simp at h
  | .comp elt tg src cnd, _, _, _, _, _, x, h => both_comp x h (fun ⟨_, ht⟩ hs h => all_Src src false x (fits_flat ht) hs h) (fun x h => all_C cnd x h) fun x h => (all_E elt x h).1
theorem all_Es : ∀ (es : IEs) {g : Sg} {sc : Scope} {c : Ct} {X : Cx} {ys : List Expr}, XOk g N sc k F c X → mEs g N sc es ys = true → PA X ys (tEs c F es)
  | .nil, _, _, _, _, _, _, h => pa_nil' h
  | .cons e es, _, _, _, _, _, x, h => pa_cons' h (fun h => (all_E e x h).1) fun h => all_Es es x h
theorem all_Ks : ∀ (es : IEs) {g : Sg} {ks : List Str} {sc : Scope} {c : Ct} {X : Cx} {ys : List Keyword}, XOk g N sc k F c X → mKs g N sc es ks ys = true → PK X ys (tEs c F es)
  | .nil, _, _, _, _, _, _, _, h => pk_nil' h
  | .cons e es, _, _, _, _, _, _, x, h => pk_cons' h (fun h => (all_E e x h).1) fun h => all_Ks es x h
theorem all_O : ∀ (e : IO) {g : Sg} {sc : Scope} {c : Ct} {X : Cx} {y : Option Expr}, XOk g N sc k F c X → mO g N sc e y = true → PO X y (tO c F e)
  | .none, _, _, _, _, _, _, h => po_none' h
  | .some e, _, _, _, _, _, x, h => po_some' h fun h => (all_E e x h).1
theorem all_C : ∀ (e : IO) {g : Sg} {sc : Scope} {c : Ct} {X : Cx} {ys : List Expr}, XOk g N sc k F c X → mC g N sc e ys = true → PTs X ys (tC c F e)
  | .none, _, _, _, _, _, _, h => pc_none h
  | .some e, _, _, _, _, _, x, h => pc_some h fun h => (all_E e x h).2
theorem all_Src : ∀ (src : Src) (st : Bool) {g : Sg} {sc : Scope} {c : Ct} {X : Cx} {tg : Tg} {t y : Expr}, XOk g N sc k F c X → TgFits tg t → srcTg src tg = true → mSrc g N sc src y = true → PI X t y (tI c F st src)
  | .it e, _, _, _, _, _, _, _, _, x, _, _, h => psrc_it h fun h => (all_E e x h).1
  | .rng1 e, _, _, _, _, _, _, _, _, x, _, _, h => psrc_rng1 x h fun h => (all_E e x h).1
  | .rng2 a b, _, _, _, _, _, _, _, _, x, _, _, h => psrc_rng2 x h (fun h => (all_E a x h).1) fun h => (all_E b x h).1
  | .rngd a b, _, _, _, _, _, _, _, _, x, _, _, h => psrc_rngd x h (fun h => (all_E a x h).1) fun h => (all_E b x h).1
  | .enum e, _, _, _, _, _, tg, _, _, x, ht, hs, h => by
    cases tg with
    | tup ts =>
      obtain ⟨_, _, _, rfl⟩ := ht ts rfl
      exact psrc_enum x h fun h => (all_E e x h).1
    | _ => simp [srcTg] at hs
  | .zip a b, _, _, _, _, _, tg, _, _, x, ht, hs, h => by
    cases tg with
    | tup ts =>
      obtain ⟨_, _, _, rfl⟩ := ht ts rfl
      exact psrc_zip x h (fun h => (all_E a x h).1) fun h => (all_E b x h).1
    | _ => simp [srcTg] at hs
end
end
end SS

end

section
set_option linter.all false
set_option autoImplicit false
set_option maxRecDepth 100000
set_option maxHeartbeats 4000000
/-! Statements: what is checked, what is promised. -/
namespace SS
open PySem PySem.Spec PyProof.Rows L2
variable [Tabl]

/-! ### checks -/
/-- how the stores of a pair of tuples go -/
def namesIn (sc : Scope) (line : Nat) (ts : List Expr) : List Str := ts.filterMap fun
  | .Name id pos => if sc.names.lookup id == some .local && pos.line == line then some id else none
  | _ => none
def anyStar (vs : List Expr) : Bool := vs.any fun | .Starred .. => true | _ => false
def headLine (ts : List Expr) : Nat := (ts.head?.map (·.pos.line)).getD 0
def swpO (sc : Scope) (t v : Expr) : Option (Option (List Str)) :=
  match t, v with
  | .Tuple ts _ _, .Tuple vs _ _ =>
    if !(ts.length == 2 || ts.length == 3) || vs.length != ts.length then some none
    else if anyStar vs then some none
    else if (namesIn sc (headLine ts) ts).length != ts.length || (namesIn sc (headLine ts) ts).eraseDups.length != (namesIn sc (headLine ts) ts).length then some none
    else if vs.all (foldedForSure 8) then some none
    else if vs.all (constantsAlone 8) then none
    else some (some (namesIn sc (headLine ts) ts))
  | .List .., _ => none
  | _, _ => some none
/-- a comprehension that is stored from within -/
def lcSw (sc : Scope) (t v : Expr) : Bool :=
  match t, v with
  | .Name y q, .ListComp _ _ s p => (sc.names.lookup y == some .local) && (q.line == p.line) && !(s.names.any fun (n, k) => n == y && (k == .local || k == .cell))
  | _, _ => false
def isComp : Expr → Bool
  | .ListComp .. => true
  | .SetComp .. => true
  | .DictComp .. => true
  | _ => false
def isC : IE → Bool
  | .comp .. => true
  | _ => false
/-- a plain store -/
def plainSet (sc : Scope) (t v : Expr) : Bool := (swpO sc t v == some none) && !lcSw sc t v && (!isComp v || match v with | .ListComp .. => true | _ => false)

mutual
def mT (g : Sg) (N : List Str) (sc : Scope) : Tg → Expr → Bool
  | .nm i, x => match x with
    | .Name y _ => decide (N[i]? = some y) && locB sc y
    | _ => false
  | .tup ts, x => match x with
    | .Tuple xs _ _ => mTs g N sc ts xs
    | _ => false
  | .sub o i, x => match x with
    | .Subscript y z _ => plainB z && mE g N sc o y && mE g N sc i z
    | _ => false
  | .osub s i, x => match x with
    | .Subscript (.Name y _) z _ => decide (N[s]? = some y) && visB sc y && dbgB y && plainB z && mE g N sc i z
    | _ => false
def mTs (g : Sg) (N : List Str) (sc : Scope) : Tgs → List Expr → Bool
  | .nil, x => match x with
    | [] => true
    | _ => false
  | .cons t ts, x => match x with
    | y :: ys => mT g N sc t y && starB y && mTs g N sc ts ys
    | _ => false
end
/-- the stores of a, b = x, y -/
def parOk (N : List Str) (sc : Scope) (is : List (Nat × Bool)) (t v : Expr) : Bool :=
  match is, t, v with
  | [(i, _), (j, _)], .Tuple [.Name x p, .Name y q] k r, .Tuple [a, b] k2 r2 =>
    decide (N[i]? = some x) && decide (N[j]? = some y) && decide (i ≠ j) && (sc.names.lookup x == some .local) && (sc.names.lookup y == some .local) && (swpO sc (.Tuple [.Name x p, .Name y q] k r) (.Tuple [a, b] k2 r2) == some (some [x, y]))
  | [(i, _), (j, _), (l, _)], .Tuple [.Name x p, .Name y q, .Name z q'] k r, .Tuple [a, b, d] k2 r2 =>
    decide (N[i]? = some x) && decide (N[j]? = some y) && decide (N[l]? = some z) && decide (i ≠ j) && decide (i ≠ l) && decide (j ≠ l) && (sc.names.lookup x == some .local) && (sc.names.lookup y == some .local) && (sc.names.lookup z == some .local) &&
      (swpO sc (.Tuple [.Name x p, .Name y q, .Name z q'] k r) (.Tuple [a, b, d] k2 r2) == some (some [x, y, z]))
  | _, _, _ => false
/-- names alone -/
def namesOk (N : List Str) (sc : Scope) : List (Nat × Bool) → List Expr → Bool
  | [], [] => true
  | (i, _) :: is, .Name y _ :: r => decide (N[i]? = some y) && locB sc y && namesOk N sc is r
  | _, _ => false
def parOk2 (N : List Str) (sc : Scope) (is : List (Nat × Bool)) (t v : Expr) : Bool :=
  match t with
  | .Tuple ts _ _ => namesOk N sc is ts && (swpO sc t v == some none) && decide (is.length ≤ 100)
  | _ => false
mutual
def mS (g : Sg) (N : List Str) (sc : Scope) : IS → Stmt → Bool
  | .set tg e, x => match x with
    | .Assign [t] v _ => mT g N sc tg t && mE g N sc e v && (plainSet sc t v || (lcSw sc t v && isC e))
    | _ => false
  | .own i e, x => match x with
    | .Assign [t] v _ => mT g N sc (.nm i) t && mE g N sc e v && (plainSet sc t v || (lcSw sc t v && isC e))
    | _ => false
  | .par is es, x => match x with
    | .Assign [t] (.Tuple vs k r) _ => (parOk N sc is t (.Tuple vs k r) || parOk2 N sc is t (.Tuple vs k r)) && mEs g N sc es vs
    | _ => false
  | .expr e, x => match x with
    | .Expr v _ => mE g N sc e v && !isComp v
    | _ => false
  | .app i e, x => match x with
    | .Expr (.Call (.Attribute (.Name y _) m a) [v] [] c) _ => decide (m = "append") && decide (N[i]? = some y) && visB sc y && dbgB y && starB v && (a.endLine == c.line) && mE g N sc e v
    | _ => false
  | .ext i e, x => match x with
    | .Expr (.Call (.Attribute (.Name y _) m a) [v] [] c) _ => decide (m = "extend") && decide (N[i]? = some y) && visB sc y && dbgB y && starB v && (a.endLine == c.line) && mE g N sc e v
    | _ => false
  | .ret e, x => match x with
    | .Return (some v) _ => mE g N sc e v
    | _ => false
  | .retN, x => match x with
    | .Return none _ => true
    | _ => false
  | .pass, x => match x with
    | .Pass _ => true
    | .Expr (.Constant (.str _) _ _) _ => true
    | _ => false
  | .ite c a b, x => match x with
    | .If v xs ys _ => mE g N sc c v && mSs g N sc a xs && mSs g N sc b ys
    | _ => false
  | .for tg src body, x => match x with
    | .For t v xs [] _ => mT g N sc tg t && srcTg src tg && mSrc g N sc src v && mSs g N sc body xs
    | _ => false
  | .whil _ c body, x => match x with
    | .While v xs [] _ => mE g N sc c v && mSs g N sc body xs
    | _ => false
  | .frz _, _ => false
  | .mov i j, x => match x with
    | .Assign [.Name y p] (.Name z q) _ => decide (N[i]? = some y) && locB sc y && decide (N[j]? = some z) && visB sc z && dbgB z
    | _ => false
  | .raise c e, x => match x with
    | .Raise (some (.Call (.Name y _) [z] [] _)) none _ => decide (y = c) && glB sc y && dbgB y && decide (c ∈ g.classes) && !decide (attOf g c = "") && starB z && mE g N sc e z
    | _ => false
  | .raise0 c, x => match x with
    | .Raise (some (.Call (.Name y _) [] [] _)) none _ => decide (y = c) && glB sc y && dbgB y && decide (c ∈ g.classes) && decide (attOf g c = "")
    | _ => false
  | .never, _ => true
  | .popA i j e, x => match x with
    | .Expr (.Call (.Attribute (.Name y _) m a) [.Call (.Attribute (.Name z _) m2 a2) [v] [] c2] [] c) _ => decide (m = "append") && decide (m2 = "pop") && decide (N[i]? = some y) && visB sc y && dbgB y && decide (N[j]? = some z) && visB sc z && dbgB z && starB v && (a.endLine == c.line) && (a2.endLine == c2.line) && mE g N sc e v
    | _ => false
def mSs (g : Sg) (N : List Str) (sc : Scope) : ISs → List Stmt → Bool
  | .nil, x => match x with
    | [] => true
    | _ => false
  | .cons s ss, x => match s with
    | .frz _ => mSs g N sc ss x
    | _ => match x with
      | y :: ys => mS g N sc s y && mSs g N sc ss ys
      | _ => false
end

/-! ### promises -/
theorem Keeps.refl {M : List Addr} {H : Hp} : Keeps M H M H := fun _ _ e _ n => ⟨e, n⟩
theorem Keeps.trans {M1 M2 M3 : List Addr} {H1 H2 H3 : Hp} (a : Keeps M1 H1 M2 H2) (b : Keeps M2 H2 M3 H3) : Keeps M1 H1 M3 H3 := fun c o e t n => b c o (a c o e t n).1 t (a c o e t n).2
section
variable {g : Sg} {N : List Str} {sc : Scope} {k : Nat} {F : Call} {c : Ct} {X : Cx}
/-- what a def gives back, from its entry on -/
def RetOk (c : Ct) (r : EV) (S' : Cells) (u : V) (C' : List Addr) (H' : Hp) : Prop :=
  Aft c.E.C c.E.O c.E.H C' S' H' ∧ VRE c.K c.mg (fun _ => some (.lst [])) C' c.E.O S' H' r u ∧ match r with
    | .nw _ => ∀ a, u = .ref a → c.E.H a = none
    | _ => True
def PostS (c : Ct) (C O : List Addr) (H : Hp) (Q : L2.St → Hp → Prop) (Rt : VK) : SRes → Prop
  | .nx ρ' S' => ∀ σ' H' C' O', Keeps (C ++ O) H (C' ++ O') H' → Rel c C' O' ρ' S' σ' H' → Q σ' H'
  | .ret r S' => ∀ u H' C', RetOk c r S' u C' H' → Rt u H'
  | .exc n x ρ' S' => ∀ cls d σ' H' C' O', Keeps (C ++ O) H (C' ++ O') H' → Rel c C' O' ρ' S' σ' H' → ExcR c C' O' H' n x cls d → c.W cls d σ' H'
  | .bad => False
theorem PostS.keeps {C O C1 O1 : List Addr} {H H1 : Hp} {Q : L2.St → Hp → Prop} {Rt : VK} {r : SRes} (P : PostS c C O H Q Rt r) (kp : Keeps (C ++ O) H (C1 ++ O1) H1) : PostS c C1 O1 H1 Q Rt r := by
  cases r with
  | nx ρ' S' => exact fun σ' H' C' O' k2 R => P σ' H' C' O' (kp.trans k2) R
  | ret r S' => exact P
  | exc n x ρ' S' => exact fun cls d σ' H' C' O' k2 R e => P cls d σ' H' C' O' (kp.trans k2) R e
  | bad => exact P
/-- one, then the rest -/
theorem PostS.thn {C O : List Addr} {H : Hp} {Q Q' : L2.St → Hp → Prop} {Rt : VK} {r : SRes} {f : Env → Cells → SRes} (P : PostS c C O H Q Rt (r.thn f)) (h : ∀ ρ1 S1 σ1 H1 C1 O1, Keeps (C ++ O) H (C1 ++ O1) H1 → Rel c C1 O1 ρ1 S1 σ1 H1 → PostS c C1 O1 H1 Q Rt (f ρ1 S1) → Q' σ1 H1) : PostS c C O H Q' Rt r := by
  cases r with
  | nx ρ' S' => exact fun σ' H' C' O' k2 R => h ρ' S' σ' H' C' O' k2 R (PostS.keeps P k2)
  | ret r S' => exact P
  | exc n x ρ' S' => exact P
  | bad => exact P
/-- an expression, then the rest -/
theorem PostS.st {α β : Type} {rel : Hp → List Addr → Cells → Hp → α → β → Prop} {C O : List Addr} {H : Hp} {σ : L2.St} {ρ : Env} {S : Cells} {Q : L2.St → Hp → Prop} {Rt : VK} {Q' : β → Hp → Prop} {a : Res α} {f : α → Cells → SRes} (R : Rel c C O ρ S σ H) (P : PostS c C O H Q Rt (a.st ρ f))
    (h : ∀ r S1 v H1 C1, Aft C O H C1 S1 H1 → rel H C1 S1 H1 r v → PostS c C O H Q Rt (f r S1) → Q' v H1) : Post c O rel C H σ Q' a := by
  cases a with
  | ok r S1 => exact fun v H1 C1 b q => h r S1 v H1 C1 b q P
  | exc n x S1 => exact fun cls d H' C' b q => P cls d σ H' C' O b.keeps (R.aft b) q
  | bad => exact P
theorem PostS.sft {C O : List Addr} {H : Hp} {Q : L2.St → Hp → Prop} {Rt : VK} {ε : Type} {o : Option ε} {f : ε → SRes} (P : PostS c C O H Q Rt (sft o f)) : ∃ e, o = some e ∧ PostS c C O H Q Rt (f e) := by
  cases o with
  | none => exact P.elim
  | some e => exact ⟨e, rfl, P⟩
theorem PostS.iff {C O : List Addr} {H : Hp} {Q : L2.St → Hp → Prop} {Rt : VK} {p : Prop} [Decidable p] {r : SRes} (P : PostS c C O H Q Rt (if p then r else .bad)) : p ∧ PostS c C O H Q Rt r := by
  by_cases hp : p
  · rw [if_pos hp] at P
    exact ⟨hp, P⟩
  · rw [if_neg hp] at P
    exact P.elim
/-- THE READINGS -/
def tS (c : Ct) (F : Call) (s : IS) : TS := fun D σ H => ∃ C O ρ S, Rel c C O ρ S σ H ∧ PostS c C O H D.nx D.rt (exec F s ρ S)
def tSs (c : Ct) (F : Call) (s : ISs) : TS := fun D σ H => ∃ C O ρ S, Rel c C O ρ S σ H ∧ PostS c C O H D.nx D.rt (execs F s ρ S)
def gB (c : Ct) (F : Call) (t : Tg) : TG := fun v σ H Q => ∃ C O ρ S x Rt, Rel c C O ρ S σ H ∧ VRH c.K c.mg C O H x v ∧ PostS c C O H Q Rt (bindT F t x ρ S)
def gBs (c : Ct) (F : Call) (t : Tgs) : TGs := fun vs σ H Q => ∃ C O ρ S xs Rt, Rel c C O ρ S σ H ∧ VRs (C ++ O) H xs vs ∧ PostS c C O H Q Rt (bindTs F t xs ρ S)
theorem PS.imp {X : Cx} {e : Stmt} {t t' : TS} (h : PS X e t) (i : ∀ D σ H, t' D σ H → t D σ H) : PS X e t' := ⟨fun pins s σ H D I q => h.run pins s σ H D I (i _ _ _ q)⟩
theorem PSs.imp {X : Cx} {e : List Stmt} {t t' : TS} (h : PSs X e t) (i : ∀ D σ H, t' D σ H → t D σ H) : PSs X e t' := ⟨fun pins s σ H D I q => h.run pins s σ H D I (i _ _ _ q)⟩
theorem PG.imp {X : Cx} {e : Expr} {t t' : TG} (h : PG X e t) (i : ∀ v σ H Q, t' v σ H Q → t v σ H Q) : PG X e t' := ⟨fun pins s σ H v u Q I r q => h.run pins s σ H v u Q I r (i _ _ _ _ q)⟩
theorem PGs.imp {X : Cx} {e : List Expr} {t t' : TGs} (h : PGs X e t) (i : ∀ v σ H Q, t' v σ H Q → t v σ H Q) : PGs X e t' := ⟨fun pins s σ H v u Q I r q => h.run pins s σ H v u Q I r (i _ _ _ _ q)⟩

/-! ### the heap written -/
/-- an owned list is written -/
theorem Rel.mut {C O : List Addr} {ρ : Env} {S : Cells} {σ : L2.St} {H : Hp} {i : Nat} {a : Addr} {ds es : List D} {ys : List V} (R : Rel c C O ρ S σ H) (hi : ρ[i]? = some (.own ds)) (hs : σ[i]? = some (some (.ref a))) (m : a ∈ O) (f : c.E.H a = none) (z : ys.length ≤ sizeLine) (r : VRs (C ++ O) H es ys) :
    Rel c C O (ρ.set i (.own es)) S σ (L2.upd H a (.lst ys)) := by
  have kp : Keeps (C ++ O) H (C ++ O) (L2.upd H a (.lst ys)) := Keeps.mut (List.mem_append_right _ m)
  obtain ⟨x0, hx0⟩ := R.ok.trk (List.mem_append_right C m)
  have hl : i < ρ.length := by
    rcases Nat.lt_or_ge i ρ.length with q | q
    · exact q
    · rw [List.getElem?_eq_none q] at hi; cases hi
  refine ⟨by rw [List.length_set]; exact R.len, R.ok.mut m, R.ofr, R.osub, R.pre, fun b o e t n => ?_, R.grow.trans (.mut hx0), R.new, fun j sv e => ?_, fun j l us ws b h1 h2 h3 h4 => ?_⟩
  · rw [upd_ne (ne_of_none e f)]
    exact R.ext b o e t n
  · by_cases hj : i = j
    · subst hj
      rw [List.getElem?_set_self hl] at e
      cases e
      exact ⟨a, ys, hs, m, f, upd_same, z, r.mono kp⟩
    · rw [List.getElem?_set_ne hj] at e
      have q := R.slots j sv e
      cases sv with
      | un => trivial
      | v x =>
        obtain ⟨v, e1, r1⟩ := q
        refine ⟨v, e1, ?_⟩
        cases x with
        | d x => exact VR.mono kp r1
        | cell n => exact r1
        | fn f => exact r1
        | scr ns =>
          obtain ⟨b, e2, l, q | q⟩ := r1
          · refine ⟨b, e2, l, .inl ?_⟩
            obtain ⟨n, q⟩ := q
            rcases q with q | ⟨o, q⟩
            · exact ⟨n, .inl (kp _ _ q nt_lst n).1⟩
            · exact ⟨n, .inr ⟨o, (kp _ _ q nt_frz n).1⟩⟩
          · exact ⟨b, e2, l, .inr q⟩
        | nw _ => exact r1.elim
        | pk _ => exact r1.elim
      | own us =>
        obtain ⟨b, xs, e1, m1, f1, h1, z1, r1⟩ := q
        have nb : b ≠ a := fun w => hj (R.dist i j ds us a hi e hs (by rw [e1, w]))
        exact ⟨b, xs, e1, m1, f1, by rw [upd_ne nb]; exact h1, z1, r1.mono kp⟩
  · have own_of : ∀ {j : Nat} {us : List D}, (ρ.set i (.own es))[j]? = some (.own us) → ∃ us', ρ[j]? = some (.own us') := fun {j us} h => by
      by_cases hj : i = j
      · subst hj
        exact ⟨ds, hi⟩
      · rw [List.getElem?_set_ne hj] at h
        exact ⟨us, h⟩
    obtain ⟨u1, h1⟩ := own_of h1
    obtain ⟨u2, h2⟩ := own_of h2
    exact R.dist j l u1 u2 b h1 h2 h3 h4
/-- a shared list is written -/
theorem Rel.mutC {C O : List Addr} {ρ : Env} {S : Cells} {σ : L2.St} {H : Hp} {n : Nat} {a : Addr} {es : List D} {ys : List V} (R : Rel c C O ρ S σ H) (hn : C[n]? = some a) (z : ys.length ≤ sizeLine) (r : VRs (C ++ O) H es ys) :
    Rel c C O ρ (S.set n es) σ (L2.upd H a (.lst ys)) := by
  have m : a ∈ C := List.mem_of_getElem? hn
  have kp : Keeps (C ++ O) H (C ++ O) (L2.upd H a (.lst ys)) := Keeps.mut (List.mem_append_left _ m)
  obtain ⟨x0, hx0⟩ := R.ok.trk (List.mem_append_left O m)
  have ndC : C.Nodup := (List.nodup_append.mp R.ok.nd).1
  refine ⟨R.len, ⟨R.ok.nd, R.ok.cells.set (List.mem_append_left _ m) z (r.mono kp) ndC hn, fun b mb => ?_⟩, R.ofr, R.osub, R.pre, fun b o e t q => ?_, R.grow.trans (.mut hx0), R.new, fun j sv e => ?_, R.dist⟩
  · have ne : b ≠ a := fun w => R.ok.apart mb (by rw [w]; exact m)
    obtain ⟨xs, h⟩ := R.ok.otrk b mb
    exact ⟨xs, by rw [upd_ne ne]; exact h⟩
  · have ne : b ≠ a := fun w => by
      rcases R.new a m with u | u
      · exact q (by rw [w]; exact u)
      · rw [w, u] at e; cases e
    rw [upd_ne ne]
    exact R.ext b o e t q
  · have q := R.slots j sv e
    cases sv with
    | un => trivial
    | v x =>
      obtain ⟨v, e1, r1⟩ := q
      refine ⟨v, e1, ?_⟩
      cases x with
      | d x => exact VR.mono kp r1
      | cell n => exact r1
      | fn f => exact r1
      | scr ns =>
        obtain ⟨b, e2, l, q | q⟩ := r1
        · refine ⟨b, e2, l, .inl ?_⟩
          obtain ⟨n, q⟩ := q
          rcases q with q | ⟨o, q⟩
          · exact ⟨n, .inl (kp _ _ q nt_lst n).1⟩
          · exact ⟨n, .inr ⟨o, (kp _ _ q nt_frz n).1⟩⟩
        · exact ⟨b, e2, l, .inr q⟩
      | nw _ => exact r1.elim
      | pk _ => exact r1.elim
    | own us =>
      obtain ⟨b, xs, e1, m1, f1, h1, z1, r1⟩ := q
      have nb : b ≠ a := fun w => R.ok.apart m1 (by rw [w]; exact m)
      exact ⟨b, xs, e1, m1, f1, by rw [upd_ne nb]; exact h1, z1, r1.mono kp⟩
theorem keeps_more {C O C' : List Addr} {S' : Cells} {H H' : Hp} {p : Addr} (a : Aft C O H C' S' H') (hp : H p = none) : Keeps (C ++ O) H (C' ++ (p :: O)) H' := fun b u e t n => by
  obtain ⟨h1, h2⟩ := a.keeps b u e t n
  refine ⟨h1, fun m => ?_⟩
  rcases List.mem_append.mp m with m | m
  · exact h2 (List.mem_append_left _ m)
  · rcases List.mem_cons.mp m with m | m
    · rw [m, hp] at e; cases e
    · exact h2 (List.mem_append_right _ m)
/-- what is free stood not at the entry -/
theorem Rel.fresh {C O : List Addr} {ρ : Env} {S : Cells} {σ : L2.St} {H : Hp} (R : Rel c C O ρ S σ H) {p : Addr} (hp : H p = none) : c.E.H p = none := by
  by_cases z : p ∈ c.E.C
  · obtain ⟨M, hM⟩ := R.pre
    have : p ∈ C ++ O := by
      rw [hM]
      exact List.mem_append_left _ (List.mem_append_left _ z)
    exact absurd this (R.ok.free hp)
  · exact R.live hp z
/-- a new list is owned by a slot -/
theorem Rel.own {C O C' : List Addr} {ρ : Env} {S S' : Cells} {σ : L2.St} {H H' : Hp} {p : Addr} {i : Nat} {ds : List D} {xs : List V} (R : Rel c C O ρ S σ H) (hp : H p = none) (a : Aft C O H C' S' H') (nC : p ∉ C') (nO : p ∉ O) (h : H' p = some (.lst xs)) (z : xs.length ≤ sizeLine) (r : VRs (C' ++ (p :: O)) H' ds xs) (cs : CsOk (C' ++ (p :: O)) H' C' S') :
    Rel c C' (p :: O) (ρ.set i (.own ds)) S' (σ.set i (some (.ref p))) H' := by
  have ok := a.ok.push h nC nO cs
  have R1 := R.more hp a ok
  have slot : ∀ {j : Nat} {sv : SV}, (ρ.set i (.own ds))[j]? = some sv → (i = j ∧ sv = .own ds ∧ (σ.set i (some (.ref p)))[j]? = some (some (.ref p))) ∨ (i ≠ j ∧ ρ[j]? = some sv ∧ (σ.set i (some (V.ref p)))[j]? = σ[j]?) := fun {j sv} e => by
    by_cases hj : i = j
    · subst hj
      have hl : i < ρ.length := by
        rcases Nat.lt_or_ge i ρ.length with q | q
        · exact q
        · rw [List.getElem?_eq_none (by rw [List.length_set]; exact q)] at e; cases e
      rw [List.getElem?_set_self hl] at e
      cases e
      exact .inl ⟨rfl, rfl, List.getElem?_set_self (by rw [← R.len]; exact hl)⟩
    · rw [List.getElem?_set_ne hj] at e
      exact .inr ⟨hj, e, List.getElem?_set_ne hj⟩
  have old : ∀ {j : Nat} {us : List D} {b : Addr}, ρ[j]? = some (.own us) → σ[j]? = some (some (.ref b)) → b ≠ p := fun {j us b} e e2 w => by
    obtain ⟨b', _, e3, m, _⟩ := R.slots j _ e
    rw [e2] at e3
    cases e3
    exact nO (by rw [← w]; exact m)
  refine ⟨by rw [List.length_set, List.length_set]; exact R.len, ok, R1.ofr, R1.osub, R1.pre, R1.ext, R1.grow, R1.new, fun j sv e => ?_, fun j l us ws b h1 h2 h3 h4 => ?_⟩
  · rcases slot e with ⟨_, e1, e2⟩ | ⟨_, e1, e2⟩
    · subst e1
      exact ⟨p, xs, e2, List.mem_cons_self, R.fresh hp, h, z, r⟩
    · rw [e2]
      exact R1.slots j sv e1
  · rcases slot h1 with ⟨e1, _, e2⟩ | ⟨_, e1, e2⟩ <;> rcases slot h2 with ⟨f1, _, f2⟩ | ⟨_, f1, f2⟩
    · rw [← e1, ← f1]
    · rw [e2] at h3
      rw [f2] at h4
      cases h3
      exact absurd rfl (old f1 h4)
    · rw [e2] at h3
      rw [f2] at h4
      cases h4
      exact absurd rfl (old e1 h3)
    · rw [e2] at h3
      rw [f2] at h4
      exact R.dist j l us ws b e1 f1 h3 h4
theorem Ok.subO {C O O' : List Addr} {S : Cells} {H : Hp} (k : Ok C O S H) (nd : O'.Nodup) (s : ∀ a ∈ O', a ∈ O) : Ok C O' S H where
  nd := by
    have h := k.nd
    rw [List.nodup_append] at h ⊢
    exact ⟨h.1, nd, fun a ha b hb => h.2.2 a ha b (s b hb)⟩
  cells := k.cells.mono (Keeps.sub fun a m => by
    rcases List.mem_append.mp m with q | q
    · exact List.mem_append_left _ q
    · exact List.mem_append_right _ (s a q)) fun _ _ _ h => h
  otrk := fun a m => k.otrk a (s a m)
theorem keeps_sub {C O O' : List Addr} {H : Hp} (s : ∀ a ∈ O', a ∈ O) : Keeps (C ++ O) H (C ++ O') H := Keeps.sub fun a m => by
  rcases List.mem_append.mp m with q | q
  · exact List.mem_append_left _ q
  · exact List.mem_append_right _ (s a q)
/-- an owned list is let go: it changes no more -/
theorem Rel.frz {C O : List Addr} {ρ : Env} {S : Cells} {σ : L2.St} {H : Hp} {i : Nat} {ds : List D} (hE : ∀ a ∈ c.E.O, c.E.H a ≠ none) (R : Rel c C O ρ S σ H) (hi : ρ[i]? = some (.own ds)) :
    ∃ O', (∀ a ∈ O', a ∈ O) ∧ Rel c C O' (ρ.set i (.v (.d (.list ds)))) S σ H := by
  obtain ⟨a, xs, es, m, f, h, z, r⟩ := R.slots i _ hi
  have s : ∀ b ∈ O.filter (fun b => !(b == a)), b ∈ O := fun b mb => (List.mem_filter.mp mb).1
  have kp : Keeps (C ++ O) H (C ++ O.filter (fun b => !(b == a))) H := keeps_sub s
  have hl : i < ρ.length := by
    rcases Nat.lt_or_ge i ρ.length with q | q
    · exact q
    · rw [List.getElem?_eq_none q] at hi; cases hi
  have ndO : O.Nodup := (List.nodup_append.mp R.ok.nd).2.1
  have own_of : ∀ {j : Nat} {us : List D}, (ρ.set i (.v (.d (.list ds))))[j]? = some (.own us) → i ≠ j ∧ ρ[j]? = some (.own us) := fun {j us} h => by
    by_cases hj : i = j
    · subst hj
      rw [List.getElem?_set_self hl] at h
      cases h
    · rw [List.getElem?_set_ne hj] at h
      exact ⟨hj, h⟩
  refine ⟨_, s, by rw [List.length_set]; exact R.len, R.ok.subO (ndO.filter _) s, fun b mb => R.ofr b (s b mb), fun b mb => ?_, R.pre, R.ext, R.grow, R.new, fun j sv e => ?_, fun j l us ws b h1 h2 h3 h4 => R.dist j l us ws b (own_of h1).2 (own_of h2).2 h3 h4⟩
  · refine List.mem_filter.mpr ⟨R.osub b mb, ?_⟩
    have ne : b ≠ a := fun w => hE b mb (by rw [w]; exact f)
    simp [ne]
  · by_cases hj : i = j
    · subst hj
      rw [List.getElem?_set_self hl] at e
      cases e
      refine ⟨.ref a, es, a, xs, rfl, fun w => ?_, h, z, r.mono kp⟩
      rcases List.mem_append.mp w with w | w
      · exact R.ok.apart m w
      · have := (List.mem_filter.mp w).2
        simp at this
    · have e' := e
      rw [List.getElem?_set_ne hj] at e
      have q := R.slots j sv e
      cases sv with
      | un => trivial
      | v x =>
        obtain ⟨v, e1, r1⟩ := q
        refine ⟨v, e1, ?_⟩
        cases x with
        | d x => exact VR.mono kp r1
        | cell n => exact r1
        | fn f => exact r1
        | scr ns =>
          obtain ⟨b, e2, l, q | q⟩ := r1
          · obtain ⟨n, q⟩ := q
            refine ⟨b, e2, l, .inl ⟨fun w => n ?_, q⟩⟩
            rcases List.mem_append.mp w with w | w
            · exact List.mem_append_left _ w
            · exact List.mem_append_right _ (s _ w)
          · exact ⟨b, e2, l, .inr q⟩
        | nw _ => exact r1.elim
        | pk _ => exact r1.elim
      | own us =>
        obtain ⟨b, ys, e1, m1, f1, h1, z1, r1⟩ := q
        have nb : b ≠ a := fun w => hj (R.dist i j ds us a hi e es (by rw [e1, w]))
        exact ⟨b, ys, e1, List.mem_filter.mpr ⟨m1, by simp [nb]⟩, f1, h1, z1, r1.mono kp⟩
/-- an owned list goes to another slot -/
theorem Rel.mov {C O : List Addr} {ρ : Env} {S : Cells} {σ : L2.St} {H : Hp} {i j : Nat} {ds : List D} {v : V} (R : Rel c C O ρ S σ H) (hj : ρ[j]? = some (.own ds)) (hv : σ[j]? = some (some v)) : Rel c C O ((ρ.set j .un).set i (.own ds)) S (σ.set i (some v)) H := by
  have hlj : j < ρ.length := by
    rcases Nat.lt_or_ge j ρ.length with q | q
    · exact q
    · rw [List.getElem?_eq_none q] at hj; cases hj
  obtain ⟨a, xs, es, m, f, h, z, r⟩ := R.slots j _ hj
  rw [hv] at es
  cases es
  have slot : ∀ {l : Nat} {sv : SV}, ((ρ.set j .un).set i (.own ds))[l]? = some sv → (i = l ∧ sv = .own ds ∧ (σ.set i (some (V.ref a)))[l]? = some (some (.ref a))) ∨ (i ≠ l ∧ l ≠ j ∧ ρ[l]? = some sv ∧ (σ.set i (some (V.ref a)))[l]? = σ[l]?) ∨ sv = .un := fun {l sv} e => by
    by_cases hi : i = l
    · subst hi
      have hl : i < ρ.length := by
        rcases Nat.lt_or_ge i ρ.length with q | q
        · exact q
        · rw [List.getElem?_eq_none (by rw [List.length_set, List.length_set]; exact q)] at e; cases e
      rw [List.getElem?_set_self (by rw [List.length_set]; exact hl)] at e
      cases e
      exact .inl ⟨rfl, rfl, List.getElem?_set_self (by rw [← R.len]; exact hl)⟩
    · rw [List.getElem?_set_ne hi] at e
      by_cases hl : j = l
      · subst hl
        rw [List.getElem?_set_self hlj] at e
        cases e
        exact .inr (.inr rfl)
      · rw [List.getElem?_set_ne hl] at e
        exact .inr (.inl ⟨hi, Ne.symm hl, e, List.getElem?_set_ne hi⟩)
  refine ⟨by rw [List.length_set, List.length_set, List.length_set]; exact R.len, R.ok, R.ofr, R.osub, R.pre, R.ext, R.grow, R.new, fun l sv e => ?_, fun p q us ws b h1 h2 h3 h4 => ?_⟩
  · rcases slot e with ⟨_, e1, e2⟩ | ⟨_, _, e1, e2⟩ | e1
    · subst e1
      exact ⟨a, xs, e2, m, f, h, z, r⟩
    · rw [e2]
      exact R.slots l sv e1
    · subst e1
      trivial
  · rcases slot h1 with ⟨e1, _, e2⟩ | ⟨_, e0, e1, e2⟩ | e1
    · rcases slot h2 with ⟨f1, _, f2⟩ | ⟨_, f0, f1, f2⟩ | f1
      · rw [← e1, ← f1]
      · rw [e2] at h3
        rw [f2] at h4
        cases h3
        exact absurd (R.dist q j ws ds a f1 hj h4 hv) f0
      · cases f1
    · rcases slot h2 with ⟨f1, _, f2⟩ | ⟨_, f0, f1, f2⟩ | f1
      · rw [e2] at h3
        rw [f2] at h4
        cases h4
        exact absurd (R.dist p j us ds a e1 hj h3 hv) e0
      · rw [e2] at h3
        rw [f2] at h4
        exact R.dist p q us ws b e1 f1 h3 h4
      · cases f1
    · cases e1
end
end SS

end

section
set_option linter.all false
set_option autoImplicit false
set_option maxRecDepth 100000
set_option maxHeartbeats 4000000
/-! Statements, one by one. -/
namespace SS
open PySem PySem.Spec PyProof.Rows L2
variable [Tabl]

/-- what a body's context gives beyond an expression's -/
structure BOk (g : Sg) (N : List Str) (sc : Scope) (k : Nat) (F : Call) (c : Ct) (X : Cx) : Prop where
  x : XOk g N sc k F c X
  fn : ∀ x, X.fn x = true
  kind : sc.kind = .function
  tks : Takes X c.W
  room1 : Room (k + 1) X.A
  own : PassesOwn (model X.prog X.w) X.A X.env X.xe
  e0 : ∀ a ∈ c.E.O, c.E.H a ≠ none
  eN : c.E.O.Nodup
section
variable {g : Sg} {N : List Str} {sc : Scope} {k : Nat} {F : Call} {c : Ct} {X : Cx}

theorem loc_of (x : XOk g N sc k F c X) {y : Str} (h : locB sc y = true) : L2.Loc X.env.scope y := by
  rw [x.sc]
  unfold locB at h
  unfold L2.Loc
  split at h <;> first | (rename_i e; simp [e]) | cases h
theorem assign_sub {o i : Expr} {pos : Pos} {env : PySem.Env} (h : plainB i = true) : ∀ v, assign (.Subscript o i pos) env v = (do
      let ov ← holding [v] (eval o env)
      let iv ← holding [v, ov] (eval i env)
      standAt pos
      holding [v, ov, iv] (setItem ov iv v)
      release [v, ov, iv] []) := by
  intro v
  cases i <;> first | rfl | cases h
theorem setCell_at {C O : List Addr} {ρ : Env} {S S' : Cells} {σ : L2.St} {H : Hp} {n : Nat} {a : Addr} {j : Int} {d : D} {v : V} (R : Rel c C O ρ S σ H) (hn : C[n]? = some a) (e : setCell S n j d = some S') (r : VR (C ++ O) H d v) :
    ∃ xs m, H a = some (.lst xs) ∧ L2.ixN xs.length j = some m ∧ Rel c C O ρ S' σ (L2.upd H a (.lst (xs.set m v))) := by
  simp only [setCell, Option.bind_eq_some_iff, Option.map_eq_some_iff] at e
  obtain ⟨ds, e1, m, e2, rfl⟩ := e
  obtain ⟨a', xs, h1, h2, z, rr⟩ := R.ok.cells.get e1
  rw [hn] at h1
  cases h1
  refine ⟨xs, m, h2, by rw [rr.length]; exact e2, R.mutC hn (by rw [List.length_set]; exact z) (rr.set r m)⟩
mutual
theorem all_T (b : BOk g N sc k F c X) : ∀ (t : Tg) {y : Expr}, mT g N sc t y = true → PG X y (gB c F t)
  | .nm i, y, h => by
    simp only [mT] at h
    split at h
    · simp only [Bool.and_eq_true, decide_eq_true_eq] at h
      refine PG.imp (pg_name (i := i) (by rw [b.x.hN]; exact b.x.nd) (by rw [b.x.hN]; exact h.1) (loc_of b.x h.2) (.inl (b.fn _))) fun v σ H Q ⟨C, O, ρ, S, x, Rt, R, r, P⟩ => ?_
      simp only [bindT] at P
      exact P _ _ C O Keeps.refl (R.set i r)
    · cases h
  | .tup ts, y, h => by
    simp only [mT] at h
    split at h
    · rename_i xs kk pos
      obtain ⟨ih, l1, l2⟩ := all_Ts b ts h
      refine PG.imp (pg_tup b.x.calm ih l1 l2) fun v σ H Q ⟨C, O, ρ, S, x, Rt, R, r, P⟩ => ?_
      cases x with
      | d d =>
        cases d with
        | tuple ds =>
          obtain ⟨a, us, rfl, _, hh, _, rr⟩ := r
          simp only [bindT] at P
          obtain ⟨hl, P⟩ := P.iff
          exact ⟨a, us, rfl, SqT.of hh, by rw [rr.length]; exact hl, C, O, ρ, S, ds, Rt, R, rr, P⟩
        | _ => exact P.elim
      | _ => exact P.elim
    · cases h
  | .sub o i, y, h => by
    simp only [mT] at h
    split at h
    · simp only [Bool.and_eq_true] at h
      obtain ⟨⟨h1, h2⟩, h3⟩ := h
      refine PG.imp (pg_sub (all_E o b.x h2).1 (all_E i b.x h3).1 set_list (assign_sub h1)) fun v σ H Q ⟨C, O, ρ, S, x, Rt, R, r, P⟩ => ?_
      simp only [bindT] at P
      refine ⟨C, O, ρ, S, R, PostS.st R P fun r1 S1 v1 H1 C1 a1 q1 P1 => ⟨C1, O, ρ, S1, R.aft a1, PostS.st (R.aft a1) (PostS.keeps P1 a1.keeps) fun r2 S2 v2 H2 C2 a2 q2 P2 => ?_⟩⟩
      have r' := (r.aft a1).aft a2
      cases r1 with
      | cell n =>
        cases r2 with
        | d d2 =>
          cases d2 with
          | int j =>
            cases x with
            | d d =>
              simp only at P2
              obtain ⟨S3, e, P3⟩ := P2.sft
              obtain ⟨a, rfl, hn⟩ := q1.1
              have ej : v2 = .int j := q2.1
              have R2 := (R.aft a1).aft a2
              obtain ⟨xs, m, hH, hm, R3⟩ := setCell_at R2 (a2.lt hn) e r'
              refine ⟨a, xs, j, m, rfl, ej, hH, hm, (PostS.keeps P3 a2.keeps) _ _ C2 O (Keeps.mut ?_) R3⟩
              exact List.mem_append_left _ (List.mem_of_getElem? (a2.lt hn))
            | _ => exact P2.elim
          | _ => exact P2.elim
        | _ => exact P2.elim
      | _ => exact P2.elim
    · cases h
  | .osub s i, y, h => by
    simp only [mT] at h
    split at h
    · simp only [Bool.and_eq_true, decide_eq_true_eq] at h
      obtain ⟨⟨⟨⟨hn, hv⟩, hd⟩, h1⟩, h3⟩ := h
      refine PG.imp (pg_sub (pe_var (i := s) (by rw [b.x.hN]; exact hn) (vis_of b.x hv) (dbg1 hd) (dbg2 hd)) (all_E i b.x h3).1 set_list (assign_sub h1)) fun v σ H Q ⟨C, O, ρ, S, x, Rt, R, r, P⟩ => ?_
      simp only [bindT] at P
      split at P
      · rename_i ds hs
        obtain ⟨a, xs, es, m, f, hH, z, rr⟩ := R.slots s _ hs
        refine ⟨.ref a, es, C, O, ρ, S, R, PostS.st R P fun r2 S2 v2 H2 C2 a2 q2 P2 => ?_⟩
        cases r2 with
        | d d2 =>
          cases d2 with
          | int j =>
            cases x with
            | d d =>
              simp only at P2
              obtain ⟨m2, e2, P3⟩ := P2.sft
              have ej : v2 = .int j := q2.1
              have hH2 : H2 a = some (.lst xs) := a2.ext a _ hH nt_lst (R.ok.apart m)
              have rr2 := (rr.mono a2.keeps).set (r.aft a2) m2
              refine ⟨a, xs, j, m2, rfl, ej, hH2, by rw [rr.length]; exact e2, (PostS.keeps P3 a2.keeps) _ _ C2 O (Keeps.mut (List.mem_append_right _ m)) ?_⟩
              exact (R.aft a2).mut hs es m f (by rw [List.length_set]; exact z) rr2
            | _ => exact P2.elim
          | _ => exact P2.elim
        | _ => exact P2.elim
      · exact P.elim
    · cases h
theorem all_Ts (b : BOk g N sc k F c X) : ∀ (t : Tgs) {ys : List Expr}, mTs g N sc t ys = true → PGs X ys (gBs c F t) ∧ (assignEach ys X.env).length = t.len ∧ (assignEach ys X.env).findIdx? (·.1) = none
  | .nil, ys, h => by
    simp only [mTs] at h
    split at h
    · refine ⟨PGs.imp pgs_nil fun vs σ H Q ⟨C, O, ρ, S, xs, Rt, R, r, P⟩ => ?_, rfl, rfl⟩
      cases xs with
      | nil =>
        simp only [bindTs] at P
        exact ⟨r, P _ _ C O Keeps.refl R⟩
      | cons x xs => exact P.elim
    · cases h
  | .cons t ts, ys, h => by
    simp only [mTs] at h
    split at h
    · rename_i y ys
      simp only [Bool.and_eq_true] at h
      obtain ⟨⟨h1, h2⟩, h3⟩ := h
      obtain ⟨ih, l1, l2⟩ := all_Ts b ts h3
      have e : assignEach (y :: ys) X.env = (false, assign y X.env) :: assignEach ys X.env := by
        cases y <;> first | rfl | cases h2
      refine ⟨PGs.imp (pgs_cons (all_T b t h1) ih (by rw [e]; rfl)) fun vs σ H Q ⟨C, O, ρ, S, xs, Rt, R, r, P⟩ => ?_, by rw [e, List.length_cons, l1]; rfl, by rw [e, List.findIdx?_cons, l2]; rfl⟩
      cases xs with
      | nil => exact P.elim
      | cons x xs =>
        obtain ⟨v, vr, rfl, r1, r2⟩ := r
        simp only [bindTs] at P
        exact ⟨v, vr, rfl, C, O, ρ, S, .d x, Rt, R, r1, P.thn fun ρ1 S1 σ1 H1 C1 O1 kp R1 P1 => ⟨C1, O1, ρ1, S1, xs, Rt, R1, r2.mono kp, P1⟩⟩
    · cases h
end
end
end SS

end

section
set_option linter.all false
set_option autoImplicit false
set_option maxRecDepth 100000
set_option maxHeartbeats 4000000
/-! Statements, one by one (2). -/
namespace SS
open PySem PySem.Spec PyProof.Rows L2
variable [Tabl]
section
variable {g : Sg} {N : List Str} {sc : Scope} {k : Nat} {F : Call} {c : Ct} {X : Cx}

/-! ### stores -/
theorem blockF (b : BOk g N sc k F c X) : X.env.blockKind = .function := by
  unfold Env.blockKind
  rw [b.x.sc, b.kind]
  rfl
theorem kindOf_eq (b : BOk g N sc k F c X) (y : Str) : X.env.kindOf y = sc.names.lookup y := by
  unfold Env.kindOf
  rw [b.x.sc]
def namesInK (env : PySem.Env) (line : Nat) (ts : List Expr) : List Str := ts.filterMap fun
  | .Name id pos => if env.kindOf id == some .local && pos.line == line then some id else none
  | _ => none
theorem namesIn_eq (b : BOk g N sc k F c X) (line : Nat) (ts : List Expr) : namesInK X.env line ts = namesIn sc line ts := by
  unfold namesIn namesInK
  congr 1
  funext e
  cases e <;> first | rfl | (simp only [kindOf_eq b])
theorem swp_of (b : BOk g N sc k F c X) {t v : Expr} {r : Option (List Str)} (h : swpO sc t v = some r) : swappedStores [t] v X.env = pure r := by
  have hb := blockF b
  unfold swpO at h
  split at h
  · rename_i ts kt pt vs kv pv
    show (if !(ts.length == 2 || ts.length == 3) || vs.length != ts.length || X.env.blockKind != .function then pure none else _) = _
    simp only [hb, bne_self_eq_false, Bool.or_false]
    by_cases h1 : (!(ts.length == 2 || ts.length == 3) || vs.length != ts.length) = true
    · rw [if_pos h1] at h ⊢
      cases h
      rfl
    · rw [if_neg h1] at h ⊢
      show (if anyStar vs then pure none else _) = _
      by_cases h2 : anyStar vs = true
      · rw [if_pos h2] at h ⊢
        cases h
        rfl
      · rw [if_neg h2] at h ⊢
        have e := namesIn_eq b (headLine ts) ts
        show (if ((namesInK X.env (headLine ts) ts).length != ts.length || (namesInK X.env (headLine ts) ts).eraseDups.length != (namesInK X.env (headLine ts) ts).length) = true then pure none else
          if vs.all (foldedForSure 8) then pure none else
          (if vs.all (constantsAlone 8) then (do unsupported "assign.tuple-of-constant-expressions:order-of-the-stores"; pure (some (namesInK X.env (headLine ts) ts))) else pure (some (namesInK X.env (headLine ts) ts)))) = _
        rw [e]
        by_cases h3 : ((namesIn sc (headLine ts) ts).length != ts.length || (namesIn sc (headLine ts) ts).eraseDups.length != (namesIn sc (headLine ts) ts).length) = true
        · rw [if_pos h3] at h ⊢
          cases h
          rfl
        · rw [if_neg h3] at h ⊢
          show (if vs.all (foldedForSure 8) then pure none else _) = _
          by_cases h4 : vs.all (foldedForSure 8) = true
          · rw [if_pos h4] at h ⊢
            cases h
            rfl
          · rw [if_neg h4] at h ⊢
            show (if vs.all (constantsAlone 8) then _ else _) = _
            by_cases h5 : vs.all (constantsAlone 8) = true
            · rw [if_pos h5] at h
              cases h
            · rw [if_neg h5] at h ⊢
              cases h
              rfl
  · cases h
  · cases h
    unfold swappedStores
    split
    · rename_i h2 h1 _ _ _ hh
      exfalso
      split at hh
      · rename_i e1
        exact h1 _ _ _ _ _ _ (List.cons.inj e1).1 rfl
      · rename_i e1
        exact h2 _ _ (List.cons.inj e1).1
      · cases hh
    · rfl
theorem sw_of (b : BOk g N sc k F c X) {t v : Expr} {line : Nat} (h : plainSet sc t v = true) : swapsWithSole [t] v line X.env = pure false := by
  have hb := blockF b
  simp only [plainSet, Bool.and_eq_true, Bool.not_eq_true', Bool.or_eq_true] at h
  obtain ⟨⟨_, h2⟩, h3⟩ := h
  show swapsWith v (some t) line X.env = pure false
  unfold swapsWith
  cases v with
  | ListComp el gs s p =>
    cases t with
    | Name y q =>
      show (pure (X.env.blockKind == .function && X.env.kindOf y == some .local && q.line == p.line && !(s.names.any fun (n, k) => n == y && (k == .local || k == .cell))) : Sem Bool) = _
      rw [hb, kindOf_eq b]
      have e : (sc.names.lookup y == some .local && q.line == p.line && !(s.names.any fun (n, k) => n == y && (k == .local || k == .cell))) = false := h2
      have e2 : ((ScopeKind.function == ScopeKind.function) && (sc.names.lookup y == some NameKind.local) && q.line == p.line && !(s.names.any fun (n, k) => n == y && (k == .local || k == .cell))) = false := by
        rw [beq_self_eq_true, Bool.true_and]
        exact e
      rw [e2]
    | _ => rfl
  | SetComp => rcases h3 with h3 | h3 <;> cases h3
  | DictComp => rcases h3 with h3 | h3 <;> cases h3
  | _ => rfl
theorem pl_swp {t v : Expr} (h : plainSet sc t v = true) : swpO sc t v = some none := by
  simp only [plainSet, Bool.and_eq_true, beq_iff_eq] at h
  exact h.1.1
theorem mT_one (b : BOk g N sc k F c X) {t : Tg} {y : Expr} (h : mT g N sc t y = true) : (assignEach [y] X.env).map (·.2) = [assign y X.env] := by
  cases t with
  | nm i =>
    simp only [mT] at h
    split at h
    · rfl
    · cases h
  | tup ts =>
    simp only [mT] at h
    split at h
    · rfl
    · cases h
  | sub o i =>
    simp only [mT] at h
    split at h
    · rfl
    · cases h
  | osub o i =>
    simp only [mT] at h
    split at h
    · rfl
    · cases h
theorem setP (b : BOk g N sc k F c X) {tg : Tg} {e : IE} {t v : Expr} {pos : Pos} {G : TG} (ht : mT g N sc tg t = true) (hG : PG X t G) (he : mE g N sc e v = true) (hp : plainSet sc t v = true) : PS X (.Assign [t] v pos) (tAsg (tE c F e) G) :=
  ps_asg (all_E e b.x he).1 hG (sw_of b hp) (swp_of b (pl_swp hp)) (mT_one b ht)
theorem setL (b : BOk g N sc k F c X) {i : Nat} {e : IE} {t v : Expr} {pos : Pos} (ht : mT g N sc (.nm i) t = true) (he : mE g N sc e v = true) (hp : lcSw sc t v = true) (hc : isC e = true) : PS X (.Assign [t] v pos) (tAsg (tE c F e) (gName i)) := by
  have x := b.x
  simp only [mT] at ht
  split at ht
  · rename_i y q
    simp only [Bool.and_eq_true, decide_eq_true_eq] at ht
    cases e with
    | comp elt tg src cnd =>
      simp only [mE] at he
      split at he
      · rename_i e' t' i' ifs scope p
        simp only [Bool.and_eq_true, decide_eq_true_eq, List.all_eq_true] at he
        obtain ⟨⟨⟨⟨⟨⟨⟨⟨⟨h1, h2⟩, h3⟩, h4⟩, h5⟩, h6⟩, h7⟩, h8⟩, h9⟩, h10⟩ := he
        have bk : BlkOk X.N X.env.scope scope (ownOf N (tgIx tg)) := by
          rw [x.hN, x.sc]
          exact blkOk_by h4
        simp only [lcSw, Bool.and_eq_true, beq_iff_eq, Bool.not_eq_true'] at hp
        obtain ⟨⟨p1, p2⟩, p3⟩ := hp
        have hl : X.env.scope.names.lookup y = some .local := by rw [x.sc]; exact p1
        have hk : X.env.scope.kind = .function := by rw [x.sc]; exact b.kind
        refine PS.imp (ps_setLc (i := i) x.calm (by rw [x.hN]; exact x.nd) (by rw [x.hN]; exact ht.1) hl (sw_true hk hl (by rw [p2]; exact beq_self_eq_true _) p3) (all_Src src false x (fits_flat h8) h3 h7) bk (g := gFlat X.K tg) (tt := tC c.calm F cnd) (te := tE c.calm F elt) (fun s H C cl fp => ?_) (fun s H C cl fp => all_C cnd x.blk h9) (fun s H C cl fp => (all_E elt x.blk h10).1) (fold_of (msrc_set h7))) fun D σ H q => ?_
        · have xb := x.blk (s := s) (H := H) (scope := scope) (C := C) (cl := cl) (fp := fp)
          exact pg_flat xb.hN xb.nd xb.calm (lcl_of xb.sc rfl) h2 h8
        · rw [wipe_ids h6]
          exact comp_reads h2 h5 q
      · cases he
    | _ => cases hc
  · cases ht
/-- a name's store, either way -/
theorem setN (b : BOk g N sc k F c X) {i : Nat} {e : IE} {t v : Expr} {pos : Pos} (ht : mT g N sc (.nm i) t = true) (he : mE g N sc e v = true) (hp : (plainSet sc t v || (lcSw sc t v && isC e)) = true) : PS X (.Assign [t] v pos) (tAsg (tE c F e) (gName i)) := by
  simp only [Bool.or_eq_true, Bool.and_eq_true] at hp
  rcases hp with hp | ⟨h1, h2⟩
  · refine setP b ht ?_ he hp
    simp only [mT] at ht
    split at ht
    · simp only [Bool.and_eq_true, decide_eq_true_eq] at ht
      exact pg_name (i := i) (by rw [b.x.hN]; exact b.x.nd) (by rw [b.x.hN]; exact ht.1) (loc_of b.x ht.2) (.inl (b.fn _))
    · cases ht
  · exact setL b ht he h1 h2
theorem rE.hold {O C' : List Addr} {H H' : Hp} {S' : Cells} (ok : Ok C' O S' H') {x y : EV} {v : V} (h : rE c O H C' S' H' x v) (e : x.held = some y) : VRH c.K c.mg C' O H' y v := VRE.held (ok := ok) h.1 e
theorem s_set (b : BOk g N sc k F c X) {tg : Tg} {e : IE} {y : Stmt} (h : mS g N sc (.set tg e) y = true) : PS X y (tS c F (.set tg e)) := by
  simp only [mS] at h
  split at h
  · rename_i t v pos
    simp only [Bool.and_eq_true] at h
    obtain ⟨⟨h1, h2⟩, h3⟩ := h
    have gen : PS X (.Assign [t] v pos) (tAsg (tE c F e) (gB c F tg)) → PS X (.Assign [t] v pos) (tS c F (.set tg e)) := fun q => PS.imp q fun D σ H ⟨C, O, ρ, S, R, P⟩ => by
      simp only [exec] at P
      refine ⟨C, O, ρ, S, R, PostS.st R P fun r S1 v1 H1 C1 a1 q1 P1 => ?_⟩
      obtain ⟨w, e1, P2⟩ := P1.sft
      have P3 := PostS.keeps P2 a1.keeps
      exact ⟨C1, O, ρ, S1, w, _, R.aft a1, q1.hold a1.ok e1, P3⟩
    by_cases hp : plainSet sc t v = true
    · exact gen (setP b h1 (all_T b tg h1) h2 hp)
    · have h3' : (plainSet sc t v || (lcSw sc t v && isC e)) = true := by
        simpa using h3
      cases tg with
      | nm i =>
        refine PS.imp (setN b h1 h2 h3') fun D σ H ⟨C, O, ρ, S, R, P⟩ => ?_
        simp only [exec] at P
        refine ⟨C, O, ρ, S, R, PostS.st R P fun r S1 v1 H1 C1 a1 q1 P1 => ?_⟩
        obtain ⟨w, e1, P2⟩ := P1.sft
        simp only [bindT] at P2
        exact P2 _ _ C1 O a1.keeps ((R.aft a1).set i (q1.hold a1.ok e1))
      | _ =>
        exfalso
        simp only [Bool.or_eq_true, Bool.and_eq_true] at h3'
        rcases h3' with h3 | ⟨h3, _⟩
        · exact hp h3
        · cases t <;> simp [lcSw] at h3
          simp [mT] at h1
  · cases h
end
end SS

end

section
set_option linter.all false
set_option autoImplicit false
set_option maxRecDepth 100000
set_option maxHeartbeats 4000000
/-! a, b = x, y with slots that own. -/
namespace SS
open PySem PySem.Spec PyProof.Rows L2
variable [Tabl]
section
variable {g : Sg} {N : List Str} {sc : Scope} {k : Nat} {F : Call} {c : Ct} {X : Cx}

/-- from one state on: shared lists stay in their order, owned ones stay and are not written, what is newly owned is new -/
structure Ext (C O : List Addr) (H : Hp) (C' O' : List Addr) (H' : Hp) : Prop where
  kp : Keeps (C ++ O) H (C' ++ O') H'
  pre : ∃ M, C' = C ++ M
  sub : ∀ a ∈ O, a ∈ O' ∧ H' a = H a
theorem Ext.trans {C O C1 O1 C2 O2 : List Addr} {H H1 H2 : Hp} (a : Ext C O H C1 O1 H1) (b : Ext C1 O1 H1 C2 O2 H2) : Ext C O H C2 O2 H2 where
  kp := a.kp.trans b.kp
  pre := by
    obtain ⟨n, e⟩ := a.pre
    obtain ⟨m, e'⟩ := b.pre
    exact ⟨n ++ m, by rw [e', e, List.append_assoc]⟩
  sub := fun x m => ⟨(b.sub x (a.sub x m).1).1, by rw [(b.sub x (a.sub x m).1).2, (a.sub x m).2]⟩
theorem Ext.ofAft {C O C' : List Addr} {S S' : Cells} {H H' : Hp} (k : Ok C O S H) (a : Aft C O H C' S' H') : Ext C O H C' O H' := ⟨a.keeps, a.pre, fun x m => ⟨m, by
  obtain ⟨xs, e⟩ := k.otrk x m
  rw [e, a.ext x _ e nt_lst (k.apart m)]⟩⟩
theorem VRH.to {C O C' O' : List Addr} {H H' : Hp} (e : Ext C O H C' O' H') : ∀ {x : EV} {v : V}, VRH c.K c.mg C O H x v → VRH c.K c.mg C' O' H' x v
  | .d _, _, h => VR.mono e.kp h
  | .cell n, _, ⟨b, e1, q⟩ => ⟨b, e1, by
      obtain ⟨M, hM⟩ := e.pre
      have hl : n < C.length := by
        rcases Nat.lt_or_ge n C.length with q2 | q2
        · exact q2
        · rw [List.getElem?_eq_none q2] at q; cases q
      rw [hM, List.getElem?_append_left hl]
      exact q⟩
  | .fn _, _, h => h
  | .scr _, _, ⟨b, e1, l, .inl ⟨n, q⟩⟩ => ⟨b, e1, l, .inl (by
      rcases q with q | ⟨o, q⟩
      · exact ⟨(e.kp _ _ q nt_lst n).2, .inl (e.kp _ _ q nt_lst n).1⟩
      · exact ⟨(e.kp _ _ q nt_frz n).2, .inr ⟨o, (e.kp _ _ q nt_frz n).1⟩⟩)⟩
  | .scr _, _, ⟨b, e1, l, .inr q⟩ => ⟨b, e1, l, .inr q⟩
  | .nw _, _, h => h.elim
  | .pk _, _, h => h.elim
/-- the values, each to be held or owned; Ob: what was owned ahead -/
def VPs (c : Ct) (C O' : List Addr) (H : Hp) : List Addr → List (Nat × Bool) → List EV → List V → Prop
  | _, _, [], vs => vs = []
  | Ob, is, x :: rs, vs => ∃ v r, vs = v :: r ∧ (match is with
    | (_, true) :: is' => match x with
      | .nw ds => ∃ a xs, v = .ref a ∧ a ∉ Ob ∧ a ∈ O' ∧ c.E.H a = none ∧ H a = some (.lst xs) ∧ xs.length ≤ sizeLine ∧ VRs (C ++ O') H ds xs ∧ VPs c C O' H (a :: Ob) is' rs r
      | _ => VPs c C O' H Ob is' rs r
    | (_, false) :: is' => (∀ y, x.held = some y → VRH c.K c.mg C O' H y v) ∧ VPs c C O' H Ob is' rs r
    | [] => VPs c C O' H Ob [] rs r)
def PostP (c : Ct) (C O : List Addr) (H : Hp) (σ : L2.St) (ρ : Env) (is : List (Nat × Bool)) (Q : List V → Hp → Prop) : Res (List EV) → Prop
  | .ok rs S' => ∀ vs H' C' O', Ext C O H C' O' H' → Rel c C' O' ρ S' σ H' → VPs c C' O' H' O is rs vs → Q vs H'
  | .exc n x S' => ∀ cls d H' C' O', Ext C O H C' O' H' → Rel c C' O' ρ S' σ H' → ExcR c C' O' H' n x cls d → c.W cls d σ H'
  | .bad => False
def tPs (c : Ct) (F : Call) (is : List (Nat × Bool)) (es : IEs) : TA := fun σ H Q => ∃ C O ρ S, Rel c C O ρ S σ H ∧ PostP c C O H σ ρ is Q (evalEs F es ρ S)
theorem pa_par (x : XOk g N sc k F c X) : ∀ (es : IEs) {is : List (Nat × Bool)} {ys : List Expr}, mEs g N sc es ys = true → PA X ys (tPs c F is es)
  | .nil, is, ys, h => by
    simp only [mEs] at h
    split at h
    · refine PA.imp pa_nil fun σ H Q ⟨C, O, ρ, S, R, P⟩ => ?_
      exact P [] H C O ⟨Keeps.refl, ⟨[], (List.append_nil _).symm⟩, fun a m => ⟨m, rfl⟩⟩ R (by cases is <;> exact rfl)
    · cases h
  | .cons e es, is, ys, h => by
    simp only [mEs] at h
    split at h
    · simp only [Bool.and_eq_true] at h
      obtain ⟨⟨h1, h2⟩, h3⟩ := h
      refine PA.imp (pa_cons (all_E e x h1).1 (pa_par x es (is := is.tail) h3) (star_of h2)) fun σ H Q ⟨C, O, ρ, S, R, P⟩ => ?_
      simp only [evalEs] at P
      refine ⟨C, O, ρ, S, R, ?_⟩
      cases hr : evalE F e ρ S with
      | bad =>
        rw [hr] at P
        exact P
      | exc n y S1 =>
        rw [hr] at P
        exact fun cls d H' C' a q => P cls d H' C' O (Ext.ofAft R.ok a) (R.aft a) q
      | ok r S1 =>
        rw [hr] at P
        simp only [Res.bind_ok] at P
        intro v H1 C1 a q
        have R1 := R.aft a
        have e1 := Ext.ofAft R.ok a
        -- the rest at (C1, O1)
        have rest : ∀ (O1 : List Addr), Ext C O H C1 O1 H1 → Rel c C1 O1 ρ S1 σ H1 → (∀ rs vs H2 C2 O2, Ext C1 O1 H1 C2 O2 H2 → VPs c C2 O2 H2 O1 is.tail rs vs → VPs c C2 O2 H2 O is (r :: rs) (v :: vs)) →
            tPs c F is.tail es σ H1 (fun vs H2 => Q (v :: vs) H2) := by
          intro O1 ex R1 hv
          refine ⟨C1, O1, ρ, S1, R1, ?_⟩
          cases hs : evalEs F es ρ S1 with
          | bad =>
            rw [hs] at P
            exact P
          | exc n y S2 =>
            rw [hs] at P
            exact fun cls d H' C' O' ex2 R2 q2 => P cls d H' C' O' (ex.trans ex2) R2 q2
          | ok rs S2 =>
            rw [hs] at P
            exact fun vs H2 C2 O2 ex2 R2 vp => P (v :: vs) H2 C2 O2 (ex.trans ex2) R2 (hv rs vs H2 C2 O2 ex2 vp)
        have keepHeld : ∀ {b : Nat × Bool} {is' : List (Nat × Bool)}, is = (b.1, false) :: is' → tPs c F is.tail es σ H1 (fun vs H2 => Q (v :: vs) H2) := fun {b is'} hi => rest O e1 R1 fun rs vs H2 C2 O2 ex2 vp => by
          subst hi
          exact ⟨v, vs, rfl, fun y hy => (VRE.held (ok := a.ok) q.1 hy).to ex2, vp⟩
        cases is with
        | nil => exact rest O e1 R1 fun rs vs H2 C2 O2 ex2 vp => ⟨v, vs, rfl, vp⟩
        | cons b is' =>
          obtain ⟨i, f⟩ := b
          cases f with
          | false => exact keepHeld (b := (i, false)) rfl
          | true =>
            by_cases hn : ∃ ds, r = .nw ds
            · obtain ⟨ds, rfl⟩ := hn
              obtain ⟨⟨p, xs, rfl, hh, z, nC, nO, rr, cs⟩, fr⟩ := q
              have hp := fr p rfl
              have ok1 := a.ok.push hh nC nO cs
              have R2 : Rel c C1 (p :: O) ρ S1 σ H1 := R.more hp a ok1
              have ex1 : Ext C O H C1 (p :: O) H1 := ⟨keeps_more a hp, a.pre, fun b m => ⟨List.mem_cons_of_mem _ m, (e1.sub b m).2⟩⟩
              refine rest (p :: O) ex1 R2 fun rs vs H2 C2 O2 ex2 vp => ?_
              obtain ⟨m2, e2⟩ := ex2.sub p List.mem_cons_self
              exact ⟨_, vs, rfl, p, xs, rfl, nO, m2, R.fresh hp, by rw [e2]; exact hh, z, rr.mono ex2.kp, vp⟩
            · refine rest O e1 R1 fun rs vs H2 C2 O2 ex2 vp => ⟨v, vs, rfl, ?_⟩
              cases r with
              | nw ds => exact absurd ⟨ds, rfl⟩ hn
              | _ => exact vp
    · cases h
/-- an owned list that no slot holds goes into a slot -/
theorem Rel.put {C O : List Addr} {ρ : Env} {S : Cells} {σ : L2.St} {H : Hp} {i : Nat} {a : Addr} {ds : List D} {xs : List V} (R : Rel c C O ρ S σ H) (m : a ∈ O) (f : c.E.H a = none) (h : H a = some (.lst xs)) (z : xs.length ≤ sizeLine) (r : VRs (C ++ O) H ds xs)
    (old : ∀ (j : Nat) (us : List D) (b : Addr), ρ[j]? = some (.own us) → σ[j]? = some (some (.ref b)) → b ≠ a) : Rel c C O (ρ.set i (.own ds)) S (σ.set i (some (.ref a))) H := by
  have slot : ∀ {j : Nat} {sv : SV}, (ρ.set i (.own ds))[j]? = some sv → (i = j ∧ sv = .own ds ∧ (σ.set i (some (.ref a)))[j]? = some (some (.ref a))) ∨ (i ≠ j ∧ ρ[j]? = some sv ∧ (σ.set i (some (V.ref a)))[j]? = σ[j]?) := fun {j sv} e => by
    by_cases hj : i = j
    · subst hj
      have hl : i < ρ.length := by
        rcases Nat.lt_or_ge i ρ.length with q | q
        · exact q
        · rw [List.getElem?_eq_none (by rw [List.length_set]; exact q)] at e; cases e
      rw [List.getElem?_set_self hl] at e
      cases e
      exact .inl ⟨rfl, rfl, List.getElem?_set_self (by rw [← R.len]; exact hl)⟩
    · rw [List.getElem?_set_ne hj] at e
      exact .inr ⟨hj, e, List.getElem?_set_ne hj⟩
  refine ⟨by rw [List.length_set, List.length_set]; exact R.len, R.ok, R.ofr, R.osub, R.pre, R.ext, R.grow, R.new, fun j sv e => ?_, fun j l us ws b h1 h2 h3 h4 => ?_⟩
  · rcases slot e with ⟨_, e1, e2⟩ | ⟨_, e1, e2⟩
    · subst e1
      exact ⟨a, xs, e2, m, f, h, z, r⟩
    · rw [e2]
      exact R.slots j sv e1
  · rcases slot h1 with ⟨e1, _, e2⟩ | ⟨_, e1, e2⟩ <;> rcases slot h2 with ⟨f1, _, f2⟩ | ⟨_, f1, f2⟩
    · rw [← e1, ← f1]
    · rw [e2] at h3
      rw [f2] at h4
      cases h3
      exact absurd rfl (old l ws _ f1 h4)
    · rw [e2] at h3
      rw [f2] at h4
      cases h4
      exact absurd rfl (old j us _ e1 h3)
    · rw [e2] at h3
      rw [f2] at h4
      exact R.dist j l us ws b e1 f1 h3 h4
def setIs : List (Nat × Bool) → List V → L2.St → L2.St
  | (i, _) :: is, v :: vs, σ => setIs is vs (σ.set i (some v))
  | _, _, σ => σ
theorem own_set {ρ : Env} {σ : L2.St} {i : Nat} {sv : SV} {v : V} {M : List Addr} (h : ∀ (j : Nat) (us : List D) (b : Addr), ρ[j]? = some (.own us) → σ[j]? = some (some (.ref b)) → b ∈ M) (hl : ρ.length = σ.length) (hs : ∀ us, sv = .own us → ∃ b, v = .ref b ∧ b ∈ M) :
    ∀ (j : Nat) (us : List D) (b : Addr), (ρ.set i sv)[j]? = some (.own us) → (σ.set i (some v))[j]? = some (some (.ref b)) → b ∈ M := by
  intro j us b h1 h2
  by_cases hj : i = j
  · subst hj
    have hi : i < ρ.length := by
      rcases Nat.lt_or_ge i ρ.length with q | q
      · exact q
      · rw [List.getElem?_eq_none (by rw [List.length_set]; exact q)] at h1; cases h1
    rw [List.getElem?_set_self hi] at h1
    rw [List.getElem?_set_self (by rw [← hl]; exact hi)] at h2
    cases h1
    obtain ⟨b', e, m⟩ := hs us rfl
    cases h2
    cases e
    exact m
  · rw [List.getElem?_set_ne hj] at h1 h2
    exact h j us b h1 h2
theorem par_sets {C O : List Addr} {S : Cells} {H : Hp} : ∀ {is : List (Nat × Bool)} {rs : List EV} {vs : List V} {ρ ρ' : Env} {σ : L2.St} {Ob : List Addr}, Rel c C O ρ S σ H → (∀ (j : Nat) (us : List D) (b : Addr), ρ[j]? = some (.own us) → σ[j]? = some (some (.ref b)) → b ∈ Ob) → VPs c C O H Ob is rs vs → parSet is rs ρ = some ρ' → Rel c C O ρ' S (setIs is vs σ) H
  | [], [], _, _, _, _, _, R, _, _, e => by
    simp only [parSet] at e
    cases e
    unfold setIs
    exact R
  | [], _ :: _, _, _, _, _, _, R, _, _, e => by simp [parSet] at e
  | (_, true) :: _, [], _, _, _, _, _, R, _, _, e => by simp [parSet] at e
  | (_, false) :: _, [], _, _, _, _, _, R, _, _, e => by simp [parSet] at e
  | (i, false) :: is, x :: rs, _, ρ, ρ', σ, Ob, R, ob, ⟨v, r, rfl, h, t⟩, e => by
    simp only [parSet, Option.bind_eq_some_iff] at e
    obtain ⟨y, e1, e2⟩ := e
    show Rel c C O ρ' S (setIs is r (σ.set i (some v))) H
    exact par_sets (R.set i (h y e1)) (own_set ob R.len (sv := .v y) fun us z => by cases z) t e2
  | (i, true) :: is, x :: rs, _, ρ, ρ', σ, Ob, R, ob, ⟨v, r, rfl, h⟩, e => by
    cases x with
    | nw ds =>
      simp only [parSet] at e
      obtain ⟨a, xs, rfl, nb, m, f, hh, z, rr, t⟩ := h
      show Rel c C O ρ' S (setIs is r (σ.set i (some (V.ref a)))) H
      refine par_sets (R.put m f hh z rr fun j us b h1 h2 w => nb (by rw [← w]; exact ob j us b h1 h2)) (own_set (fun j us b h1 h2 => List.mem_cons_of_mem _ (ob j us b h1 h2)) R.len fun us _ => ⟨a, rfl, List.mem_cons_self⟩) t e
    | _ => simp [parSet] at e
theorem VPs.len {C O : List Addr} {H : Hp} : ∀ {is : List (Nat × Bool)} {rs : List EV} {vs : List V} {Ob : List Addr}, VPs c C O H Ob is rs vs → vs.length = rs.length
  | _, [], _, _, h => by
    have e : _ = [] := h
    rw [e]
    rfl
  | [], x :: rs, _, _, ⟨v, r, rfl, h⟩ => by rw [List.length_cons, List.length_cons, VPs.len h]
  | (_, false) :: is, x :: rs, _, _, ⟨v, r, rfl, _, h⟩ => by rw [List.length_cons, List.length_cons, VPs.len h]
  | (_, true) :: is, x :: rs, _, _, ⟨v, r, rfl, h⟩ => by
    cases x with
    | nw ds =>
      obtain ⟨_, _, _, _, _, _, _, _, _, h⟩ := h
      rw [List.length_cons, List.length_cons, VPs.len h]
    | _ => rw [List.length_cons, List.length_cons, VPs.len h]
theorem parSet_len : ∀ {is : List (Nat × Bool)} {rs : List EV} {ρ ρ' : Env}, parSet is rs ρ = some ρ' → rs.length = is.length
  | [], [], _, _, _ => rfl
  | [], _ :: _, _, _, e => by simp [parSet] at e
  | (_, true) :: _, [], _, _, e => by simp [parSet] at e
  | (_, false) :: _, [], _, _, e => by simp [parSet] at e
  | (i, false) :: is, x :: rs, _, _, e => by
    simp only [parSet, Option.bind_eq_some_iff] at e
    obtain ⟨y, _, e2⟩ := e
    rw [List.length_cons, List.length_cons, parSet_len e2]
  | (i, true) :: is, x :: rs, _, _, e => by
    cases x with
    | nw ds =>
      simp only [parSet] at e
      rw [List.length_cons, List.length_cons, parSet_len e]
    | _ => simp [parSet] at e
/-- .. as the rule of the stores wants it -/
theorem par_read2 {is : List (Nat × Bool)} {es : IEs} {D : Ends} {σ : L2.St} {H : Hp} (t : tS c F (.par is es) D σ H) : tPs c F is es σ H (fun vs H1 => vs.length = is.length ∧ D.nx (setIs is vs σ) H1 ∧ ∀ p o, H1 p = none → D.nx (setIs is vs σ) (L2.upd H1 p o)) := by
  obtain ⟨C, O, ρ, S, R, P⟩ := t
  simp only [exec] at P
  refine ⟨C, O, ρ, S, R, ?_⟩
  cases hr : evalEs F es ρ S with
  | bad =>
    rw [hr] at P
    exact P
  | exc n x S1 =>
    rw [hr] at P
    exact fun cls d H' C' O' ex R' q => P cls d σ H' C' O' ex.kp R' q
  | ok rs S1 =>
    rw [hr] at P
    intro vs H1 C1 O1 ex R1 vp
    simp only [st_ok] at P
    obtain ⟨ρ', e1, P2⟩ := P.sft
    have R2 := par_sets R1 (Ob := O) (fun j us b h1 h2 => by
      obtain ⟨b', _, e3, m, _⟩ := R.slots j _ h1
      rw [h2] at e3
      cases e3
      exact m) vp e1
    have a2 : ∀ {p : Addr} {o : HO}, H1 p = none → Aft C1 O1 H1 C1 S1 (L2.upd H1 p o) := fun hp => R2.ok.aft.upd hp
    exact ⟨by rw [vp.len, parSet_len e1], P2 _ _ C1 O1 ex.kp R2, fun p o hp => P2 _ _ C1 O1 (ex.kp.trans (a2 hp).keeps) (R2.aft (a2 hp))⟩
theorem par_read {is : List (Nat × Bool)} {es : IEs} {D : Ends} {σ : L2.St} {H : Hp} (t : tS c F (.par is es) D σ H) : tPs c F is es σ H (fun vs H1 => vs.length = is.length ∧ D.nx (setIs is vs σ) H1) := by
  obtain ⟨C, O, ρ, S, R, P⟩ := par_read2 t
  refine ⟨C, O, ρ, S, R, ?_⟩
  cases hr : evalEs F es ρ S with
  | bad => rw [hr] at P; exact P
  | exc n x S1 => rw [hr] at P; exact P
  | ok rs S1 =>
    rw [hr] at P
    intro vs H1 C1 O1 ex R1 vp
    obtain ⟨l, q, _⟩ := P vs H1 C1 O1 ex R1 vp
    exact ⟨l, q⟩
def gIs (is : List (Nat × Bool)) : TGs := fun vs σ H Q => vs.length = is.length ∧ Q (setIs is vs σ) H
theorem pgs_names (b : BOk g N sc k F c X) : ∀ {is : List (Nat × Bool)} {es : List Expr}, namesOk N sc is es = true → PGs X es (gIs is) ∧ (assignEach es X.env).length = is.length ∧ (assignEach es X.env).findIdx? (·.1) = none
  | [], [], _ => ⟨PGs.imp pgs_nil fun vs σ H Q ⟨e, q⟩ => by
      have e' : vs = [] := List.length_eq_zero_iff.mp e
      subst e'
      exact ⟨rfl, q⟩, rfl, rfl⟩
  | [], _ :: _, h => by simp [namesOk] at h
  | _ :: _, [], h => by simp [namesOk] at h
  | (i, f) :: is, e :: es, h => by
    cases e with
    | Name y p =>
      simp only [namesOk, Bool.and_eq_true, decide_eq_true_eq] at h
      obtain ⟨⟨h1, h2⟩, h3⟩ := h
      obtain ⟨ih, l1, l2⟩ := pgs_names b h3
      refine ⟨PGs.imp (pgs_cons (pg_name (i := i) (by rw [b.x.hN]; exact b.x.nd) (by rw [b.x.hN]; exact h1) (loc_of b.x h2) (.inl (b.fn _))) ih rfl) fun vs σ H Q ⟨e, q⟩ => ?_, by
        show (assignEach es X.env).length + 1 = _
        rw [l1]
        rfl, by
        show (assignEach (.Name y p :: es) X.env).findIdx? (·.1) = none
        show ((false, assign (.Name y p) X.env) :: assignEach es X.env).findIdx? (·.1) = none
        rw [List.findIdx?_cons, l2]
        rfl⟩
      cases vs with
      | nil => cases e
      | cons v vs => exact ⟨v, vs, rfl, by simpa using e, q⟩
    | _ => simp [namesOk] at h
theorem s_par (b : BOk g N sc k F c X) {is : List (Nat × Bool)} {es : IEs} {y : Stmt} (h : mS g N sc (.par is es) y = true) : PS X y (tS c F (.par is es)) := by
  simp only [mS] at h
  split at h
  · rename_i t vs kk r pos
    simp only [Bool.and_eq_true] at h
    obtain ⟨h1, h2⟩ := h
    by_cases hp2 : parOk2 N sc is t (.Tuple vs kk r) = true
    · unfold parOk2 at hp2
      split at hp2
      · rename_i ts kt pt
        simp only [Bool.and_eq_true, beq_iff_eq, decide_eq_true_eq] at hp2
        obtain ⟨ih, l1, l2⟩ := pgs_names b hp2.1.1
        have x := b.x
        refine PS.imp (ps_asg (pe_tup (pa_par x es (is := is) h2)) (pg_tup x.calm ih l1 l2) rfl (swp_of b hp2.1.2) rfl) fun D σ H t => ?_
        obtain ⟨C, O, ρ, S, R, P⟩ := par_read2 t
        refine ⟨C, O, ρ, S, R, ?_⟩
        cases hr : evalEs F es ρ S with
        | bad => rw [hr] at P; exact P
        | exc n x S1 => rw [hr] at P; exact P
        | ok rs S1 =>
          rw [hr] at P
          intro vs H1 C1 O1 ex R1 vp
          obtain ⟨l, q, q2⟩ := P vs H1 C1 O1 ex R1 vp
          refine ⟨?_, fun p hp => ⟨p, vs, rfl, SqT.of upd_same, l, l, q2 p _ hp⟩⟩
          rw [l]
          exact Nat.le_trans hp2.2 (by decide)
      · cases hp2
    replace h1 : parOk N sc is t (.Tuple vs kk r) = true := by
      simpa [hp2] using h1
    clear hp2
    unfold parOk at h1
    split at h1
    · rename_i i f1 j f2 _ _ _ _ _ _ _ _ _ _ e3
      cases e3
      simp only [Bool.and_eq_true, decide_eq_true_eq, beq_iff_eq] at h1
      obtain ⟨⟨⟨⟨⟨p1, p2⟩, p3⟩, p4⟩, p5⟩, p6⟩ := h1
      have x := b.x
      refine PS.imp (ps_par x.calm (by rw [x.hN]; exact x.nd) (by rw [x.hN]; exact p1) (by rw [x.hN]; exact p2) p3 (by rw [x.sc]; exact p4) (by rw [x.sc]; exact p5) (pa_par x es (is := [(i, f1), (j, f2)]) h2) (swp_of b p6) rfl) fun D σ H t => ?_
      obtain ⟨C, O, ρ, S, R, P⟩ := par_read t
      refine ⟨C, O, ρ, S, R, ?_⟩
      cases hr : evalEs F es ρ S with
      | bad => rw [hr] at P; exact P
      | exc n x S1 => rw [hr] at P; exact P
      | ok rs S1 =>
        rw [hr] at P
        intro vs H1 C1 O1 ex R1 vp
        obtain ⟨l, q⟩ := P vs H1 C1 O1 ex R1 vp
        match vs, l, q with
        | [v, w], _, q => exact ⟨v, w, rfl, q⟩
    · rename_i i f1 j f2 l f3 _ _ _ _ _ _ _ _ _ _ _ _ _ e3
      cases e3
      simp only [Bool.and_eq_true, decide_eq_true_eq, beq_iff_eq] at h1
      obtain ⟨⟨⟨⟨⟨⟨⟨⟨⟨p1, p2⟩, p3⟩, p4⟩, p5⟩, p6⟩, p7⟩, p8⟩, p9⟩, p10⟩ := h1
      have x := b.x
      refine PS.imp (ps_par3 x.calm (by rw [x.hN]; exact x.nd) (by rw [x.hN]; exact p1) (by rw [x.hN]; exact p2) (by rw [x.hN]; exact p3) p4 p5 p6 (by rw [x.sc]; exact p7) (by rw [x.sc]; exact p8) (by rw [x.sc]; exact p9) (pa_par x es (is := [(i, f1), (j, f2), (l, f3)]) h2) (swp_of b p10) rfl) fun D σ H t => ?_
      obtain ⟨C, O, ρ, S, R, P⟩ := par_read t
      refine ⟨C, O, ρ, S, R, ?_⟩
      cases hr : evalEs F es ρ S with
      | bad => rw [hr] at P; exact P
      | exc n x S1 => rw [hr] at P; exact P
      | ok rs S1 =>
        rw [hr] at P
        intro vs H1 C1 O1 ex R1 vp
        obtain ⟨l, q⟩ := P vs H1 C1 O1 ex R1 vp
        match vs, l, q with
        | [u, v, w], _, q => exact ⟨u, v, w, rfl, q⟩
    · cases h1
  · cases h
end
end SS

end

section
set_option linter.all false
set_option autoImplicit false
set_option maxRecDepth 100000
set_option maxHeartbeats 4000000
/-! Statements, one by one (3); all statements. -/
namespace SS
open PySem PySem.Spec PyProof.Rows L2
variable [Tabl]
section
variable {g : Sg} {N : List Str} {sc : Scope} {k : Nat} {F : Call} {c : Ct} {X : Cx}

theorem s_own (b : BOk g N sc k F c X) {i : Nat} {e : IE} {y : Stmt} (h : mS g N sc (.own i e) y = true) : PS X y (tS c F (.own i e)) := by
  simp only [mS] at h
  split at h
  · rename_i t v pos
    simp only [Bool.and_eq_true] at h
    obtain ⟨⟨h1, h2⟩, h3⟩ := h
    refine PS.imp (setN b h1 h2 h3) fun D σ H ⟨C, O, ρ, S, R, P⟩ => ?_
    simp only [exec] at P
    refine ⟨C, O, ρ, S, R, PostS.st R P fun r S1 v1 H1 C1 a1 q1 P1 => ?_⟩
    cases r with
    | nw ds =>
      obtain ⟨⟨a, xs, rfl, hh, z, nC, nO, rr, cs⟩, fr⟩ := q1
      exact P1 _ _ C1 (a :: O) (keeps_more a1 (fr a rfl)) (R.own (fr a rfl) a1 nC nO hh z rr cs)
    | _ => exact P1.elim
  · cases h
theorem s_expr (b : BOk g N sc k F c X) {e : IE} {y : Stmt} (h : mS g N sc (.expr e) y = true) : PS X y (tS c F (.expr e)) := by
  simp only [mS] at h
  split at h
  · rename_i v pos
    simp only [Bool.and_eq_true, Bool.not_eq_true'] at h
    have hs : swapsWith v none pos.line X.env = pure false := by
      obtain ⟨_, h2⟩ := h
      cases v <;> first | rfl | cases h2
    refine PS.imp (ps_expr (all_E e b.x h.1).1 hs) fun D σ H ⟨C, O, ρ, S, R, P⟩ => ?_
    simp only [exec] at P
    exact ⟨C, O, ρ, S, R, PostS.st R P fun r S1 v1 H1 C1 a1 q1 P1 => P1 _ _ C1 O a1.keeps (R.aft a1)⟩
  · cases h
theorem s_raise (b : BOk g N sc k F c X) {n : Str} {e : IE} {y : Stmt} (h : mS g N sc (.raise n e) y = true) : PS X y (tS c F (.raise n e)) := by
  simp only [mS] at h
  split at h
  · rename_i z pn v pos rpos
    simp only [Bool.and_eq_true, Bool.not_eq_true', decide_eq_true_eq, decide_eq_false_iff_not] at h
    obtain ⟨⟨⟨⟨⟨⟨rfl, h1⟩, h2⟩, h3⟩, h4⟩, h5⟩, h6⟩ := h
    obtain ⟨C0, hm0, hE⟩ := b.x.facts.errs _ h3
    have ha := b.x.facts.att z
    rcases hE with ⟨w, _⟩ | ⟨hne, file, E, eP⟩
    · exact absurd (ha.symm.trans w) h4
    refine PS.imp (L2.ps_raise b.x.calm b.tks (pmk_err E eP b.room1 (gl_of b.x h1) hm0 (all_E e b.x h6).1 (dbg1 h2) (star_of h5))) fun D σ H ⟨C, O, ρ, S, R, P⟩ => ?_
    simp only [exec] at P
    refine ⟨C, O, ρ, S, R, PostS.st R P fun r S1 v1 H1 C1 a1 q P1 => ?_⟩
    obtain ⟨r', er, P2⟩ := P1.sft
    obtain ⟨d, ed, P3⟩ := P2.sft
    have rr := q.held a1.ok r' er
    cases r' with
    | d d' =>
      cases ed
      intro dx hdx
      have a2 := a1.ok.aft.upd (o := .xd [(c.att z, v1)]) hdx
      exact P3 _ _ σ _ C1 O (a1.keeps.trans a2.keeps) ((R.aft a1).aft a2) ⟨C0, rfl, by rw [← b.x.mg]; exact hm0, .inr ⟨dx, v1, hne, rfl, upd_same, VR.mono a2.keeps rr⟩⟩
    | _ => cases ed
  · cases h
theorem s_raise0 (b : BOk g N sc k F c X) {n : Str} {y : Stmt} (h : mS g N sc (.raise0 n) y = true) : PS X y (tS c F (.raise0 n)) := by
  simp only [mS] at h
  split at h
  · rename_i z pn pos rpos
    simp only [Bool.and_eq_true, decide_eq_true_eq] at h
    obtain ⟨⟨⟨⟨rfl, h1⟩, h2⟩, h3⟩, h4⟩ := h
    obtain ⟨C0, hm0, hE⟩ := b.x.facts.errs _ h3
    have ha := b.x.facts.att z
    rcases hE with ⟨hw, E⟩ | ⟨hne, _⟩
    · refine PS.imp (L2.ps_raise b.x.calm b.tks (pmk_err0 E (gl_of b.x h1) hm0 (dbg1 h2))) fun D σ H ⟨C, O, ρ, S, R, P⟩ => ?_
      simp only [exec] at P
      exact P _ _ σ _ C O Keeps.refl R ⟨C0, rfl, by rw [← b.x.mg]; exact hm0, .inl ⟨hw, rfl, rfl⟩⟩
    · exact absurd (ha.trans h4) hne
  · cases h
/-- xs.append(e), xs.extend(e): the road -/
theorem meth_ok (b : BOk g N sc k F c X) {m : Str} {id : String} {r : V → List V → Hp → VK → Prop} {i : Nat} {e : IE} {y : Str} {p a cc pos : Pos} {v : Expr} (slot : Slot "list" m id) (hty : typeOf (.builtin id) = pure (.type "method_descriptor")) (hm : MtR X id r)
    (h1 : N[i]? = some y) (h2 : visB sc y = true) (h3 : dbgB y = true) (h4 : starB v = true) (h5 : (a.endLine == cc.line) = true) (h6 : mE g N sc e v = true) :
    PS X (.Expr (.Call (.Attribute (.Name y p) m a) [v] [] cc) pos) (tDrop (tBM X.K "list" r (tVar i) (tCons (tE c F e) tNil))) := by
  have hst : starEach [v] X.env = (false, eval v X.env) :: starEach [] X.env := star_of h4
  refine ps_expr (pe_bm PySem.F.plainAttrs_list slot hty hm (pe_var (i := i) (by rw [b.x.hN]; exact h1) (vis_of b.x h2) (dbg1 h3) (dbg2 h3)) (pa_one (all_E e b.x h6).1 h4) rfl ?_ h5 hst rfl) rfl
  rw [hst]
  rfl
theorem s_app (b : BOk g N sc k F c X) {i : Nat} {e : IE} {y : Stmt} (h : mS g N sc (.app i e) y = true) : PS X y (tS c F (.app i e)) := by
  simp only [mS] at h
  split at h
  · rename_i nm p m a v cc pos
    simp only [Bool.and_eq_true, decide_eq_true_eq] at h
    obtain ⟨⟨⟨⟨⟨⟨e1, h1⟩, h2⟩, h3⟩, h4⟩, h5⟩, h6⟩ := h
    subst e1
    refine PS.imp (meth_ok b PySem.F.slot_list_append PySem.F.type_list_append mt_append h1 h2 h3 h4 h5 h6) fun D σ H ⟨C, O, ρ, S, R, P⟩ => ?_
    simp only [exec] at P
    split at P
    · rename_i ds hs
      obtain ⟨p, xs, es, mm, f, hH, z, rr⟩ := R.slots i _ hs
      refine ⟨.ref p, es, .inl ⟨rfl, _, SqL.of hH⟩, C, O, ρ, S, R, PostS.st R P fun r S1 v1 H1 C1 a1 q1 P1 => ?_⟩
      obtain ⟨d, e1, P2⟩ := P1.sft
      obtain ⟨hl, P3⟩ := P2.iff
      have hH1 : H1 p = some (.lst xs) := a1.ext p _ hH nt_lst (R.ok.apart mm)
      have rd := (rr.mono a1.keeps).append (.cons (q1.strict a1.ok d e1) .nil)
      have hx : xs.length < sizeLine := by
        rw [rr.length]
        exact Nat.lt_of_lt_of_le hl (by decide)
      refine ⟨p, xs, v1, rfl, rfl, hH1, hx, P3 _ _ C1 O (a1.keeps.trans (Keeps.mut (List.mem_append_right _ mm))) ((R.aft a1).mut hs es mm f ?_ rd)⟩
      rw [List.length_append]
      exact hx
    · exact P.elim
  · cases h
theorem s_ext (b : BOk g N sc k F c X) {i : Nat} {e : IE} {y : Stmt} (h : mS g N sc (.ext i e) y = true) : PS X y (tS c F (.ext i e)) := by
  simp only [mS] at h
  split at h
  · rename_i nm p m a v cc pos
    simp only [Bool.and_eq_true, decide_eq_true_eq] at h
    obtain ⟨⟨⟨⟨⟨⟨e1, h1⟩, h2⟩, h3⟩, h4⟩, h5⟩, h6⟩ := h
    subst e1
    refine PS.imp (meth_ok b PySem.F.slot_list_extend PySem.F.type_list_extend mt_extend h1 h2 h3 h4 h5 h6) fun D σ H ⟨C, O, ρ, S, R, P⟩ => ?_
    simp only [exec] at P
    split at P
    · rename_i ds hs
      obtain ⟨p, xs, es, mm, f, hH, z, rr⟩ := R.slots i _ hs
      refine ⟨.ref p, es, .inl ⟨rfl, _, SqL.of hH⟩, C, O, ρ, S, R, PostS.st R P fun r S1 v1 H1 C1 a1 q1 P1 => ?_⟩
      obtain ⟨us, e1, P2⟩ := P1.sft
      obtain ⟨hl, P3⟩ := P2.iff
      simp only [Option.bind_eq_some_iff] at e1
      obtain ⟨d, e1, e2⟩ := e1
      cases d with
      | list us' =>
        cases e2
        have hH1 : H1 p = some (.lst xs) := a1.ext p _ hH nt_lst (R.ok.apart mm)
        obtain ⟨q, ws, rfl, nq, hq, zq, rq⟩ := q1.strict a1.ok _ e1
        have rd := (rr.mono a1.keeps).append rq
        have hx : xs.length + ws.length ≤ sizeLine := by
          rw [rr.length, rq.length]
          exact Nat.le_trans hl (by decide)
        refine ⟨p, q, xs, ws, rfl, rfl, hH1, hq, hx, P3 _ _ C1 O (a1.keeps.trans (Keeps.mut (List.mem_append_right _ mm))) ((R.aft a1).mut hs es mm f ?_ rd)⟩
        rw [List.length_append]
        exact hx
      | _ => cases e2
    · exact P.elim
  · cases h
theorem seqIx {k : Int} {n : Nat} (h0 : 0 ≤ k) (h1 : k.toNat < n) : seqIndex? k n = some k.toNat := by
  unfold seqIndex?
  have e : (if k < 0 then k + (n : Int) else k) = k := if_neg (by omega)
  simp only [e]
  exact if_pos (by simp; omega)
theorem eraseVrs {M : List Addr} {H : Hp} : ∀ {ds : List D} {xs : List V} (n : Nat), VRs M H ds xs → VRs M H (ds.eraseIdx n) (xs.eraseIdx n)
  | [], xs, n, h => by
    rw [show xs = [] from h]
    simp [VRs]
  | d :: ds, xs, 0, h => by
    obtain ⟨x, r, rfl, h1, h2⟩ := h
    exact h2
  | d :: ds, xs, n + 1, h => by
    obtain ⟨x, r, rfl, h1, h2⟩ := h
    exact ⟨x, _, rfl, h1, eraseVrs n h2⟩
theorem s_popA (b : BOk g N sc k F c X) {i j : Nat} {e : IE} {y : Stmt} (h : mS g N sc (.popA i j e) y = true) : PS X y (tS c F (.popA i j e)) := by
  simp only [mS] at h
  split at h
  · rename_i nm p m a nz pz m2 a2 v c2 cc pos
    simp only [Bool.and_eq_true, decide_eq_true_eq] at h
    obtain ⟨⟨⟨⟨⟨⟨⟨⟨⟨⟨⟨e1, e2⟩, h1⟩, h2⟩, h3⟩, k1⟩, k2⟩, k3⟩, h4⟩, h5⟩, h6⟩, h7⟩ := h
    subst e1
    subst e2
    have hst : starEach [v] X.env = (false, eval v X.env) :: starEach [] X.env := star_of h4
    have hpop := pe_bm (T := "list") (name := "pop") PySem.F.plainAttrs_list PySem.F.slot_list_pop PySem.F.type_list_pop (show MtR X "list.pop" rPopAt from mt_popAt) (pe_var (pos := pz) (i := j) (by rw [b.x.hN]; exact k1) (vis_of b.x k2) (dbg1 k3) (dbg2 k3)) (pa_one (all_E e b.x h7).1 h4) (apos := a2) (cpos := c2) rfl (by rw [hst]; rfl) h6 hst rfl
    have happ := pe_bm (T := "list") (name := "append") PySem.F.plainAttrs_list PySem.F.slot_list_append PySem.F.type_list_append (show MtR X "list.append" rAppend from mt_append) (pe_var (pos := p) (i := i) (by rw [b.x.hN]; exact h1) (vis_of b.x h2) (dbg1 h3) (dbg2 h3)) (pa_one hpop rfl) (apos := a) (cpos := cc) rfl rfl h5 rfl rfl
    refine PS.imp (ps_expr happ rfl) fun D σ H ⟨C, O, ρ, S, R, P⟩ => ?_
    simp only [exec] at P
    split at P
    · rename_i ds es hs hs2
      obtain ⟨p, xs, es1, mm, f, hH, z, rr⟩ := R.slots i _ hs
      obtain ⟨p2, xs2, es2, mm2, f2, hH2, z2, rr2⟩ := R.slots j _ hs2
      refine ⟨.ref p, es1, .inl ⟨rfl, _, SqL.of hH⟩, .ref p2, es2, .inl ⟨rfl, _, SqL.of hH2⟩, C, O, ρ, S, R, PostS.st R P fun r S1 v1 H1 C1 a1 q1 P1 => ?_⟩
      obtain ⟨n, en, P2⟩ := P1.sft
      have en := dInt_some en
      subst en
      obtain ⟨pr, ep, P3⟩ := P2.sft
      obtain ⟨⟨hl, hij⟩, P4⟩ := P3.iff
      unfold popAt at ep
      split at ep
      · rename_i hb
        obtain ⟨n0, n1, n2⟩ := hb
        cases ep
        have rr2' := rr2.mono a1.keeps
        have lx := rr2.length
        have hH2' : H1 p2 = some (.lst xs2) := a1.ext p2 _ hH2 nt_lst (R.ok.apart mm2)
        have hH1 : H1 p = some (.lst xs) := a1.ext p _ hH nt_lst (R.ok.apart mm)
        have np : p ≠ p2 := fun w => hij (R.dist i j ds es p hs hs2 es1 (by rw [w]; exact es2))
        have ed : es[n.toNat]? = some (es.getD n.toNat .none) := by
          rw [List.getD_eq_getElem?_getD, List.getElem?_eq_getElem n1]
          rfl
        obtain ⟨y, hy, ry⟩ := rr2'.get ed
        have R1 := R.aft a1
        have R2 := R1.mut hs2 es2 mm2 f2 (ys := xs2.eraseIdx n.toNat) (es := es.eraseIdx n.toNat) (Nat.le_trans (List.length_eraseIdx_le _ _) z2) (eraseVrs _ rr2')
        have kp : Keeps (C1 ++ O) H1 (C1 ++ O) (L2.upd H1 p2 (.lst (xs2.eraseIdx n.toNat))) := Keeps.mut (List.mem_append_right _ mm2)
        have hs' : (ρ.set j (.own (es.eraseIdx n.toNat)))[i]? = some (.own ds) := by rw [List.getElem?_set_ne (Ne.symm hij)]; exact hs
        have hx : xs.length < sizeLine := by
          rw [rr.length]
          exact Nat.lt_of_lt_of_le hl (by decide)
        have rd := ((rr.mono a1.keeps).mono kp).append (.cons (VR.mono kp ry) .nil)
        refine ⟨p2, xs2, n, n.toNat, y, rfl, (by rw [show v1 = V.int n from q1.1]), hH2', by omega, by omega, seqIx n0 (by rw [lx]; exact n1), hy, ?_⟩
        refine ⟨p, xs, y, rfl, rfl, by rw [upd_ne np]; exact hH1, hx, P4 _ _ C1 O ((a1.keeps.trans kp).trans (Keeps.mut (List.mem_append_right _ mm))) (R2.mut hs' es1 mm f ?_ rd)⟩
        rw [List.length_append]
        exact hx
      · cases ep
    · exact P.elim
  · cases h
theorem ret_ok (b : BOk g N sc k F c X) {C O C1 : List Addr} {ρ : Env} {S S1 : Cells} {σ : L2.St} {H H1 : Hp} {r : EV} {v : V} (R : Rel c C O ρ S σ H) (a : Aft C O H C1 S1 H1) (q : rE c O H C1 S1 H1 r v) : RetOk c (retV r) S1 v C1 H1 := by
  have R1 := R.aft a
  have kp : Keeps (C1 ++ O) H1 (C1 ++ c.E.O) H1 := keeps_sub R.osub
  have aa : Aft c.E.C c.E.O c.E.H C1 S1 H1 := ⟨R1.pre, R1.ext, R1.grow, R1.new, R1.ok.subO b.eN R.osub⟩
  obtain ⟨q, fr⟩ := q
  cases r with
  | d x => exact ⟨aa, VR.mono kp q, trivial⟩
  | cell n => exact ⟨aa, q, trivial⟩
  | fn f => exact ⟨aa, q, trivial⟩
  | scr ns =>
    obtain ⟨p, e2, l, q | q⟩ := q
    · obtain ⟨n, q⟩ := q
      refine ⟨aa, ⟨p, e2, l, .inl ⟨fun w => n ?_, q⟩⟩, trivial⟩
      rcases List.mem_append.mp w with w | w
      · exact List.mem_append_left _ w
      · exact List.mem_append_right _ (R.osub _ w)
    · exact ⟨aa, ⟨p, e2, l, .inr q⟩, trivial⟩
  | nw ds =>
    obtain ⟨p, xs, rfl, hh, z, nC, nO, rr, cs⟩ := q
    have k2 : Keeps (C1 ++ (p :: O)) H1 (C1 ++ (p :: c.E.O)) H1 := keeps_sub fun b m => by
      rcases List.mem_cons.mp m with m | m
      · rw [m]
        exact List.mem_cons_self
      · exact List.mem_cons_of_mem _ (R.osub b m)
    exact ⟨aa, ⟨p, xs, rfl, hh, z, nC, fun w => nO (R.osub _ w), rr.mono k2, cs.mono k2 fun _ _ _ h => h⟩, fun b e => by
      cases e
      exact R.fresh (fr p rfl)⟩
  | pk ds =>
    obtain ⟨p, xs, rfl, m, f, hh, z, rr⟩ := q
    have k2 : Keeps (C1 ++ O) H1 (C1 ++ (p :: c.E.O)) H1 := keeps_sub fun b w => by
      rcases List.mem_cons.mp w with w | w
      · rw [w]
        exact m
      · exact R.osub b w
    exact ⟨aa, ⟨p, xs, rfl, hh, z, R1.ok.apart m, fun w => b.e0 p w f, rr.mono k2, R1.ok.cells.mono k2 fun _ _ _ h => h⟩, fun b e => by
      cases e
      exact f⟩
theorem s_ret (b : BOk g N sc k F c X) {e : IE} {y : Stmt} (h : mS g N sc (.ret e) y = true) : PS X y (tS c F (.ret e)) := by
  simp only [mS] at h
  split at h
  · refine PS.imp (ps_ret (all_E e b.x h).1) fun D σ H ⟨C, O, ρ, S, R, P⟩ => ?_
    simp only [exec] at P
    exact ⟨C, O, ρ, S, R, PostS.st R P fun r S1 v1 H1 C1 a1 q1 P1 => P1 _ _ C1 (ret_ok b R a1 q1)⟩
  · cases h
theorem s_retN (b : BOk g N sc k F c X) {y : Stmt} (h : mS g N sc .retN y = true) : PS X y (tS c F .retN) := by
  simp only [mS] at h
  split at h
  · refine PS.imp ps_retN fun D σ H ⟨C, O, ρ, S, R, P⟩ => ?_
    simp only [exec] at P
    exact P _ _ C (ret_ok b R R.ok.aft (r := .d .none) (v := .non) (rE.ofD (by simp only [VR])))
  · cases h
theorem s_pass {y : Stmt} (h : mS g N sc .pass y = true) : PS X y (tS c F .pass) := by
  simp only [mS] at h
  split at h
  · refine PS.imp ps_pass fun D σ H ⟨C, O, ρ, S, R, P⟩ => ?_
    simp only [exec] at P
    exact P _ _ C O Keeps.refl R
  · refine PS.imp ps_doc fun D σ H ⟨C, O, ρ, S, R, P⟩ => ?_
    simp only [exec] at P
    exact P _ _ C O Keeps.refl R
  · cases h
theorem s_mov (b : BOk g N sc k F c X) {i j : Nat} {y : Stmt} (h : mS g N sc (.mov i j) y = true) : PS X y (tS c F (.mov i j)) := by
  simp only [mS] at h
  split at h
  · simp only [Bool.and_eq_true, decide_eq_true_eq] at h
    obtain ⟨⟨⟨⟨h1, h2⟩, h3⟩, h4⟩, h5⟩ := h
    refine PS.imp (ps_set (i := i) (by rw [b.x.hN]; exact b.x.nd) (by rw [b.x.hN]; exact h1) (loc_of b.x h2) (pe_var (i := j) (by rw [b.x.hN]; exact h3) (vis_of b.x h4) (dbg1 h5) (dbg2 h5)) rfl (.inl (b.fn _))) fun D σ H ⟨C, O, ρ, S, R, P⟩ => ?_
    simp only [exec] at P
    split at P
    · rename_i ds hs
      obtain ⟨p, xs, es, _⟩ := R.slots j _ hs
      exact ⟨.ref p, es, P _ _ C O Keeps.refl (R.mov hs es)⟩
    · exact P.elim
  · cases h

/-! ### blocks -/
/-- a test, then the rest -/
theorem PostS.stB {C O : List Addr} {H : Hp} {σ : L2.St} {ρ : Env} {S : Cells} {Q : L2.St → Hp → Prop} {Rt : VK} {Q' : Bool → Hp → Prop} {e : IE} {f : Bool → Cells → SRes} (R : Rel c C O ρ S σ H) (P : PostS c C O H Q Rt ((evalE F e ρ S).st ρ fun v S => SS.sft (dBool v) fun b => f b S))
    (h : ∀ t S1 H1 C1, Aft C O H C1 S1 H1 → PostS c C1 O H1 Q Rt (f t S1) → Q' t H1) : Post c O (rP Bool) C H σ Q' ((evalE F e ρ S).bind fun v S => lft (dBool v) fun b => .ok b S) := by
  cases hr : evalE F e ρ S with
  | ok r S1 =>
    rw [hr] at P
    simp only [st_ok] at P
    obtain ⟨t, e1, P1⟩ := P.sft
    simp only [Res.bind_ok, e1, lft_some]
    intro t' H1 C1 a et
    have et' : t = t' := et
    subst et'
    exact h t S1 H1 C1 a (PostS.keeps P1 a.keeps)
  | exc n x S1 =>
    rw [hr] at P
    exact fun cls d H' C' a q => P cls d σ H' C' O a.keeps (R.aft a) q
  | bad =>
    rw [hr] at P
    exact P
theorem s_ite (b : BOk g N sc k F c X) {t : IE} {p q : ISs} {y : Stmt} (h : mS g N sc (.ite t p q) y = true) (hp : ∀ {ys}, mSs g N sc p ys = true → PSs X ys (tSs c F p)) (hq : ∀ {ys}, mSs g N sc q ys = true → PSs X ys (tSs c F q)) : PS X y (tS c F (.ite t p q)) := by
  simp only [mS] at h
  split at h
  · simp only [Bool.and_eq_true] at h
    obtain ⟨⟨h1, h2⟩, h3⟩ := h
    refine PS.imp (ps_if (all_E t b.x h1).2 (hp h2) (hq h3)) fun D σ H ⟨C, O, ρ, S, R, P⟩ => ?_
    simp only [exec] at P
    refine ⟨C, O, ρ, S, R, PostS.stB (f := fun b S => if b then execs F p ρ S else execs F q ρ S) R P fun t S1 H1 C1 a1 P1 => ?_⟩
    cases t with
    | true =>
      rw [if_pos rfl] at P1 ⊢
      exact ⟨C1, O, ρ, S1, R.aft a1, P1⟩
    | false =>
      rw [if_neg Bool.false_ne_true] at P1 ⊢
      exact ⟨C1, O, ρ, S1, R.aft a1, P1⟩
  · cases h
theorem s_while (b : BOk g N sc k F c X) {n : Nat} {t : IE} {p : ISs} {y : Stmt} (h : mS g N sc (.whil n t p) y = true) (hp : ∀ {ys}, mSs g N sc p ys = true → PSs X ys (tSs c F p)) : PS X y (tS c F (.whil n t p)) := by
  simp only [mS] at h
  split at h
  · simp only [Bool.and_eq_true] at h
    obtain ⟨h1, h2⟩ := h
    refine PS.imp (ps_while b.own (all_E t b.x h1).2 (hp h2)) fun D σ H ⟨C, O, ρ, S, R, P⟩ => ?_
    simp only [exec] at P
    refine ⟨fun m σ' H' => ∃ C' O' ρ' S', Rel c C' O' ρ' S' σ' H' ∧ PostS c C' O' H' D.nx D.rt (whileLoop (fun ρ S => evalE F t ρ S) (fun ρ S => execs F p ρ S) m ρ' S'), ⟨n, C, O, ρ, S, R, P⟩, ?_⟩
    rintro m σ1 H1 ⟨C1, O1, ρ1, S1, R1, P1⟩
    cases m with
    | zero => exact P1.elim
    | succ m =>
      simp only [whileLoop] at P1
      refine ⟨C1, O1, ρ1, S1, R1, PostS.stB (f := fun b S => if b then (execs F p ρ1 S).thn fun ρ S => whileLoop (fun ρ S => evalE F t ρ S) (fun ρ S => execs F p ρ S) m ρ S else .nx ρ1 S) R1 P1 fun t S2 H2 C2 a2 P2 => ?_⟩
      cases t with
      | true =>
        rw [if_pos rfl] at P2 ⊢
        refine ⟨fun σ' H' => ∃ C' O' ρ' S', Rel c C' O' ρ' S' σ' H' ∧ PostS c C' O' H' D.nx D.rt (whileLoop (fun ρ S => evalE F _ ρ S) (fun ρ S => execs F p ρ S) m ρ' S'), fun σ' H' q => ⟨m, Nat.lt_succ_self m, q⟩, C2, O1, ρ1, S2, R1.aft a2, P2.thn fun ρ3 S3 σ3 H3 C3 O3 kp R3 P3 => ⟨C3, O3, ρ3, S3, R3, P3⟩⟩
      | false =>
        rw [if_neg Bool.false_ne_true] at P2 ⊢
        exact P2 _ _ C2 O1 Keeps.refl (R1.aft a2)
  · cases h
theorem fits_mT {tg : Tg} {t : Expr} (h : mT g N sc tg t = true) : TgFits tg t := by
  intro ts e
  subst e
  simp only [mT] at h
  split at h
  · exact ⟨_, _, _, rfl⟩
  · cases h
theorem s_for (b : BOk g N sc k F c X) {tg : Tg} {src : Src} {p : ISs} {y : Stmt} (h : mS g N sc (.for tg src p) y = true) (hp : ∀ {ys}, mSs g N sc p ys = true → PSs X ys (tSs c F p)) : PS X y (tS c F (.for tg src p)) := by
  simp only [mS] at h
  split at h
  · simp only [Bool.and_eq_true] at h
    obtain ⟨⟨⟨h1, h2⟩, h3⟩, h4⟩ := h
    refine PS.imp (ps_for b.own b.x.calm (all_Src src true b.x (fits_mT h1) h2 h3) (all_T b tg h1) (hp h4) (fold_of (msrc_set h3))) fun D σ H ⟨C, O, ρ, S, R, P⟩ => ?_
    simp only [exec] at P
    refine ⟨C, O, ρ, S, R, PostS.st R P fun ds S1 J H1 C1 a1 ⟨T, SV, hT⟩ P1 => ?_⟩
    have P1 := PostS.keeps P1 a1.keeps
    have hT : T (C1 ++ O) (C1 ++ O) H1 := hT
    refine ⟨fun i m σ' H' => m = ds.length - i ∧ i ≤ ds.length ∧ ∃ C' O' ρ' S', Rel c C' O' ρ' S' σ' H' ∧ T (C' ++ O') (C' ++ O') H' ∧ PostS c C' O' H' D.nx D.rt (forLoop (fun x ρ S => (bindT F tg (.d x) ρ S).thn fun ρ S => execs F p ρ S) (ds.drop i) ρ' S'),
      ⟨ds.length, by simp, Nat.zero_le _, C1, O, ρ, S1, R.aft a1, hT, P1⟩, ?_⟩
    rintro i m σ2 H2 ⟨rfl, hi, C2, O2, ρ2, S2, R2, T2, P2⟩
    by_cases hlt : i < ds.length
    · have hdrop : ds.drop i = ds[i] :: ds.drop (i + 1) := List.drop_eq_getElem_cons hlt
      rw [hdrop] at P2
      simp only [forLoop] at P2
      refine .inr ⟨SV.go T2 hlt, fun σ' H' => i + 1 ≤ ds.length ∧ ∃ C' O' ρ' S', Rel c C' O' ρ' S' σ' H' ∧ T (C' ++ O') (C' ++ O') H' ∧ PostS c C' O' H' D.nx D.rt (forLoop (fun x ρ S => (bindT F tg (.d x) ρ S).thn fun ρ S => execs F p ρ S) (ds.drop (i + 1)) ρ' S'), fun σ' H' q => ⟨ds.length - (i + 1), by omega, rfl, q⟩, fun x H3 hy => ?_⟩
      obtain ⟨d, hd, rx, hH⟩ := SV.yld T2 hlt hy fun p hp => R2.ok.free hp
      rw [List.getElem?_eq_getElem hlt] at hd
      cases hd
      have a3 : Aft C2 O2 H2 C2 S2 H3 := by
        rcases hH with e | ⟨p, u, hp, e⟩
        · rw [e]
          exact R2.ok.aft
        · rw [e]
          exact R2.ok.aft.upd hp
      have T3 : T (C2 ++ O2) (C2 ++ O2) H3 := SV.keep T2 a3.keeps a3.keeps
      have P3 := PostS.keeps P2 a3.keeps
      refine ⟨C2, O2, ρ2, S2, .d ds[i], D.rt, R2.aft a3, rx, ?_⟩
      refine (show PostS c C2 O2 H3 _ D.rt (bindT F tg (.d ds[i]) ρ2 S2) from ?_)
      have P4 : PostS c C2 O2 H3 D.nx D.rt ((bindT F tg (.d ds[i]) ρ2 S2).thn fun ρ S => (execs F p ρ S).thn fun ρ S => forLoop (fun x ρ S => (bindT F tg (.d x) ρ S).thn fun ρ S => execs F p ρ S) (ds.drop (i + 1)) ρ S) := by
        cases hb : bindT F tg (.d ds[i]) ρ2 S2 with
        | nx ρ' S' => rw [hb] at P3; exact P3
        | ret r S' => rw [hb] at P3; exact P3
        | exc n x ρ' S' => rw [hb] at P3; exact P3
        | bad => rw [hb] at P3; exact P3
      refine P4.thn fun ρ5 S5 σ5 H5 C5 O5 k5 R5 P5 => ⟨C5, O5, ρ5, S5, R5, P5.thn fun ρ6 S6 σ6 H6 C6 O6 k6 R6 P6 => ⟨hlt, C6, O6, ρ6, S6, R6, SV.keep T3 (k5.trans k6) (k5.trans k6), P6⟩⟩
    · have e : i = ds.length := by omega
      subst e
      rw [List.drop_length] at P2
      simp only [forLoop] at P2
      exact .inl ⟨SV.stop T2 (Nat.le_refl _), P2 _ _ C2 O2 Keeps.refl R2⟩
  · cases h
mutual
theorem all_S (b : BOk g N sc k F c X) : ∀ (s : IS) {y : Stmt}, mS g N sc s y = true → PS X y (tS c F s)
  | .set _ _, _, h => s_set b h
  | .own _ _, _, h => s_own b h
  | .par _ _, _, h => s_par b h
  | .expr _, _, h => s_expr b h
  | .app _ _, _, h => s_app b h
  | .ext _ _, _, h => s_ext b h
  | .ret _, _, h => s_ret b h
  | .retN, _, h => s_retN b h
  | .pass, _, h => s_pass h
  | .ite _ p q, _, h => s_ite b h (fun h => all_Ss b p h) fun h => all_Ss b q h
  | .for _ _ p, _, h => s_for b h fun h => all_Ss b p h
  | .whil _ _ p, _, h => s_while b h fun h => all_Ss b p h
  | .frz _, _, h => by simp [mS] at h
  | .mov _ _, _, h => s_mov b h
  | .raise _ _, _, h => s_raise b h
  | .raise0 _, _, h => s_raise0 b h
  | .popA _ _ _, _, h => s_popA b h
  | .never, _, h => PS.imp ps_never fun D σ H ⟨C, O, ρ, S, R, P⟩ => P
theorem all_Ss (b : BOk g N sc k F c X) : ∀ (s : ISs) {ys : List Stmt}, mSs g N sc s ys = true → PSs X ys (tSs c F s)
  | .nil, ys, h => by
    simp only [mSs] at h
    split at h
    · refine PSs.imp pss_nil fun D σ H ⟨C, O, ρ, S, R, P⟩ => ?_
      simp only [execs] at P
      exact P _ _ C O Keeps.refl R
    · cases h
  | .cons s ss, ys, h => by
    by_cases hf : ∃ i, s = .frz i
    · obtain ⟨i, rfl⟩ := hf
      simp only [mSs] at h
      refine PSs.imp (all_Ss b ss h) fun D σ H ⟨C, O, ρ, S, R, P⟩ => ?_
      simp only [execs, exec] at P
      split at P
      · rename_i ds hs
        obtain ⟨O', so, R'⟩ := R.frz b.e0 hs
        exact ⟨C, O', _, S, R', PostS.keeps P (keeps_sub so)⟩
      · exact P.elim
    · have h2 : ∃ y r, ys = y :: r ∧ mS g N sc s y = true ∧ mSs g N sc ss r = true := by
        cases ys with
        | nil => cases s <;> first | (exact absurd ⟨_, rfl⟩ hf) | (simp [mSs] at h)
        | cons y r =>
          refine ⟨y, r, rfl, ?_⟩
          cases s <;> first | (exact absurd ⟨_, rfl⟩ hf) | (simpa [mSs] using h)
      obtain ⟨y, r, rfl, h3, h4⟩ := h2
      refine PSs.imp (pss_cons (all_S b s h3) (all_Ss b ss h4)) fun D σ H ⟨C, O, ρ, S, R, P⟩ => ?_
      simp only [execs] at P
      exact ⟨C, O, ρ, S, R, P.thn fun ρ1 S1 σ1 H1 C1 O1 kp R1 P1 => ⟨C1, O1, ρ1, S1, R1, P1⟩⟩
end
end
end SS

end

section
set_option linter.all false
set_option autoImplicit false
set_option maxRecDepth 100000
set_option maxHeartbeats 4000000
/-! Defs. -/
namespace SS
open PySem PySem.Spec PyProof.Rows L2
variable [Tabl]

/-- a def as the text has it; ts: the code objects of the defs that make lambdas, their tables, the lambdas' names -/
structure DefOk (K : PySem.W.Frag) (mg : Str → Option Value) (g : Sg) (ts : List (Addr × Addr × Str)) (f : Str) (fn : FnIR) (a : Addr) (fd : FuncData) (ps : List Str) : Prop where
  mgf : mg f = some (.ref a)
  keep : PySem.W.keepIn K (.ref a) = true
  binds : Binds K fd ps []
  body : ∃ (oc : Value) (od : Option Addr) (osl : Array (Option Value)) (name qual : Str) (params : Arguments) (body : List Stmt) (scope : Scope) (dV kV doc pm cdv ct : Value) (an : Option Addr) (N : List Str),
    fd = PySem.W.fnOf name qual params body scope dV kV doc pm an cdv ct ∧ K.lookup a = some ⟨oc, od, .func fd, osl⟩ ∧ PySem.W.codeIn K cdv qual = true ∧ FnScope N ps scope ∧ fn.ps = ps.length ∧ fn.n = N.length ∧ mSs { g with lam := fn.lam } N scope fn.body body = true ∧
    (fn.lam = true → ∃ co P, cdv = .ref co ∧ (co, P, qual ++ ".<locals>." ++ "<lambda>") ∈ ts)
/-- what the top of the text gives -/
structure Stat (P : Program) (w : World) (K : PySem.W.Frag) (mg : Str → Option Value) (g : Sg) (ts : List (Addr × Addr × Str)) (T : Str → Option FnIR) : Prop where
  consts : ∀ x i, (x, i) ∈ g.consts → ∃ t, mg x = some (.int i t)
  blt : ∀ x, g.blt.contains x = true → mg x = none
  fns : ∀ f, f ∈ g.fns → (T f).isSome = true
  defs : ∀ f fn, T f = some fn → ∃ a fd ps, DefOk K mg g ts f fn a fd ps
  calls : ∀ f n ks p, (f, n, ks, p) ∈ g.calls → ∃ fn a fd ps, T f = some fn ∧ DefOk K mg g ts f fn a fd ps ∧ BindK fd ps n ks p ∧ ps.length = p.length ∧ ∀ i ∈ p, i < n + ks.length
  errs : ∀ x ∈ g.classes, ∃ C, mg x = some (.ref C) ∧ ((attOf g x = "" ∧ Err0 K C) ∨ (attOf g x ≠ "" ∧ ∃ file, ErrC K file (attOf g x) C ∧ ErrP P file))
  hears : ∀ h t base, (h, t) ∈ g.hears → HearOk P w K mg base (attOf g) h t

section
variable {P : Program} {w : World} {K : PySem.W.Frag} {mg : Str → Option Value} {base : Heap} {g : Sg} {T : Str → Option FnIR} {ts : List (Addr × Addr × Str)}

theorem runFn_len {F : Call} {fn : FnIR} {args : List EV} {S : Cells} (h : runFn F fn args S ≠ .bad) : args.length = fn.ps := by
  unfold runFn at h
  split at h
  · assumption
  · exact absurd rfl h
theorem Paired.at {α β : Type} {R : α → β → Prop} : ∀ {xs : List α} {ys : List β} {i : Nat} {x : α}, Paired R xs ys → xs[i]? = some x → ∃ y, ys[i]? = some y ∧ R x y
  | _, _, _, _, .nil, h => by simp at h
  | _, _, 0, _, .cons r _, h => by
    have e := Option.some.inj (by simpa using h)
    subst e
    exact ⟨_, rfl, r⟩
  | _, _, i + 1, _, .cons _ t, h => by
    have := Paired.at (i := i) t (by simpa using h)
    simpa using this
/-- the slots at a def's entry -/
theorem rel_start {c : Ct} {S : Cells} {args : List EV} {vs : List V} {N : List Str} {n : Nat} (hn : n = N.length) (hl : args.length ≤ n) (ok : Ok c.E.C c.E.O S c.E.H) (pr : Paired (fun x v => VRH c.K c.mg c.E.C c.E.O c.E.H x v) args vs) : Rel c c.E.C c.E.O (startE n args) S (L2.start N vs) c.E.H := by
  have el := Paired.length pr
  refine ⟨?_, ok, fun a m => .inl m, fun a m => m, ⟨[], (List.append_nil _).symm⟩, fun a o e _ _ => e, .refl, fun a m => .inl m, fun i sv e => ?_, fun i j ds es a e _ _ _ => ?_⟩
  · unfold startE L2.start
    rw [List.length_append, List.length_append, List.length_map, List.length_map, List.length_replicate, List.length_replicate, el, hn]
  · unfold startE at e
    unfold L2.start
    by_cases hi : i < args.length
    · rw [List.getElem?_append_left (by rw [List.length_map]; exact hi), List.getElem?_map, List.getElem?_eq_getElem hi] at e
      cases e
      obtain ⟨v, hv, r⟩ := Paired.at pr (List.getElem?_eq_getElem hi)
      refine ⟨v, ?_, r⟩
      rw [List.getElem?_append_left (by rw [List.length_map, ← el]; exact hi), List.getElem?_map, hv]
      rfl
    · rw [List.getElem?_append_right (by rw [List.length_map]; exact Nat.le_of_not_lt hi), List.getElem?_replicate] at e
      split at e
      · cases e
        trivial
      · cases e
  · exfalso
    unfold startE at e
    by_cases hi : i < args.length
    · rw [List.getElem?_append_left (by rw [List.length_map]; exact hi), List.getElem?_map, List.getElem?_eq_getElem hi] at e
      cases e
    · rw [List.getElem?_append_right (by rw [List.length_map]; exact Nat.le_of_not_lt hi), List.getElem?_replicate] at e
      split at e <;> cases e
theorem guards_deeper {A : Around} {env : PySem.Env} (h : A.guards = some []) : (A.deeper env).guards = some [] := by
  first | exact h | (simpa [Around.deeper] using h)
theorem stands {A : Around} {outer : List PySem.Env} {s : Shared} {H : Hp} (e : Env0 P w K mg base A outer s H) : K.In s.heap ∧ s.heap.NoLimit :=
  ⟨e.mod.kin.keeps fun b o h => (e.bs b o h).1, e.mod.nolimit.keeps fun b o h => (e.bs b o h).1⟩
theorem par_kinds {N ps : List Str} {sc : Scope} (S : FnScope N ps sc) (us : List Value) (n : Nat) : ∀ y ∈ ps.zip us, sc.names.lookup y.1 = some .local ∨ (sc.names.lookup y.1 = some .cell ∧ ((cellsFrom (n + 1) sc.names []).lookup y.1).isSome = true) := by
  intro y hy
  obtain ⟨a, u⟩ := y
  exact (S.par a (List.of_mem_zip hy).1).imp id fun q => ⟨q, PySem.W.cellsFrom_some _ _ _ (.inl q)⟩
theorem ended {N : List Str} {qual : Str} {sc : Scope} {f : Addr} {cdv : Value} {A : Around} {outer : List PySem.Env} {s s' : Shared} {H H' : Hp} {E : XK} {Q : VK} {σ' : L2.St} {v : V} {u : Value} (J : Inv (cxOf (L2.CX P w) P w K mg base N qual sc f cdv A outer s H E) [] σ' H' s') (rv : RelV v u) (q : Q v H') : CE outer P w H s Q u s' :=
  ⟨v, H', J.os, J.bare, J.base, J.hok, rv, q⟩
/-- the tables stand in the ground, each its own -/
structure TsOk (base : Heap) (mg : Str → Option Value) (ts : List (Addr × Addr × Str)) : Prop where
  tabs : Tabl.tabs = ts.map (·.2)
  at_ : ∀ t ∈ ts, LamX.TabB base mg t.1 t.2.1
  nd : (ts.map (·.2.1)).Nodup
theorem TsOk.one (h : TsOk base mg ts) {co P : Addr} {q : Str} (m : (co, P, q) ∈ ts) : (P, q) ∈ Tabl.tabs ∧ ∀ p ∈ Tabl.tabs, p.1 = P → p.2 = q := by
  rw [h.tabs]
  refine ⟨List.mem_map.mpr ⟨_, m, rfl⟩, fun p hp e => ?_⟩
  obtain ⟨t, ht, rfl⟩ := List.mem_map.mp hp
  have nd := h.nd
  clear h
  induction ts with
  | nil => cases m
  | cons u r ih =>
    rw [List.map_cons, List.nodup_cons] at nd
    rcases List.mem_cons.mp m with m1 | m1 <;> rcases List.mem_cons.mp ht with t1 | t1
    · rw [t1, ← m1]
    · exact absurd (List.mem_map.mpr ⟨t, t1, by rw [e, ← m1]⟩) nd.1
    · exact absurd (List.mem_map.mpr ⟨_, m1, by rw [← t1]; exact e.symm⟩) nd.1
    · exact ih m1 t1 (List.mem_map.mpr ⟨t, t1, rfl⟩) nd.2
/-- a def keeps its promise, given those of the defs it calls -/
theorem def_ok {k : Nat} {f : Str} {fn : FnIR} {a : Addr} {fd : FuncData} {ps : List Str} (tk : TsOk base mg ts) (fa : Facts P w K mg base g (attOf g) Tabl.tabs (4 * k) (callF T k)) (hT : T f = some fn) (d : DefOk K mg g ts f fn a fd ps) : FnG P w K mg base (4 * k + 4) a fd ps (spF K mg (attOf g) Tabl.tabs (callF T (k + 1) f)) := by
  obtain ⟨mgf, keep, binds, oc, od, osl, name, qual, params, body, scope, dV, kV, doc, pm, cdv, ct, an, N, rfl, lk, hcd, FS, hps, hn, hb, hlm⟩ := d
  have run_eq : ∀ args S, callF T (k + 1) f args S = runFn (callF T k) fn args S := fun args S => by
    show (match T f with | some fn => runFn (callF T k) fn args S | none => .bad) = _
    rw [hT]
  have len : ∀ vs H Q E, spF K mg (attOf g) Tabl.tabs (callF T (k + 1) f) vs H Q E → vs.length = ps.length := fun vs H Q E h => by
    obtain ⟨C, O, S, args, ok, tb, pr, m⟩ := h
    have nb : runFn (callF T k) fn args S ≠ .bad := fun z => by
      rw [run_eq, z] at m
      exact m
    rw [← Paired.length pr, runFn_len nb, hps]
  refine ⟨len, fun A outer s H args us vs Q E hr hg e0 hbd r hsp => ?_⟩
  have hl := len _ _ _ _ hsp
  obtain ⟨kin, nolim⟩ := stands e0
  refine codeAny_call_function hr.depth (kin _ _ lk) rfl FS.co FS.gen rfl (PySem.W.codeRec_of kin hcd) (hbd _ _ _ _ ?_)
  refine wpAny_newFunctionEnv_cells FS.kind (par_kinds FS us s.heap.objs.size) fun env he s1 x => ?_
  cases he
  refine ⟨nolim.keeps x.toInCall.keep, codeAny_func ?_⟩
  -- the body, at the parameters' values
  obtain ⟨C, O, S, as, ok, tb, pr, m⟩ := hsp
  have nb : runFn (callF T k) fn as S ≠ .bad := fun z => by
    rw [run_eq, z] at m
    exact m
  have hal := runFn_len nb
  rw [run_eq] at m
  let c : Ct := { K := K, mg := mg, att := attOf g, W := fun cls d _ H => E cls d H, E := ⟨C, O, H⟩ }
  have tks : Takes (cxOf (L2.CX P w) P w K mg base N qual scope a cdv A outer s H E) (fun cls d _ H => E cls d H) := takes_of rfl rfl rfl rfl
  have xo : XOk { g with lam := fn.lam } N scope (4 * k) (callF T k) c (cxOf (L2.CX P w) P w K mg base N qual scope a cdv A outer s H E) :=
    ⟨rfl, FS.nd, rfl, rfl, (hr.deeper _).mono (by omega), guards_deeper hg, rfl, rfl, fun σ => passAt tks σ, ⟨fa.consts, fa.blt, fa.fns, fa.runs, fa.calls, fa.errs, fa.hears, fa.att⟩, tb, fun h => by
      obtain ⟨co, P, e, m⟩ := hlm h
      obtain ⟨m1, m2⟩ := tk.one m
      exact ⟨co, P, tk.at_ _ m, e, m1, m2, hr.deeper _⟩⟩
  have bo : BOk { g with lam := fn.lam } N scope (4 * k) (callF T k) c (cxOf (L2.CX P w) P w K mg base N qual scope a cdv A outer s H E) :=
    ⟨xo, fun _ => rfl, FS.kind, tks, (hr.deeper _).mono (by omega), passes_of rfl, fun b mb => by
      obtain ⟨xs, e⟩ := ok.otrk b mb
      show H b ≠ none
      rw [e]
      exact fun z => (by cases z), (List.nodup_append.mp ok.nd).2.1⟩
  have plen : ps.length ≤ N.length := by
    have := congrArg List.length FS.pre
    rw [List.length_take] at this
    omega
  have R0 : Rel c C O (startE fn.n as) S (start N vs) H := rel_start (c := c) hn (by rw [hal, hps, hn]; exact plen) ok pr
  have I : Inv (cxOf (L2.CX P w) P w K mg base N qual scope a cdv A outer s H E) [] (start N vs) H s1 := inv_start FS hr.hd e0 hl r x
  have hq : tSs c (callF T k) fn.body { nx := fun _ H' => Q .non H', rt := Q } (start N vs) H := by
    refine ⟨C, O, _, S, R0, ?_⟩
    unfold runFn at m
    rw [if_pos hal] at m
    have ent : ∀ {ρ' : Env} {S' : Cells} {σ' : L2.St} {H' : Hp} {C' O' : List Addr}, Rel c C' O' ρ' S' σ' H' → Aft C O H C' S' H' := fun R => ⟨R.pre, R.ext, R.grow, R.new, R.ok.subO bo.eN R.osub⟩
    cases he : execs (callF T k) fn.body (startE fn.n as) S with
    | nx ρ' S' =>
      rw [he] at m
      exact fun σ' H' C' O' kp R' => m .non H' C' (ent R') (show VR _ _ _ _ from by simp only [VR]) trivial
    | ret v S' =>
      rw [he] at m
      exact fun u H' C' ro => m u H' C' ro.1 ro.2.1 ro.2.2
    | exc n x ρ' S' =>
      rw [he] at m
      exact fun cls d σ' H' C' O' kp R' ⟨b, e1, e2, e3⟩ => m cls d H' C' (ent R') ⟨b, e1, e2, e3.imp id fun ⟨dx, v, e3, e4, e5, e6⟩ => ⟨dx, v, e3, e4, e5, VR.mono (keeps_sub R'.osub) e6⟩⟩
    | bad =>
      rw [he] at m
      exact m
  refine wpAny_mono ((all_Ss bo fn.body hb).run [] s1 (start N vs) H _ I hq) (fun fl s' hs => ?_) fun e s' hs => hs
  cases fl with
  | ret u =>
    obtain ⟨v, σ', H', J, rv, q⟩ := hs
    exact ended J rv q
  | next =>
    obtain ⟨σ', H', J, q⟩ := hs
    exact ended (v := .non) (u := .none) J rfl q
  | brk => exact (let ⟨_, _, _, z⟩ := hs; z.elim)
  | cont => exact (let ⟨_, _, _, z⟩ := hs; z.elim)
/-- a def of which nothing is asked -/
theorem def_none {k : Nat} {f : Str} {a : Addr} {fd : FuncData} {ps : List Str} {run : List EV → Cells → Res EV} (h : ∀ args S, run args S = .bad) : FnG P w K mg base k a fd ps (spF K mg (attOf g) Tabl.tabs run) :=
  ⟨fun vs H Q E ⟨C, O, S, args, ok, tb, pr, m⟩ => by
    rw [h] at m
    exact m.elim, fun A outer s H args us vs Q E hr hg e0 hbd r ⟨C, O, S, as, ok, tb, pr, m⟩ => by
    rw [h] at m
    exact m.elim⟩
theorem facts (tk : TsOk base mg ts) (st : Stat P w K mg g ts T) : ∀ k, Facts P w K mg base g (attOf g) Tabl.tabs (4 * k) (callF T k)
  | 0 => ⟨st.consts, st.blt, fun f hf => by
      obtain ⟨fn, e⟩ := Option.isSome_iff_exists.mp (st.fns f hf)
      obtain ⟨a, fd, ps, d⟩ := st.defs f fn e
      exact ⟨a, d.mgf, d.keep⟩, fun f a args S hm h => absurd rfl h, fun f n ks p hm => by
      obtain ⟨fn, a, fd, ps, e, d, b, l, i⟩ := st.calls f n ks p hm
      exact ⟨a, fd, ps, d.mgf, d.keep, def_none (f := f) fun _ _ => rfl, b, l, i⟩, st.errs, fun h t m => st.hears h t base m, fun _ => rfl⟩
  | k + 1 => by
    have fa := facts tk st k
    refine ⟨st.consts, st.blt, fun f hf => ?_, fun f a args S hm h => ?_, fun f n ks p hm => ?_, st.errs, fun h t m => st.hears h t base m, fun _ => rfl⟩
    · obtain ⟨fn, e⟩ := Option.isSome_iff_exists.mp (st.fns f hf)
      obtain ⟨a, fd, ps, d⟩ := st.defs f fn e
      exact ⟨a, d.mgf, d.keep⟩
    · cases e : T f with
      | none =>
        exfalso
        apply h
        show (match T f with | some fn => runFn (callF T k) fn args S | none => .bad) = _
        rw [e]
      | some fn =>
        obtain ⟨a', fd, ps, d⟩ := st.defs f fn e
        have e2 := d.mgf
        rw [hm] at e2
        cases e2
        exact ⟨fd, ps, def_ok tk fa e d, d.binds⟩
    · obtain ⟨fn, a, fd, ps, e, d, b, l, i⟩ := st.calls f n ks p hm
      exact ⟨a, fd, ps, d.mgf, d.keep, def_ok tk fa e d, b, l, i⟩

end
/-! ### the law's call -/
section
variable {P : Program} {w : World}
/-- the tables at the law's entry -/
structure TsAt (h : Heap) (K : PySem.W.Frag) (ts : List (Addr × Addr × Str)) : Prop where
  tab : ∀ t ∈ ts, h.get? t.2.1 = some { cls := .none, data := .fields #[] }
  out : ∀ t ∈ ts, K.lookup t.2.1 = none
  code : ∀ t ∈ ts, PySem.W.CodeHd h t.1 t.2.1
  nd : (ts.map (·.2.1)).Nodup
theorem TsAt.nil {h : Heap} {K : PySem.W.Frag} : TsAt h K [] := ⟨(fun _ m => by cases m), (fun _ m => by cases m), (fun _ m => by cases m), List.Pairwise.nil⟩
theorem lawG {K : PySem.W.Frag} {mg mb : Str → Option Value} {k : Nat} {fa a : Addr} {fd : FuncData} {x : Str} {att : Str → Str} {ts : List (Addr × Addr × Str)} {run : List EV → Cells → Res EV} {s₁ : Shared} {vs : List Value} {ns : List Int}
    (KX : K.In s₁.heap) (hns : s₁.heap.Ns mainGlobals mg) (hb : s₁.heap.Ns builtinsNs mb) (hbb : ∀ x : Str, x ≠ "__name__" → mb x = bootBuiltins x) (hlim : s₁.heap.NoLimit) (hg : s₁.gens = #[])
    (hts : TsAt s₁.heap K ts) (hbm : ∃ (bm : Addr) (ob : Obj), mg "__builtins__" = some (.ref bm) ∧ bm ≠ builtinsNs ∧ s₁.heap.get? bm = some ob ∧ ob.cls = .type "module" ∧ ob.dict = some builtinsNs ∧ ob.data = .plain)
    (ha : s₁.heap.get? a = some { cls := .type "list", data := .seq vs.toArray }) (hi : IntsAre vs ns) (hl : ns.length ≤ lim) (hr : Room k callerA) (hE : Tabl.tabs = ts.map (·.2))
    (G : ∀ base : Heap, K.In base → base.Ns mainGlobals mg → TsOk base mg ts → FnG P w K mg base k fa fd [x] (spF K mg att Tabl.tabs run)) (hbind : ∀ (s : Shared) (u : Value), BindsTo s fd ⟨[u], []⟩ [(x, u)])
    (hrun : ∃ S', run [.scr ns] [] = .ok (.d (.bool true)) S') :
    codeAny (model P w) callerA (.call (.ref fa) ⟨[.ref a], []⟩) (fun r s' => r = .ok (.ret (.bool true)) ∧ OldK s₁.heap s'.heap ∧ s'.os = s₁.os ∧ AllBare s'.gens) s₁ := by
  obtain ⟨S', hrun⟩ := hrun
  have hlz : ns.length ≤ sizeLine := lim_le hl
  have isT : ∀ b, b ∈ ts.map (·.2.1) → s₁.heap.get? b = some { cls := .none, data := .fields #[] } := fun b m => by
    obtain ⟨t, ht, rfl⟩ := List.mem_map.mp m
    exact hts.tab t ht
  have aT : a ∉ ts.map (·.2.1) := fun z => by
    have q := isT a z
    rw [ha] at q
    cases q
  -- what is tracked: the tables; the script, as a list that may not change, if it is not of the text's own
  let put : Hp := fun b => if K.lookup a = none ∧ b = a then some (.frz { cls := .type "list", data := .seq vs.toArray } (.lst (ns.map V.int))) else if b ∈ ts.map (·.2.1) then some (.tbl #[]) else none
  have put_a : K.lookup a = none → put a = some (.frz { cls := .type "list", data := .seq vs.toArray } (.lst (ns.map V.int))) := fun h => if_pos ⟨h, rfl⟩
  have put_t : ∀ b ∈ ts.map (·.2.1), put b = some (.tbl #[]) := fun b m => (if_neg fun z => aT (by rw [← z.2]; exact m)).trans (if_pos m)
  have put_some : ∀ {b : Addr} {u : HO}, put b = some u → (K.lookup a = none ∧ b = a ∧ u = .frz { cls := .type "list", data := .seq vs.toArray } (.lst (ns.map V.int))) ∨ (b ∈ ts.map (·.2.1) ∧ u = .tbl #[]) := fun {b u} e => by
    by_cases h : K.lookup a = none ∧ b = a
    · have e2 : put b = _ := if_pos h
      rw [e2] at e
      exact .inl ⟨h.1, h.2, (Option.some.inj e).symm⟩
    · have e2 : put b = _ := if_neg h
      rw [e2] at e
      by_cases m : b ∈ ts.map (·.2.1)
      · rw [if_pos m] at e
        exact .inr ⟨m, (Option.some.inj e).symm⟩
      · rw [if_neg m] at e
        cases e
  have stays : ∀ {b : Addr} {o : Obj}, s₁.heap.get? b = some o → (b = a → K.lookup a ≠ none) → b ∉ ts.map (·.2.1) → (hidT s₁.heap put).get? b = some o := fun {b o} e h n => hidT_get e (by
    cases q : put b with
    | none => rfl
    | some u =>
      rcases put_some q with ⟨h1, h2, _⟩ | ⟨m, _⟩
      · exact absurd h1 (h h2)
      · exact absurd m n)
  -- what is neither a list nor empty fields stays
  have stays2 : ∀ {b : Addr} {o : Obj}, s₁.heap.get? b = some o → (∀ vs n, o.data ≠ .seq vs n) → o.data ≠ .fields #[] → (hidT s₁.heap put).get? b = some o := fun {b o} e h1 h2 => stays e (fun z => by
    rw [z, ha] at e
    cases e
    exact absurd rfl (h1 _ _)) fun m => by
    rw [isT b m] at e
    cases e
    exact h2 rfl
  have space : ∀ {b : Addr} {m : Str → Option Value}, s₁.heap.Ns b m → (hidT s₁.heap put).Ns b m := fun {b m} ⟨o, es, ep, e, d, r⟩ => ⟨o, es, ep, stays2 e (fun vs n z => by rw [d] at z; cases z) (fun z => by rw [d] at z; cases z), d, r⟩
  have kin : K.In (hidT s₁.heap put) := fun b o e => stays (KX b o e) (fun z q => by
    rw [z, q] at e
    cases e) fun m => by
    obtain ⟨t, ht, rfl⟩ := List.mem_map.mp m
    rw [hts.out t ht] at e
    cases e
  have okH : HOk P w put s₁.heap := fun b u e => by
    rcases put_some e with ⟨_, rfl, rfl⟩ | ⟨m, rfl⟩
    · exact ⟨ha, by rw [List.length_map]; exact hlz, vs, _, vals_ints hi, ha⟩
    · exact isT b m
  have tsok : TsOk (hidT s₁.heap put) mg ts := by
    refine ⟨hE, fun t ht => ⟨?_, ?_, fun z => ?_⟩, hts.nd⟩
    · obtain ⟨o, us, file, tf, flags, tg, inF, text, tt, e1, r1, r2, r3, r⟩ := hts.code t ht
      refine ⟨o, us, file, tf, flags, tg, inF, text, tt, stays2 e1 (fun vs n z => ?_) (fun z => ?_), r1, r2, r3, r⟩
      · rw [r2] at z
        cases z
      · rw [r2] at z
        cases z
        simp at r3
    · obtain ⟨bm, ob, b1, b2, b3, b4, b5, b6⟩ := hbm
      refine ⟨bm, ob, b1, b2, fun q => ?_, fun q => ?_, stays2 b3 (fun vs n z => ?_) (fun z => ?_), b4, b5, b6⟩
      · obtain ⟨o, es, ep, e, hd, _⟩ := hns
        rw [q, e] at b3
        cases b3
        rw [hd] at b6
        cases b6
      · rw [q, hts.tab t ht] at b3
        cases b3
        cases b6
      · rw [b6] at z
        cases z
      · rw [b6] at z
        cases z
    · obtain ⟨o, es, ep, e, hd, _⟩ := hns
      rw [z, hts.tab t ht] at e
      cases e
      cases hd
  obtain ⟨mc, c1, c2⟩ := id hlim
  have e0 : Env0 P w K mg (hidT s₁.heap put) callerA [] s₁ put :=
    ⟨rfl, ⟨kin, space hns, ⟨mb, space hb, hbb⟩, ⟨mc, space c1, c2⟩⟩, fun b o e => of_hidT e, Nat.le_of_eq (hidT_size _ _), trivial, (fun b m => by cases m), okH, .of_eq hg⟩
  have scr : VRH K mg [] [] put (.scr ns) (.ref a) := by
    refine ⟨a, rfl, hl, ?_⟩
    cases hk : K.lookup a with
    | none => exact .inl ⟨by simp, .inr ⟨_, put_a hk⟩⟩
    | some o =>
      have e := KX a o hk
      rw [ha] at e
      cases e
      exact .inr fun G => .inr ⟨_, vs.toArray, _, hk, rfl, rfl, rfl, by rw [List.size_toArray, hi.length]; exact hlz, by simpa using vals_ints hi⟩
  have sp : spF K mg att Tabl.tabs run [.ref a] put (fun v _ => v = .bl true) (fun _ _ _ => False) :=
    ⟨[], [], [], [.scr ns], ⟨.nil, trivial, fun b m => by cases m⟩, (fun p m => by
      rw [hE] at m
      obtain ⟨t, ht, rfl⟩ := List.mem_map.mp m
      exact LamX.TabS.nil (put_t _ (List.mem_map.mpr ⟨t, ht, rfl⟩))), .cons scr .nil, by
      rw [hrun]
      exact fun v H' C' _ q _ => q⟩
  refine codeAny_mono ((G _ kin (space hns) tsok).run callerA [] s₁ put ⟨[.ref a], []⟩ [.ref a] [.ref a] _ _ hr rfl e0 (hbind s₁ (.ref a)) (.cons rfl .nil) sp) fun r s' h => ?_
  cases r with
  | error e =>
    obtain ⟨_, _, _, _, _, _, _, _, _, _, _, _, z⟩ := h
    exact z.elim
  | ok fl =>
    cases fl with
    | ret u =>
      obtain ⟨v, H', os, bare, un, hok', rv, q⟩ := h
      have q' : v = .bl true := q
      subst q'
      cases (show u = Value.bool true from rv)
      have key : ∀ b o, b ∉ ts.map (·.2.1) → s₁.heap.get? b = some o → s'.heap.get? b = some o := fun b o n e => by
        cases q : put b with
        | none => exact un.keep b o e q (fun z => by cases z) (fun z => by cases z)
        | some u =>
          rcases put_some q with ⟨_, rfl, rfl⟩ | ⟨m, _⟩
          · obtain ⟨e2, _⟩ := hok' _ _ (un.frzs _ _ _ q)
            rw [ha] at e
            cases e
            exact e2
          · exact absurd m n
      have grown : ∀ b ∈ ts.map (·.2.1), ∃ more : Array Value, s'.heap.get? b = some { cls := .none, data := .fields more } := fun b m => by
        obtain ⟨more, z⟩ := un.tbls b #[] (put_t b m)
        exact ⟨_, hok' b _ z⟩
      refine ⟨rfl, ⟨fun b o e => ?_, fun b o e => ?_⟩, os, bare⟩
      · by_cases m : b ∈ ts.map (·.2.1)
        · obtain ⟨more, hm⟩ := grown b m
          obtain ⟨t, ht, rfl⟩ := List.mem_map.mp m
          rw [hts.tab t ht] at e
          cases e
          exact .inr (.inl ⟨((hts.code t ht).tab (hts.tab t ht)).isCodeTable, rfl, #[], more, rfl, by rw [Array.empty_append]; exact hm⟩)
        · exact .inl (key b o m e)
      · by_cases m : b ∈ ts.map (·.2.1)
        · obtain ⟨more, hm⟩ := grown b m
          exact ⟨_, hm⟩
        · exact ⟨o, key b o m e⟩
    | next => exact False.elim h
    | brk => exact False.elim h
    | cont => exact False.elim h
end
end SS
namespace SS
open PySem PySem.Spec PyProof.Rows L2
/-- the goal that k_head leaves -/
theorem walkG {l : PySem.W.OpenLaw} {n k : Nat} {q : Program} {loose : List Str} {XP : (Str → Option Value) → Heap → Prop} {YP : World → Heap → Prop} {d : DefRec} {K : Params → PySem.W.Frag} {x : Str} {T : Str → Option FnIR} {g : Sg} {fn : FnIR}
    (hn : l.most = some n) (hn2 : n ≤ lim) (hdf : d.params.defaults = []) (hr : Room (4 * k + 4) callerA) (hY : ∀ (w : World) (h : Heap), YP w h → (K w.params).In h) (hT : T d.name = some fn)
    (F : ∀ (w : World) (mg : Str → Option Value) (fa : Addr) (h : Heap), YP w h → (K w.params).In h → h.Ns mainGlobals mg → mg d.name = some (.ref fa) →
      ∃ ts, TsAt h (K w.params) ts ∧ Stat l.prog w (K w.params) mg g ts T ∧ ∃ fd, DefOk (K w.params) mg g ts d.name fn fa fd [x] ∧ ∀ (s : Shared) (u : Value), BindsTo s fd ⟨[u], []⟩ [(x, u)])
    (hrun : ∀ ns : List Int, ns.length ≤ n → ∃ S', callF T (k + 1) d.name [.scr ns] [] = .ok (.d (.bool true)) S') :
    PySem.W.WalkO q loose XP YP l.row.toRowW d [] (fun f vs => PySem.call f vs) := by
  refine Att.attach_call hn hdf fun w s₀ s₁ mg mb fa o pm cd doc a vs ns G Y ho hd hcd hmg hobj hints hlen hg => ?_
  have KX := hY w _ Y
  obtain ⟨ts, ta, st, fd, dd, hb⟩ := F w mg fa _ Y KX G.T.g hmg
  letI : Tabl := ⟨ts.map (·.2)⟩
  exact lawG (att := attOf g) (ts := ts) KX G.T.g G.T.b G.T.builtins G.T.nolimit hg ta G.T.bmain hobj hints (Nat.le_trans hlen hn2) hr rfl (fun base _ _ tk => def_ok tk (facts tk st k) hT dd) hb (hrun ns hlen)
end SS

end

section
set_option linter.all false
set_option autoImplicit false
set_option maxRecDepth 100000
set_option maxHeartbeats 4000000
/-! Running the small language: what is used of it in the laws' own parts. -/
namespace SS
open PySem
/-- behind the core no table is asked for -/
instance : Tabl := ⟨[]⟩

theorem lookup_mem {α β : Type} [BEq α] [LawfulBEq α] {a : α} {b : β} : ∀ {l : List (α × β)}, l.lookup a = some b → (a, b) ∈ l
  | [], h => by cases h
  | (x, y) :: r, h => by
    rw [List.lookup_cons] at h
    split at h
    · rename_i e
      cases h
      rw [eq_of_beq e]
      exact List.mem_cons_self
    · exact List.mem_cons_of_mem _ (lookup_mem h)
end SS
namespace SS
open PySem
theorem callF_at {T : Str → Option FnIR} {f : Str} {fn : FnIR} (h : T f = some fn) (k : Nat) (args : List EV) (S : Cells) : callF T (k + 1) f args S = runFn (callF T k) fn args S := by
  show (match T f with | some fn => runFn (callF T k) fn args S | none => .bad) = _
  rw [h]
/-- behind a body -/
def ret (r : SRes) : Res EV := match r with
  | .nx _ S' => .ok (.d .none) S'
  | .ret v S' => .ok v S'
  | .exc c x _ S' => .exc c x S'
  | .bad => .bad
@[simp] theorem ret_nx (ρ : Env) (S : Cells) : ret (.nx ρ S) = .ok (.d .none) S := rfl
@[simp] theorem ret_ret (v : EV) (S : Cells) : ret (.ret v S) = .ok v S := rfl
@[simp] theorem ret_exc (c : Str) (x : D) (ρ : Env) (S : Cells) : ret (.exc c x ρ S) = .exc c x S := rfl
@[simp] theorem ret_bad : ret .bad = .bad := rfl
theorem runFn_eq {F : Call} {fn : FnIR} {args : List EV} {S : Cells} (h : args.length = fn.ps) : runFn F fn args S = ret (execs F fn.body (startE fn.n args) S) := by
  unfold runFn
  rw [if_pos h]
  rfl
theorem callF_run {T : Str → Option FnIR} {f : Str} {fn : FnIR} (h : T f = some fn) {k n : Nat} (hk : n + 1 ≤ k) {args : List EV} {S : Cells} (hl : args.length = fn.ps) {r : Res EV} (hr : ∀ j, n ≤ j → ret (execs (callF T j) fn.body (startE fn.n args) S) = r) : callF T k f args S = r := by
  cases k with
  | zero => omega
  | succ j =>
    rw [callF_at h, runFn_eq hl]
    exact hr j (by omega)
theorem ite_fst {p : Prop} [Decidable p] {α β : Type} {a b : α} {f : α → β} : f (if p then a else b) = if p then f a else f b := by split <;> rfl
/-- a statement's walk -/
theorem forLoop_nil (f : D → Env → Cells → SRes) (ρ : Env) (S : Cells) : forLoop f [] ρ S = .nx ρ S := rfl
theorem forLoop_cons (f : D → Env → Cells → SRes) (x : D) (r : List D) (ρ : Env) (S : Cells) : forLoop f (x :: r) ρ S = (f x ρ S).thn fun ρ S => forLoop f r ρ S := rfl
/-- P stands throughout -/
theorem forLoop_inv {f : D → Env → Cells → SRes} {P : List D → Env → Cells → Prop} : ∀ {ds done : List D} {ρ : Env} {S : Cells}, P done ρ S → (∀ (done : List D) (x : D) (rest : List D) (ρ : Env) (S : Cells), P done ρ S → x ∈ ds → ∃ ρ' S', f x ρ S = .nx ρ' S' ∧ P (done ++ [x]) ρ' S') → ∃ ρ' S', forLoop f ds ρ S = .nx ρ' S' ∧ P (done ++ ds) ρ' S'
  | [], done, ρ, S, h, _ => ⟨ρ, S, rfl, by rw [List.append_nil]; exact h⟩
  | x :: r, done, ρ, S, h, st => by
    obtain ⟨ρ1, S1, e, h1⟩ := st done x r ρ S h List.mem_cons_self
    obtain ⟨ρ2, S2, e2, h2⟩ := forLoop_inv (ds := r) h1 fun done y rest ρ S hp hm => st done y rest ρ S hp (List.mem_cons_of_mem _ hm)
    refine ⟨ρ2, S2, ?_, ?_⟩
    · rw [forLoop_cons, e]
      exact e2
    · rw [List.append_assoc] at h2
      exact h2
/-- .. by how many turns were made -/
theorem forLoop_n {f : D → Env → Cells → SRes} {P : Nat → Env → Cells → Prop} {ds : List D} : ∀ (m : Nat) {ρ : Env} {S : Cells}, P m ρ S → m ≤ ds.length → (∀ (i : Nat) (x : D) (ρ : Env) (S : Cells), ds[i]? = some x → P i ρ S → ∃ ρ' S', f x ρ S = .nx ρ' S' ∧ P (i + 1) ρ' S') → ∃ ρ' S', forLoop f (ds.drop m) ρ S = .nx ρ' S' ∧ P ds.length ρ' S' := by
  intro m ρ S h hm st
  induction e : ds.length - m generalizing m ρ S with
  | zero =>
    have hm' : m = ds.length := by omega
    subst hm'
    rw [List.drop_length]
    exact ⟨ρ, S, rfl, h⟩
  | succ n ih =>
    have hl : m < ds.length := by omega
    rw [List.drop_eq_getElem_cons hl, forLoop_cons]
    obtain ⟨ρ1, S1, e1, h1⟩ := st m ds[m] ρ S (List.getElem?_eq_getElem hl) h
    rw [e1]
    exact ih (m + 1) h1 hl (by omega)
theorem forLoop_of {f : D → Env → Cells → SRes} (P : Nat → Env → Cells → Prop) {ds : List D} {ρ : Env} {S : Cells} (h : P 0 ρ S) (st : ∀ (i : Nat) (x : D) (ρ : Env) (S : Cells), ds[i]? = some x → P i ρ S → ∃ ρ' S', f x ρ S = .nx ρ' S' ∧ P (i + 1) ρ' S') : ∃ ρ' S', forLoop f ds ρ S = .nx ρ' S' ∧ P ds.length ρ' S' := by
  have := forLoop_n (f := f) (P := P) (ds := ds) 0 h (Nat.zero_le _) st
  rwa [List.drop_zero] at this
/-! ### comprehensions -/
theorem compLoop_nil (f : D → Cells → Res (Option D)) (S : Cells) : compLoop f [] S = .ok [] S := rfl
theorem compLoop_map {f : D → Cells → Res (Option D)} {g : D → D} {S : Cells} : ∀ {ds : List D}, (∀ x ∈ ds, f x S = .ok (some (g x)) S) → compLoop f ds S = .ok (ds.map g) S
  | [], _ => rfl
  | x :: r, h => by
    simp only [compLoop, h x List.mem_cons_self]
    rw [compLoop_map fun y m => h y (List.mem_cons_of_mem _ m)]
    rfl
theorem compLoop_filter {f : D → Cells → Res (Option D)} {g : D → D} {p : D → Bool} {S : Cells} : ∀ {ds : List D}, (∀ x ∈ ds, f x S = .ok (if p x then some (g x) else none) S) → compLoop f ds S = .ok ((ds.filter p).map g) S
  | [], _ => rfl
  | x :: r, h => by
    simp only [compLoop, h x List.mem_cons_self]
    rw [compLoop_filter fun y m => h y (List.mem_cons_of_mem _ m)]
    cases e : p x <;> simp [e, List.filter_cons]
/-- the cells may change: P stands throughout, each result is R -/
theorem compLoop_st {f : D → Cells → Res (Option D)} {P : Cells → Prop} {R : D → Prop} : ∀ {ds : List D} {S : Cells}, P S → (∀ x ∈ ds, ∀ S, P S → ∃ d S', f x S = .ok (some d) S' ∧ R d ∧ P S') → ∃ rs S', compLoop f ds S = .ok rs S' ∧ rs.length = ds.length ∧ (∀ d ∈ rs, R d) ∧ P S'
  | [], S, h, _ => ⟨[], S, rfl, rfl, (fun d m => by cases m), h⟩
  | x :: r, S, h, st => by
    obtain ⟨d, S1, e, rd, h1⟩ := st x List.mem_cons_self S h
    obtain ⟨rs, S2, e2, l, rr, h2⟩ := compLoop_st (ds := r) h1 fun y m => st y (List.mem_cons_of_mem _ m)
    refine ⟨d :: rs, S2, ?_, by rw [List.length_cons, List.length_cons, l], fun z m => ?_, h2⟩
    · simp only [compLoop, e, e2, Res.bind_ok]
    · rcases List.mem_cons.mp m with m | m
      · rw [m]; exact rd
      · exact rr z m
end SS

end

section
set_option linter.all false
set_option autoImplicit false
set_option maxRecDepth 100000
set_option maxHeartbeats 4000000
/-! The small language, rule by rule, for simp: what comes behind stays shut until it is come to. -/
namespace SS
open PySem
theorem ite_iff {α : Type} {p q : Prop} [Decidable p] [Decidable q] {a b : α} (h : p ↔ q) : (if p then a else b) = if q then a else b := by
  by_cases hp : p
  · rw [if_pos hp, if_pos (h.mp hp)]
  · rw [if_neg hp, if_neg fun z => hp (h.mpr z)]
variable {F : Call} {ρ : Env} {S : Cells}

def gV (S : Cells) : Option SV → Res EV
  | some (.v x) => .ok x S
  | _ => .bad
def gP (S : Cells) : Option SV → Res EV
  | some (.own ds) => .ok (.pk ds) S
  | _ => .bad
theorem r_gV (x : EV) : gV S (some (.v x)) = .ok x S := rfl
theorem r_gP (ds : List D) : gP S (some (.own ds)) = .ok (.pk ds) S := rfl
theorem r_lit (d : D) : evalE F (.lit d) ρ S = .ok (.d d) S := by rw [evalE]
theorem r_glob (x : Str) (i : Int) : evalE F (.glob x i) ρ S = .ok (.d (.int i)) S := by rw [evalE]
theorem r_fnv (f : Str) : evalE F (.fnv f) ρ S = .ok (.fn f) S := by rw [evalE]
theorem r_var (i : Nat) : evalE F (.var i) ρ S = gV S ρ[i]? := by rw [evalE]; rfl
theorem r_peek (i : Nat) : evalE F (.peek i) ρ S = gP S ρ[i]? := by rw [evalE]; rfl
def okD (S : Cells) (x : D) : Res EV := .ok (.d x) S
def okV (S : Cells) (x : EV) : Res EV := .ok x S
theorem r_okD (x : D) : okD S x = .ok (.d x) S := rfl
theorem r_okV (x : EV) : okV S x = .ok x S := rfl
def kTupD (S : Cells) (ds : List D) : Res EV := if ds.length ≤ lim then .ok (.d (.tuple ds)) S else .bad
def kTup (vs : List EV) (S : Cells) : Res EV := lft (EV.mapStrict vs) (kTupD S)
theorem r_tup (es : IEs) : evalE F (.tup es) ρ S = (evalEs F es ρ S).bind kTup := by rw [evalE]; rfl
theorem r_kTup (vs : List EV) : kTup vs S = lft (EV.mapStrict vs) (kTupD S) := rfl
theorem r_kTupD (ds : List D) : kTupD S ds = if ds.length ≤ lim then .ok (.d (.tuple ds)) S else .bad := rfl
def kLstD (S : Cells) (ds : List D) : Res EV := if ds.length ≤ lim then .ok (.nw ds) S else .bad
def kLst (vs : List EV) (S : Cells) : Res EV := lft (EV.mapStrict vs) (kLstD S)
theorem r_lst (es : IEs) : evalE F (.lst es) ρ S = (evalEs F es ρ S).bind kLst := by rw [evalE]; rfl
theorem r_kLst (vs : List EV) : kLst vs S = lft (EV.mapStrict vs) (kLstD S) := rfl
theorem r_kLstD (ds : List D) : kLstD S ds = if ds.length ≤ lim then .ok (.nw ds) S else .bad := rfl
def kNewc (v : EV) (S : Cells) : Res EV := match v with
  | .nw ds => .ok (.cell S.length) (S ++ [ds])
  | _ => .bad
theorem r_newc (e : IE) : evalE F (.newc e) ρ S = (evalE F e ρ S).bind kNewc := by rw [evalE]; rfl
theorem r_kNewc (ds : List D) : kNewc (.nw ds) S = .ok (.cell S.length) (S ++ [ds]) := rfl
-- two operands
def kBin2 (op : BOp) (x y : EV) (S : Cells) : Res EV := lft (binE op x y) (okV S)
def kBin1 (F : Call) (op : BOp) (b : IE) (ρ : Env) (x : EV) (S : Cells) : Res EV := (evalE F b ρ S).bind (kBin2 op x)
theorem r_bin (op : BOp) (a b : IE) : evalE F (.bin op a b) ρ S = (evalE F a ρ S).bind (kBin1 F op b ρ) := by rw [evalE]; rfl
theorem r_kBin1 (op : BOp) (b : IE) (x : EV) : kBin1 F op b ρ x S = (evalE F b ρ S).bind (kBin2 op x) := rfl
theorem r_kBin2 (op : BOp) (x y : EV) : kBin2 op x y S = lft (binE op x y) (okV S) := rfl
def kb3 (op : BOp) (a b : D) : Option D → Option EV
  | some z => some (.d z)
  | none => (binN op a b).map .nw
def kb2 (op : BOp) (a b : D) : Option EV := kb3 op a b (binD op a b)
def kb1 (op : BOp) (y : EV) (a : D) : Option EV := y.asD.bind (kb2 op a)
theorem r_binE (op : BOp) (x y : EV) : binE op x y = x.asD.bind (kb1 op y) := rfl
theorem r_kb1 (op : BOp) (y : EV) (a : D) : kb1 op y a = y.asD.bind (kb2 op a) := rfl
theorem r_kb2 (op : BOp) (a b : D) : kb2 op a b = kb3 op a b (binD op a b) := rfl
theorem r_kb3s (op : BOp) (a b z : D) : kb3 op a b (some z) = some (.d z) := rfl
theorem r_kb3n (op : BOp) (a b : D) : kb3 op a b none = (binN op a b).map .nw := rfl
theorem d_add (i j : Int) : binD .add (.int i) (.int j) = some (.int (i + j)) := rfl
theorem d_addT (i j : List D) : binD .add (.tuple i) (.tuple j) = if i.length + j.length ≤ lim then some (.tuple (i ++ j)) else none := rfl
theorem d_addL (i j : List D) : binD .add (.list i) (.list j) = none := rfl
theorem n_addL (i j : List D) : binN .add (.list i) (.list j) = if i.length + j.length ≤ lim then some (i ++ j) else none := rfl
theorem d_sub (i j : Int) : binD .sub (.int i) (.int j) = some (.int (i - j)) := rfl
theorem d_mul (i j : Int) : binD .mul (.int i) (.int j) = if (i.natAbs < 2 ^ 64 ∨ j.natAbs < 2 ^ 64) then some (.int (i * j)) else none := Eq.trans rfl rfl
theorem d_mulL (i : List D) (j : Int) : binD .mul (.list i) (.int j) = none := rfl
theorem n_mulL (xs : List D) (k : Int) : binN .mul (.list xs) (.int k) = if xs.length * k.toNat ≤ lim ∧ -(2 ^ 60) ≤ k ∧ k < 2 ^ 60 then some (List.replicate k.toNat xs).flatten else none := ite_iff (and_congr Iff.rfl (by omega))
theorem d_mod (i j : Int) : binD .mod (.int i) (.int j) = if 0 < j then some (.int (i % j)) else none := rfl
theorem d_fdiv (i j : Int) : binD .fdiv (.int i) (.int j) = if 0 < j ∧ j < 1073741824 then some (.int (i / j)) else none := ite_iff (by omega)
theorem d_pow (i j : Int) : binD .pow (.int i) (.int j) = if 0 ≤ j ∧ j ≤ 1000 ∧ i.natAbs < 2 ^ 64 then some (.int (i ^ j.toNat)) else none := Eq.trans rfl rfl
-- one operand
def kNeg2 (S : Cells) (i : Int) : Res EV := .ok (.d (.int (-i))) S
def kNeg (x : EV) (S : Cells) : Res EV := lft (dInt x) (kNeg2 S)
theorem r_neg (a : IE) : evalE F (.neg a) ρ S = (evalE F a ρ S).bind kNeg := by rw [evalE]; rfl
theorem r_kNeg (x : EV) : kNeg x S = lft (dInt x) (kNeg2 S) := rfl
theorem r_kNeg2 (i : Int) : kNeg2 S i = .ok (.d (.int (-i))) S := rfl
def kNot2 (S : Cells) (i : Bool) : Res EV := .ok (.d (.bool (!i))) S
def kNot (x : EV) (S : Cells) : Res EV := lft (dBool x) (kNot2 S)
theorem r_not (a : IE) : evalE F (.not a) ρ S = (evalE F a ρ S).bind kNot := by rw [evalE]; rfl
theorem r_kNot (x : EV) : kNot x S = lft (dBool x) (kNot2 S) := rfl
theorem r_kNot2 (i : Bool) : kNot2 S i = .ok (.d (.bool (!i))) S := rfl
-- compares
def okB (S : Cells) (z : Bool) : Res EV := .ok (.d (.bool z)) S
theorem r_okB (z : Bool) : okB S z = .ok (.d (.bool z)) S := rfl
def kCmp2 (op : COp) (x y : EV) (S : Cells) : Res EV := lft (cmpE op x y) (okB S)
def kCmp1 (F : Call) (op : COp) (b : IE) (ρ : Env) (x : EV) (S : Cells) : Res EV := (evalE F b ρ S).bind (kCmp2 op x)
theorem r_cmp (op : COp) (a b : IE) : evalE F (.cmp op a b) ρ S = (evalE F a ρ S).bind (kCmp1 F op b ρ) := by rw [evalE]; rfl
theorem r_kCmp1 (op : COp) (b : IE) (x : EV) : kCmp1 F op b ρ x S = (evalE F b ρ S).bind (kCmp2 op x) := rfl
theorem r_kCmp2 (op : COp) (x y : EV) : kCmp2 op x y S = lft (cmpE op x y) (okB S) := rfl
def kc1 (op : COp) (y : EV) (a : D) : Option Bool := y.asD.bind (cmpD op a)
theorem r_cmpE (op : COp) (x y : EV) : cmpE op x y = x.asD.bind (kc1 op y) := rfl
theorem r_kc1 (op : COp) (y : EV) (a : D) : kc1 op y a = y.asD.bind (cmpD op a) := rfl
theorem c_lt (i j : Int) : cmpD .lt (.int i) (.int j) = some (decide (i < j)) := rfl
theorem c_le (i j : Int) : cmpD .le (.int i) (.int j) = some (decide (i ≤ j)) := rfl
theorem c_gt (i j : Int) : cmpD .gt (.int i) (.int j) = some (decide (j < i)) := rfl
theorem c_ge (i j : Int) : cmpD .ge (.int i) (.int j) = some (decide (j ≤ i)) := rfl
theorem c_eq (x y : D) : cmpD .eq x y = eqD x y := by cases x <;> rfl
theorem c_ne (x y : D) : cmpD .ne x y = (eqD x y).map fun b => !b := by cases x <;> rfl
theorem e_str (x y : Str) : eqD (.str x) (.str y) = some (x == y) := rfl
def kCh4 (S : Cells) (z : Bool) : Res EV := .ok (.d (.bool z)) S
def kCh3 (op' : COp) (y w : EV) (S : Cells) : Res EV := lft (cmpE op' y w) (okB S)
def kCh2b (F : Call) (op' : COp) (c : IE) (ρ : Env) (y : EV) (S : Cells) (z : Bool) : Res EV := if z then (evalE F c ρ S).bind (kCh3 op' y) else .ok (.d (.bool false)) S
def kCh2 (F : Call) (op op' : COp) (c : IE) (ρ : Env) (x y : EV) (S : Cells) : Res EV := lft (cmpE op x y) (kCh2b F op' c ρ y S)
def kCh1 (F : Call) (op op' : COp) (b c : IE) (ρ : Env) (x : EV) (S : Cells) : Res EV := (evalE F b ρ S).bind (kCh2 F op op' c ρ x)
theorem r_chn (op op' : COp) (a b c : IE) : evalE F (.chn a op b op' c) ρ S = (evalE F a ρ S).bind (kCh1 F op op' b c ρ) := by rw [evalE]; rfl
theorem r_kCh1 (op op' : COp) (b c : IE) (x : EV) : kCh1 F op op' b c ρ x S = (evalE F b ρ S).bind (kCh2 F op op' c ρ x) := rfl
theorem r_kCh2 (op op' : COp) (c : IE) (x y : EV) : kCh2 F op op' c ρ x y S = lft (cmpE op x y) (kCh2b F op' c ρ y S) := rfl
theorem r_kCh2b (op' : COp) (c : IE) (y : EV) (z : Bool) : kCh2b F op' c ρ y S z = if z then (evalE F c ρ S).bind (kCh3 op' y) else .ok (.d (.bool false)) S := rfl
theorem r_kCh3 (op' : COp) (y w : EV) : kCh3 op' y w S = lft (cmpE op' y w) (okB S) := rfl
-- and, or, if
def kAnd2 (F : Call) (b : IE) (ρ : Env) (S : Cells) (c : Bool) : Res EV := if c then evalE F b ρ S else .ok (.d (.bool false)) S
def kAnd (F : Call) (b : IE) (ρ : Env) (x : EV) (S : Cells) : Res EV := lft (dBool x) (kAnd2 F b ρ S)
theorem r_and (a b : IE) : evalE F (.and a b) ρ S = (evalE F a ρ S).bind (kAnd F b ρ) := by rw [evalE]; rfl
theorem r_kAnd (b : IE) (x : EV) : kAnd F b ρ x S = lft (dBool x) (kAnd2 F b ρ S) := rfl
theorem r_kAnd2 (b : IE) (c : Bool) : kAnd2 F b ρ S c = if c then evalE F b ρ S else .ok (.d (.bool false)) S := rfl
def kOr2 (F : Call) (b : IE) (ρ : Env) (S : Cells) (c : Bool) : Res EV := if c then .ok (.d (.bool true)) S else evalE F b ρ S
def kOr (F : Call) (b : IE) (ρ : Env) (x : EV) (S : Cells) : Res EV := lft (dBool x) (kOr2 F b ρ S)
theorem r_or (a b : IE) : evalE F (.or a b) ρ S = (evalE F a ρ S).bind (kOr F b ρ) := by rw [evalE]; rfl
theorem r_kOr (b : IE) (x : EV) : kOr F b ρ x S = lft (dBool x) (kOr2 F b ρ S) := rfl
theorem r_kOr2 (b : IE) (c : Bool) : kOr2 F b ρ S c = if c then .ok (.d (.bool true)) S else evalE F b ρ S := rfl
def kIte2 (F : Call) (a b : IE) (ρ : Env) (S : Cells) (c : Bool) : Res EV := if c then evalE F a ρ S else evalE F b ρ S
def kIte (F : Call) (a b : IE) (ρ : Env) (x : EV) (S : Cells) : Res EV := lft (dBool x) (kIte2 F a b ρ S)
theorem r_ite (c a b : IE) : evalE F (.ite c a b) ρ S = (evalE F c ρ S).bind (kIte F a b ρ) := by rw [evalE]; rfl
theorem r_kIte (a b : IE) (x : EV) : kIte F a b ρ x S = lft (dBool x) (kIte2 F a b ρ S) := rfl
theorem r_kIte2 (a b : IE) (c : Bool) : kIte2 F a b ρ S c = if c then evalE F a ρ S else evalE F b ρ S := rfl
-- subscripts
def kIx3 (S : Cells) (x : EV) (j : Int) : Res EV := lft (ixD S x j) (okD S)
def kIx2 (x y : EV) (S : Cells) : Res EV := lft (dInt y) (kIx3 S x)
def kIx1 (F : Call) (i : IE) (ρ : Env) (x : EV) (S : Cells) : Res EV := (evalE F i ρ S).bind (kIx2 x)
theorem r_ix (a i : IE) : evalE F (.ix a i) ρ S = (evalE F a ρ S).bind (kIx1 F i ρ) := by rw [evalE]; rfl
theorem r_kIx1 (i : IE) (x : EV) : kIx1 F i ρ x S = (evalE F i ρ S).bind (kIx2 x) := rfl
theorem r_kIx2 (x y : EV) : kIx2 x y S = lft (dInt y) (kIx3 S x) := rfl
theorem r_kIx3 (x : EV) (j : Int) : kIx3 S x j = lft (ixD S x j) (okD S) := rfl
theorem x_l (xs : List D) (i : Int) : ixD S (.d (.list xs)) i = atD xs i := rfl
theorem x_t (xs : List D) (i : Int) : ixD S (.d (.tuple xs)) i = atD xs i := rfl
theorem x_n (xs : List D) (i : Int) : ixD S (.nw xs) i = atD xs i := rfl
theorem x_p (xs : List D) (i : Int) : ixD S (.pk xs) i = atD xs i := rfl
theorem x_c (n : Nat) (i : Int) : ixD S (.cell n) i = (S[n]?).bind (fun xs => atD xs i) := rfl
theorem x_s (ns : List Int) (i : Int) : ixD S (.scr ns) i = (atD ns i).map .int := rfl
def kSl3 (x : EV) (i : Option Int) (j : Option Int) (S : Cells) : Res EV := lft (slD x i j) (okV S)
def kSl2 (F : Call) (hi : IO) (ρ : Env) (x : EV) (i : Option Int) (S : Cells) : Res EV := (evalO F hi ρ S).bind (kSl3 x i)
def kSl1 (F : Call) (lo hi : IO) (ρ : Env) (x : EV) (S : Cells) : Res EV := (evalO F lo ρ S).bind (kSl2 F hi ρ x)
theorem r_sl (a : IE) (lo hi : IO) : evalE F (.sl a lo hi) ρ S = (evalE F a ρ S).bind (kSl1 F lo hi ρ) := by rw [evalE]; rfl
theorem r_kSl1 (lo hi : IO) (x : EV) : kSl1 F lo hi ρ x S = (evalO F lo ρ S).bind (kSl2 F hi ρ x) := rfl
theorem r_kSl2 (hi : IO) (x : EV) (i : Option Int) : kSl2 F hi ρ x i S = (evalO F hi ρ S).bind (kSl3 x i) := rfl
theorem r_kSl3 (x : EV) (i j : Option Int) : kSl3 x i j S = lft (slD x i j) (okV S) := rfl
theorem s_l (xs : List D) (i j : Option Int) : slD (.d (.list xs)) i j = some (.nw (cutD xs i j)) := rfl
theorem s_t (xs : List D) (i j : Option Int) : slD (.d (.tuple xs)) i j = some (.d (.tuple (cutD xs i j))) := rfl
theorem s_n (xs : List D) (i j : Option Int) : slD (.nw xs) i j = some (.nw (cutD xs i j)) := rfl
theorem s_p (xs : List D) (i j : Option Int) : slD (.pk xs) i j = some (.nw (cutD xs i j)) := rfl
theorem s_s (xs : List Int) (i j : Option Int) : slD (.scr xs) i j = some (.nw (cutD (xs.map .int) i j)) := rfl
def okO (S : Cells) (i : Int) : Res (Option Int) := .ok (some i) S
def kO (v : EV) (S : Cells) : Res (Option Int) := lft (dInt v) (okO S)
theorem r_oN : evalO F .none ρ S = .ok none S := by rw [evalO]
theorem r_oS (e : IE) : evalO F (.some e) ρ S = (evalE F e ρ S).bind kO := by rw [evalO]; rfl
theorem r_kO (v : EV) : kO v S = lft (dInt v) (okO S) := rfl
theorem r_okO (i : Int) : okO S i = .ok (some i) S := rfl
def kRev2 (S : Cells) (z : EV) : Res EV := .ok z S
def kRev (x : EV) (S : Cells) : Res EV := lft (x.asD.bind revD) (kRev2 S)
theorem r_rev (a : IE) : evalE F (.rev a) ρ S = (evalE F a ρ S).bind kRev := by rw [evalE]; rfl
theorem r_kRev (x : EV) : kRev x S = lft (x.asD.bind revD) (kRev2 S) := rfl
theorem r_kRev2 (z : EV) : kRev2 S z = .ok z S := rfl
theorem r_revL (xs : List D) : revD (.list xs) = some (.nw xs.reverse) := rfl
theorem r_revT (xs : List D) : revD (.tuple xs) = some (.d (.tuple xs.reverse)) := rfl
theorem r_listD (xs : List D) : listD (.list xs) = some xs := rfl
theorem r_itemsL (xs : List D) : itemsD (.list xs) = some xs := rfl
theorem r_itemsT (xs : List D) : itemsD (.tuple xs) = some xs := rfl
-- calls
def kCall3 (F : Call) (f : Str) (p : List Nat) (S : Cells) (us : List EV) : Res EV := F f (p.map fun i => us.getD i (.d .none)) S
def kCall2 (F : Call) (f : Str) (p : List Nat) (vs ws : List EV) (S : Cells) : Res EV := lft (EV.mapHeld (vs ++ ws)) (kCall3 F f p S)
def kCall1 (F : Call) (f : Str) (p : List Nat) (zs : IEs) (ρ : Env) (vs : List EV) (S : Cells) : Res EV := (evalEs F zs ρ S).bind (kCall2 F f p vs)
theorem r_call (f : Str) (ks : List Str) (p : List Nat) (es zs : IEs) : evalE F (.call f ks p es zs) ρ S = (evalEs F es ρ S).bind (kCall1 F f p zs ρ) := by rw [evalE]; rfl
theorem r_kCall1 (f : Str) (p : List Nat) (zs : IEs) (vs : List EV) : kCall1 F f p zs ρ vs S = (evalEs F zs ρ S).bind (kCall2 F f p vs) := rfl
theorem r_kCall2 (f : Str) (p : List Nat) (vs ws : List EV) : kCall2 F f p vs ws S = lft (EV.mapHeld (vs ++ ws)) (kCall3 F f p S) := rfl
theorem r_kCall3 (f : Str) (p : List Nat) (us : List EV) : kCall3 F f p S us = F f (p.map fun i => us.getD i (.d .none)) S := rfl
theorem m_n : EV.mapHeld [] = some [] := rfl
def kmh (r : List EV) (y : EV) : Option (List EV) := (EV.mapHeld r).map (List.cons y)
theorem m_c (x : EV) (r : List EV) : EV.mapHeld (x :: r) = x.held.bind (kmh r) := rfl
theorem r_kmh (r : List EV) (y : EV) : kmh r y = (EV.mapHeld r).map (List.cons y) := rfl
theorem t_n : EV.mapStrict [] = some [] := rfl
def kms (r : List EV) (y : D) : Option (List D) := (EV.mapStrict r).map (List.cons y)
theorem t_c (x : EV) (r : List EV) : EV.mapStrict (x :: r) = x.strict.bind (kms r) := rfl
theorem r_kms (r : List EV) (y : D) : kms r y = (EV.mapStrict r).map (List.cons y) := rfl
def kEs2 (v : EV) (vs : List EV) (S : Cells) : Res (List EV) := .ok (v :: vs) S
def kEs1 (F : Call) (es : IEs) (ρ : Env) (v : EV) (S : Cells) : Res (List EV) := (evalEs F es ρ S).bind (kEs2 v)
theorem r_esN : evalEs F .nil ρ S = .ok [] S := by rw [evalEs]
theorem r_esC (e : IE) (es : IEs) : evalEs F (.cons e es) ρ S = (evalE F e ρ S).bind (kEs1 F es ρ) := by rw [evalEs]; rfl
theorem r_kEs1 (es : IEs) (v : EV) : kEs1 F es ρ v S = (evalEs F es ρ S).bind (kEs2 v) := rfl
theorem r_kEs2 (v : EV) (vs : List EV) : kEs2 v vs S = .ok (v :: vs) S := rfl
def kCv2 (F : Call) (f : Str) (S : Cells) (vs : List EV) : Res EV := F f vs S
def kCv1 (F : Call) (f : Str) (vs : List EV) (S : Cells) : Res EV := lft (EV.mapHeld vs) (kCv2 F f S)
def gF (F : Call) (es : IEs) (ρ : Env) (S : Cells) : Option SV → Res EV
  | some (.v (.fn f)) => (evalEs F es ρ S).bind (kCv1 F f)
  | _ => .bad
theorem r_callv (i : Nat) (es : IEs) : evalE F (.callv i es) ρ S = gF F es ρ S ρ[i]? := by rw [evalE]; rfl
theorem r_gF (f : Str) (es : IEs) : gF F es ρ S (some (.v (.fn f))) = (evalEs F es ρ S).bind (kCv1 F f) := rfl
theorem r_kCv1 (f : Str) (vs : List EV) : kCv1 F f vs S = lft (EV.mapHeld vs) (kCv2 F f S) := rfl
theorem r_kCv2 (f : Str) (vs : List EV) : kCv2 F f S vs = F f vs S := rfl
-- built-ins
def kB1 (b : B1) (x : EV) (S : Cells) : Res EV := lft (b1E b x) (okV S)
theorem r_b1 (b : B1) (a : IE) : evalE F (.b1 b a) ρ S = (evalE F a ρ S).bind (kB1 b) := by rw [evalE]; rfl
theorem r_kB1 (b : B1) (x : EV) : kB1 b x S = lft (b1E b x) (okV S) := rfl
def kbb (b : B1) (x : D) : Option D → Option EV
  | some y => some (.d y)
  | none => (b1N b x).map .nw
def kb1' (b : B1) (x : D) : Option EV := kbb b x (b1D b x)
theorem b_d (b : B1) (x : D) : b1E b (.d x) = kbb b x (b1D b x) := by
  unfold b1E kbb
  simp only [EV.asD, Option.bind_some]
  all_goals (cases b1D b x <;> rfl)
theorem b_n (b : B1) (x : List D) : b1E b (.nw x) = kbb b (.list x) (b1D b (.list x)) := by
  unfold b1E kbb
  simp only [EV.asD, Option.bind_some]
  all_goals (cases b1D b (.list x) <;> rfl)
theorem b_p (b : B1) (x : List D) : b1E b (.pk x) = kbb b (.list x) (b1D b (.list x)) := by
  unfold b1E kbb
  simp only [EV.asD, Option.bind_some]
  all_goals (cases b1D b (.list x) <;> rfl)
theorem b_s (ns : List Int) : b1E .len (.scr ns) = some (.d (.int ns.length)) := rfl
theorem r_kbbS (b : B1) (x y : D) : kbb b x (some y) = some (.d y) := rfl
theorem r_kbbN (b : B1) (x : D) : kbb b x none = (b1N b x).map .nw := rfl
theorem u_lenL (xs : List D) : b1D .len (.list xs) = some (.int xs.length) := rfl
theorem u_lenT (xs : List D) : b1D .len (.tuple xs) = some (.int xs.length) := rfl
theorem u_int (i : Int) : b1D .int (.int i) = some (.int i) := rfl
theorem u_intB (b : Bool) : b1D .int (.bool b) = some (.int (b2i b)) := rfl
theorem u_abs (i : Int) : b1D .abs (.int i) = some (.int (if i < 0 then -i else i)) := rfl
theorem u_sumL (xs : List D) : b1D .sum (.list xs) = (asInts xs).map fun ns => .int ns.sum := rfl
theorem u_sumT (xs : List D) : b1D .sum (.tuple xs) = (asInts xs).map fun ns => .int ns.sum := rfl
theorem u_maxL (xs : List D) : b1D .max (.list xs) = (asInts xs).bind fun ns => if ns = [] then none else some (.int (maxL ns)) := rfl
theorem u_minL (xs : List D) : b1D .min (.list xs) = (asInts xs).bind fun ns => if ns = [] then none else some (.int (minL ns)) := rfl
theorem u_maxT (xs : List D) : b1D .max (.tuple xs) = (asInts xs).bind fun ns => if ns = [] then none else some (.int (maxL ns)) := rfl
theorem u_minT (xs : List D) : b1D .min (.tuple xs) = (asInts xs).bind fun ns => if ns = [] then none else some (.int (minL ns)) := rfl
theorem u_tupL (xs : List D) : b1D .tuple (.list xs) = some (.tuple xs) := rfl
theorem u_tupT (xs : List D) : b1D .tuple (.tuple xs) = some (.tuple xs) := rfl
theorem u_all (xs : List D) : b1D .all (.list xs) = (asBools xs).map fun bs => .bool (bs.all id) := rfl
theorem u_reprL (xs : List D) : b1D .repr (.list xs) = if reprOk (.list xs) then some (.str (PyData.list xs).shown) else none := rfl
theorem u_reprT (xs : List D) : b1D .repr (.tuple xs) = if reprOk (.tuple xs) then some (.str (PyData.tuple xs).shown) else none := rfl
theorem u_listL (xs : List D) : b1D .list (.list xs) = none := rfl
theorem u_listT (xs : List D) : b1D .list (.tuple xs) = none := rfl
theorem v_listL (xs : List D) : b1N .list (.list xs) = some xs := rfl
theorem v_listT (xs : List D) : b1N .list (.tuple xs) = some xs := rfl
theorem u_sorted (xs : List D) : b1D .sorted (.list xs) = none := rfl
theorem v_sorted (xs : List D) : b1N .sorted (.list xs) = srtL xs (asInts xs) := rfl
theorem v_srtL (xs : List D) (ns : List Int) : srtL xs (some ns) = some ((sortI ns).map .int) := rfl
theorem v_srtLn (xs : List D) : srtL xs none = if srtOk xs then some (sortD false xs) else none := rfl
def kB2c (b : B2) (y : EV) (a : D) : Option D := y.asD.bind (b2D b a)
def kB2b (b : B2) (x y : EV) (S : Cells) : Res EV := lft (x.asD.bind (kB2c b y)) (okD S)
def kB2a (F : Call) (b : B2) (c : IE) (ρ : Env) (x : EV) (S : Cells) : Res EV := (evalE F c ρ S).bind (kB2b b x)
theorem r_b2 (b : B2) (a c : IE) : evalE F (.b2 b a c) ρ S = (evalE F a ρ S).bind (kB2a F b c ρ) := by rw [evalE]; rfl
theorem r_kB2a (b : B2) (c : IE) (x : EV) : kB2a F b c ρ x S = (evalE F c ρ S).bind (kB2b b x) := rfl
theorem r_kB2b (b : B2) (x y : EV) : kB2b b x y S = lft (x.asD.bind (kB2c b y)) (okD S) := rfl
theorem r_kB2c (b : B2) (y : EV) (a : D) : kB2c b y a = y.asD.bind (b2D b a) := rfl
theorem w_max (i j : Int) : b2D .max (.int i) (.int j) = some (.int (if j > i then j else i)) := rfl
theorem w_min (i j : Int) : b2D .min (.int i) (.int j) = some (.int (if j < i then j else i)) := rfl
theorem w_divmod (i j : Int) : b2D .divmod (.int i) (.int j) = if 0 < j ∧ j < 1073741824 then some (.tuple [.int (i / j), .int (i % j)]) else none := ite_iff (by omega)
def kIsi2 (t : Ty) (S : Cells) (x : D) : Res EV := .ok (.d (.bool (isiD t x))) S
def kIsi (t : Ty) (x : EV) (S : Cells) : Res EV := lft x.asD (kIsi2 t S)
theorem r_isi (a : IE) (t : Ty) : evalE F (.isi a t) ρ S = (evalE F a ρ S).bind (kIsi t) := by rw [evalE]; rfl
theorem r_kIsi (t : Ty) (x : EV) : kIsi t x S = lft x.asD (kIsi2 t S) := rfl
theorem r_kIsi2 (t : Ty) (x : D) : kIsi2 t S x = .ok (.d (.bool (isiD t x))) S := rfl
-- comprehensions
def kC4 (S : Cells) (d : D) : Res (Option D) := .ok (some d) S
def kC3 (v : EV) (S : Cells) : Res (Option D) := lft v.strict (kC4 S)
def kC2 (F : Call) (elt : IE) (ρ' : Env) (b : Bool) (S : Cells) : Res (Option D) := if b then (evalE F elt ρ' S).bind kC3 else .ok none S
def kC1 (F : Call) (elt : IE) (cnd : IO) (S : Cells) (ρ' : Env) : Res (Option D) := (evalC F cnd ρ' S).bind (kC2 F elt ρ')
def fComp (F : Call) (elt : IE) (tg : Tg) (cnd : IO) (ρ : Env) (x : D) (S : Cells) : Res (Option D) := lft (bindPure tg x ρ) (kC1 F elt cnd S)
def kComp2 (ds : List D) (rs : List D) (S : Cells) : Res EV := if ds.length ≤ lim then .ok (.nw rs) S else .bad
def kComp (F : Call) (elt : IE) (tg : Tg) (cnd : IO) (ρ : Env) (ds : List D) (S : Cells) : Res EV := (compLoop (fComp F elt tg cnd ρ) ds S).bind (kComp2 ds)
theorem r_comp (elt : IE) (tg : Tg) (src : Src) (cnd : IO) : evalE F (.comp elt tg src cnd) ρ S = (evalSrc F false src ρ S).bind (kComp F elt tg cnd ρ) := by rw [evalE]; rfl
theorem r_kComp (elt : IE) (tg : Tg) (cnd : IO) (ds : List D) : kComp F elt tg cnd ρ ds S = (compLoop (fComp F elt tg cnd ρ) ds S).bind (kComp2 ds) := rfl
theorem r_kComp2 (ds rs : List D) : kComp2 ds rs S = if ds.length ≤ lim then .ok (.nw rs) S else .bad := rfl
theorem r_fComp (elt : IE) (tg : Tg) (cnd : IO) (x : D) : fComp F elt tg cnd ρ x S = lft (bindPure tg x ρ) (kC1 F elt cnd S) := rfl
theorem r_kC1 (elt : IE) (cnd : IO) (ρ' : Env) : kC1 F elt cnd S ρ' = (evalC F cnd ρ' S).bind (kC2 F elt ρ') := rfl
theorem r_kC2 (elt : IE) (ρ' : Env) (b : Bool) : kC2 F elt ρ' b S = if b then (evalE F elt ρ' S).bind kC3 else .ok none S := rfl
theorem r_kC3 (v : EV) : kC3 v S = lft v.strict (kC4 S) := rfl
theorem r_kC4 (d : D) : kC4 S d = .ok (some d) S := rfl
def okBo (S : Cells) (i : Bool) : Res Bool := .ok i S
def kCn (v : EV) (S : Cells) : Res Bool := lft (dBool v) (okBo S)
theorem r_cN : evalC F .none ρ S = .ok true S := by rw [evalC]
theorem r_cS (e : IE) : evalC F (.some e) ρ S = (evalE F e ρ S).bind kCn := by rw [evalC]; rfl
theorem r_kCn (v : EV) : kCn v S = lft (dBool v) (okBo S) := rfl
theorem r_okBo (i : Bool) : okBo S i = .ok i S := rfl
theorem p_nm (i : Nat) (x : D) : bindPure (.nm i) x ρ = some (ρ.set i (.v (.d x))) := by rw [bindPure]
theorem p_tup (ts : Tgs) (xs : List D) : bindPure (.tup ts) (.tuple xs) ρ = bindPures ts xs ρ := by rw [bindPure]
theorem p_nil : bindPures .nil [] ρ = some ρ := by rw [bindPures]
def kbp (ts : Tgs) (xs : List D) (ρ' : Env) : Option Env := bindPures ts xs ρ'
theorem p_cons (t : Tg) (ts : Tgs) (x : D) (xs : List D) : bindPures (.cons t ts) (x :: xs) ρ = (bindPure t x ρ).bind (kbp ts xs) := by rw [bindPures]; rfl
theorem r_kbp (ts : Tgs) (xs : List D) : kbp ts xs ρ = bindPures ts xs ρ := rfl
def kSrt2 (S : Cells) (ds : List D) : Res EV := .ok (.nw ds) S
def kSrt (x : EV) (S : Cells) : Res EV := lft (x.asD.bind srtRD) (kSrt2 S)
def kSset2 (ln : Bool) (S : Cells) (ns : List Int) : Res EV := .ok (if ln then .d (.int (uniqI ns).length) else .nw ((uniqI ns).map .int)) S
def kSset (ln : Bool) (x : EV) (S : Cells) : Res EV := lft (x.asD.bind uqD) (kSset2 ln S)
theorem r_sset (ln : Bool) (a : IE) : evalE F (.sset ln a) ρ S = (evalE F a ρ S).bind (kSset ln) := by rw [evalE]; rfl
theorem r_kSset (ln : Bool) (x : EV) : kSset ln x S = lft (x.asD.bind uqD) (kSset2 ln S) := rfl
theorem r_kSset2t (ns : List Int) : kSset2 true S ns = .ok (.d (.int (uniqI ns).length)) S := rfl
theorem r_kSset2f (ns : List Int) : kSset2 false S ns = .ok (.nw ((uniqI ns).map .int)) S := rfl
theorem r_uqD (xs : List D) : uqD (.list xs) = uqOk xs.length (asInts xs) := rfl
def fKey (F : Call) (b : IE) (i : Nat) (ρ : Env) (x : D) (S : Cells) : Res (Option D) := (evalE F b (ρ.set i (.v (.d x))) S).bind kC3
def kSk2 (ds ks : List D) (S : Cells) : Res EV := if ds.length ≤ lim ∧ srtOk ks = true then .ok (.nw (keyD ds ks)) S else .bad
def kSk (F : Call) (b : IE) (i : Nat) (ρ : Env) (ds : List D) (S : Cells) : Res EV := (compLoop (fKey F b i ρ) ds S).bind (kSk2 ds)
theorem r_srtK (src : Src) (i : Nat) (b : IE) : evalE F (.srtK src i b) ρ S = (evalSrc F false src ρ S).bind (kSk F b i ρ) := by rw [evalE]; rfl
theorem r_kSk (b : IE) (i : Nat) (ds : List D) : kSk F b i ρ ds S = (compLoop (fKey F b i ρ) ds S).bind (kSk2 ds) := rfl
theorem r_kSk2 (ds ks : List D) : kSk2 ds ks S = if ds.length ≤ lim ∧ srtOk ks = true then .ok (.nw (keyD ds ks)) S else .bad := rfl
theorem r_fKey (b : IE) (i : Nat) (x : D) : fKey F b i ρ x S = (evalE F b (ρ.set i (.v (.d x))) S).bind kC3 := rfl
theorem r_srtR (a : IE) : evalE F (.srtR a) ρ S = (evalE F a ρ S).bind kSrt := by rw [evalE]; rfl
theorem r_kSrt (x : EV) : kSrt x S = lft (x.asD.bind srtRD) (kSrt2 S) := rfl
theorem r_kSrt2 (ds : List D) : kSrt2 S ds = .ok (.nw ds) S := rfl
theorem r_srtRDl (xs : List D) : srtRD (.list xs) = srtLR xs (asInts xs) := rfl
theorem r_srtRDt (xs : List D) : srtRD (.tuple xs) = srtTR (asInts xs) := rfl
theorem r_srtLR (xs : List D) (ns : List Int) : srtLR xs (some ns) = some ((sortI ns).reverse.map .int) := rfl
theorem r_srtLRn (xs : List D) : srtLR xs none = if srtOk xs then some (sortD true xs) else none := rfl
theorem r_srtTR (ns : List Int) : srtTR (some ns) = some ((sortI ns).reverse.map .int) := rfl
theorem d_mulT (xs : List D) (k : Int) : binD .mul (.tuple xs) (.int k) = if xs ≠ [] ∧ 1 ≤ k.toNat ∧ k.toNat ≤ 1000 ∧ xs.length ≤ 1000 then some (.tuple (List.replicate k.toNat xs).flatten) else if xs ≠ [] ∧ -1000 ≤ k ∧ k ≤ 0 then some (.tuple []) else none := rfl
theorem c_ltT (x y : List D) : cmpD .lt (.tuple x) (.tuple y) = ordR (.tuple x) (.tuple y) (PySem.W.dataLt (.tuple x) (.tuple y)) := rfl
theorem c_gtT (x y : List D) : cmpD .gt (.tuple x) (.tuple y) = ordR (.tuple x) (.tuple y) (PySem.W.dataLt (.tuple y) (.tuple x)) := rfl
theorem c_leT (x y : List D) : cmpD .le (.tuple x) (.tuple y) = ordR (.tuple x) (.tuple y) (!PySem.W.dataLt (.tuple y) (.tuple x)) := rfl
theorem c_geT (x y : List D) : cmpD .ge (.tuple x) (.tuple y) = ordR (.tuple x) (.tuple y) (!PySem.W.dataLt (.tuple x) (.tuple y)) := rfl
def kM5 (m : M1) (xs : List D) (y : D) : Option D := m1D m (.list xs) y
def kM4 (S : Cells) (z : D) : Res EV := .ok (.d z) S
def kM3 (m : M1) (xs : List D) (y : EV) (S : Cells) : Res EV := lft (y.asD.bind (kM5 m xs)) (kM4 S)
def kM2 (F : Call) (m : M1) (e : IE) (ρ : Env) (S : Cells) (xs : List D) : Res EV := (evalE F e ρ S).bind (kM3 m xs)
def kM1 (F : Call) (m : M1) (e : IE) (ρ : Env) (x : EV) (S : Cells) : Res EV := lft (x.asD.bind listD) (kM2 F m e ρ S)
theorem r_m1 (m : M1) (a e : IE) : evalE F (.m1 m a e) ρ S = (evalE F a ρ S).bind (kM1 F m e ρ) := by rw [evalE]; rfl
theorem r_kM1 (m : M1) (e : IE) (x : EV) : kM1 F m e ρ x S = lft (x.asD.bind listD) (kM2 F m e ρ S) := rfl
theorem r_kM2 (m : M1) (e : IE) (xs : List D) : kM2 F m e ρ S xs = (evalE F e ρ S).bind (kM3 m xs) := rfl
theorem r_kM3 (m : M1) (xs : List D) (y : EV) : kM3 m xs y S = lft (y.asD.bind (kM5 m xs)) (kM4 S) := rfl
theorem r_kM4 (z : D) : kM4 S z = .ok (.d z) S := rfl
theorem r_kM5 (m : M1) (xs : List D) (y : D) : kM5 m xs y = m1D m (.list xs) y := rfl
def kRgl (tp : Bool) (ds : List D) (S : Cells) : Res EV := .ok (if tp then .d (.tuple ds) else .nw ds) S
theorem r_rgl (tp : Bool) (src : Src) : evalE F (.rgl tp src) ρ S = (evalSrc F false src ρ S).bind (kRgl tp) := by rw [evalE]; rfl
theorem r_kRglT (ds : List D) : kRgl true ds S = .ok (.d (.tuple ds)) S := rfl
theorem r_kRglF (ds : List D) : kRgl false ds S = .ok (.nw ds) S := rfl
theorem u_sortedT (xs : List D) : b1D .sorted (.tuple xs) = none := rfl
theorem v_sortedT (xs : List D) : b1N .sorted (.tuple xs) = srtL xs (asInts xs) := rfl
-- what is walked
def okL (S : Cells) (ds : List D) : Res (List D) := .ok ds S
theorem r_okL (ds : List D) : okL S ds = .ok ds S := rfl
def kSrcIt (st : Bool) (v : EV) (S : Cells) : Res (List D) := lft ((v.srcD st).bind itemsD) (okL S)
theorem r_it (st : Bool) (e : IE) : evalSrc F st (.it e) ρ S = (evalE F e ρ S).bind (kSrcIt st) := by rw [evalSrc]; rfl
theorem r_kSrcIt (st : Bool) (v : EV) : kSrcIt st v S = lft ((v.srcD st).bind itemsD) (okL S) := rfl
def kR1b (S : Cells) (n : Int) : Res (List D) := if n.natAbs ≤ 1000000 then .ok (rangeD 0 n) S else .bad
def kR1 (v : EV) (S : Cells) : Res (List D) := lft (dInt v) (kR1b S)
theorem r_rng1 (st : Bool) (e : IE) : evalSrc F st (.rng1 e) ρ S = (evalE F e ρ S).bind kR1 := by rw [evalSrc]; rfl
theorem r_kR1 (v : EV) : kR1 v S = lft (dInt v) (kR1b S) := rfl
theorem r_kR1b (n : Int) : kR1b S n = if -1000000 ≤ n ∧ n ≤ 1000000 then .ok (rangeD 0 n) S else .bad := ite_iff (by omega)
def kR2c (S : Cells) (m n : Int) : Res (List D) := if m.natAbs ≤ 1000000 ∧ n.natAbs ≤ 1000000 then .ok (rangeD m n) S else .bad
def kR2b' (w : EV) (S : Cells) (m : Int) : Res (List D) := lft (dInt w) (kR2c S m)
def kR2b (v w : EV) (S : Cells) : Res (List D) := lft (dInt v) (kR2b' w S)
def kR2 (F : Call) (b : IE) (ρ : Env) (v : EV) (S : Cells) : Res (List D) := (evalE F b ρ S).bind (kR2b v)
theorem r_rng2 (st : Bool) (a b : IE) : evalSrc F st (.rng2 a b) ρ S = (evalE F a ρ S).bind (kR2 F b ρ) := by rw [evalSrc]; rfl
theorem r_kR2 (b : IE) (v : EV) : kR2 F b ρ v S = (evalE F b ρ S).bind (kR2b v) := rfl
theorem r_kR2b (v w : EV) : kR2b v w S = lft (dInt v) (kR2b' w S) := rfl
theorem r_kR2b' (w : EV) (m : Int) : kR2b' w S m = lft (dInt w) (kR2c S m) := rfl
theorem r_kR2c (m n : Int) : kR2c S m n = if (-1000000 ≤ m ∧ m ≤ 1000000) ∧ -1000000 ≤ n ∧ n ≤ 1000000 then .ok (rangeD m n) S else .bad := ite_iff (by omega)
def kRd2c (S : Cells) (m n : Int) : Res (List D) := if m.natAbs ≤ 1000000 ∧ n.natAbs ≤ 1000000 then .ok (rangedD m n) S else .bad
def kRd2b' (w : EV) (S : Cells) (m : Int) : Res (List D) := lft (dInt w) (kRd2c S m)
def kRd2b (v w : EV) (S : Cells) : Res (List D) := lft (dInt v) (kRd2b' w S)
def kRd2 (F : Call) (b : IE) (ρ : Env) (v : EV) (S : Cells) : Res (List D) := (evalE F b ρ S).bind (kRd2b v)
theorem r_rngd (st : Bool) (a b : IE) : evalSrc F st (.rngd a b) ρ S = (evalE F a ρ S).bind (kRd2 F b ρ) := by rw [evalSrc]; rfl
theorem r_kRd2 (b : IE) (v : EV) : kRd2 F b ρ v S = (evalE F b ρ S).bind (kRd2b v) := rfl
theorem r_kRd2b (v w : EV) : kRd2b v w S = lft (dInt v) (kRd2b' w S) := rfl
theorem r_kRd2b' (w : EV) (m : Int) : kRd2b' w S m = lft (dInt w) (kRd2c S m) := rfl
theorem r_kRd2c (m n : Int) : kRd2c S m n = if (-1000000 ≤ m ∧ m ≤ 1000000) ∧ -1000000 ≤ n ∧ n ≤ 1000000 then .ok (rangedD m n) S else .bad := ite_iff (by omega)
def kEn2 (S : Cells) (ds : List D) : Res (List D) := .ok (enumD ds) S
def kEn (st : Bool) (v : EV) (S : Cells) : Res (List D) := lft ((v.srcD st).bind itemsD) (kEn2 S)
theorem r_enum (st : Bool) (e : IE) : evalSrc F st (.enum e) ρ S = (evalE F e ρ S).bind (kEn st) := by rw [evalSrc]; rfl
theorem r_kEn (st : Bool) (v : EV) : kEn st v S = lft ((v.srcD st).bind itemsD) (kEn2 S) := rfl
theorem r_kEn2 (ds : List D) : kEn2 S ds = .ok (enumD ds) S := rfl
def kZ3 (st : Bool) (w : EV) (x : D) : Option (List D) := (w.srcD st).bind (zip2D x)
def kZ2 (st : Bool) (v w : EV) (S : Cells) : Res (List D) := lft ((v.srcD st).bind (kZ3 st w)) (okL S)
def kZ1 (F : Call) (st : Bool) (b : IE) (ρ : Env) (v : EV) (S : Cells) : Res (List D) := (evalE F b ρ S).bind (kZ2 st v)
theorem r_zip (st : Bool) (a b : IE) : evalSrc F st (.zip a b) ρ S = (evalE F a ρ S).bind (kZ1 F st b ρ) := by rw [evalSrc]; rfl
theorem r_kZ1 (st : Bool) (b : IE) (v : EV) : kZ1 F st b ρ v S = (evalE F b ρ S).bind (kZ2 st v) := rfl
theorem r_kZ2 (st : Bool) (v w : EV) : kZ2 st v w S = lft ((v.srcD st).bind (kZ3 st w)) (okL S) := rfl
theorem r_kZ3 (st : Bool) (w : EV) (x : D) : kZ3 st w x = (w.srcD st).bind (zip2D x) := rfl
theorem z_l (xs ys : List D) : zip2D (.list xs) (.list ys) = some (zipD xs ys) := rfl
theorem z_t (xs ys : List D) : zip2D (.tuple xs) (.tuple ys) = some (zipD xs ys) := rfl
theorem q_t (v : EV) : v.srcD true = v.strict := rfl
theorem q_f (v : EV) : v.srcD false = v.asD := rfl
-- statements
def kSet2 (F : Call) (tg : Tg) (ρ : Env) (S : Cells) (v : EV) : SRes := bindT F tg v ρ S
def kSet (F : Call) (tg : Tg) (ρ : Env) (v : EV) (S : Cells) : SRes := sft v.held (kSet2 F tg ρ S)
theorem x_set (tg : Tg) (e : IE) : SS.exec F (.set tg e) ρ S = (evalE F e ρ S).st ρ (kSet F tg ρ) := by rw [SS.exec]; rfl
theorem r_kSet (tg : Tg) (v : EV) : kSet F tg ρ v S = sft v.held (kSet2 F tg ρ S) := rfl
theorem r_kSet2 (tg : Tg) (v : EV) : kSet2 F tg ρ S v = bindT F tg v ρ S := rfl
def kOwn (i : Nat) (ρ : Env) (v : EV) (S : Cells) : SRes := match v with
  | .nw ds => .nx (ρ.set i (.own ds)) S
  | _ => .bad
theorem x_own (i : Nat) (e : IE) : SS.exec F (.own i e) ρ S = (evalE F e ρ S).st ρ (kOwn i ρ) := by rw [SS.exec]; rfl
theorem r_kOwn (i : Nat) (ds : List D) : kOwn i ρ (.nw ds) S = .nx (ρ.set i (.own ds)) S := rfl
def okN (S : Cells) (ρ : Env) : SRes := .nx ρ S
theorem r_okN : okN S ρ = .nx ρ S := rfl
def kPar (is : List (Nat × Bool)) (ρ : Env) (vs : List EV) (S : Cells) : SRes := sft (parSet is vs ρ) (okN S)
theorem x_par (is : List (Nat × Bool)) (es : IEs) : SS.exec F (.par is es) ρ S = (evalEs F es ρ S).st ρ (kPar is ρ) := by rw [SS.exec]; rfl
theorem r_kPar (is : List (Nat × Bool)) (vs : List EV) : kPar is ρ vs S = sft (parSet is vs ρ) (okN S) := rfl
theorem y_n : parSet [] [] ρ = some ρ := rfl
theorem y_t (i : Nat) (is : List (Nat × Bool)) (ds : List D) (vs : List EV) : parSet ((i, true) :: is) (.nw ds :: vs) ρ = parSet is vs (ρ.set i (.own ds)) := rfl
def kps (i : Nat) (is : List (Nat × Bool)) (vs : List EV) (ρ : Env) (x : EV) : Option Env := parSet is vs (ρ.set i (.v x))
theorem y_f (i : Nat) (is : List (Nat × Bool)) (v : EV) (vs : List EV) : parSet ((i, false) :: is) (v :: vs) ρ = v.held.bind (kps i is vs ρ) := rfl
theorem r_kps (i : Nat) (is : List (Nat × Bool)) (vs : List EV) (x : EV) : kps i is vs ρ x = parSet is vs (ρ.set i (.v x)) := rfl
def kExpr (ρ : Env) (_ : EV) (S : Cells) : SRes := .nx ρ S
theorem x_expr (e : IE) : SS.exec F (.expr e) ρ S = (evalE F e ρ S).st ρ (kExpr ρ) := by rw [SS.exec]; rfl
theorem r_kExpr (v : EV) : kExpr ρ v S = .nx ρ S := rfl
def kApp3 (i : Nat) (ds : List D) (ρ : Env) (S : Cells) (d : D) : SRes := if ds.length < lim then .nx (ρ.set i (.own (ds ++ [d]))) S else .bad
def kApp2 (i : Nat) (ds : List D) (ρ : Env) (v : EV) (S : Cells) : SRes := sft v.strict (kApp3 i ds ρ S)
def gApp (F : Call) (i : Nat) (e : IE) (ρ : Env) (S : Cells) : Option SV → SRes
  | some (.own ds) => (evalE F e ρ S).st ρ (kApp2 i ds ρ)
  | _ => .bad
def kPop4 (i j : Nat) (ds : List D) (ρ : Env) (S : Cells) (p : D × List D) : SRes := if ds.length < lim ∧ i ≠ j then .nx ((ρ.set j (.own p.2)).set i (.own (ds ++ [p.1]))) S else .bad
def kPop3 (i j : Nat) (ds es : List D) (ρ : Env) (S : Cells) (k : Int) : SRes := sft (popAt es k) (kPop4 i j ds ρ S)
def kPop2 (i j : Nat) (ds es : List D) (ρ : Env) (v : EV) (S : Cells) : SRes := sft (dInt v) (kPop3 i j ds es ρ S)
def gPopA (F : Call) (i j : Nat) (e : IE) (ρ : Env) (S : Cells) : Option SV → Option SV → SRes
  | some (.own ds), some (.own es) => (evalE F e ρ S).st ρ (kPop2 i j ds es ρ)
  | _, _ => .bad
theorem x_popA (i j : Nat) (e : IE) : SS.exec F (.popA i j e) ρ S = gPopA F i j e ρ S ρ[i]? ρ[j]? := by rw [SS.exec]; rfl
theorem r_gPopA (i j : Nat) (e : IE) (ds es : List D) : gPopA F i j e ρ S (some (.own ds)) (some (.own es)) = (evalE F e ρ S).st ρ (kPop2 i j ds es ρ) := rfl
theorem r_kPop2 (i j : Nat) (ds es : List D) (v : EV) : kPop2 i j ds es ρ v S = sft (dInt v) (kPop3 i j ds es ρ S) := rfl
theorem r_kPop3 (i j : Nat) (ds es : List D) (k : Int) : kPop3 i j ds es ρ S k = sft (popAt es k) (kPop4 i j ds ρ S) := rfl
theorem r_kPop4 (i j : Nat) (ds : List D) (p : D × List D) : kPop4 i j ds ρ S p = if ds.length < lim ∧ i ≠ j then .nx ((ρ.set j (.own p.2)).set i (.own (ds ++ [p.1]))) S else .bad := rfl
theorem x_app (i : Nat) (e : IE) : SS.exec F (.app i e) ρ S = gApp F i e ρ S ρ[i]? := by rw [SS.exec]; rfl
theorem r_gApp (i : Nat) (e : IE) (ds : List D) : gApp F i e ρ S (some (.own ds)) = (evalE F e ρ S).st ρ (kApp2 i ds ρ) := rfl
theorem r_kApp2 (i : Nat) (ds : List D) (v : EV) : kApp2 i ds ρ v S = sft v.strict (kApp3 i ds ρ S) := rfl
theorem r_kApp3 (i : Nat) (ds : List D) (d : D) : kApp3 i ds ρ S d = if ds.length < lim then .nx (ρ.set i (.own (ds ++ [d]))) S else .bad := rfl
def kExt3 (i : Nat) (ds : List D) (ρ : Env) (S : Cells) (es : List D) : SRes := if ds.length + es.length ≤ lim then .nx (ρ.set i (.own (ds ++ es))) S else .bad
def kExt2 (i : Nat) (ds : List D) (ρ : Env) (v : EV) (S : Cells) : SRes := sft (v.strict.bind listD) (kExt3 i ds ρ S)
def gExt (F : Call) (i : Nat) (e : IE) (ρ : Env) (S : Cells) : Option SV → SRes
  | some (.own ds) => (evalE F e ρ S).st ρ (kExt2 i ds ρ)
  | _ => .bad
theorem x_ext (i : Nat) (e : IE) : SS.exec F (.ext i e) ρ S = gExt F i e ρ S ρ[i]? := by rw [SS.exec]; rfl
theorem r_gExt (i : Nat) (e : IE) (ds : List D) : gExt F i e ρ S (some (.own ds)) = (evalE F e ρ S).st ρ (kExt2 i ds ρ) := rfl
theorem r_kExt2 (i : Nat) (ds : List D) (v : EV) : kExt2 i ds ρ v S = sft (v.strict.bind listD) (kExt3 i ds ρ S) := rfl
theorem r_kExt3 (i : Nat) (ds es : List D) : kExt3 i ds ρ S es = if ds.length + es.length ≤ lim then .nx (ρ.set i (.own (ds ++ es))) S else .bad := rfl
def kRet (v : EV) (S : Cells) : SRes := .ret (retV v) S
theorem x_ret (e : IE) : SS.exec F (.ret e) ρ S = (evalE F e ρ S).st ρ kRet := by rw [SS.exec]; rfl
theorem r_kRet (v : EV) : kRet v S = .ret (retV v) S := rfl
theorem v_d (x : D) : retV (.d x) = .d x := rfl
theorem v_n (x : List D) : retV (.nw x) = .nw x := rfl
theorem v_p (x : List D) : retV (.pk x) = .nw x := rfl
theorem v_c (x : Nat) : retV (.cell x) = .cell x := rfl
theorem x_retN : SS.exec F .retN ρ S = .ret (.d .none) S := by rw [SS.exec]
def kRaise (c : Str) (ρ : Env) (v : EV) (S : Cells) : SRes := sft v.held fun v => sft (match v with | .d d => some d | _ => none) fun d => .exc c d ρ S
theorem x_raise (c : Str) (e : IE) : SS.exec F (.raise c e) ρ S = (evalE F e ρ S).st ρ (kRaise c ρ) := by rw [SS.exec]; rfl
theorem r_kRaise (c : Str) (d : D) : kRaise c ρ (.d d) S = .exc c d ρ S := rfl
theorem r_kRaiseN (c : Str) (ds : List D) : kRaise c ρ (.nw ds) S = .exc c (.list ds) ρ S := rfl
theorem x_raise0 (c : Str) : SS.exec F (.raise0 c) ρ S = .exc c .none ρ S := by rw [SS.exec]
def kHear (t : HrT) (r : Res EV) : Res EV := match r with
  | .ok v S' => if t.told then lft v.strict fun d => .ok (.nw [.str t.ok, d]) S' else .ok (.nw [.str t.ok]) S'
  | .exc c x S' => lft (t.tb.lookup c) fun p => .ok (.nw (shownH .str (.bool true) p.2 p.1 x)) S'
  | .bad => .bad
theorem r_hear (h : Str) (t : HrT) (b : IE) : evalE F (.hear h t none b) ρ S = kHear t (evalE F b ρ S) := by rw [evalE]; rfl
theorem x_pass : SS.exec F .pass ρ S = .nx ρ S := by rw [SS.exec]
theorem x_never : SS.exec F .never ρ S = .bad := by rw [SS.exec]
def kIf2 (F : Call) (a b : ISs) (ρ : Env) (S : Cells) (c : Bool) : SRes := if c then SS.execs F a ρ S else SS.execs F b ρ S
def kIf (F : Call) (a b : ISs) (ρ : Env) (v : EV) (S : Cells) : SRes := sft (dBool v) (kIf2 F a b ρ S)
theorem x_ite (c : IE) (a b : ISs) : SS.exec F (.ite c a b) ρ S = (evalE F c ρ S).st ρ (kIf F a b ρ) := by rw [SS.exec]; rfl
theorem r_kIf (a b : ISs) (v : EV) : kIf F a b ρ v S = sft (dBool v) (kIf2 F a b ρ S) := rfl
theorem r_kIf2 (a b : ISs) (c : Bool) : kIf2 F a b ρ S c = if c then SS.execs F a ρ S else SS.execs F b ρ S := rfl
def kBody (F : Call) (body : ISs) (ρ : Env) (S : Cells) : SRes := SS.execs F body ρ S
def fBody (F : Call) (tg : Tg) (body : ISs) (x : D) (ρ : Env) (S : Cells) : SRes := (bindT F tg (.d x) ρ S).thn (kBody F body)
def kFor (F : Call) (tg : Tg) (body : ISs) (ρ : Env) (ds : List D) (S : Cells) : SRes := forLoop (fBody F tg body) ds ρ S
theorem x_for (tg : Tg) (src : Src) (body : ISs) : SS.exec F (.for tg src body) ρ S = (evalSrc F true src ρ S).st ρ (kFor F tg body ρ) := by rw [SS.exec]; rfl
theorem r_kFor (tg : Tg) (body : ISs) (ds : List D) : kFor F tg body ρ ds S = forLoop (fBody F tg body) ds ρ S := rfl
theorem r_fBody (tg : Tg) (body : ISs) (x : D) : fBody F tg body x ρ S = (bindT F tg (.d x) ρ S).thn (kBody F body) := rfl
theorem r_kBody (body : ISs) : kBody F body ρ S = SS.execs F body ρ S := rfl
def kCond (F : Call) (c : IE) (ρ : Env) (S : Cells) : Res EV := evalE F c ρ S
theorem r_kCond (c : IE) : kCond F c ρ S = evalE F c ρ S := rfl
theorem x_whil (n : Nat) (c : IE) (body : ISs) : SS.exec F (.whil n c body) ρ S = whileLoop (kCond F c) (kBody F body) n ρ S := by rw [SS.exec]; rfl
def gFrz (i : Nat) (ρ : Env) (S : Cells) : Option SV → SRes
  | some (.own ds) => .nx (ρ.set i (.v (.d (.list ds)))) S
  | _ => .bad
theorem x_frz (i : Nat) : SS.exec F (.frz i) ρ S = gFrz i ρ S ρ[i]? := by rw [SS.exec]; rfl
theorem r_gFrz (i : Nat) (ds : List D) : gFrz i ρ S (some (.own ds)) = .nx (ρ.set i (.v (.d (.list ds)))) S := rfl
def kSeq (F : Call) (ss : ISs) (ρ : Env) (S : Cells) : SRes := SS.execs F ss ρ S
theorem x_nil : SS.execs F .nil ρ S = .nx ρ S := by rw [SS.execs]
theorem x_cons (s : IS) (ss : ISs) : SS.execs F (.cons s ss) ρ S = (SS.exec F s ρ S).thn (kSeq F ss) := by rw [SS.execs]; rfl
theorem r_kSeq (ss : ISs) : kSeq F ss ρ S = SS.execs F ss ρ S := rfl
-- targets
theorem b_nm (i : Nat) (v : EV) : bindT F (.nm i) v ρ S = .nx (ρ.set i (.v v)) S := by rw [bindT]
theorem b_tup (ts : Tgs) (xs : List D) : bindT F (.tup ts) (.d (.tuple xs)) ρ S = if xs.length = ts.len then bindTs F ts xs ρ S else .bad := by rw [bindT]
def kSub3 (ρ : Env) (S : Cells) : SRes := .nx ρ S
theorem r_kSub3 : kSub3 ρ S = .nx ρ S := rfl
def kSub2 (v : EV) (c : EV) (ρ : Env) (j : EV) (S : Cells) : SRes := match c, j, v with
  | .cell n, .d (.int j), .d d => sft (setCell S n j d) (kSub3 ρ)
  | _, _, _ => .bad
def kSub1 (F : Call) (i : IE) (v : EV) (ρ : Env) (c : EV) (S : Cells) : SRes := (evalE F i ρ S).st ρ (kSub2 v c ρ)
theorem b_sub (o i : IE) (v : EV) : bindT F (.sub o i) v ρ S = (evalE F o ρ S).st ρ (kSub1 F i v ρ) := by
  rw [bindT]
  congr 1
theorem r_kSub1 (i : IE) (v c : EV) : kSub1 F i v ρ c S = (evalE F i ρ S).st ρ (kSub2 v c ρ) := rfl
theorem r_kSub2 (d : D) (n : Nat) (j : Int) : kSub2 (.d d) (.cell n) ρ (.d (.int j)) S = sft (setCell S n j d) (kSub3 ρ) := rfl
def kOs3 (s : Nat) (ds : List D) (d : D) (ρ : Env) (S : Cells) (k : Nat) : SRes := .nx (ρ.set s (.own (ds.set k d))) S
def kOs2 (s : Nat) (ds : List D) (v : EV) (ρ : Env) (j : EV) (S : Cells) : SRes := match j, v with
  | .d (.int j), .d d => sft (L2.ixN ds.length j) (kOs3 s ds d ρ S)
  | _, _ => .bad
def gOs (F : Call) (s : Nat) (i : IE) (v : EV) (ρ : Env) (S : Cells) : Option SV → SRes
  | some (.own ds) => (evalE F i ρ S).st ρ (kOs2 s ds v ρ)
  | _ => .bad
theorem b_osub (s : Nat) (i : IE) (v : EV) : bindT F (.osub s i) v ρ S = gOs F s i v ρ S ρ[s]? := by
  rw [bindT]
  rfl
theorem r_gOs (s : Nat) (i : IE) (v : EV) (ds : List D) : gOs F s i v ρ S (some (.own ds)) = (evalE F i ρ S).st ρ (kOs2 s ds v ρ) := rfl
theorem r_kOs2 (s : Nat) (ds : List D) (d : D) (j : Int) : kOs2 s ds (.d d) ρ (.d (.int j)) S = sft (L2.ixN ds.length j) (kOs3 s ds d ρ S) := rfl
theorem r_kOs3 (s : Nat) (ds : List D) (d : D) (k : Nat) : kOs3 s ds d ρ S k = .nx (ρ.set s (.own (ds.set k d))) S := rfl
theorem b_nil : bindTs F .nil [] ρ S = .nx ρ S := by rw [bindTs]
def kBts (F : Call) (ts : Tgs) (xs : List D) (ρ : Env) (S : Cells) : SRes := bindTs F ts xs ρ S
theorem b_cons (t : Tg) (ts : Tgs) (x : D) (xs : List D) : bindTs F (.cons t ts) (x :: xs) ρ S = (bindT F t (.d x) ρ S).thn (kBts F ts xs) := by rw [bindTs]; rfl
theorem r_kBts (ts : Tgs) (xs : List D) : kBts F ts xs ρ S = bindTs F ts xs ρ S := rfl
theorem l_n : Tgs.len .nil = 0 := rfl
theorem l_c (t : Tg) (ts : Tgs) : Tgs.len (.cons t ts) = ts.len + 1 := rfl
theorem st_eq (n : Nat) (vs : List EV) : startE n vs = vs.map SV.v ++ List.replicate (n - vs.length) SV.un := rfl
end SS

end

section
set_option linter.all false
set_option autoImplicit false
set_option maxRecDepth 100000
/-! Places in lists, small facts. -/
namespace SS
open PySem
theorem lim_eq : lim = 1000000 := rfl
theorem at_nat {α : Type} (xs : List α) (n : Nat) : atD xs (n : Int) = xs[n]? := by
  unfold atD L2.atI L2.ixN
  by_cases h : n < xs.length
  · rw [if_pos (by omega), if_pos (by omega)]
    simp
  · rw [if_pos (by omega), if_neg (by omega), List.getElem?_eq_none (by omega)]
    rfl
theorem at0 {α : Type} (xs : List α) : atD xs 0 = xs[0]? := at_nat xs 0
theorem at1 {α : Type} (xs : List α) : atD xs 1 = xs[1]? := at_nat xs 1
theorem at2 {α : Type} (xs : List α) : atD xs 2 = xs[2]? := at_nat xs 2
theorem at3 {α : Type} (xs : List α) : atD xs 3 = xs[3]? := at_nat xs 3
theorem at4 {α : Type} (xs : List α) : atD xs 4 = xs[4]? := at_nat xs 4
theorem at5 {α : Type} (xs : List α) : atD xs 5 = xs[5]? := at_nat xs 5
/-- x[i] = d in a shared list, i a place -/
theorem set_nat {S : Cells} {n : Nat} {ds : List D} (h : S[n]? = some ds) {j : Int} {d : D} (h0 : 0 ≤ j) (h1 : j < ds.length) : setCell S n j d = some (S.set n (ds.set j.toNat d)) := by
  unfold setCell L2.ixN
  rw [h]
  simp [h0, h1]
theorem set3_0 {S : Cells} {c : Nat} {x y z d : D} (h : S[c]? = some [x, y, z]) : setCell S c 0 d = some (S.set c [d, y, z]) := by
  unfold setCell
  rw [h]
  rfl
theorem set3_1 {S : Cells} {c : Nat} {x y z d : D} (h : S[c]? = some [x, y, z]) : setCell S c 1 d = some (S.set c [x, d, z]) := by
  unfold setCell
  rw [h]
  rfl
theorem set3_2 {S : Cells} {c : Nat} {x y z d : D} (h : S[c]? = some [x, y, z]) : setCell S c 2 d = some (S.set c [x, y, d]) := by
  unfold setCell
  rw [h]
  rfl
theorem at_lt {S : Cells} {c : Nat} {ds : List D} (h : S[c]? = some ds) : c < S.length := by
  rcases Nat.lt_or_ge c S.length with q | q
  · exact q
  · rw [List.getElem?_eq_none q] at h; cases h
theorem loop_to {f : D → Env → Cells → SRes} {ds : List D} {ρ : Env} {S : Cells} {r : SRes} (hr : forLoop f ds ρ S = r) (P : Nat → Env → Cells → Prop) (h : P 0 ρ S) (st : ∀ (i : Nat) (x : D) (ρ : Env) (S : Cells), ds[i]? = some x → P i ρ S → ∃ ρ' S', f x ρ S = .nx ρ' S' ∧ P (i + 1) ρ' S') : ∃ ρ' S', r = .nx ρ' S' ∧ P ds.length ρ' S' := by
  rw [← hr]
  exact forLoop_of P h st
/-- what a comprehension makes of cells and items, step by step -/
theorem comp_to {f : D → Cells → Res (Option D)} {ds : List D} {S : Cells} {r : Res (List D)} (hr : compLoop f ds S = r) (P : Cells → Prop) (R : D → Prop) (h : P S) (st : ∀ x ∈ ds, ∀ S, P S → ∃ d S', f x S = .ok (some d) S' ∧ R d ∧ P S') : ∃ rs S', r = .ok rs S' ∧ rs.length = ds.length ∧ (∀ d ∈ rs, R d) ∧ P S' := by
  rw [← hr]
  exact compLoop_st h st
theorem mem_range {m n : Int} {x : D} (h : x ∈ rangeD m n) : ∃ i : Int, x = .int i ∧ m ≤ i ∧ i < n := by
  unfold rangeD at h
  obtain ⟨a, ha, rfl⟩ := List.mem_map.mp h
  rw [List.mem_range] at ha
  exact ⟨_, rfl, by omega, by omega⟩
theorem range_at {m n : Int} {i : Nat} {x : D} (h : (rangeD m n)[i]? = some x) : x = .int (m + i) ∧ m + i < n := by
  unfold rangeD at h
  rw [List.getElem?_map] at h
  cases e : (List.range (n - m).toNat)[i]? with
  | none => rw [e] at h; cases h
  | some a =>
    rw [e] at h
    obtain ⟨h1, h2⟩ := List.getElem?_eq_some_iff.mp e
    rw [List.length_range] at h1
    rw [List.getElem_range] at h2
    subst h2
    cases h
    exact ⟨rfl, by omega⟩
theorem mem_ranged {m n : Int} {x : D} (h : x ∈ rangedD m n) : ∃ i : Int, x = .int i ∧ n < i ∧ i ≤ m := by
  unfold rangedD at h
  obtain ⟨k, hk, rfl⟩ := List.mem_map.mp h
  rw [List.mem_range] at hk
  exact ⟨_, rfl, by omega, by omega⟩
theorem ranged_at {m n : Int} {i : Nat} {x : D} (h : (rangedD m n)[i]? = some x) : x = .int (m - i) ∧ n < m - i := by
  have hl : i < (rangedD m n).length := by
    rcases Nat.lt_or_ge i (rangedD m n).length with q | q
    · exact q
    · rw [List.getElem?_eq_none q] at h; cases h
  unfold rangedD at h hl
  rw [List.length_map, List.length_range] at hl
  rw [List.getElem?_map, List.getElem?_range hl] at h
  cases h
  exact ⟨rfl, by omega⟩
theorem ranged_length (m n : Int) : (rangedD m n).length = (m - n).toNat := by
  unfold rangedD
  rw [List.length_map, List.length_range]
theorem range_length (m n : Int) : (rangeD m n).length = (n - m).toNat := by
  unfold rangeD
  rw [List.length_map, List.length_range]
theorem cut_map (ns : List Int) (a b : Option Int) : ∃ ms : List Int, cutD (ns.map PyData.int) a b = ms.map PyData.int := by
  unfold cutD
  rw [← List.map_drop, ← List.map_take]
  exact ⟨_, rfl⟩
theorem abs_mod {x m : Int} (h0 : 0 < m) (h : m ≤ 18446744073709551616) : (x % m).natAbs < 18446744073709551616 := by
  have h1 := Int.emod_nonneg x (show m ≠ 0 by omega)
  have h2 := Int.emod_lt_of_pos x h0
  omega
/-- a pail: a list of three whole numbers, none below 0, that defs share -/
def Pail (S : Cells) (c : Nat) : Prop := ∃ a b n : Int, S[c]? = some [.int a, .int b, .int n] ∧ 0 ≤ a ∧ 0 ≤ b ∧ 0 ≤ n
theorem Pail.set {S : Cells} {c : Nat} {a b n : Int} (h : c < S.length) (ha : 0 ≤ a) (hb : 0 ≤ b) (hn : 0 ≤ n) : Pail (S.set c [.int a, .int b, .int n]) c := ⟨a, b, n, List.getElem?_set_self h, ha, hb, hn⟩
theorem Pail.new {S : Cells} {a b : Int} (ha : 0 ≤ a) (hb : 0 ≤ b) : Pail (S ++ [[.int a, .int b, .int 0]]) S.length := ⟨a, b, 0, by simp, ha, hb, Int.le_refl _⟩
end SS

end

section
set_option linter.all false
set_option autoImplicit false
set_option maxRecDepth 100000
/-! Fields as data. -/
namespace SS
open PySem
def tupI (s : List Int) : D := .tuple (s.map .int)
def fieldD (f : List (List Int)) : D := .tuple (f.map tupI)
structure StrOk (s : List Int) : Prop where
  n0 : 1 ≤ s.length
  n8 : s.length ≤ 8
  at99 : ∀ x ∈ s, 0 ≤ x ∧ x ≤ 99
structure FieldOk (f : List (List Int)) : Prop where
  n0 : 1 ≤ f.length
  n8 : f.length ≤ 8
  str : ∀ s ∈ f, StrOk s
  tot : (f.map List.length).sum ≤ 24
theorem ints_of {p : Int → Prop} : ∀ {rs : List D}, (∀ d ∈ rs, ∃ i, d = .int i ∧ p i) → ∃ s : List Int, rs = s.map .int ∧ s.length = rs.length ∧ ∀ x ∈ s, p x
  | [], _ => ⟨[], rfl, rfl, fun x m => by cases m⟩
  | d :: r, h => by
    obtain ⟨i, rfl, hi⟩ := h d List.mem_cons_self
    obtain ⟨s, rfl, l, hs⟩ := ints_of (rs := r) fun e m => h e (List.mem_cons_of_mem _ m)
    exact ⟨i :: s, rfl, by rw [List.length_cons, List.length_cons, l], fun x m => by
      rcases List.mem_cons.mp m with m | m
      · rw [m]; exact hi
      · exact hs x m⟩
theorem asInts_map : ∀ s : List Int, asInts (s.map .int) = some s
  | [] => rfl
  | x :: r => by
    show (asInts (r.map .int)).map (x :: ·) = _
    rw [asInts_map r]
    rfl
theorem asBools_map : ∀ s : List Bool, asBools (s.map .bool) = some s
  | [] => rfl
  | x :: r => by
    show (asBools (r.map .bool)).map (x :: ·) = _
    rw [asBools_map r]
    rfl
theorem len_sum : ∀ {f : List (List Int)}, (∀ s ∈ f, StrOk s) → f.length ≤ (f.map List.length).sum
  | [], _ => Nat.le_refl _
  | a :: r, h => by
    have h1 := (h a List.mem_cons_self).n0
    have h2 := len_sum (f := r) fun s m => h s (List.mem_cons_of_mem _ m)
    simp only [List.length_cons, List.map_cons, List.sum_cons]
    omega
end SS

end

section
set_option linter.all false
set_option autoImplicit false
set_option maxRecDepth 100000
/-! Data that repr shows. -/
namespace SS
open PySem
/-- n deep at most, m heavy at most -/
structure Rp (n m : Nat) (d : D) : Prop where
  lay : d.canLay0 = true
  sh : d.showable = true
  sm : d.intsShort 70 = true
  dp : d.depth ≤ n
  wt : d.weight ≤ m
theorem Rp.mono {n m n' m' : Nat} {d : D} (h : Rp n m d) (h1 : n ≤ n' := by omega) (h2 : m ≤ m' := by omega) : Rp n' m' d := ⟨h.lay, h.sh, h.sm, by have := h.dp; omega, by have := h.wt; omega⟩
theorem Rp.ok {d : D} (h : Rp 64 65536 d) : reprOk d = true := by
  unfold reprOk
  simp only [Bool.and_eq_true, decide_eq_true_eq]
  exact ⟨⟨⟨⟨h.lay, h.sh⟩, h.dp⟩, h.sm⟩, h.wt⟩
theorem Rp.int {i : Int} (h : -999999999999 ≤ i) (h2 : i ≤ 999999999999) : Rp 0 64 (.int i) where
  lay := by simp only [PyData.canLay0]
  sh := by
    simp only [PyData.showable, decide_eq_true_eq]
    have : i.natAbs < 2 ^ 64 := by omega
    by_cases z : i.natAbs = 0
    · rw [z]; decide
    · have := (Nat.log2_lt z).mpr this
      omega
  sm := by
    simp only [PyData.intsShort, decide_eq_true_eq]
    exact Nat.le_trans (PyData.shown_int_le2 (by omega) (by omega)) (by decide : 13 ≤ 70)
  dp := by simp only [PyData.depth]; omega
  wt := by
    simp only [PyData.weight]
    split
    · omega
    · have : i.natAbs < 2 ^ 63 := by omega
      by_cases z : i.natAbs = 0
      · rw [z]; decide
      · have := (Nat.log2_lt z).mpr this
        omega
theorem Rp.bool (b : Bool) : Rp 0 64 (.bool b) := ⟨by simp only [PyData.canLay0], by simp only [PyData.showable], by simp only [PyData.intsShort], by simp only [PyData.depth]; omega, by simp only [PyData.weight]; omega⟩
theorem Rp.none : Rp 0 64 .none := ⟨by simp only [PyData.canLay0], by simp only [PyData.showable], by simp only [PyData.intsShort], by simp only [PyData.depth]; omega, by simp only [PyData.weight]; omega⟩
theorem Rp.all {n m : Nat} : ∀ {ds : List D}, (∀ d ∈ ds, Rp n m d) → PyData.canLayAll0 ds = true ∧ PyData.showableAll ds = true ∧ PyData.intsShortAll 70 ds = true ∧ PyData.depthAll ds ≤ n ∧ PyData.weightAll ds ≤ ds.length * (m + 1)
  | [], _ => ⟨by simp only [PyData.canLayAll0], by simp only [PyData.showableAll], by simp only [PyData.intsShortAll], by simp only [PyData.depthAll]; omega, by simp only [PyData.weightAll]; omega⟩
  | d :: ds, h => by
    have hd := h d List.mem_cons_self
    obtain ⟨h1, h2, h3, h4, h5⟩ := Rp.all (ds := ds) fun e m => h e (List.mem_cons_of_mem _ m)
    refine ⟨by simp only [PyData.canLayAll0, hd.lay, h1, Bool.and_self], by simp only [PyData.showableAll, hd.sh, h2, Bool.and_self], by simp only [PyData.intsShortAll, hd.sm, h3, Bool.and_self], ?_, ?_⟩
    · have := hd.dp
      simp only [PyData.depthAll]
      omega
    · have := hd.wt
      simp only [PyData.weightAll, List.length_cons, Nat.succ_mul]
      omega
theorem Rp.list {n m l : Nat} {ds : List D} (h : ∀ d ∈ ds, Rp n m d) (hl : ds.length ≤ l) : Rp (n + 1) (l * (m + 1)) (.list ds) := by
  obtain ⟨h1, h2, h3, h4, h5⟩ := Rp.all h
  refine ⟨by simp only [PyData.canLay0, h1], by simp only [PyData.showable, h2], by simp only [PyData.intsShort, h3], by simp only [PyData.depth]; omega, ?_⟩
  simp only [PyData.weight]
  exact Nat.le_trans h5 (Nat.mul_le_mul_right _ hl)
theorem Rp.tuple {n m l : Nat} {ds : List D} (h : ∀ d ∈ ds, Rp n m d) (hl : ds.length ≤ l) : Rp (n + 1) (l * (m + 1)) (.tuple ds) := by
  obtain ⟨h1, h2, h3, h4, h5⟩ := Rp.all h
  refine ⟨by simp only [PyData.canLay0, h1], by simp only [PyData.showable, h2], by simp only [PyData.intsShort, h3], by simp only [PyData.depth]; omega, ?_⟩
  simp only [PyData.weight]
  exact Nat.le_trans h5 (Nat.mul_le_mul_right _ hl)
theorem comp_map_to {f : D → Cells → Res (Option D)} {ds : List D} {S : Cells} {r : Res (List D)} (hr : compLoop f ds S = r) (g : D → D) (h : ∀ x ∈ ds, f x S = .ok (some (g x)) S) : r = .ok (ds.map g) S := by
  rw [← hr]
  exact compLoop_map h
theorem asBools_const : ∀ ds : List D, asBools (ds.map fun _ => PyData.bool true) = some (ds.map fun _ => true)
  | [] => rfl
  | x :: r => by
    show (asBools (r.map fun _ => PyData.bool true)).map (true :: ·) = _
    rw [asBools_const r]
    rfl
theorem all_const : ∀ ds : List D, (ds.map fun _ => true).all id = true
  | [] => rfl
  | _ :: r => by simp
/-- how long the strings are -/
theorem tups_at {f : List (List Int)} {x : D} (h : x ∈ f.map tupI) : ∃ s ∈ f, x = tupI s := by
  obtain ⟨s, m, rfl⟩ := List.mem_map.mp h
  exact ⟨s, m, rfl⟩
/-- the panels as pairs, strings from i on -/
def panD (i : Nat) : List (List Int) → List D
  | [] => []
  | s :: r => (rangeD 0 s.length).map (fun p => PyData.tuple [.int (i : Nat), p]) ++ panD (i + 1) r
theorem panD_snoc : ∀ (l : List (List Int)) (i : Nat) (s : List Int), panD i (l ++ [s]) = panD i l ++ (rangeD 0 s.length).map (fun p => PyData.tuple [.int ((i + l.length : Nat) : Int), p])
  | [], i, s => by simp [panD]
  | a :: r, i, s => by
    show (rangeD 0 a.length).map _ ++ panD (i + 1) (r ++ [s]) = _
    rw [panD_snoc r (i + 1) s]
    show _ = ((rangeD 0 a.length).map _ ++ panD (i + 1) r) ++ _
    rw [List.append_assoc, List.length_cons, show i + 1 + r.length = i + (r.length + 1) by omega]
theorem panD_len : ∀ (l : List (List Int)) (i : Nat), (panD i l).length = (l.map List.length).sum
  | [], i => rfl
  | a :: r, i => by
    show ((rangeD 0 a.length).map _ ++ panD (i + 1) r).length = _
    rw [List.length_append, List.length_map, range_length, panD_len r (i + 1), List.map_cons, List.sum_cons]
    omega
theorem panD_mem : ∀ (l : List (List Int)) (i : Nat) {x : D}, x ∈ panD i l → ∃ a b : Int, x = .tuple [.int a, .int b] ∧ (i : Int) ≤ a ∧ a < i + l.length ∧ 0 ≤ b ∧ b < (l.map List.length).sum
  | [], i, x, h => by cases h
  | s :: r, i, x, h => by
    have h : x ∈ (rangeD 0 s.length).map (fun p => PyData.tuple [.int (i : Nat), p]) ++ panD (i + 1) r := h
    rcases List.mem_append.mp h with m | m
    · obtain ⟨p, hp, rfl⟩ := List.mem_map.mp m
      obtain ⟨y, rfl, h1, h2⟩ := mem_range hp
      refine ⟨i, y, rfl, Int.le_refl _, ?_, h1, ?_⟩
      · rw [List.length_cons]; omega
      · rw [List.map_cons, List.sum_cons]; omega
    · obtain ⟨a, b, rfl, h1, h2, h3, h4⟩ := panD_mem r (i + 1) m
      refine ⟨a, b, rfl, by omega, ?_, h3, ?_⟩
      · rw [List.length_cons]; omega
      · rw [List.map_cons, List.sum_cons]; omega
def lenOf : D → D
  | .tuple xs => .int xs.length
  | .list xs => .int xs.length
  | _ => .none
def lensI (f : List (List Int)) : List Int := f.map fun s => (s.length : Int)
theorem lensI_length (f : List (List Int)) : (lensI f).length = f.length := List.length_map _
theorem lensI_sum : ∀ f : List (List Int), (lensI f).sum = (((f.map List.length).sum : Nat) : Int)
  | [] => rfl
  | a :: r => by
    show (a.length : Int) + (lensI r).sum = _
    rw [lensI_sum r, List.map_cons, List.sum_cons]
    omega
theorem lens_map : ∀ f : List (List Int), (f.map tupI).map lenOf = (lensI f).map .int
  | [] => rfl
  | a :: r => by
    show lenOf (tupI a) :: (r.map tupI).map lenOf = .int a.length :: (lensI r).map .int
    rw [lens_map r]
    simp [lenOf, tupI]
theorem lens_le {f : List (List Int)} (h : ∀ s ∈ f, StrOk s) {i : Int} (m : i ∈ lensI f) : 1 ≤ i ∧ i ≤ 8 := by
  obtain ⟨s, hs, rfl⟩ := List.mem_map.mp m
  have := (h s hs).n0
  have := (h s hs).n8
  exact ⟨by omega, by omega⟩
theorem enum_len {f : List (List Int)} : (enumD (f.map tupI)).length = f.length := by
  rw [enumD_len, List.length_map]
theorem enum_at {f : List (List Int)} {i : Nat} {x : D} (h : (enumD (f.map tupI))[i]? = some x) : ∃ s, f[i]? = some s ∧ x = .tuple [.int (i : Nat), tupI s] := by
  have hl : i < f.length := by
    rcases Nat.lt_or_ge i (enumD (f.map tupI)).length with q | q
    · rw [enum_len] at q; exact q
    · rw [List.getElem?_eq_none q] at h; cases h
  have e : (f.map tupI)[i]? = some (tupI f[i]) := by rw [List.getElem?_map, List.getElem?_eq_getElem hl]; rfl
  rw [enumD_at e] at h
  cases h
  exact ⟨_, List.getElem?_eq_getElem hl, rfl⟩
theorem take_sum : ∀ (i : Nat) (f : List (List Int)), ((f.take i).map List.length).sum ≤ (f.map List.length).sum
  | 0, f => by simp
  | i + 1, [] => by simp
  | i + 1, a :: r => by
    have := take_sum i r
    simp only [List.take_succ_cons, List.map_cons, List.sum_cons]
    omega
theorem items_field (f : List (List Int)) : itemsD (fieldD f) = some (f.map tupI) := rfl
theorem rp_str {s : List Int} (h : ∀ x ∈ s, -1000 ≤ x ∧ x ≤ 1000) (hl : s.length ≤ 8) : Rp 1 520 (tupI s) := by
  have : Rp 1 (8 * 65) (tupI s) := Rp.tuple (n := 0) (m := 64) (fun d hd => by
    obtain ⟨x, hx, rfl⟩ := List.mem_map.mp hd
    have := h x hx
    exact Rp.int (by omega) (by omega)) (by rw [List.length_map]; exact hl)
  exact this
theorem rp_pan {f : List (List Int)} (h : FieldOk f) {d : D} (m : d ∈ panD 0 f) : Rp 1 130 d := by
  obtain ⟨a, b, rfl, h1, h2, h3, h4⟩ := panD_mem f 0 m
  have h8 := h.n8
  have h24 := h.tot
  have : Rp 1 (2 * 65) (.tuple [.int a, .int b]) := Rp.tuple (n := 0) (m := 64) (fun d hd => by
    rcases List.mem_cons.mp hd with e | e
    · rw [e]; exact Rp.int (by omega) (by omega)
    · rw [List.mem_singleton.mp e]; exact Rp.int (by omega) (by omega)) (by simp)
  exact this
theorem all_true : ∀ {rs : List D}, (∀ d ∈ rs, d = .bool true) → ∃ bs, asBools rs = some bs ∧ bs.all id = true
  | [], _ => ⟨[], rfl, rfl⟩
  | d :: r, h => by
    obtain ⟨bs, e, a⟩ := all_true (rs := r) fun x m => h x (List.mem_cons_of_mem _ m)
    rw [h d List.mem_cons_self]
    refine ⟨true :: bs, ?_, ?_⟩
    · show (asBools r).map (true :: ·) = _
      rw [e]
      rfl
    · simpa using a
end SS

end

section
set_option linter.all false
set_option autoImplicit false
set_option maxRecDepth 100000
set_option maxHeartbeats 4000000
/-! Handlers: defs that hear how a call ends. -/
namespace SS
open PySem PySem.Spec PyProof.Rows L2
variable [Tabl]

/-! ### checks -/
def isEB (e c : Str) : Expr → Bool
  | .Call (.Name i _) [.Name e' _, .Name c' _] [] _ => decide (i = "isinstance") && decide (e' = e) && decide (c' = c)
  | _ => false
def trueB : Expr → Bool
  | .Constant (.bool true) _ _ => true
  | _ => false
def strsB : List Str → List Expr → Bool
  | [], [] => true
  | w :: ws, .Constant (.str x) _ _ :: r => decide (x = w) && strsB ws r
  | _, _ => false
/-- behind the flags -/
def tailB (e l i w : Str) (ws : List Str) (n1 n2 : Nat) : List Stmt → Bool
  | [.If (.Compare (.Call (.Attribute (.Name l1 _) m1 a1) [t1] [] p1) [.NotEq] [.Constant (.int o1) _ _] _) [.Return (some (.List [.Constant (.str _) _ _] _)) _] [] _,
     .Assign [.Name i1 _] (.Call (.Attribute (.Name l2 _) m2 a2) [t2] [] p2) _,
     .Assign [.Name w1 _] (.Subscript (.List xs _) (.Name i2 _) _) _,
     .Return (some (.BinOp (.List [.Name w2 _] _) .Add (.IfExp (.Compare (.Name i3 _) [.Lt] [.Constant (.int k1) _ _] _) (.List [.Attribute (.Name e1 _) f1 _] _) (.IfExp (.Compare (.Name i4 _) [.Lt] [.Constant (.int k2) _ _] _) (.List [.Attribute (.Name e2 _) f2 _] _) (.List [] _) _) _) _)) _] =>
    decide (l1 = l) && decide (m1 = "count") && (a1.endLine == p1.line) && trueB t1 && decide (o1 = 1) && decide (i1 = i) && decide (l2 = l) && decide (m2 = "index") && (a2.endLine == p2.line) && trueB t2 && decide (w1 = w) && strsB ws xs && decide (i2 = i) && decide (w2 = w) &&
      decide (i3 = i) && decide (k1 = (n1 : Int)) && decide (e1 = e) && decide (f1 = "given") && decide (i4 = i) && decide (k2 = (n2 : Int)) && decide (e2 = e) && decide (f2 = "index")
  | _ => false
def appsB (e l i w : Str) (ws : List Str) (n1 n2 : Nat) : List Str → List Stmt → Bool
  | [], ss => tailB e l i w ws n1 n2 ss
  | c :: cs, .Expr (.Call (.Attribute (.Name l1 _) m a) [v] [] p) _ :: ss => decide (l1 = l) && decide (m = "append") && (a.endLine == p.line) && isEB e c v && appsB e l i w ws n1 n2 cs ss
  | _, _ => false
def suiteB (e l i w : Str) (ws : List Str) (n1 n2 : Nat) : List Str → List Stmt → Bool
  | c :: cs, .Assign [.Name l1 _] (.List [v] _) _ :: ss => decide (l1 = l) && isEB e c v && appsB e l i w ws n1 n2 cs ss
  | _, _ => false
/-- the def: try: act() / except sh as e: .. / return [ok] -/
def hdB (ok act e l i w sh : Str) (cs ws : List Str) (n1 n2 : Nat) : List Stmt → Bool
  | [.Try [.Expr (.Call (.Name act1 _) [] [] _) _] [.ExceptHandler (some (.Name sh1 _)) (some e1) suite _] [] [] _, .Return (some (.List [.Constant (.str ok1) _ _] _)) _] =>
    decide (act1 = act) && decide (sh1 = sh) && decide (e1 = e) && decide (ok1 = ok) && suiteB e l i w ws n1 n2 cs suite
  | _ => false
/-- the names of such a def -/
def hdN (act e l i w sh : Str) (cs : List Str) (sg : Scope) : Bool :=
  decide (sg.names.lookup act = some .local) && decide (sg.names.lookup e = some .local) && decide (sg.names.lookup l = some .local) && decide (sg.names.lookup i = some .local) && decide (sg.names.lookup w = some .local) &&
    decide (sg.names.lookup ("isinstance" : Str) = some .globalImplicit) && decide (sg.names.lookup sh = some .globalImplicit) && dbgB sh && dbgB act && dbgB e && dbgB l && dbgB i && dbgB w && cs.all (fun c => decide (sg.names.lookup c = some .globalImplicit) && dbgB c)
def tbOf (cs ws : List Str) (n2 : Nat) : List (Str × Str × Nat) := ((cs.zip ws).zipIdx).map fun p => (p.1.1, p.1.2, if p.2 < n2 then 1 else 0)

/-! ### the error in hand -/
def dOk (d : Option Addr) (H : Hp) : Prop := d = none ∨ ∃ dx fs, d = some dx ∧ H dx = some (.xd fs)
theorem dOk.ext {d : Option Addr} {H H' : Hp} (h : dOk d H) (e : ExtH H H') : dOk d H' := by
  rcases h with h | ⟨dx, fs, h1, h2⟩
  · exact .inl h
  · exact .inr ⟨dx, fs, h1, e _ _ h2⟩
theorem ExtH.refl {H : Hp} : ExtH H H := fun _ _ h => h
theorem ExtH.trans {A B C : Hp} (a : ExtH A B) (b : ExtH B C) : ExtH A C := fun x o h => b x o (a x o h)
theorem ExtH.upd {H : Hp} {p : Addr} {o : HO} (h : H p = none) : ExtH H (L2.upd H p o) := fun b u e => by
  rw [upd_ne (ne_of_none e h)]
  exact e
/-- a new object is changed -/
theorem ExtH.mut {H G : Hp} {p : Addr} {o : HO} (e : ExtH H G) (h : H p = none) : ExtH H (L2.upd G p o) := fun b u q => by
  rw [upd_ne (ne_of_none q h)]
  exact e b u q
section
variable {Z0 : Cx} {a C : Addr} {oe : Obj} {pn : List (Addr × Obj)} {d : Option Addr}
theorem call_isX (hcl : (PySem.W.clsIn Z0.K C).isSome = true) (E : ExcC Z0.K C) (hz : Zc (.ref C) d oe) (hf : ∃ vs, oe.data = .fields vs) :
    CallR (Z0.suite a ((a, oe) :: pn)) (.builtin "isinstance") (fun xs H Q => ∃ Cc b, xs = [.ref a, .ref Cc] ∧ dOk d H ∧ PySem.W.kitOne Z0.K (.ref C) (.ref Cc) = some b ∧ Q (.bl b) H) := by
  intro pins s σ H xs us Q I r h
  obtain ⟨Cc, b, rfl, hd, e, q⟩ := h
  cases r with
  | cons rx rr =>
    cases rr with
    | cons rt rr =>
      cases rr
      cases rx
      cases rt
      obtain ⟨hget, _⟩ := I.pin (a, oe) (List.mem_append.mpr (.inl List.mem_cons_self))
      obtain ⟨vs, hv⟩ := hf
      have go : ∀ od : Option Obj, PySem.W.InstAt s.heap a oe C od → wpAny (model Z0.prog Z0.w) (Z0.suite a ((a, oe) :: pn)).A (call (.builtin "isinstance") [.ref a, .ref Cc]) (EP (Z0.suite a ((a, oe) :: pn)) pins σ Q) (Z0.suite a ((a, oe) :: pn)).xe s := fun od J =>
        PySem.W.kia_one (PySem.W.kitx_exc (ox := oe) (od := od) hcl E.hg E.hk E.hs E.ha E.hn E.ht E.hm) I.kIn J e (fun z => nomatch z) fun tk => ⟨.bl b, H, I.kept (t' := tk) fun _ _ z => z, rfl, q⟩
      have hno : PySem.W.notCls oe = true := by
        unfold PySem.W.notCls
        rw [hv]
      rcases hd with rfl | ⟨dx, fs, rfl, hx⟩
      · exact go none ⟨hget, hz.1, hno, by rw [hz.2]; trivial⟩
      · obtain ⟨mA, ⟨od, es, ep, ho, _⟩, _⟩ := (show ObjOk _ _ H s.heap dx (.xd fs) from I.hok dx _ hx)
        exact go (some od) ⟨hget, hz.1, hno, by rw [hz.2]; exact ho⟩
end
/-- what the text's heap tells of an error class, the j-th of the handler's -/
structure HdC (K : PySem.W.Frag) (mg : Str → Option Value) (att : Str → Str) (cs : List Str) (j : Nat) (n : Str) (C : Addr) : Prop where
  cl : (PySem.W.clsIn K C).isSome = true
  xf : XfC K C
  ex : ExcC K C
  no : att n ≠ "" → PySem.W.findIn K (.ref C) (att n) = some none
  kit : ∀ i c, cs[i]? = some c → ∃ Cc, mg c = some (.ref Cc) ∧ PySem.W.kitOne K (.ref C) (.ref Cc) = some (decide (i = j))
/-- the context of the suite -/
structure ZOk (Z : Cx) (act e l i w sh : Str) (cs : List Str) : Prop where
  hN : Z.N = [act, e, l, i, w]
  nd : Z.N.Nodup
  nm : hdN act e l i w sh cs Z.env.scope = true
  fn : ∀ x, Z.fn x = true
  un : Z.A.units + 65 < cLine
  isi : Z.mg "isinstance" = none
section
variable {Z0 : Cx} {a C : Addr} {oe : Obj} {pn : List (Addr × Obj)} {d : Option Addr} {act e l i w sh : Str} {cs ws : List Str} {att : Str → Str} {j n1 n2 : Nat} {n : Str}
theorem ZOk.names (z : ZOk Z0 act e l i w sh cs) : (Z0.env.scope.names.lookup act = some .local ∧ Z0.env.scope.names.lookup e = some .local ∧ Z0.env.scope.names.lookup l = some .local ∧ Z0.env.scope.names.lookup i = some .local ∧ Z0.env.scope.names.lookup w = some .local) ∧
    (Z0.env.scope.names.lookup ("isinstance" : Str) = some .globalImplicit ∧ Z0.env.scope.names.lookup sh = some .globalImplicit) ∧ (dbgB sh = true ∧ dbgB act = true ∧ dbgB e = true ∧ dbgB l = true ∧ dbgB i = true ∧ dbgB w = true) ∧ ∀ c ∈ cs, Z0.env.scope.names.lookup c = some .globalImplicit ∧ dbgB c = true := by
  have h := z.nm
  simp only [hdN, Bool.and_eq_true, decide_eq_true_eq, List.all_eq_true] at h
  obtain ⟨⟨⟨⟨⟨⟨⟨⟨⟨⟨⟨⟨⟨h1, h2⟩, h3⟩, h4⟩, h5⟩, h6⟩, h7⟩, h8⟩, h9⟩, h10⟩, h11⟩, h12⟩, h13⟩, h14⟩ := h
  exact ⟨⟨h1, h2, h3, h4, h5⟩, ⟨h6, h7⟩, ⟨h8, h9, h10, h11, h12, h13⟩, h14⟩
theorem ZOk.suite (z : ZOk Z0 act e l i w sh cs) : ZOk (Z0.suite a ((a, oe) :: pn)) act e l i w sh cs := ⟨z.hN, z.nd, z.nm, z.fn, z.un, z.isi⟩
theorem ZOk.pe (z : ZOk Z0 act e l i w sh cs) {k : Nat} {x : Str} {p : Pos} (h : Z0.N[k]? = some x) (hl : Z0.env.scope.names.lookup x = some .local) (hd : dbgB x = true) : PE Z0 (.Name x p) (tVar k) := pe_var h (.inl hl) (dbg1 hd) (dbg2 hd)
theorem isEB_name {c : Str} {v : Expr} (h : isEB e c v = true) : ∃ p1 p2 p3 p4, v = .Call (.Name "isinstance" p1) [.Name e p2, .Name c p3] [] p4 := by
  unfold isEB at h
  split at h
  · simp only [Bool.and_eq_true, decide_eq_true_eq] at h
    obtain ⟨⟨rfl, rfl⟩, rfl⟩ := h
    exact ⟨_, _, _, _, rfl⟩
  · cases h
theorem pe_isX (z : ZOk Z0 act e l i w sh cs) (D : HdC Z0.K Z0.mg att cs j n C) (hz : Zc (.ref C) d oe) (hf : ∃ vs, oe.data = .fields vs) {q : Nat} {c : Str} {v : Expr} (hc : cs[q]? = some c) (h : isEB e c v = true) :
    PE (Z0.suite a ((a, oe) :: pn)) v (fun σ H Q => σ[1]? = some (some (.ref a)) ∧ dOk d H ∧ Q (.bl (decide (q = j))) H) := by
  obtain ⟨p1, p2, p3, p4, rfl⟩ := isEB_name h
  obtain ⟨⟨h1, h2, h3, h4, h5⟩, ⟨h6, h7⟩, ⟨h8, h9, h10, h11, h12, h13⟩, h14⟩ := z.names
  obtain ⟨Cc, m1, m2⟩ := D.kit q c hc
  obtain ⟨g1, g2⟩ := h14 c (List.mem_of_getElem? hc)
  have zs : ZOk (Z0.suite a ((a, oe) :: pn)) act e l i w sh cs := z.suite
  refine PE.imp (pe_callB (call_isX D.cl D.ex hz hf) h6 z.isi (by decide +kernel) (pa_cons (zs.pe (k := 1) (by rw [zs.hN]; rfl) h2 h10) (pa_cons (pe_glob (v := .ref Cc) g1 m1 rfl (dbg1 g2)) pa_nil rfl) rfl) (by decide) (by decide) rfl rfl) fun σ H Q ⟨k1, k2, k3⟩ => ?_
  exact ⟨.ref a, k1, Cc, _, rfl, k2, m2, k3⟩
/-- flags.append(isinstance(e, c)) -/
theorem ps_appX (z : ZOk Z0 act e l i w sh cs) (D : HdC Z0.K Z0.mg att cs j n C) (hz : Zc (.ref C) d oe) (hf : ∃ vs, oe.data = .fields vs) {q : Nat} {c : Str} {v : Expr} {p1 a1 p2 p3 : Pos} (hc : cs[q]? = some c) (h : isEB e c v = true) (hl : (a1.endLine == p2.line) = true) :
    PS (Z0.suite a ((a, oe) :: pn)) (.Expr (.Call (.Attribute (.Name l p1) "append" a1) [v] [] p2) p3) (fun D σ H => ∃ p xs, σ[1]? = some (some (.ref a)) ∧ σ[2]? = some (some (.ref p)) ∧ H p = some (.lst xs) ∧ xs.length ≤ 100 ∧ dOk d H ∧ D.nx σ (upd H p (.lst (xs ++ [.bl (decide (q = j))])))) := by
  obtain ⟨⟨h1, h2, h3, h4, h5⟩, ⟨h6, h7⟩, ⟨h8, h9, h10, h11, h12, h13⟩, h14⟩ := z.names
  have zs : ZOk (Z0.suite a ((a, oe) :: pn)) act e l i w sh cs := z.suite
  have hst : starEach [v] (Z0.suite a ((a, oe) :: pn)).env = (false, eval v (Z0.suite a ((a, oe) :: pn)).env) :: starEach [] (Z0.suite a ((a, oe) :: pn)).env := by
    obtain ⟨_, _, _, _, rfl⟩ := isEB_name h
    rfl
  refine PS.imp (ps_expr (pe_bm PySem.F.plainAttrs_list PySem.F.slot_list_append PySem.F.type_list_append mt_append (zs.pe (k := 2) (by rw [zs.hN]; rfl) h3 h11) (pa_cons (pe_isX z D hz hf hc h) pa_nil hst) rfl (by rw [hst]; rfl) hl hst rfl) rfl) fun Dn σ H ⟨p, xs, k1, k2, k3, k4, k5, k6⟩ => ?_
  exact ⟨.ref p, k2, .inl ⟨rfl, xs, SqL.of k3⟩, k1, k5, p, xs, _, rfl, rfl, k3, Nat.lt_of_le_of_lt k4 (by decide), k6⟩
theorem upd_self {H : Hp} {p : Addr} {o : HO} (h : H p = some o) : L2.upd H p o = H := by
  funext b
  by_cases hb : b = p
  · rw [hb, upd_same, h]
  · rw [upd_ne hb]
/-- the flags, one by one, then the rest -/
theorem pss_apps (z : ZOk Z0 act e l i w sh cs) (D : HdC Z0.K Z0.mg att cs j n C) (hz : Zc (.ref C) d oe) (hf : ∃ vs, oe.data = .fields vs) {tT : TS} (tail : ∀ ss, tailB e l i w ws n1 n2 ss = true → PSs (Z0.suite a ((a, oe) :: pn)) ss tT) :
    ∀ (rs : List Str) (q : Nat) {ss : List Stmt}, cs.drop q = rs → appsB e l i w ws n1 n2 rs ss = true → PSs (Z0.suite a ((a, oe) :: pn)) ss (fun Dn σ H => ∃ p xs, σ[1]? = some (some (.ref a)) ∧ σ[2]? = some (some (.ref p)) ∧ H p = some (.lst xs) ∧ xs.length + rs.length ≤ 100 ∧ dOk d H ∧
      tT Dn σ (upd H p (.lst (xs ++ (List.range' q rs.length).map fun r => V.bl (decide (r = j)))))) := by
  intro rs
  induction rs with
  | nil =>
    intro q ss hd h
    refine PSs.imp (tail ss (by simpa [appsB] using h)) fun Dn σ H ⟨p, xs, k1, k2, k3, k4, k5, k6⟩ => ?_
    have e1 : xs ++ (List.range' q ([] : List Str).length).map (fun r => V.bl (decide (r = j))) = xs := by simp
    rw [e1, upd_self k3] at k6
    exact k6
  | cons c rs ih =>
    intro q ss hd h
    unfold appsB at h
    split at h
    · rename_i e1; cases e1
    · rename_i c1 cs1 l1 pl m a1 v p p3 ss1 e1
      cases e1
      simp only [Bool.and_eq_true, decide_eq_true_eq] at h
      obtain ⟨⟨⟨⟨rfl, rfl⟩, hl⟩, hv⟩, hr⟩ := h
      have hlen : q < cs.length := by
        rcases Nat.lt_or_ge q cs.length with g | g
        · exact g
        · rw [List.drop_eq_nil_of_le g] at hd
          cases hd
      have hcc : cs[q]? = some c ∧ cs.drop (q + 1) = rs := by
        rw [List.drop_eq_getElem_cons hlen] at hd
        injection hd with h1 h2
        exact ⟨by rw [← h1]; exact List.getElem?_eq_getElem hlen, h2⟩
      refine PSs.imp (pss_cons (ps_appX z D hz hf hcc.1 hv hl) (ih (q + 1) hcc.2 hr)) fun Dn σ H ⟨p, xs, k1, k2, k3, k4, k5, k6⟩ => ?_
      rw [List.length_cons] at k4
      refine ⟨p, xs, k1, k2, k3, by omega, k5, p, xs ++ [.bl (decide (q = j))], k1, k2, upd_same, ?_, ?_, ?_⟩
      · rw [List.length_append, List.length_singleton]
        omega
      · rcases k5 with k5 | ⟨dx, fs, k5, k7⟩
        · exact .inl k5
        · refine .inr ⟨dx, fs, k5, ?_⟩
          rw [upd_ne (fun y => by rw [y, k3] at k7; cases k7)]
          exact k7
      · rw [upd_upd, List.append_assoc]
        rw [List.length_cons, List.range'_succ, List.map_cons] at k6
        exact k6
    · cases h
/-- e.f -/
theorem pe_att (z : ZOk Z0 act e l i w sh cs) (D : HdC Z0.K Z0.mg att cs j n C) (hz : Zc (.ref C) d oe) (hf : ∃ vs, oe.data = .fields vs) {f : Str} {p q : Pos} :
    PE (Z0.suite a ((a, oe) :: pn)) (.Attribute (.Name e p) f q) (fun σ H Q => σ[1]? = some (some (.ref a)) ∧ att n = f ∧ ∃ dx v, att n ≠ "" ∧ d = some dx ∧ H dx = some (.xd [(att n, v)]) ∧ Q v H) := by
  obtain ⟨⟨h1, h2, h3, h4, h5⟩, ⟨h6, h7⟩, ⟨h8, h9, h10, h11, h12, h13⟩, h14⟩ := z.names
  have zs : ZOk (Z0.suite a ((a, oe) :: pn)) act e l i w sh cs := z.suite
  by_cases hn : att n = f ∧ att n ≠ ""
  · obtain ⟨rfl, hne⟩ := hn
    refine PE.imp (pe_xf D.xf (D.no hne) hz hf (zs.pe (k := 1) (by rw [zs.hN]; rfl) h2 h10)) fun σ H Q ⟨k1, _, dx, v, _, k2, k3, k4⟩ => ?_
    exact ⟨.ref a, k1, rfl, rfl, dx, _, v, k2, k3, by simp [List.lookup], k4⟩
  · exact ⟨fun pins s σ H Q I ⟨_, k1, dx, v, k2, _⟩ => absurd ⟨k1, k2⟩ hn⟩
theorem pa_strs {Z : Cx} : ∀ {ws : List Str} {xs : List Expr}, strsB ws xs = true → PA Z xs (fun _ H Q => Q (ws.map V.str) H)
  | [], [], _ => pa_nil
  | w :: ws, [], h => by cases h
  | [], x :: xs, h => by simp [strsB] at h
  | w :: ws, x :: xs, h => by
    unfold strsB at h
    split at h
    · rename_i e1 e2; cases e1
    · rename_i w1 ws1 x1 k p r e1 e2
      cases e1
      cases e2
      simp only [Bool.and_eq_true, decide_eq_true_eq] at h
      obtain ⟨rfl, h⟩ := h
      exact pa_cons pe_str (pa_strs h) rfl
    · cases h
def flD (m j : Nat) : List D := (List.range' 0 m).map fun r => .bool (decide (r = j))
theorem flD_rel {M : List Addr} {H : Hp} {m j : Nat} : VRs M H (flD m j) ((List.range' 0 m).map fun r => V.bl (decide (r = j))) := by
  unfold flD
  generalize List.range' 0 m = l
  induction l with
  | nil => rfl
  | cons r l ih => exact .cons (by simp only [VR]) ih
theorem flD_shaped {m j : Nat} : SeqAt.shaped (.list (flD m j)) = true := by
  have h := Rp.list (n := 0) (m := 64) (l := (flD m j).length) (ds := flD m j) (fun d hd => by
    obtain ⟨r, _, rfl⟩ := List.mem_map.mp hd
    exact Rp.bool _) (Nat.le_refl _)
  unfold SeqAt.shaped
  simp only [h.lay, Bool.true_and, decide_eq_true_eq]
  have := h.dp
  omega
theorem eqv_bool {x y : Bool} : PyData.eqv (.bool x) (.bool y) = (x == y) := by cases x <;> cases y <;> rfl
theorem flD_count {m j : Nat} (h : j < m) : (flD m j).countP (fun z => PyData.eqv z (.bool true)) = 1 := by
  unfold flD
  rw [List.countP_map]
  have e : ((fun z => PyData.eqv z (.bool true)) ∘ fun r => PyData.bool (decide (r = j))) = fun r => decide (r = j) := by
    funext r
    simp [Function.comp, eqv_bool]
  rw [e]
  have key : ∀ (s n : Nat), s ≤ j → j < s + n → (List.range' s n).countP (fun r => decide (r = j)) = 1 := by
    intro s n
    induction n generalizing s with
    | zero => intro h1 h2; omega
    | succ n ih =>
      intro h1 h2
      rw [List.range'_succ, List.countP_cons]
      by_cases hs : s = j
      · subst hs
        have z : (List.range' (s + 1) n).countP (fun r => decide (r = s)) = 0 := by
          rw [List.countP_eq_zero]
          intro r hr
          have := (List.mem_range'_1.mp hr).1
          simp
          omega
        simp [z]
      · rw [ih (s + 1) (by omega) (by omega)]
        simp [hs]
  exact key 0 m (Nat.zero_le _) (by omega)
theorem flD_get {m j q : Nat} (h : q < m) : (flD m j)[q]? = some (.bool (decide (q = j))) := by
  unfold flD
  rw [List.getElem?_map, List.getElem?_range' h]
  simp
/-- what the suite's end needs; H0: the heap at its start -/
def tTail (a : Addr) (d : Option Addr) (att : Str → Str) (n : Str) (k : Nat) (wd : Str) (m j : Nat) : TS := fun Dn σ H => ∃ p v, σ.length = 5 ∧ σ[1]? = some (some (.ref a)) ∧ σ[2]? = some (some (.ref p)) ∧ H p = some (.lst ((List.range' 0 m).map fun r => V.bl (decide (r = j)))) ∧
  (k = 1 → ∃ dx, att n ≠ "" ∧ d = some dx ∧ H dx = some (.xd [(att n, v)])) ∧ ∀ G q, ExtH H G → G q = none → Dn.rt (.ref q) (upd G q (.lst (shownH .str (.bl true) k wd v)))
theorem pss_tail (z : ZOk Z0 act e l i w sh cs) (D : HdC Z0.K Z0.mg att cs j n C) (hz : Zc (.ref C) d oe) (hf : ∃ vs, oe.data = .fields vs) {k : Nat} {wd : Str} (hj : j < cs.length) (hw : ws[j]? = some wd) (hws : ws.length ≤ 1000) (hk : k = if j < n2 then 1 else 0) (h12 : n1 ≤ n2) (ha1 : j < n1 → att n = "given") (ha2 : n1 ≤ j → j < n2 → att n = "index") {ss : List Stmt}
    (h : tailB e l i w ws n1 n2 ss = true) : PSs (Z0.suite a ((a, oe) :: pn)) ss (tTail a d att n k wd cs.length j) := by
  unfold tailB at h
  split at h
  · rename_i l1 pl1 m1 a1 t1 p1 o1 ko po pc ws1 kw pw plw prw pif i1 pi1 l2 pl2 m2 a2 t2 p2 pa2 w1 pw1 xs pxs i2 pi2 psb pas w2 pw2 plw2 i3 pi3 k1 kk1 pk1 pc1 e1 pe1 f1 pf1 plf1 i4 pi4 k2 kk2 pk2 pc2 e2 pe2 f2 pf2 plf2 pl0 pif2 pif1 pbin pret
    simp only [Bool.and_eq_true, decide_eq_true_eq] at h
    obtain ⟨⟨⟨⟨⟨⟨⟨⟨⟨⟨⟨⟨⟨⟨⟨⟨⟨⟨⟨⟨⟨rfl, rfl⟩, hl1⟩, ht1⟩, rfl⟩, rfl⟩, rfl⟩, rfl⟩, hl2⟩, ht2⟩, rfl⟩, hxs⟩, rfl⟩, rfl⟩, rfl⟩, rfl⟩, rfl⟩, rfl⟩, rfl⟩, rfl⟩, rfl⟩, rfl⟩ := h
    obtain ⟨⟨h1, h2, h3, h4, h5⟩, ⟨h6, h7⟩, ⟨h8, h9, h10, h11, h12, h13⟩, h14⟩ := z.names
    have tt : ∀ {x : Expr}, trueB x = true → ∃ b p, x = .Constant (.bool true) b p := fun {x} hx => by
      unfold trueB at hx
      split at hx
      · exact ⟨_, _, rfl⟩
      · cases hx
    obtain ⟨_, _, rfl⟩ := tt ht1
    obtain ⟨_, _, rfl⟩ := tt ht2
    have zs := z.suite (a := a) (oe := oe) (pn := pn)
    have hu := zs.un
    have nd := zs.nd
    have v1 : ∀ {p : Pos}, PE (Z0.suite a ((a, oe) :: pn)) (.Name l2 p) (tVar 2) := zs.pe (k := 2) (by rw [zs.hN]; rfl) h3 h11
    have v3 : ∀ {p : Pos}, PE (Z0.suite a ((a, oe) :: pn)) (.Name i4 p) (tVar 3) := zs.pe (k := 3) (by rw [zs.hN]; rfl) h4 h12
    have v4 : ∀ {p : Pos}, PE (Z0.suite a ((a, oe) :: pn)) (.Name w2 p) (tVar 4) := zs.pe (k := 4) (by rw [zs.hN]; rfl) h5 h13
    have hloc : ∀ {x : Str}, Z0.env.scope.names.lookup x = some .local → Loc (Z0.suite a ((a, oe) :: pn)).env.scope x := fun hx => .inl hx
    refine PSs.imp (pss_cons (ps_if (pt_cmpR op_ne (pe_bm PySem.F.plainAttrs_list PySem.F.slot_list_count PySem.F.type_list_count (mt_countD hu) v1 (pa_cons pe_bl pa_nil rfl) rfl rfl hl1 rfl rfl) pe_int rfl) (pss_one (ps_ret (pe_lst (pa_cons pe_str pa_nil rfl)))) pss_nil)
      (pss_cons (ps_set (i := 3) nd (by rw [zs.hN]; rfl) (hloc h4) (pe_bm PySem.F.plainAttrs_list PySem.F.slot_list_index PySem.F.type_list_index (mt_indexD hu) v1 (pa_cons pe_bl pa_nil rfl) rfl rfl hl2 rfl rfl) rfl (.inr h4))
      (pss_cons (ps_set (i := 4) nd (by rw [zs.hN]; rfl) (hloc h5) (pe_ix ix_list (pe_lst (pa_strs hxs)) v3 (plain_of rfl)) rfl (.inr h5))
      (pss_one (ps_ret (pe_op op_cat (pe_lst (pa_cons v4 pa_nil rfl)) (pe_ifExp (pt_cmpR op_lt v3 pe_int rfl) (pe_lst (pa_cons (pe_att z D hz hf) pa_nil rfl)) (pe_ifExp (pt_cmpR op_lt v3 pe_int rfl) (pe_lst (pa_cons (pe_att z D hz hf) pa_nil rfl)) (pe_lst pa_nil))))))))) fun Dn σ H ⟨p, v, hlen, k1, k2, k3, k4, k5⟩ => ?_
    have dl : Dp (Z0.suite a ((a, oe) :: pn)).K H (.ref p) (.list (flD cs.length j)) := .lst (SqL.of k3) (VRs.dp (M := []) flD_rel)
    refine ⟨.ref p, k2, .inl ⟨rfl, _, SqL.of k3⟩, p, .bl true, .bool true, flD cs.length j, rfl, rfl, dl, .bl _, flD_shaped, by decide, ?_⟩
    rw [flD_count hj]
    refine ⟨rfl, false, rfl, ?_⟩
    show (if false = true then _ else _)
    rw [if_neg Bool.false_ne_true]
    refine ⟨.ref p, k2, .inl ⟨rfl, _, SqL.of k3⟩, p, .bl true, .bool true, flD cs.length j, j, .bool true, rfl, rfl, dl, .bl _, flD_shaped, by decide, by rw [flD_get hj]; simp, by rfl, fun q z' hq hz' => ?_, ?_⟩
    · rw [flD_get (Nat.lt_trans hq hj)] at hz'
      cases hz'
      rw [eqv_bool]
      simp
      omega
    · show tSeq _ _ _ (σ.set 3 (some (.int (j : Nat)))) H
      have e3 : ((σ.set 3 (some (V.int (j : Nat)))).set 4 (some (V.str wd)))[3]? = some (some (.int (j : Nat))) := by
        rw [List.getElem?_set_ne (by decide), List.getElem?_set_self (by omega)]
      have e1 : ((σ.set 3 (some (V.int (j : Nat)))).set 4 (some (V.str wd)))[1]? = some (some (.ref a)) := by
        rw [List.getElem?_set_ne (by decide), List.getElem?_set_ne (by decide)]
        exact k1
      refine ⟨by rw [List.length_map]; exact Nat.le_trans hws (by decide), fun p2 hp2 => ⟨.int (j : Nat), by rw [List.getElem?_set_self (by omega)], p2, ws.map V.str, (j : Nat), .str wd, rfl, rfl, SqL.of upd_same, ?_, ?_⟩⟩
      · refine atI_map ?_
        unfold atI ixN
        have hlt : j < ws.length := (List.getElem?_eq_some_iff.mp hw).1
        rw [if_pos (Int.natCast_nonneg j), if_pos (by omega)]
        simpa using hw
      · dsimp only [gName, tRet]
        generalize hG2 : upd H p2 (.lst (ws.map V.str)) = G2
        have x2 : ExtH H G2 := by rw [← hG2]; exact ExtH.upd hp2
        refine ⟨.str wd, by rw [List.getElem?_set_self (by rw [List.length_set]; omega)], by show 1 ≤ sizeLine; decide, fun p3 hp3 => ?_⟩
        generalize hG3 : upd G2 p3 (.lst [V.str wd]) = G3
        have x3 : ExtH H G3 := x2.trans (by rw [← hG3]; exact ExtH.upd hp3)
        have g3 : G3 p3 = some (.lst [V.str wd]) := by rw [← hG3]; exact upd_same
        have fin : ∀ (zs : List V) (q4 : Addr), G3 q4 = none → shownH V.str (.bl true) k wd v = V.str wd :: zs → zs.length ≤ 3 → rCat (.ref p3) (.ref q4) (upd G3 q4 (.lst zs)) Dn.rt := fun zs q4 hq4 hz2 hl => by
          refine ⟨p3, q4, _, _, rfl, rfl, (ExtH.upd hq4) _ _ g3, upd_same, by show 1 + zs.length ≤ sizeLine; exact Nat.le_trans (show 1 + zs.length ≤ 4 by omega) (by decide), fun q5 hq5 => ?_⟩
          have := k5 _ q5 (x3.trans (ExtH.upd hq4)) hq5
          rw [hz2] at this
          exact this
        refine ⟨.int (j : Nat), e3, (j : Nat), (n1 : Nat), rfl, rfl, _, rfl, ?_⟩
        by_cases hj1 : j < n1
        · have hd1 : decide (((j : Nat) : Int) < ((n1 : Nat) : Int)) = true := decide_eq_true (by omega)
          show (if decide _ = true then _ else _)
          rw [if_pos hd1]
          have hk1 : k = 1 := by rw [hk, if_pos (by omega)]
          obtain ⟨dx, w1, w2', w3⟩ := k4 hk1
          refine ⟨e1, ha1 hj1, dx, v, w1, w2', x3 _ _ w3, by show 1 ≤ sizeLine; decide, fun q4 hq4 => fin [v] q4 hq4 ?_ (by simp)⟩
          rw [hk1]
          rfl
        · have hd1 : ¬ (decide (((j : Nat) : Int) < ((n1 : Nat) : Int)) = true) := by
            rw [decide_eq_true_eq]
            omega
          show (if decide _ = true then _ else _)
          rw [if_neg hd1]
          refine ⟨.int (j : Nat), e3, (j : Nat), (n2 : Nat), rfl, rfl, _, rfl, ?_⟩
          by_cases hj2 : j < n2
          · have hd2 : decide (((j : Nat) : Int) < ((n2 : Nat) : Int)) = true := decide_eq_true (by omega)
            show (if decide _ = true then _ else _)
            rw [if_pos hd2]
            have hk1 : k = 1 := by rw [hk, if_pos hj2]
            obtain ⟨dx, w1, w2', w3⟩ := k4 hk1
            refine ⟨e1, ha2 (by omega) hj2, dx, v, w1, w2', x3 _ _ w3, by show 1 ≤ sizeLine; decide, fun q4 hq4 => fin [v] q4 hq4 ?_ (by simp)⟩
            rw [hk1]
            rfl
          · have hd2 : ¬ (decide (((j : Nat) : Int) < ((n2 : Nat) : Int)) = true) := by
              rw [decide_eq_true_eq]
              omega
            show (if decide _ = true then _ else _)
            rw [if_neg hd2]
            refine ⟨by show 0 ≤ sizeLine; decide, fun q4 hq4 => fin [] q4 hq4 ?_ (by simp)⟩
            rw [hk, if_neg hj2]
            rfl
  · cases h
/-- the suite, for an error of the j-th class -/
theorem pss_suite (z : ZOk Z0 act e l i w sh cs) (D : HdC Z0.K Z0.mg att cs j n C) (hz : Zc (.ref C) d oe) (hf : ∃ vs, oe.data = .fields vs) {k : Nat} {wd : Str} (hj : j < cs.length) (hcs : cs.length ≤ 100) (hw : ws[j]? = some wd) (hws : ws.length ≤ 1000) (hk : k = if j < n2 then 1 else 0) (h12 : n1 ≤ n2) (ha1 : j < n1 → att n = "given") (ha2 : n1 ≤ j → j < n2 → att n = "index") {ss : List Stmt}
    (h : suiteB e l i w ws n1 n2 cs ss = true) : PSs (Z0.suite a ((a, oe) :: pn)) ss (fun Dn σ H => ∃ v, σ.length = 5 ∧ σ[1]? = some (some (.ref a)) ∧ dOk d H ∧ (k = 1 → ∃ dx, att n ≠ "" ∧ d = some dx ∧ H dx = some (.xd [(att n, v)])) ∧
      ∀ G q, ExtH H G → G q = none → Dn.rt (.ref q) (upd G q (.lst (shownH .str (.bl true) k wd v)))) := by
  unfold suiteB at h
  split at h
  · rename_i c rs l1 pl v pv pa ss1
    simp only [Bool.and_eq_true, decide_eq_true_eq] at h
    obtain ⟨⟨rfl, hv⟩, hr⟩ := h
    obtain ⟨⟨h1, h2, h3, h4, h5⟩, ⟨h6, h7⟩, ⟨h8, h9, h10, h11, h12, h13⟩, h14⟩ := z.names
    have zs := z.suite (a := a) (oe := oe) (pn := pn)
    have hst : starEach [v] (Z0.suite a ((a, oe) :: pn)).env = (false, eval v (Z0.suite a ((a, oe) :: pn)).env) :: starEach [] (Z0.suite a ((a, oe) :: pn)).env := by
      obtain ⟨_, _, _, _, rfl⟩ := isEB_name hv
      rfl
    refine PSs.imp (pss_cons (ps_set (i := 2) zs.nd (by rw [zs.hN]; rfl) (.inl h3) (pe_lst (pa_cons (pe_isX z D hz hf (q := 0) rfl hv) pa_nil hst)) rfl (.inr h3)) (pss_apps z D hz hf (fun ss hs => pss_tail z D hz hf hj hw hws hk (by assumption) ha1 ha2 hs) rs 1 rfl hr)) fun Dn σ H ⟨x, k1, k2, k3, k4, k5⟩ => ?_
    refine ⟨k2, k3, by show 1 ≤ sizeLine; decide, fun p hp => ?_⟩
    have nx : ∀ dx fs, d = some dx → H dx = some (.xd fs) → dx ≠ p := fun dx fs _ e1 y => by
      rw [y, hp] at e1
      cases e1
    refine ⟨p, [.bl (decide (0 = j))], ?_, ?_, upd_same, by rw [List.length_cons] at hcs; show 1 + rs.length ≤ 100; omega, k3.ext (ExtH.upd hp), ?_⟩
    · rw [List.getElem?_set_ne (by decide)]
      exact k2
    · rw [List.getElem?_set_self (by omega)]
    · rw [upd_upd]
      refine ⟨p, x, by rw [List.length_set]; exact k1, ?_, ?_, ?_, fun e1 => ?_, fun G q hG hq => k5 G q ((ExtH.upd hp).trans hG) hq⟩
      · rw [List.getElem?_set_ne (by decide)]
        exact k2
      · rw [List.getElem?_set_self (by omega)]
      · rw [upd_same, List.length_cons, List.range'_succ]
        rfl
      · obtain ⟨dx, w1, w2, w3⟩ := k4 e1
        exact ⟨dx, w1, w2, (ExtH.upd hp) _ _ w3⟩
  · cases h
theorem PE.weak {X : Cx} {e : Expr} {t : TE} (h : PE X e t) : PE X e (fun σ H Q => ∃ Q3 : VK, t σ H Q3 ∧ ∀ v H1, Q3 v H1 → Q v H1) := ⟨fun pins s σ H Q I ⟨Q3, h3, hq⟩ => wpAny_mono (h.run pins s σ H Q3 I h3) (fun u s1 ⟨v, H1, I1, r1, q1⟩ => ⟨v, H1, I1, r1, hq v H1 q1⟩) fun _ _ x => x⟩
end
theorem tb_at {cs ws : List Str} {n2 : Nat} {n w : Str} {k : Nat} (h : (n, w, k) ∈ tbOf cs ws n2) : ∃ j : Nat, cs[j]? = some n ∧ ws[j]? = some w ∧ k = if j < n2 then 1 else 0 := by
  unfold tbOf at h
  obtain ⟨⟨⟨c, w'⟩, j⟩, hm, he⟩ := List.mem_map.mp h
  simp only [Prod.mk.injEq] at he
  obtain ⟨rfl, rfl, rfl⟩ := he
  have h2 := List.mem_zipIdx' hm
  obtain ⟨h3, h4⟩ := h2
  have h5 : (cs.zip ws)[j]? = some (c, w') := by
    rw [List.getElem?_eq_getElem h3, ← h4]
  rw [List.getElem?_zip_eq_some] at h5
  exact ⟨j, h5.1, h5.2, rfl⟩
/-- such a def hears how a call ends -/
theorem hear_flags {P : Program} {wo : World} {K : PySem.W.Frag} {mg : Str → Option Value} {base : Heap} {att : Str → Str} {hn act e l i w sh ok : Str} {cs ws : List Str} {n1 n2 : Nat} {g CS : Addr} {pg : Arguments} {bg : List Stmt} {sg : Scope} {dV kV doc pm cdv ct oc : Value} {an od : Option Addr} {osl : Array (Option Value)}
    (m1 : mg hn = some (.ref g)) (m2 : PySem.W.keepIn K (.ref g) = true) (lk : K.lookup g = some ⟨oc, od, .func (PySem.W.fnOf hn hn pg bg sg dV kV doc pm an cdv ct), osl⟩) (hcd : PySem.W.codeIn K cdv hn = true) (hb : Binds K (PySem.W.fnOf hn hn pg bg sg dV kV doc pm an cdv ct) [act] []) (FS : FnScope [act, e, l, i, w] [act] sg)
    (hN : hdN act e l i w sh cs sg = true) (hB : hdB ok act e l i w sh cs ws n1 n2 bg = true) (hi : mg "isinstance" = none) (hsh : mg sh = some (.ref CS)) (hcs : cs.length ≤ 100) (hws : ws.length ≤ 1000) (h12 : n1 ≤ n2)
    (hC : ∀ j n, cs[j]? = some n → ∃ C, mg n = some (.ref C) ∧ HdC K mg att cs j n C ∧ PySem.W.exmOne K (.ref C) (.ref CS) = some true ∧ (j < n1 → att n = "given") ∧ (n1 ≤ j → j < n2 → att n = "index")) :
    HearOk P wo K mg base att hn ⟨false, ok, tbOf cs ws n2⟩ := by
  have hNs := hN
  simp only [hdN, Bool.and_eq_true, decide_eq_true_eq, List.all_eq_true] at hNs
  obtain ⟨⟨⟨⟨⟨⟨⟨⟨⟨⟨⟨⟨⟨n1', n2'⟩, n3'⟩, n4'⟩, n5'⟩, n6'⟩, n7'⟩, n8'⟩, n9'⟩, n10'⟩, _⟩, _⟩, _⟩, _⟩ := hNs
  refine ⟨g, pg, bg, sg, dV, kV, doc, pm, cdv, ct, oc, an, od, osl, [act, e, l, i, w], act, m1, m2, lk, hcd, hb, FS, rfl, .inl n1', n9', fun X q eP eW eK eM eB hr => ?_⟩
  intro f c' s H Q tl hact hco hT
  unfold hdB at hB
  split at hB
  · rename_i act1 p1 p2 p3 sh1 p4 e1 suite p5 p6 ok1 k1 p7 p8 p9
    simp only [Bool.and_eq_true, decide_eq_true_eq] at hB
    obtain ⟨⟨⟨⟨rfl, rfl⟩, rfl⟩, rfl⟩, hsu⟩ := hB
    have z0 : ZOk (cxOf C8.CX0 X.prog X.w X.K X.mg X.base [act1, e1, l, i, w] hn sg g cdv X.A X.stack s H C8.E0).nox act1 e1 l i w sh1 cs := ⟨rfl, FS.nd, hN, fun _ => rfl, by
      have := (hr.deeper (envOfC hn sg s.heap.objs.size g cdv)).un
      show (X.A.deeper _).units + 65 < cLine
      omega, by show X.mg _ = none; rw [eM]; exact hi⟩
    have hne : suite ≠ [] := fun y => by
      subst y
      cases cs <;> simp [suiteB] at hsu
    obtain ⟨b0, sr, rfl⟩ := List.exists_cons_of_ne_nil hne
    refine ⟨_, pss_cons (ps_try_as (X := (cxOf C8.CX0 X.prog X.w X.K X.mg X.base [act1, e1, l, i, w] hn sg g cdv X.A X.stack s H C8.E0).nox) (c := .ref CS) (i := 1) (n := e1) (Wout := fun _ _ _ _ => False)
      (tb := fun W D σ H => ∃ (Ech : XK) (Q3 : VK), (∀ cls d σ' H', Ech cls d H' → W cls d σ' H') ∧ σ[0]? = some (some (.ref f)) ∧ H c' = some (LamX.CodeO c' q) ∧ tl Ech H Q3 ∧ ∀ v H1, Q3 v H1 → D.nx σ H1)
      (ts := fun a cls d D σ H => (∃ τ : L2.St, σ = τ.set 1 (some (.ref a))) ∧ ∃ n wd k C, (n, wd, k) ∈ tbOf cs ws n2 ∧ cls = .ref C ∧ mg n = some (.ref C) ∧ ((att n = "" ∧ d = none ∧ ∀ G p, ExtH H G → G p = none → D.rt (.ref p) (upd G p (.lst (shownH .str (.bl true) k wd .non)))) ∨
        ∃ dx v, att n ≠ "" ∧ d = some dx ∧ H dx = some (.xd [(att n, v)]) ∧ ∀ G p, ExtH H G → G p = none → D.rt (.ref p) (upd G p (.lst (shownH .str (.bl true) k wd v)))))
      rfl rfl FS.nd rfl n2' ⟨n7', dbg1 n8', .inl (by show X.mg _ = _; rw [eM]; exact hsh)⟩ LamX.takes0 (fun W pn xe tk _ => ?_) (fun a oe cls d pn hz hf => ?_)) (pss_one (ps_ret (pe_lst (pa_cons pe_str pa_nil rfl)))), ?_⟩
    · refine ⟨fun pins s' σ H' D I ⟨Ech, Q3, hW, h1, h2, h3, h4⟩ => ?_⟩
      exact (pss_one (ps_expr (pos := p3) (PE.weak (hact W pn xe Ech p1 p2 tk hW)) rfl)).run pins s' σ H' D I ⟨Q3, ⟨h1, h2, h3⟩, h4⟩
    · refine ⟨fun pins s' σ H' D I ⟨⟨τ, hτ⟩, n, wd, k, C, hm, hcl, hmn, hp⟩ => ?_⟩
      subst hcl
      obtain ⟨j, hj, hwj, hk⟩ := tb_at hm
      obtain ⟨C2, hm2, D2, hx, ha1, ha2⟩ := hC j n hj
      rw [hmn] at hm2
      cases hm2
      have hl5 : σ.length = 5 := I.len
      have hs1 : σ[1]? = some (some (.ref a)) := by
        rw [hτ, List.getElem?_set_self (by rw [hτ, List.length_set] at hl5; omega)]
      have DX : HdC X.K X.mg att cs j n C := by rw [eK, eM]; exact D2
      have hlt : j < cs.length := (List.getElem?_eq_some_iff.mp hj).1
      refine (pss_suite z0 DX hz hf hlt hcs hwj hws hk h12 ha1 ha2 hsu).run pins s' σ H' D I ?_
      rcases hp with ⟨q1, q2, q3⟩ | ⟨dx, v, q1, q2, q3, q4⟩
      · refine ⟨.non, hl5, hs1, .inl q2, fun e1 => ?_, q3⟩
        exfalso
        have hjn : j < n2 := by
          by_cases y : j < n2
          · exact y
          · rw [hk, if_neg y] at e1
            cases e1
        rcases Nat.lt_or_ge j n1 with y | y
        · rw [ha1 y] at q1
          exact absurd q1 (by decide)
        · rw [ha2 y hjn] at q1
          exact absurd q1 (by decide)
      · exact ⟨v, hl5, hs1, .inr ⟨dx, _, q2, q3⟩, fun _ => ⟨dx, q1, q2, q3⟩, q4⟩
    · refine ⟨_, _, fun cls d σ' H' hE => ?_, rfl, hco, hT, fun v H1 hv => ⟨by show 1 ≤ sizeLine; decide, fun p hp => hv H1 p (fun _ _ y => y) hp⟩⟩
      obtain ⟨n, wd, k, C, hm, hcl, hmn, hp⟩ := hE
      obtain ⟨j, hj, hwj, hk⟩ := tb_at hm
      obtain ⟨C2, hm2, D2, hx, ha1, ha2⟩ := hC j n hj
      have hmn2 := hmn
      rw [hmn2] at hm2
      cases hm2
      refine ⟨true, by subst hcl; show PySem.W.exmOne X.K _ _ = _; rw [eK]; exact hx, fun _ a ha => ⟨⟨σ', rfl⟩, n, wd, k, C, hm, hcl, hmn2, hp⟩, fun y => by cases y⟩
  · cases hB
end SS

end

section
set_option linter.all false
set_option autoImplicit false
set_option maxRecDepth 100000
set_option maxHeartbeats 4000000
/-! What handlers and errors need of the text's heap, by checks. -/
namespace SS
open PySem PySem.Spec PyProof.Rows L2
variable [Tabl]
section
open PySem.W
def clsB (K : Frag) (C : Addr) : Bool :=
  match K.lookup C with
  | some ⟨.type t, _, .cls cd, sl⟩ => (match cd.mro, sl.toList with
    | .ref C' :: bm, [_, _, _, _, some (.builtin n), _] => decide (t = "type") && decide (C' = C) && decide (n = "ValueError.__new__") && !cd.hasDel && cd.hasDict && HandSPX.refsVE bm
    | _, _ => false)
  | _ => false
def oexB (K : Frag) (C : Addr) : Bool := clsB K C && decide (findIn K (.ref C) "__setattr__" = some (some (.builtin "object.__setattr__"))) && decide (subIn K (.ref C) (.type "BaseException") = some true) && decide (typeIn K (.ref C) = some (.type "type")) && keepIn K (.ref C)
theorem oexB_ok {K : Frag} {C : Addr} (h : oexB K C = true) : OexC K C := by
  simp only [oexB, Bool.and_eq_true, decide_eq_true_eq] at h
  obtain ⟨⟨⟨⟨h1, h2⟩, h3⟩, h4⟩, h5⟩ := h
  refine ⟨?_, h2, h3, h4, h5⟩
  unfold clsB at h1
  split at h1
  · rename_i t dd cd sl hl
    split at h1
    · rename_i C' bm k0 k1 k2 k3 n k5 hm hs
      simp only [Bool.and_eq_true, decide_eq_true_eq, Bool.not_eq_true'] at h1
      obtain ⟨⟨⟨⟨⟨rfl, rfl⟩, rfl⟩, hdel⟩, hdict⟩, hr⟩ := h1
      obtain ⟨nm, bs, mro, ns, qn, hd, sn, sub, ab, col, del⟩ := cd
      dsimp only at hm hdel hdict
      subst hm hdel hdict
      have e : sl = #[k0, k1, k2, k3, some (.builtin "ValueError.__new__"), k5] := by
        obtain ⟨l⟩ := sl
        simp only at hs
        rw [hs]
      subst e
      exact ⟨nm, qn, ns, bs, bm, sn, sub, ab, col, dd, k0, k1, k2, k3, k5, hl, hr⟩
    · cases h1
  · cases h1
def cellB (K : Frag) (cc C : Addr) : Bool :=
  match K.lookup cc with
  | some ⟨_, _, .cell (some (.ref C')), _⟩ => decide (C' = C)
  | _ => false
def fileB (K : Frag) (cda : Addr) (file : Str) : Bool :=
  match K.lookup cda with
  | some ⟨_, _, .fields vs, _⟩ => (match (vs[2]? : Option Value) with
    | some (.str f _) => decide (f = file)
    | _ => false)
  | _ => false
def iniB (K : Frag) (file f : Str) (C : Addr) : Bool :=
  match findIn K (.ref C) "__init__" with
  | some (some (.ref fI)) => decide (typeIn K (.ref fI) = some (.type "function")) && (match K.lookup fI with
    | some ⟨_, _, .func fd, _⟩ => (match fd.body, fd.closure, fd.code with
      | .stmts body, [(x, cc)], .ref cda => decide (x = "__class__") && decide (fd.globals = mainGlobals) && decide (fd.builtins = builtinsNs) && codeIn K (.ref cda) fd.qualname && initB f fd.params fd.scope body && decide (fd.defaults = .none) && fileB K cda file && cellB K cc C
      | _, _, _ => false)
    | _ => false)
  | _ => false
def errB (K : Frag) (file f : Str) (C : Addr) : Bool :=
  oexB K C && decide (findIn K (.ref C) f = some none) && decide (nsIn K mainGlobals "super" = some none) && decide (nsIn K cStatics "thirdparty.any" = some none) && decide (ks_superIn K C C "__init__" = some (some (.builtin "ValueError.__init__"))) && decide (subIn K (.ref C) (.type "ValueError") = some true) && decide (mroIn K C (.ref C) = some true) &&
    excInitIn K C HandSPX.veTail "ValueError.__new__" && iniB K file f C
theorem errB_ok {K : Frag} {file f : Str} {C : Addr} (h : errB K file f C = true) : ErrC K file f C := by
  simp only [errB, Bool.and_eq_true, decide_eq_true_eq] at h
  obtain ⟨⟨⟨⟨⟨⟨⟨⟨h1, h2⟩, h3⟩, h4⟩, h5⟩, h6⟩, h7⟩, h8⟩, h9⟩ := h
  refine ⟨oexB_ok h1, h2, h3, h4, h5, h6, h7, h8, ?_⟩
  unfold iniB at h9
  split at h9
  · rename_i fI hi
    simp only [Bool.and_eq_true, decide_eq_true_eq] at h9
    obtain ⟨ht, h9⟩ := h9
    split at h9
    · rename_i oc od fd osl hl
      split at h9
      · rename_i body x cc cda hb hcl hcd
        simp only [Bool.and_eq_true, decide_eq_true_eq] at h9
        obtain ⟨⟨⟨⟨⟨⟨⟨rfl, g1⟩, g2⟩, g3⟩, g4⟩, g5⟩, g6⟩, g7⟩ := h9
        unfold fileB at g6
        split at g6
        · rename_i a1 a2 vs a3 hf
          split at g6
          · rename_i f2 tf hv
            have := of_decide_eq_true g6
            subst this
            unfold cellB at g7
            split at g7
            · rename_i b1 b2 C' b3 hc
              have := of_decide_eq_true g7
              subst this
              exact ⟨fI, cc, cda, _, _, _, fd, body, vs, tf, hi, ht, hl, rfl, hb, g1, hcl, hcd, g2, g3, g4, g5, hf, rfl, hv, hc, rfl⟩
            · cases g7
          · cases g6
        · cases g6
      · cases h9
    · cases h9
  · cases h9
def err0B (K : Frag) (C : Addr) : Bool := excIn K C HandSPX.veTail "ValueError.__new__" && decide (subIn K (.ref C) (.type "BaseException") = some true) && decide (typeIn K (.ref C) = some (.type "type")) && keepIn K (.ref C)
theorem err0B_ok {K : Frag} {C : Addr} (h : err0B K C = true) : Err0 K C := by
  simp only [err0B, Bool.and_eq_true, decide_eq_true_eq] at h
  obtain ⟨⟨⟨h1, h2⟩, h3⟩, h4⟩ := h
  exact ⟨h1, h2, h3, h4⟩
def excB (K : Frag) (D : Addr) : Bool :=
  decide (findIn K (.ref D) "__getattribute__" = some (some (.builtin "BaseException.__getattribute__"))) && decide (findIn K (.ref D) "__getattr__" = some none) && decide (subIn K (.ref D) (.type "BaseException") = some true) && hasDictIn K D && decide (findIn K (.ref D) "__class__" = some (some (.builtin "object.__class__"))) &&
    decide (specialIn K (.builtin "object.__class__") "__get__" = some (some (.builtin "getset_descriptor.__get__"))) && decide (takesIn K (.builtin "object.__class__") = some true) && decide (mroIn K D (.type "object") = some true)
theorem excB_ok {K : Frag} {D : Addr} (h : excB K D = true) : ExcC K D := by
  simp only [excB, Bool.and_eq_true, decide_eq_true_eq] at h
  obtain ⟨⟨⟨⟨⟨⟨⟨h1, h2⟩, h3⟩, h4⟩, h5⟩, h6⟩, h7⟩, h8⟩ := h
  exact ⟨h1, h2, h3, h4, h5, h6, h7, h8⟩
/-- of a handler's classes: each is told from the others -/
def hdcB (K : Frag) (Cs : List Addr) (CS : Addr) (att : Str) (C : Addr) (j : Nat) : Bool :=
  (clsIn K C).isSome && xfB K C && excB K C && (decide (att = "") || decide (findIn K (.ref C) att = some none)) && (Cs.zipIdx.all fun p => decide (kitOne K (.ref C) (.ref p.1) = some (decide (p.2 = j)))) && decide (exmOne K (.ref C) (.ref CS) = some true)
end
theorem hear_by {P : Program} {wo : World} {K : PySem.W.Frag} {mg : Str → Option Value} {base : Heap} {att : Str → Str} {hn act e l i w sh ok : Str} {cs ws : List Str} {n1 n2 : Nat} {g CS : Addr} {pg : Arguments} {bg : List Stmt} {sg : Scope} {dV kV doc pm cdv ct oc : Value} {an od : Option Addr} {osl : Array (Option Value)} (Cs : List Addr)
    (m1 : mg hn = some (.ref g)) (m2 : PySem.W.keepIn K (.ref g) = true) (lk : K.lookup g = some ⟨oc, od, .func (PySem.W.fnOf hn hn pg bg sg dV kV doc pm an cdv ct), osl⟩) (hcd : PySem.W.codeIn K cdv hn = true) (hb : Binds K (PySem.W.fnOf hn hn pg bg sg dV kV doc pm an cdv ct) [act] []) (FS : FnScope [act, e, l, i, w] [act] sg)
    (hN : hdN act e l i w sh cs sg = true) (hB : hdB ok act e l i w sh cs ws n1 n2 bg = true) (hi : mg "isinstance" = none) (hsh : mg sh = some (.ref CS)) (hcs : cs.length ≤ 100) (hws : ws.length ≤ 1000) (h12 : n1 ≤ n2)
    (hm : ∀ j n, cs[j]? = some n → ∃ C, Cs[j]? = some C ∧ mg n = some (.ref C) ∧ hdcB K Cs CS (att n) C j = true ∧ (j < n1 → att n = "given") ∧ (n1 ≤ j → j < n2 → att n = "index"))
    : HearOk P wo K mg base att hn ⟨false, ok, tbOf cs ws n2⟩ := by
  refine hear_flags m1 m2 lk hcd hb FS hN hB hi hsh hcs hws h12 fun j n hj => ?_
  obtain ⟨C, hC, hmn, hd, ha⟩ := hm j n hj
  simp only [hdcB, Bool.and_eq_true, Bool.or_eq_true, decide_eq_true_eq, List.all_eq_true] at hd
  obtain ⟨⟨⟨⟨⟨d1, d2⟩, d3⟩, d4⟩, d5⟩, d6⟩ := hd
  refine ⟨C, hmn, ⟨d1, xfB_ok d2, excB_ok d3, fun h => d4.resolve_left h, fun q c hc => ?_⟩, d6, ha⟩
  obtain ⟨Cc, hCc, hmc, _⟩ := hm q c hc
  refine ⟨Cc, hmc, d5 (Cc, q) ?_⟩
  rw [List.mem_zipIdx_iff_getElem?]
  exact hCc
end SS

end

section
set_option linter.all false
set_option autoImplicit false
set_option maxRecDepth 100000
/-! Fields changed, compared. -/
namespace SS
open PySem
theorem cut_to {xs : List D} (n : Nat) : cutD xs none (some (n : Int)) = xs.take n := by
  unfold cutD
  rw [HT.sIx_nat, HT.sIx_none, List.drop_zero, Nat.sub_zero]
  rcases Nat.le_total n xs.length with h | h
  · rw [Nat.min_eq_left h]
  · rw [Nat.min_eq_right h, List.take_length, List.take_of_length_le h]
theorem cut_from {xs : List D} (n : Nat) : cutD xs (some (n : Int)) none = xs.drop n := by
  unfold cutD
  rw [HT.sIx_nat, HT.sIx_none]
  rcases Nat.le_total n xs.length with h | h
  · rw [Nat.min_eq_left h, List.take_of_length_le (by rw [List.length_drop]; exact Nat.le_refl _)]
  · rw [Nat.min_eq_right h, List.drop_length, List.take_nil, List.drop_of_length_le h]
theorem cut_next {xs : List D} (n : Nat) : cutD xs (some ((n : Int) + 1)) none = xs.drop (n + 1) := cut_from (n + 1)
theorem eq_self {n m : Nat} {d : D} (h : Rp n m d) (hn : n ≤ 64) : eqD d d = some true := by
  have hs : SeqAt.shaped d = true := by
    unfold SeqAt.shaped
    simp only [h.lay, Bool.true_and, decide_eq_true_eq]
    have := h.dp
    omega
  have he : PyData.eqv d d = true := SeqAt.eqv_refl d h.lay
  unfold eqD
  split
  · simp
  · simp [hs, he]
theorem panD_in : ∀ (l : List (List Int)) (i : Nat) {x : D}, x ∈ panD i l → ∃ (a b : Nat) (s : List Int), x = .tuple [.int ((i + a : Nat) : Int), .int (b : Int)] ∧ l[a]? = some s ∧ b < s.length
  | [], i, x, h => by cases h
  | s :: r, i, x, h => by
    have h : x ∈ (rangeD 0 s.length).map (fun p => PyData.tuple [.int (i : Nat), p]) ++ panD (i + 1) r := h
    rcases List.mem_append.mp h with m | m
    · obtain ⟨p, hp, rfl⟩ := List.mem_map.mp m
      obtain ⟨y, rfl, h1, h2⟩ := mem_range hp
      obtain ⟨b, rfl⟩ : ∃ b : Nat, y = b := ⟨y.toNat, by omega⟩
      exact ⟨0, b, s, rfl, rfl, by omega⟩
    · obtain ⟨a, b, t, rfl, h1, h2⟩ := panD_in r (i + 1) m
      exact ⟨a + 1, b, t, by rw [show i + 1 + a = i + (a + 1) by omega], by simpa using h1, h2⟩
theorem StrOk.set {s : List Int} (h : StrOk s) {b : Nat} {x : Int} (h0 : 0 ≤ x) (h9 : x ≤ 99) : StrOk (s.set b x) where
  n0 := by rw [List.length_set]; exact h.n0
  n8 := by rw [List.length_set]; exact h.n8
  at99 := fun y m => by
    rcases List.mem_or_eq_of_mem_set m with m | m
    · exact h.at99 y m
    · rw [m]; exact ⟨h0, h9⟩
theorem FieldOk.set {f : List (List Int)} (h : FieldOk f) {a : Nat} {s : List Int} (ha : f[a]? = some s) {t : List Int} (ht : StrOk t) (hl : t.length = s.length) : FieldOk (f.set a t) where
  n0 := by rw [List.length_set]; exact h.n0
  n8 := by rw [List.length_set]; exact h.n8
  str := fun u m => by
    rcases List.mem_or_eq_of_mem_set m with m | m
    · exact h.str u m
    · rw [m]; exact ht
  tot := by
    have e : (f.set a t).map List.length = f.map List.length := by
      rw [List.map_set]
      apply List.ext_getElem?
      intro i
      by_cases hi : a = i
      · subst hi
        have hl2 : a < f.length := (List.getElem?_eq_some_iff.mp ha).1
        rw [List.getElem?_set_self (by rw [List.length_map]; exact hl2), List.getElem?_map, ha, hl]
        rfl
      · rw [List.getElem?_set_ne hi]
    rw [e]
    exact h.tot
theorem rp_field {f : List (List Int)} (h : FieldOk f) : Rp 2 4168 (fieldD f) := by
  have : Rp 2 (8 * 521) (fieldD f) := Rp.tuple (fun d m => by
    obtain ⟨s, hs, rfl⟩ := tups_at m
    exact rp_str (fun x hx => by have := (h.str s hs).at99 x hx; omega) (h.str s hs).n8) (by rw [List.length_map]; exact h.n8)
  exact this
theorem take_set_drop {α : Type} {xs : List α} {n : Nat} {x : α} (h : n < xs.length) : xs.take n ++ (x :: xs.drop (n + 1)) = xs.set n x := by
  rw [List.set_eq_take_append_cons_drop, if_pos h]
theorem e_int (i j : Int) : eqD (.int i) (.int j) = some (i == j) := rfl
theorem eq_two : eqD (.int ((2 : Nat) : Int)) (.int 2) = some true := rfl
theorem field_set {f : List (List Int)} {a b : Nat} {s : List Int} {v : Int} (ha : f[a]? = some s) (hb : b < s.length) : (f.map tupI).take a ++ [PyData.tuple ((s.map PyData.int).take b ++ [.int v] ++ (s.map PyData.int).drop (b + 1))] ++ (f.map tupI).drop (a + 1) = (f.set a (s.set b v)).map tupI := by
  have hl : a < f.length := (List.getElem?_eq_some_iff.mp ha).1
  have e1 : (s.map PyData.int).take b ++ [.int v] ++ (s.map PyData.int).drop (b + 1) = (s.set b v).map PyData.int := by
    rw [List.append_assoc, List.map_set]
    exact take_set_drop (by rw [List.length_map]; exact hb)
  have e2 : (f.set a (s.set b v)).map tupI = (f.map tupI).set a (tupI (s.set b v)) := by rw [List.map_set]
  rw [e1, List.append_assoc, e2]
  exact take_set_drop (by rw [List.length_map]; exact hl)
end SS

end

section
set_option linter.all false
set_option autoImplicit false
set_option maxRecDepth 100000
/-! Currents. -/
namespace SS
open PySem
/-- the current of a string at a level: the level's light, counted from the greatest on; 0 above its length -/
def curS (s : List Int) (l : Int) : Int := if 1 ≤ l ∧ l ≤ s.length then (sortI s).reverse.getD (l - 1).toNat 0 else 0
theorem curS_le {s : List Int} {l : Int} (h1 : 1 ≤ l) (h : l ≤ s.length) : curS s l = (sortI s).reverse.getD (l - 1).toNat 0 := if_pos ⟨h1, h⟩
theorem curS_gt {s : List Int} {l : Int} (h : (s.length : Int) < l) : curS s l = 0 := if_neg fun z => by omega
def curF (f : List (List Int)) (l : Int) : Int := (f.map fun s => curS s l).sum
theorem curS_in {s : List Int} (h : StrOk s) (l : Int) : 0 ≤ curS s l ∧ curS s l ≤ 99 := by
  unfold curS
  by_cases c : 1 ≤ l ∧ l ≤ (s.length : Int)
  · rw [if_pos c]
    have hl : (l - 1).toNat < (sortI s).reverse.length := by rw [List.length_reverse, (sortI_perm s).length_eq]; omega
    rw [List.getD_eq_getElem?_getD, List.getElem?_eq_getElem hl, Option.getD_some]
    have m : (sortI s).reverse[(l - 1).toNat] ∈ s := (sortI_perm s).mem_iff.mp (List.mem_reverse.mp (List.getElem_mem hl))
    exact h.at99 _ m
  · rw [if_neg c]
    exact ⟨by omega, by omega⟩
theorem curF_in : ∀ {f : List (List Int)}, (∀ s ∈ f, StrOk s) → ∀ l, 0 ≤ curF f l ∧ curF f l ≤ 99 * f.length
  | [], _, _ => ⟨Int.le_refl _, Int.le_refl _⟩
  | s :: r, h, l => by
    have h1 := curS_in (h s List.mem_cons_self) l
    have h2 := curF_in (f := r) (fun t m => h t (List.mem_cons_of_mem _ m)) l
    have e : curF (s :: r) l = curS s l + curF r l := rfl
    rw [e, List.length_cons]
    omega
theorem comp_filter_to {f : D → Cells → Res (Option D)} {ds : List D} {S : Cells} {r : Res (List D)} (hr : compLoop f ds S = r) (p : D → Bool) (g : D → D) (h : ∀ x ∈ ds, f x S = .ok (if p x then some (g x) else none) S) : r = .ok ((ds.filter p).map g) S := by
  rw [← hr]
  exact compLoop_filter h
/-- a string's lights, falling -/
def fallD : D → D
  | .tuple xs => match asInts xs with
    | some ns => .list ((sortI ns).reverse.map .int)
    | none => .none
  | _ => .none
def fallL (s : List Int) : D := .list ((sortI s).reverse.map .int)
theorem fallD_tup (s : List Int) : fallD (tupI s) = fallL s := by
  show (match asInts (s.map PyData.int) with | some ns => PyData.list ((sortI ns).reverse.map .int) | none => .none) = _
  rw [asInts_map]
  rfl
theorem fall_map (f : List (List Int)) : (f.map tupI).map fallD = f.map fallL := by
  rw [List.map_map]
  exact List.map_congr_left fun s _ => fallD_tup s
theorem fall_len (s : List Int) : ((sortI s).reverse.map PyData.int).length = s.length := by
  rw [List.length_map, List.length_reverse, (sortI_perm s).length_eq]
theorem fall_at {s : List Int} {l : Int} (h1 : 1 ≤ l) (h : l ≤ s.length) : atD ((sortI s).reverse.map PyData.int) (l - 1) = some (.int (curS s l)) := by
  obtain ⟨i, hi⟩ : ∃ i : Nat, l - 1 = i := ⟨(l - 1).toNat, by omega⟩
  have hl : i < (sortI s).reverse.length := by rw [List.length_reverse, (sortI_perm s).length_eq]; omega
  rw [hi, at_nat, List.getElem?_map, List.getElem?_eq_getElem hl, curS_le h1 h, hi, Int.toNat_natCast, List.getD_eq_getElem?_getD, List.getElem?_eq_getElem hl]
  rfl
/-- the strings that reach a level, their lights there -/
def reachD (l : Int) : D → Bool
  | .list xs => decide (l ≤ (xs.length : Int))
  | _ => false
def lightD (l : Int) : D → D
  | .list xs => (atD xs (l - 1)).getD .none
  | _ => .none
theorem reach_sum {l : Int} (h1 : 1 ≤ l) : ∀ f : List (List Int), ∃ ns : List Int, ((f.map fallL).filter (reachD l)).map (lightD l) = ns.map .int ∧ ns.sum = curF f l
  | [] => ⟨[], rfl, rfl⟩
  | s :: r => by
    obtain ⟨ns, e1, e2⟩ := reach_sum h1 r
    have e : curF (s :: r) l = curS s l + curF r l := rfl
    by_cases h : l ≤ (s.length : Int)
    · refine ⟨curS s l :: ns, ?_, by rw [e, List.sum_cons, e2]⟩
      have hd : reachD l (fallL s) = true := by
        show decide (l ≤ ((((sortI s).reverse.map PyData.int).length : Nat) : Int)) = true
        rw [fall_len]
        exact decide_eq_true h
      rw [List.map_cons, List.filter_cons, if_pos hd, List.map_cons, e1]
      show (atD ((sortI s).reverse.map PyData.int) (l - 1)).getD .none :: _ = _
      rw [fall_at h1 h]
      rfl
    · refine ⟨ns, ?_, by rw [e, curS_gt (by omega), e2]; omega⟩
      have hd : ¬ reachD l (fallL s) = true := by
        show ¬ decide (l ≤ ((((sortI s).reverse.map PyData.int).length : Nat) : Int)) = true
        rw [fall_len]
        simpa using h
      rw [List.map_cons, List.filter_cons, if_neg hd, e1]
/-- the levels up to the longest string's -/
def longest (f : List (List Int)) : Int := maxL (lensI f)
def lvls (m : Int) : List Int := (List.range m.toNat).map fun (i : Nat) => 1 + (i : Int)
theorem range_lvls (m : Int) : rangeD 1 (m + 1) = (lvls m).map .int := by
  unfold rangeD lvls
  rw [List.map_map, show (m + 1 - 1).toNat = m.toNat by omega]
  rfl
theorem lvls_mem {m l : Int} (h : l ∈ lvls m) : 1 ≤ l ∧ l ≤ m := by
  obtain ⟨i, hi, rfl⟩ := List.mem_map.mp h
  rw [List.mem_range] at hi
  exact ⟨by omega, by omega⟩
theorem lvls_len (m : Int) : (lvls m).length = m.toNat := by
  unfold lvls
  rw [List.length_map, List.length_range]
theorem maxL_mem : ∀ {ns : List Int}, ns ≠ [] → maxL ns ∈ ns
  | [], h => absurd rfl h
  | n :: r, _ => by
    have : ∀ (l : List Int) (a : Int), l.foldl (fun a b => if a < b then b else a) a = a ∨ l.foldl (fun a b => if a < b then b else a) a ∈ l := by
      intro l
      induction l with
      | nil => intro a; exact .inl rfl
      | cons b t ih =>
        intro a
        rw [List.foldl_cons]
        rcases ih (if a < b then b else a) with e | e
        · rw [e]
          by_cases q : a < b
          · rw [if_pos q]; exact .inr List.mem_cons_self
          · rw [if_neg q]; exact .inl rfl
        · exact .inr (List.mem_cons_of_mem _ e)
    rcases this r n with e | e
    · show r.foldl _ n ∈ _
      rw [e]
      exact List.mem_cons_self
    · exact List.mem_cons_of_mem _ e
theorem lensI_ne {f : List (List Int)} (h : FieldOk f) : lensI f ≠ [] := fun z => by
  have e := congrArg List.length z
  rw [lensI_length] at e
  have := h.n0
  simp at e
  subst e
  simp at this
theorem longest_in {f : List (List Int)} (h : FieldOk f) : 1 ≤ longest f ∧ longest f ≤ 8 := lens_le h.str (maxL_mem (lensI_ne h))
def atLvl (g : Int → Int) : D → D
  | .int l => .int (g l)
  | _ => .none
theorem atLvl_map (g : Int → Int) (ls : List Int) : (ls.map PyData.int).map (atLvl g) = (ls.map g).map .int := by
  rw [List.map_map, List.map_map]
  rfl
/-- a row of up to eight numbers -/
theorem rp_row {ls : List Int} {g : Int → Int} (hl : ls.length ≤ 8) (h : ∀ l ∈ ls, -100000 ≤ g l ∧ g l ≤ 100000) : Rp 1 520 (.tuple ((ls.map g).map .int)) := by
  have : Rp 1 (8 * 65) (.tuple ((ls.map g).map .int)) := Rp.tuple (n := 0) (m := 64) (fun d hd => by
    obtain ⟨x, hx, rfl⟩ := List.mem_map.mp hd
    obtain ⟨l, hm, rfl⟩ := List.mem_map.mp hx
    have := h l hm
    exact Rp.int (by omega) (by omega)) (by rw [List.length_map, List.length_map]; exact hl)
  exact this
theorem repr_two {n m : Nat} {d : D} (h : Rp n m d) (hn : n ≤ 63 := by decide) (hm : 2 * (m + 1) ≤ 65536 := by decide) : reprOk (.list [d, d]) = true := by
  have q : Rp (n + 1) (2 * (m + 1)) (.list [d, d]) := Rp.list (fun e he => by
    simp only [List.mem_cons, List.not_mem_nil, or_false] at he
    rcases he with rfl | rfl <;> exact h) (by simp)
  exact (q.mono (by omega) (by omega)).ok
end SS

end

section
set_option linter.all false
set_option autoImplicit false
set_option maxRecDepth 100000
/-! Yields, sums. -/
namespace SS
open PySem
theorem le_maxL {ns : List Int} {x : Int} (h : x ∈ ns) : x ≤ maxL ns := by
  cases ns with
  | nil => cases h
  | cons n r =>
    show x ≤ r.foldl _ n
    rcases List.mem_cons.mp h with e | e
    · rw [e]; exact fold_ge
    · exact fold_all e
theorem mem_lvls {m l : Int} (h1 : 1 ≤ l) (h2 : l ≤ m) : l ∈ lvls m :=
  List.mem_map.mpr ⟨(l - 1).toNat, List.mem_range.mpr (by omega), by omega⟩
theorem lens_long {f : List (List Int)} {s : List Int} (h : s ∈ f) : (s.length : Int) ≤ longest f := le_maxL (List.mem_map.mpr ⟨s, h, rfl⟩)
theorem curF_above {f : List (List Int)} {l : Int} (h : longest f < l) : curF f l = 0 := by
  have e : f.map (fun s => curS s l) = f.map fun _ => (0 : Int) := List.map_congr_left fun s m => curS_gt (by have := lens_long m; omega)
  unfold curF
  rw [e]
  clear e h
  induction f with
  | nil => rfl
  | cons a r ih => rw [List.map_cons, List.sum_cons, ih]; rfl
theorem yld_nn {f : List (List Int)} (h : FieldOk f) {l : Int} (h1 : 1 ≤ l) : 0 ≤ l * curF f l := Int.mul_nonneg (by omega) (curF_in h.str l).1
/-- the greatest yield: of the levels up to the longest string's, or of more -/
theorem great_more {f : List (List Int)} (h : FieldOk f) {m : Int} (hm : longest f ≤ m) : maxL ((lvls m).map fun l => l * curF f l) = maxL ((lvls (longest f)).map fun l => l * curF f l) := by
  have hl := longest_in h
  have hne : (lvls (longest f)).map (fun l => l * curF f l) ≠ [] := fun z => by
    have := congrArg List.length z
    rw [List.length_map, lvls_len] at this
    simp at this
    omega
  have hmem := maxL_mem hne
  obtain ⟨l0, m0, e0⟩ := List.mem_map.mp hmem
  have hb := lvls_mem m0
  refine maxL_top (List.mem_map.mpr ⟨l0, mem_lvls hb.1 (by omega), e0⟩) fun y hy => ?_
  obtain ⟨l, ml, rfl⟩ := List.mem_map.mp hy
  have hb2 := lvls_mem ml
  by_cases q : l ≤ longest f
  · exact le_maxL (List.mem_map.mpr ⟨l, mem_lvls hb2.1 q, rfl⟩)
  · have z : l * curF f l = 0 := by rw [curF_above (by omega), Int.mul_zero]
    show l * curF f l ≤ _
    rw [z, ← e0]
    exact yld_nn h hb.1
theorem perm_sum {a b : List Int} (p : a.Perm b) : a.sum = b.sum := by
  induction p with
  | nil => rfl
  | cons x _ ih => rw [List.sum_cons, List.sum_cons, ih]
  | swap x y l => simp only [List.sum_cons]; omega
  | trans _ _ h1 h2 => rw [h1, h2]
theorem top_sum : ∀ {r : List Int} {i : Nat} {x : Int}, r.Pairwise (· ≥ ·) → (∀ y ∈ r, 0 ≤ y) → r[i]? = some x → ((i : Int) + 1) * x ≤ r.sum
  | [], i, x, _, _, h => by simp at h
  | a :: t, 0, x, hp, hn, h => by
    have e : a = x := by simpa using h
    subst e
    have : 0 ≤ t.sum := by
      have hn2 : ∀ y ∈ t, 0 ≤ y := fun y m => hn y (List.mem_cons_of_mem _ m)
      clear hp hn h
      induction t with
      | nil => exact Int.le_refl _
      | cons b u ih =>
        have h1 := hn2 b List.mem_cons_self
        have h2 := ih fun y m => hn2 y (List.mem_cons_of_mem _ m)
        rw [List.sum_cons]
        omega
    rw [List.sum_cons]
    omega
  | a :: t, i + 1, x, hp, hn, h => by
    obtain ⟨h1, h2⟩ := List.pairwise_cons.mp hp
    have h3 : t[i]? = some x := by simpa using h
    have ih := top_sum h2 (fun y m => hn y (List.mem_cons_of_mem _ m)) h3
    have h4 := h1 x (List.mem_of_getElem? h3)
    have e : (((i + 1 : Nat) : Int) + 1) * x = ((i : Int) + 1) * x + x := by
      rw [Int.natCast_add, Int.add_mul, Int.add_mul, Int.add_mul]
      omega
    rw [List.sum_cons, e]
    omega
theorem cur_sum {s : List Int} (h : StrOk s) {l : Int} (h1 : 1 ≤ l) : l * curS s l ≤ s.sum := by
  have hs : ((sortI s).reverse).sum = s.sum := perm_sum ((List.reverse_perm _).trans (sortI_perm s))
  have hp : ((sortI s).reverse).Pairwise (· ≥ ·) := List.pairwise_reverse.mpr (sortI_sorted s)
  have hn : ∀ y ∈ (sortI s).reverse, 0 ≤ y := fun y m => (h.at99 y ((sortI_perm s).mem_iff.mp (List.mem_reverse.mp m))).1
  by_cases q : l ≤ (s.length : Int)
  · have hl : (l - 1).toNat < (sortI s).reverse.length := by rw [List.length_reverse, (sortI_perm s).length_eq]; omega
    have t := top_sum hp hn (List.getElem?_eq_getElem hl)
    rw [curS_le h1 q, List.getD_eq_getElem?_getD, List.getElem?_eq_getElem hl, Option.getD_some, ← hs]
    have e : (((l - 1).toNat : Nat) : Int) + 1 = l := by omega
    rw [e] at t
    exact t
  · rw [curS_gt (by omega), Int.mul_zero, ← hs]
    generalize (sortI s).reverse = r at hn
    clear hs hp
    induction r with
    | nil => exact Int.le_refl _
    | cons b u ih =>
      have a1 := hn b List.mem_cons_self
      have a2 := ih fun y m => hn y (List.mem_cons_of_mem _ m)
      rw [List.sum_cons]
      omega
def total (f : List (List Int)) : Int := (f.map List.sum).sum
theorem yld_total : ∀ {f : List (List Int)}, (∀ s ∈ f, StrOk s) → ∀ {l : Int}, 1 ≤ l → l * curF f l ≤ total f
  | [], _, l, _ => by
    have : curF [] l = 0 := rfl
    rw [this, Int.mul_zero]
    exact Int.le_refl _
  | s :: r, h, l, h1 => by
    have e : curF (s :: r) l = curS s l + curF r l := rfl
    have e2 : total (s :: r) = s.sum + total r := rfl
    have a := cur_sum (h s List.mem_cons_self) h1
    have b := yld_total (f := r) (fun t m => h t (List.mem_cons_of_mem _ m)) h1
    rw [e, e2, Int.mul_add]
    omega
end SS

end

section
set_option linter.all false
set_option autoImplicit false
set_option maxRecDepth 100000
/-! The l-th greatest light, by counting. -/
namespace SS
open PySem
def cnt (t : Int) (s : List Int) : Nat := (s.filter (fun x => decide (t ≤ x))).length
theorem cnt_perm {t : Int} {a b : List Int} (p : a.Perm b) : cnt t a = cnt t b := (p.filter _).length_eq
/-- in a falling row: the i-th is t or more just if more than i are -/
theorem cnt_fall : ∀ {r : List Int} {i : Nat} {x t : Int}, r.Pairwise (· ≥ ·) → r[i]? = some x → (t ≤ x ↔ i + 1 ≤ cnt t r)
  | [], i, x, t, _, h => by simp at h
  | a :: r, 0, x, t, hp, h => by
    have e : a = x := by simpa using h
    subst e
    obtain ⟨h1, h2⟩ := List.pairwise_cons.mp hp
    constructor
    · intro q
      unfold cnt
      rw [List.filter_cons, if_pos (decide_eq_true q), List.length_cons]
      omega
    · intro q
      by_cases z : t ≤ a
      · exact z
      · exfalso
        have : (a :: r).filter (fun x => decide (t ≤ x)) = [] := List.filter_eq_nil_iff.mpr fun y hy => by
          rcases List.mem_cons.mp hy with e | e
          · rw [e]; simpa using z
          · have := h1 y e
            simp only [decide_eq_true_eq]
            omega
        unfold cnt at q
        rw [this] at q
        simp at q
  | a :: r, i + 1, x, t, hp, h => by
    obtain ⟨h1, h2⟩ := List.pairwise_cons.mp hp
    have h3 : r[i]? = some x := by simpa using h
    have ih := cnt_fall (t := t) h2 h3
    have h4 := h1 x (List.mem_of_getElem? h3)
    constructor
    · intro q
      have := ih.mp q
      unfold cnt at this ⊢
      rw [List.filter_cons, if_pos (decide_eq_true (by omega)), List.length_cons]
      omega
    · intro q
      apply ih.mpr
      unfold cnt at q ⊢
      rw [List.filter_cons] at q
      by_cases z : t ≤ a
      · rw [if_pos (decide_eq_true z), List.length_cons] at q
        omega
      · rw [if_neg (by simpa using z)] at q
        omega
theorem curS_cnt {s : List Int} {l : Int} (h1 : 1 ≤ l) (h : l ≤ s.length) (t : Int) : t ≤ curS s l ↔ l ≤ (cnt t s : Int) := by
  have hp : ((sortI s).reverse).Pairwise (· ≥ ·) := List.pairwise_reverse.mpr (sortI_sorted s)
  have hl : (l - 1).toNat < (sortI s).reverse.length := by rw [List.length_reverse, (sortI_perm s).length_eq]; omega
  have q := cnt_fall (t := t) hp (List.getElem?_eq_getElem hl)
  rw [cnt_perm ((List.reverse_perm _).trans (sortI_perm s))] at q
  rw [curS_le h1 h, List.getD_eq_getElem?_getD, List.getElem?_eq_getElem hl, Option.getD_some, q]
  omega
theorem cnt_set : ∀ {s : List Int} {b : Nat} {v t x : Int}, s[b]? = some x → x ≤ v → cnt t s ≤ cnt t (s.set b v)
  | [], _, _, _, _, h, _ => by simp at h
  | a :: r, 0, v, t, x, h, hv => by
    have e : a = x := by simpa using h
    subst e
    unfold cnt
    rw [List.set_cons_zero, List.filter_cons, List.filter_cons]
    by_cases z : t ≤ a
    · rw [if_pos (decide_eq_true z), if_pos (decide_eq_true (by omega))]
      simp
    · rw [if_neg (by simpa using z)]
      split <;> simp
  | a :: r, b + 1, v, t, x, h, hv => by
    have ih := cnt_set (t := t) (s := r) (b := b) (v := v) (x := x) (by simpa using h) hv
    unfold cnt at ih ⊢
    rw [List.set_cons_succ, List.filter_cons, List.filter_cons]
    split <;> simp <;> omega
/-- more light, no less current -/
theorem curS_set {s : List Int} {b : Nat} {v x : Int} (hb : s[b]? = some x) (hv : x ≤ v) (l : Int) : curS s l ≤ curS (s.set b v) l := by
  by_cases q : 1 ≤ l ∧ l ≤ (s.length : Int)
  · have q2 : l ≤ ((s.set b v).length : Int) := by rw [List.length_set]; exact q.2
    rw [curS_cnt q.1 q2]
    have h1 := (curS_cnt q.1 q.2 (curS s l)).mp (Int.le_refl _)
    have h2 := cnt_set (t := curS s l) hb hv
    omega
  · have e1 : curS s l = 0 := if_neg q
    have e2 : curS (s.set b v) l = 0 := by
      unfold curS
      rw [List.length_set]
      exact if_neg q
    rw [e1, e2]
    exact Int.le_refl _
theorem curF_set : ∀ {f : List (List Int)} {a : Nat} {s t : List Int} {l : Int}, f[a]? = some s → curS s l ≤ curS t l → curF f l ≤ curF (f.set a t) l
  | [], _, _, _, _, h, _ => by simp at h
  | u :: r, 0, s, t, l, h, hl => by
    have e : u = s := by simpa using h
    subst e
    show curS u l + curF r l ≤ curS t l + curF r l
    omega
  | u :: r, a + 1, s, t, l, h, hl => by
    have ih := curF_set (f := r) (a := a) (t := t) (by simpa using h) hl
    show curS u l + curF r l ≤ curS u l + curF (r.set a t) l
    omega
/-- the greatest yield of a field -/
def great (f : List (List Int)) : Int := maxL ((lvls (longest f)).map fun l => l * curF f l)
theorem great8 {f : List (List Int)} (h : FieldOk f) : great f = maxL ((lvls 8).map fun l => l * curF f l) := (great_more h (longest_in h).2).symm
theorem great_mono {f g : List (List Int)} (hf : FieldOk f) (hg : FieldOk g) (h : ∀ l, 1 ≤ l → curF f l ≤ curF g l) : great f ≤ great g := by
  rw [great8 hf, great8 hg]
  have hne : (lvls 8).map (fun l => l * curF f l) ≠ [] := fun z => by
    have := congrArg List.length z
    rw [List.length_map, lvls_len] at this
    simp at this
  obtain ⟨l, m, e⟩ := List.mem_map.mp (maxL_mem hne)
  have hb := lvls_mem m
  rw [← e]
  refine Int.le_trans ?_ (le_maxL (List.mem_map.mpr ⟨l, m, rfl⟩))
  exact Int.mul_le_mul_of_nonneg_left (h l hb.1) (by omega)
theorem great_in {f : List (List Int)} (h : FieldOk f) : 0 ≤ great f ∧ great f ≤ 6336 := by
  have hne : (lvls 8).map (fun l => l * curF f l) ≠ [] := fun z => by
    have := congrArg List.length z
    rw [List.length_map, lvls_len] at this
    simp at this
  rw [great8 h]
  obtain ⟨l, m, e⟩ := List.mem_map.mp (maxL_mem hne)
  have hb := lvls_mem m
  have q := curF_in h.str l
  have h8 := h.n8
  rw [← e]
  have a := Int.mul_le_mul_of_nonneg_right hb.2 q.1
  have b := Int.mul_nonneg (show 0 ≤ l by omega) q.1
  show 0 ≤ l * curF f l ∧ l * curF f l ≤ 6336
  omega
end SS

end

section
set_option linter.all false
set_option autoImplicit false
set_option maxRecDepth 100000
/-! Rows: last places, compares with (). -/
namespace SS
open PySem
theorem at_last {α : Type} {xs : List α} (h : 0 < xs.length) : atD xs (-1) = xs[xs.length - 1]? := by
  unfold atD L2.atI L2.ixN
  rw [if_neg (by omega), if_pos (by omega)]
  rw [show (-1 : Int) + (xs.length : Int) = ((xs.length - 1 : Nat) : Int) by omega]
  simp
theorem eq_nil {n m : Nat} {xs : List D} (h : Rp n m (.tuple xs)) (hn : n ≤ 64) (h0 : xs ≠ []) : eqD (.tuple xs) (.tuple []) = some false := by
  have hs : SeqAt.shaped (.tuple xs) = true := by
    unfold SeqAt.shaped
    simp only [h.lay, Bool.true_and, decide_eq_true_eq]
    have := h.dp
    omega
  have hs2 : SeqAt.shaped (.tuple []) = true := by decide
  cases xs with
  | nil => exact absurd rfl h0
  | cons a r =>
    show (if SeqAt.shaped (.tuple (a :: r)) && SeqAt.shaped (.tuple []) then some (PyData.eqv (.tuple (a :: r)) (.tuple [])) else none) = _
    rw [hs, hs2]
    simp [PyData.eqv, PyData.eqvAll]
theorem r_isN : cmpD .is .none .none = some true := rfl
theorem r_isI (i : Int) : cmpD .is (.int i) .none = some false := rfl
theorem r_isnN : cmpD .isn .none .none = some false := rfl
theorem r_isnI (i : Int) : cmpD .isn (.int i) .none = some true := rfl
theorem r_isT (i : List D) : cmpD .is (.tuple i) .none = some false := rfl
theorem r_isnT (i : List D) : cmpD .isn (.tuple i) .none = some true := rfl
theorem at_last2 {α : Type} {xs : List α} (h : 1 < xs.length) : atD xs (-2) = xs[xs.length - 2]? := by
  unfold atD L2.atI L2.ixN
  rw [if_neg (by omega), if_pos (by omega)]
  rw [show (-2 : Int) + (xs.length : Int) = ((xs.length - 2 : Nat) : Int) by omega]
  simp
theorem minL_mem : ∀ {ns : List Int}, ns ≠ [] → minL ns ∈ ns
  | [], h => absurd rfl h
  | n :: r, _ => by
    have : ∀ (l : List Int) (a : Int), l.foldl (fun a b => if b < a then b else a) a = a ∨ l.foldl (fun a b => if b < a then b else a) a ∈ l := by
      intro l
      induction l with
      | nil => intro a; exact .inl rfl
      | cons b t ih =>
        intro a
        rw [List.foldl_cons]
        rcases ih (if b < a then b else a) with e | e
        · rw [e]
          by_cases q : b < a
          · rw [if_pos q]; exact .inr List.mem_cons_self
          · rw [if_neg q]; exact .inl rfl
        · exact .inr (List.mem_cons_of_mem _ e)
    rcases this r n with e | e
    · show r.foldl _ n ∈ _
      rw [e]
      exact List.mem_cons_self
    · exact List.mem_cons_of_mem _ e
theorem minL_le {ns : List Int} {x : Int} (h : x ∈ ns) : minL ns ≤ x := by
  cases ns with
  | nil => cases h
  | cons n r =>
    show r.foldl _ n ≤ x
    rcases List.mem_cons.mp h with e | e
    · rw [e]; exact fold_le'
    · exact fold_all' e
/-! rows of numbers from 0 on -/
def natD (n : Nat) : D := .int (n : Int)
def tupN (ls : List Nat) : D := .tuple (ls.map natD)
theorem map_natD (ls : List Nat) : ls.map natD = (ls.map fun n : Nat => (n : Int)).map PyData.int := by rw [List.map_map]; rfl
theorem asInts_nat (ls : List Nat) : asInts (ls.map natD) = some (ls.map fun n : Nat => (n : Int)) := by rw [map_natD, asInts_map]
theorem sum_nat : ∀ ls : List Nat, (ls.map fun n : Nat => (n : Int)).sum = ((ls.sum : Nat) : Int)
  | [] => rfl
  | a :: r => by rw [List.map_cons, List.sum_cons, List.sum_cons, sum_nat r, Int.natCast_add]
theorem nat_at {ls : List Nat} {i : Nat} (h : i < ls.length) : (ls.map natD)[i]? = some (.int (ls[i] : Nat)) := by rw [List.getElem?_map, List.getElem?_eq_getElem h]; rfl
theorem rp_natD {n : Nat} (h : n ≤ 999999999999) : Rp 0 64 (natD n) := Rp.int (by omega) (by omega)
theorem rp_tupN {ls : List Nat} {l : Nat} (h : ∀ x ∈ ls, x ≤ 999999999999) (hl : ls.length ≤ l) : Rp 1 (l * 65) (tupN ls) := Rp.tuple (n := 0) (m := 64) (fun d hd => by
  obtain ⟨x, hx, rfl⟩ := List.mem_map.mp hd
  exact rp_natD (h x hx)) (by rw [List.length_map]; exact hl)
theorem nat_sort (fs : List Nat) : ∃ gs : List Nat, sortI (fs.map fun n : Nat => (n : Int)) = gs.map (fun n : Nat => (n : Int)) ∧ gs.Perm fs ∧ gs.Pairwise (· ≤ ·) := by
  have hp := sortI_perm (fs.map fun n : Nat => (n : Int))
  have h0 : ∀ x ∈ sortI (fs.map fun n : Nat => (n : Int)), 0 ≤ x := fun x m => by
    obtain ⟨n, _, rfl⟩ := List.mem_map.mp (hp.mem_iff.mp m)
    exact Int.natCast_nonneg n
  refine ⟨(sortI (fs.map fun n : Nat => (n : Int))).map Int.toNat, ?_, ?_, ?_⟩
  · rw [List.map_map]
    conv => lhs; rw [← List.map_id (sortI (fs.map fun n : Nat => (n : Int)))]
    exact List.map_congr_left fun x m => (Int.toNat_of_nonneg (h0 x m)).symm
  · have := hp.map Int.toNat
    rw [List.map_map] at this
    have e : fs.map (Int.toNat ∘ fun n : Nat => (n : Int)) = fs := by
      conv => rhs; rw [← List.map_id fs]
      exact List.map_congr_left fun x _ => Int.toNat_natCast x
    rwa [e] at this
  · exact List.pairwise_map.mpr ((sortI_sorted _).imp fun {a b} h => by have h' : a ≤ b := h; omega)
theorem take_nat_sum : ∀ (i : Nat) (ls : List Nat), (ls.take i).sum ≤ ls.sum
  | 0, ls => by simp
  | i + 1, [] => by simp
  | i + 1, a :: r => by
    rw [List.take_succ_cons, List.sum_cons, List.sum_cons]
    have := take_nat_sum i r
    omega
/-- lengths of strings, falling -/
structure LenOk (ls : List Nat) : Prop where
  n0 : 1 ≤ ls.length
  n8 : ls.length ≤ 8
  at8 : ∀ x ∈ ls, 1 ≤ x ∧ x ≤ 8
  fall : ls.Pairwise (· ≥ ·)
  tot : ls.sum ≤ 24
/-- the cells, strings from i on -/
def cellsN (i : Nat) : List Nat → List (Nat × Nat)
  | [] => []
  | n :: r => (List.range n).map (fun p => (i + 1, p + 1)) ++ cellsN (i + 1) r
def pairD (p : Nat × Nat) : D := .tuple [.int (p.1 : Nat), .int (p.2 : Nat)]
theorem cellsN_snoc : ∀ (l : List Nat) (i s : Nat), cellsN i (l ++ [s]) = cellsN i l ++ (List.range s).map (fun p => (i + l.length + 1, p + 1))
  | [], i, s => by simp [cellsN]
  | a :: r, i, s => by
    show (List.range a).map _ ++ cellsN (i + 1) (r ++ [s]) = _
    rw [cellsN_snoc r (i + 1) s]
    show _ = ((List.range a).map _ ++ cellsN (i + 1) r) ++ _
    rw [List.append_assoc, List.length_cons, show i + 1 + r.length = i + (r.length + 1) by omega]
theorem cellsN_len : ∀ (l : List Nat) (i : Nat), (cellsN i l).length = l.sum
  | [], i => rfl
  | a :: r, i => by
    show ((List.range a).map _ ++ cellsN (i + 1) r).length = _
    rw [List.length_append, List.length_map, List.length_range, cellsN_len r (i + 1), List.sum_cons]
theorem cellsN_mem : ∀ (l : List Nat) (i : Nat) {a b : Nat}, (a, b) ∈ cellsN i l ↔ i < a ∧ 1 ≤ b ∧ ∃ n, l[a - i - 1]? = some n ∧ b ≤ n
  | [], i, a, b => by simp [cellsN]
  | n :: r, i, a, b => by
    show (a, b) ∈ (List.range n).map (fun p => (i + 1, p + 1)) ++ cellsN (i + 1) r ↔ _
    rw [List.mem_append, cellsN_mem r (i + 1)]
    constructor
    · rintro (m | ⟨h1, h2, k, h3, h4⟩)
      · obtain ⟨p, hp, e⟩ := List.mem_map.mp m
        rw [List.mem_range] at hp
        cases e
        refine ⟨by omega, by omega, n, ?_, by omega⟩
        rw [show i + 1 - i - 1 = 0 by omega]
        rfl
      · refine ⟨by omega, h2, k, ?_, h4⟩
        rw [show a - i - 1 = (a - (i + 1) - 1) + 1 by omega]
        simpa using h3
    · rintro ⟨h1, h2, k, h3, h4⟩
      by_cases z : a = i + 1
      · left
        subst z
        rw [show i + 1 - i - 1 = 0 by omega] at h3
        have e : n = k := by simpa using h3
        subst e
        exact List.mem_map.mpr ⟨b - 1, List.mem_range.mpr (by omega), by rw [show b - 1 + 1 = b by omega]⟩
      · right
        refine ⟨by omega, h2, k, ?_, h4⟩
        rw [show a - i - 1 = (a - (i + 1) - 1) + 1 by omega] at h3
        simpa using h3
theorem cell_row (i n : Nat) : (rangeD 1 ((n : Int) + 1)).map (fun p => PyData.tuple [.int ((i : Int) + 1), p]) = ((List.range n).map (fun p => (i + 1, p + 1))).map pairD := by
  unfold rangeD
  rw [List.map_map, List.map_map, show ((n : Int) + 1 - 1).toNat = n by omega]
  refine List.map_congr_left fun p _ => ?_
  show PyData.tuple [.int ((i : Int) + 1), .int (1 + (p : Int))] = .tuple [.int ((i + 1 : Nat) : Int), .int ((p + 1 : Nat) : Int)]
  rw [show (1 : Int) + (p : Int) = ((p + 1 : Nat) : Int) by omega]
  rfl
theorem curS_perm {s t : List Int} (p : s.Perm t) (l : Int) : curS s l = curS t l := by
  have e : sortI s = sortI t := sorted_one (((sortI_perm s).trans p).trans (sortI_perm t).symm) (sortI_sorted s) (sortI_sorted t)
  unfold curS
  rw [e, p.length_eq]
theorem perm_ints {s : List Int} {ys : List D} (p : ys.Perm (s.map .int)) : ∃ t : List Int, ys = t.map .int ∧ t.Perm s := by
  have h : ∀ d ∈ ys, ∃ i, d = PyData.int i ∧ True := fun d m => by
    obtain ⟨i, _, rfl⟩ := List.mem_map.mp (p.mem_iff.mp m)
    exact ⟨i, rfl, trivial⟩
  obtain ⟨t, rfl, _, _⟩ := ints_of h
  refine ⟨t, rfl, ?_⟩
  have q := p.map (fun d : D => match d with | .int i => i | _ => 0)
  rw [List.map_map, List.map_map] at q
  have e : ∀ u : List Int, u.map ((fun d : D => match d with | .int i => i | _ => 0) ∘ PyData.int) = u := fun u => by
    conv => rhs; rw [← List.map_id u]
    exact List.map_congr_left fun x _ => rfl
  rw [e, e] at q
  exact q
theorem StrOk.perm {s t : List Int} (h : StrOk s) (p : t.Perm s) : StrOk t := ⟨by rw [p.length_eq]; exact h.n0, by rw [p.length_eq]; exact h.n8, fun x m => h.at99 x (p.mem_iff.mp m)⟩
theorem FieldOk.one {s : List Int} (h : StrOk s) : FieldOk [s] := ⟨by simp, by simp, fun t m => by rw [List.mem_singleton.mp m]; exact h, by simp; have := h.n8; omega⟩
theorem erase_perm : ∀ {xs : List D} {n : Nat}, n < xs.length → (xs.getD n .none :: xs.eraseIdx n).Perm xs
  | [], n, h => by simp at h
  | x :: xs, 0, _ => List.Perm.refl _
  | x :: xs, n + 1, h => by
    have ih := erase_perm (xs := xs) (n := n) (by simpa using h)
    show ((x :: xs).getD (n + 1) .none :: x :: xs.eraseIdx n).Perm (x :: xs)
    rw [List.getD_cons_succ]
    exact (List.Perm.swap _ _ _).trans (ih.cons x)
end SS
namespace SS
open PySem
/-- whether a value is a whole number from lo to hi -/
def isNum (v : D) (lo : Int) (hi : Option Int) : Bool :=
  match v with
  | .int i => decide (lo ≤ i) && (match hi with
    | some h => decide (i ≤ h)
    | none => true)
  | _ => false
def hiD : Option Int → D
  | some h => .int h
  | none => .none
end SS

end

section
set_option linter.all false
set_option autoImplicit false
set_option maxRecDepth 100000
set_option maxHeartbeats 4000000
/-! Dark ones: the least yield over all of them. -/
namespace SS
open PySem
theorem cell_in {ls : List Nat} (h : LenOk ls) {a b : Nat} (m : (a, b) ∈ cellsN 0 ls) : 1 ≤ a ∧ a ≤ 8 ∧ 1 ≤ b ∧ b ≤ 8 := by
  obtain ⟨h1, h2, n, h3, h4⟩ := (cellsN_mem ls 0).mp m
  have h5 := h.n8
  have h6 := (List.getElem?_eq_some_iff.mp h3).1
  have h7 := h.at8 n (List.mem_of_getElem? h3)
  omega
theorem lvls_ne {m : Int} (h : 1 ≤ m) (g : Int → Int) : (lvls m).map g ≠ [] := fun z => by
  have := congrArg List.length z
  rw [List.length_map, lvls_len] at this
  simp at this
  omega
def prodI (ls : List Nat) : List Int := (cellsN 0 ls).map fun p => (p.1 : Int) * (p.2 : Int)
def worst (ls : List Nat) (m : Nat) : Int := ((sortI (prodI ls)).reverse ++ [0]).getD m 0
def pw : List Nat → List Nat → Prop
  | [], [] => True
  | a :: r, b :: s => a ≤ b ∧ pw r s
  | _, _ => False
def leftN (ls d : List Nat) : List Nat := ls.zipWith (fun a b => a - b) d
/-- how many are l or more -/
def colN (l : Nat) (ms : List Nat) : Nat := (ms.filter fun x => decide (l ≤ x)).length
theorem colN_cons (l a : Nat) (r : List Nat) : colN l (a :: r) = (if l ≤ a then 1 else 0) + colN l r := by
  unfold colN
  rw [List.filter_cons]
  by_cases h : l ≤ a
  · rw [if_pos (decide_eq_true h), if_pos h, List.length_cons]; omega
  · rw [if_neg (by simpa using h), if_neg h]; omega
theorem colN_le (l : Nat) (ms : List Nat) : colN l ms ≤ ms.length := List.length_filter_le _ _
/-- the yield of strings with so many panels, in panels -/
def yieldN (ms : List Nat) : Int := maxL ((lvls 8).map fun l => l * (colN l.toNat ms : Int))
theorem pw_len : ∀ {a b : List Nat}, pw a b → a.length = b.length
  | [], [], _ => rfl
  | _ :: _, _ :: _, h => by rw [List.length_cons, List.length_cons, pw_len h.2]
  | [], _ :: _, h => h.elim
  | _ :: _, [], h => h.elim
theorem colN_mono (l : Nat) : ∀ {a b : List Nat}, pw a b → colN l a ≤ colN l b
  | [], [], _ => Nat.le_refl _
  | x :: r, y :: s, h => by
    have ih := colN_mono l h.2
    have h1 := h.1
    rw [colN_cons, colN_cons]
    split <;> split <;> omega
  | [], _ :: _, h => h.elim
  | _ :: _, [], h => h.elim
/-- sums over the levels 1 to 8 -/
def s8 (f : Nat → Nat) : Nat := f 1 + f 2 + f 3 + f 4 + f 5 + f 6 + f 7 + f 8
theorem s8_add (f g : Nat → Nat) : s8 (fun j => f j + g j) = s8 f + s8 g := by
  simp only [s8]
  omega
theorem s8_le {f g : Nat → Nat} (h : ∀ j, 1 ≤ j → j ≤ 8 → f j ≤ g j) : s8 f ≤ s8 g := by
  unfold s8
  have h1 := h 1 (by omega) (by omega)
  have h2 := h 2 (by omega) (by omega)
  have h3 := h 3 (by omega) (by omega)
  have h4 := h 4 (by omega) (by omega)
  have h5 := h 5 (by omega) (by omega)
  have h6 := h 6 (by omega) (by omega)
  have h7 := h 7 (by omega) (by omega)
  have h8 := h 8 (by omega) (by omega)
  omega
theorem s8_one {a : Nat} (h : a ≤ 8) : s8 (fun j => if j ≤ a then 1 else 0) = a := by
  unfold s8
  have : a = 0 ∨ a = 1 ∨ a = 2 ∨ a = 3 ∨ a = 4 ∨ a = 5 ∨ a = 6 ∨ a = 7 ∨ a = 8 := by omega
  rcases this with h | h | h | h | h | h | h | h | h <;> subst h <;> rfl
theorem s8_col : ∀ {ms : List Nat}, (∀ x ∈ ms, x ≤ 8) → s8 (fun j => colN j ms) = ms.sum
  | [], _ => rfl
  | a :: r, h => by
    have e : (fun j => colN j (a :: r)) = fun j => (if j ≤ a then 1 else 0) + colN j r := funext fun j => colN_cons j a r
    rw [e, s8_add, s8_one (h a List.mem_cons_self), s8_col fun x m => h x (List.mem_cons_of_mem _ m), List.sum_cons]
/-- of the strings from i on: the cells of a place j whose product is t or more -/
def colC (t j : Nat) : Nat → List Nat → Nat
  | _, [] => 0
  | i, a :: r => (if j ≤ a ∧ t ≤ (i + 1) * j then 1 else 0) + colC t j (i + 1) r
theorem row_count (t i : Nat) : ∀ a : Nat, a ≤ 8 → cnt (t : Int) ((List.range a).map fun p => ((i + 1 : Nat) : Int) * ((p + 1 : Nat) : Int)) = s8 fun j => if j ≤ a ∧ t ≤ (i + 1) * j then 1 else 0
  | 0, _ => by
    simp [s8, cnt]
  | a + 1, h => by
    have ih := row_count t i a (by omega)
    have e1 : cnt (t : Int) ((List.range (a + 1)).map fun p => ((i + 1 : Nat) : Int) * ((p + 1 : Nat) : Int)) = cnt (t : Int) ((List.range a).map fun p => ((i + 1 : Nat) : Int) * ((p + 1 : Nat) : Int)) + (if t ≤ (i + 1) * (a + 1) then 1 else 0) := by
      unfold cnt
      rw [List.range_succ, List.map_append, List.filter_append, List.length_append]
      congr 1
      show (List.filter _ [((i + 1 : Nat) : Int) * ((a + 1 : Nat) : Int)]).length = _
      rw [← Int.natCast_mul]
      by_cases z : t ≤ (i + 1) * (a + 1)
      · rw [if_pos z, List.filter_cons, if_pos (decide_eq_true (Int.ofNat_le.mpr z))]
        rfl
      · rw [if_neg z, List.filter_cons, if_neg (by simpa using (fun q => z (Int.ofNat_le.mp q)))]
        rfl
    have e2 : (s8 fun j => if j ≤ a + 1 ∧ t ≤ (i + 1) * j then 1 else 0) = (s8 fun j => if j ≤ a ∧ t ≤ (i + 1) * j then 1 else 0) + s8 fun j => if j = a + 1 ∧ t ≤ (i + 1) * j then 1 else 0 := by
      rw [← s8_add]
      congr 1
      funext j
      by_cases z : t ≤ (i + 1) * j
      · by_cases z1 : j ≤ a
        · rw [if_pos ⟨by omega, z⟩, if_pos ⟨z1, z⟩, if_neg (by omega)]
        · by_cases z2 : j = a + 1
          · rw [if_pos ⟨by omega, z⟩, if_neg (by omega), if_pos ⟨z2, z⟩]
          · rw [if_neg (by omega), if_neg (by omega), if_neg (by omega)]
      · rw [if_neg (fun q => z q.2), if_neg (fun q => z q.2), if_neg (fun q => z q.2)]
    have e3 : (s8 fun j => if j = a + 1 ∧ t ≤ (i + 1) * j then 1 else 0) = if t ≤ (i + 1) * (a + 1) then 1 else 0 := by
      have : a = 0 ∨ a = 1 ∨ a = 2 ∨ a = 3 ∨ a = 4 ∨ a = 5 ∨ a = 6 ∨ a = 7 := by omega
      unfold s8
      rcases this with h | h | h | h | h | h | h | h <;> subst h <;> simp
    rw [e1, ih, e2, e3]
theorem cells_prod (i : Nat) (a : Nat) (r : List Nat) : ((cellsN i (a :: r)).map fun p => (p.1 : Int) * (p.2 : Int)) = ((List.range a).map fun p => ((i + 1 : Nat) : Int) * ((p + 1 : Nat) : Int)) ++ (cellsN (i + 1) r).map fun p => (p.1 : Int) * (p.2 : Int) := by
  show (((List.range a).map (fun p => (i + 1, p + 1)) ++ cellsN (i + 1) r).map _) = _
  rw [List.map_append, List.map_map]
  rfl
theorem cnt_append (t : Int) (a b : List Int) : cnt t (a ++ b) = cnt t a + cnt t b := by
  unfold cnt
  rw [List.filter_append, List.length_append]
/-- the cells by places -/
theorem cnt_cells (t : Nat) : ∀ (ls : List Nat) (i : Nat), (∀ x ∈ ls, x ≤ 8) → cnt (t : Int) ((cellsN i ls).map fun p => (p.1 : Int) * (p.2 : Int)) = s8 fun j => colC t j i ls
  | [], i, _ => rfl
  | a :: r, i, h => by
    rw [cells_prod, cnt_append, cnt_cells t r (i + 1) fun x m => h x (List.mem_cons_of_mem _ m), row_count t i a (h a List.mem_cons_self), ← s8_add]
    rfl
theorem col_none {j : Nat} : ∀ {r : List Nat} {a : Nat}, (a :: r).Pairwise (· ≥ ·) → a < j → colN j (a :: r) = 0
  | [], a, _, h => by rw [colN_cons, if_neg (by omega)]; rfl
  | b :: r, a, p, h => by
    obtain ⟨p1, p2⟩ := List.pairwise_cons.mp p
    have hb : a ≥ b := p1 b List.mem_cons_self
    rw [colN_cons, if_neg (by omega), col_none p2 (by omega)]
theorem colC_le (t j : Nat) : ∀ (ls : List Nat) (i : Nat), colC t j i ls ≤ colN j ls
  | [], _ => Nat.zero_le _
  | a :: r, i => by
    have ih := colC_le t j r (i + 1)
    rw [colN_cons]
    show (if j ≤ a ∧ t ≤ (i + 1) * j then 1 else 0) + colC t j (i + 1) r ≤ _
    by_cases z : j ≤ a
    · rw [if_pos z]
      split <;> omega
    · rw [if_neg z, if_neg (fun q => z q.1)]
      omega
/-- where s strings have j panels left, and s times j is less than t -/
theorem colC_left (t j s : Nat) (hs : s * j < t) : ∀ (ls : List Nat) (i : Nat), ls.Pairwise (· ≥ ·) → s - i ≤ colN j ls → colC t j i ls + (s - i) ≤ colN j ls
  | [], i, _, h => by
    show 0 + (s - i) ≤ _
    omega
  | a :: r, i, p, h => by
    obtain ⟨p1, p2⟩ := List.pairwise_cons.mp p
    by_cases z : j ≤ a
    · rw [colN_cons, if_pos z] at h ⊢
      show (if j ≤ a ∧ t ≤ (i + 1) * j then 1 else 0) + colC t j (i + 1) r + (s - i) ≤ _
      have ih := colC_left t j s hs r (i + 1) p2 (by omega)
      by_cases y : i < s
      · have : ¬ (t ≤ (i + 1) * j) := by
          have : (i + 1) * j ≤ s * j := Nat.mul_le_mul_right _ (by omega)
          omega
        rw [if_neg (fun q => this q.2)]
        omega
      · split <;> omega
    · rw [col_none p (by omega)] at h
      have := colC_le t j (a :: r) i
      rw [col_none p (by omega)] at this ⊢
      omega
theorem pw_left : ∀ {d ls : List Nat}, pw d ls → pw (leftN ls d) ls ∧ (leftN ls d).sum + d.sum = ls.sum
  | [], [], _ => ⟨trivial, rfl⟩
  | a :: r, b :: s, h => by
    obtain ⟨h1, h2⟩ := pw_left h.2
    have h0 := h.1
    refine ⟨⟨Nat.sub_le _ _, h1⟩, ?_⟩
    show (b - a) + (leftN s r).sum + (a + r.sum) = b + s.sum
    omega
  | [], _ :: _, h => h.elim
  | _ :: _, [], h => h.elim
theorem pw_mem : ∀ {d ls : List Nat}, pw d ls → ∀ {n : Nat}, (∀ x ∈ ls, x ≤ n) → ∀ x ∈ d, x ≤ n
  | [], _, _, _, _, x, m => by cases m
  | a :: r, b :: s, h, n, hn, x, m => by
    rcases List.mem_cons.mp m with e | e
    · have h1 := h.1
      have := hn b List.mem_cons_self
      rw [e]
      omega
    · exact pw_mem h.2 (fun y q => hn y (List.mem_cons_of_mem _ q)) x e
  | _ :: _, [], h, _, _, _, _ => h.elim
theorem lvl_yield {ms : List Nat} {l : Nat} (h1 : 1 ≤ l) (h8 : l ≤ 8) : ((l * colN l ms : Nat) : Int) ≤ yieldN ms := by
  unfold yieldN
  refine le_maxL (List.mem_map.mpr ⟨(l : Int), mem_lvls (by omega) (by omega), ?_⟩)
  show (l : Int) * (colN (l : Int).toNat ms : Int) = _
  rw [Int.toNat_natCast, Int.natCast_mul]
theorem yield_le {ms : List Nat} {w : Int} (h : ∀ l, 1 ≤ l → l ≤ 8 → ((l * colN l ms : Nat) : Int) ≤ w) : yieldN ms ≤ w := by
  have hm := maxL_mem (lvls_ne (show (1 : Int) ≤ 8 by omega) fun l => l * (colN l.toNat ms : Int))
  obtain ⟨l, ml, e⟩ := List.mem_map.mp hm
  have hb := lvls_mem ml
  unfold yieldN
  rw [← e]
  have q := h l.toNat (by omega) (by omega)
  rw [Int.natCast_mul, Int.toNat_of_nonneg (by omega)] at q
  exact q
theorem yield_nn (ms : List Nat) : 0 ≤ yieldN ms := Int.le_trans (Int.natCast_nonneg _) (lvl_yield (ms := ms) (l := 1) (by omega) (by omega))
theorem prodI_len (ls : List Nat) : (prodI ls).length = ls.sum := by unfold prodI; rw [List.length_map, cellsN_len]
theorem prodI_in {ls : List Nat} (h : LenOk ls) {x : Int} (m : x ∈ prodI ls) : 1 ≤ x ∧ x ≤ 64 := by
  obtain ⟨⟨a, b⟩, mm, rfl⟩ := List.mem_map.mp m
  have q := cell_in h mm
  have h1 : (a : Int) * (b : Int) ≤ 8 * 8 := Int.mul_le_mul (by omega) (by omega) (by omega) (by omega)
  have h2 : 1 * 1 ≤ (a : Int) * (b : Int) := Int.mul_le_mul (by omega) (by omega) (by omega) (by omega)
  exact ⟨h2, h1⟩
theorem fall0 {ls : List Nat} (h : LenOk ls) : ((sortI (prodI ls)).reverse ++ [0]).Pairwise (· ≥ ·) := by
  refine List.pairwise_append.mpr ⟨List.pairwise_reverse.mpr (sortI_sorted _), List.pairwise_singleton _ _, fun a ha b hb => ?_⟩
  rw [List.mem_singleton.mp hb]
  have := prodI_in h ((sortI_perm _).mem_iff.mp (List.mem_reverse.mp ha))
  show (0 : Int) ≤ a
  omega
theorem worst_ge {ls : List Nat} (h : LenOk ls) {m : Nat} (hm : m ≤ ls.sum) {t : Int} (ht : 0 < t) : t ≤ worst ls m ↔ m < cnt t (prodI ls) := by
  have hl : m < ((sortI (prodI ls)).reverse ++ [0]).length := by
    rw [List.length_append, List.length_reverse, (sortI_perm _).length_eq, prodI_len, List.length_singleton]
    omega
  have q := cnt_fall (t := t) (fall0 h) (List.getElem?_eq_getElem hl)
  have e : cnt t ((sortI (prodI ls)).reverse ++ [0]) = cnt t (prodI ls) := by
    rw [cnt_append, cnt_perm ((List.reverse_perm _).trans (sortI_perm _))]
    have : cnt t [0] = 0 := by
      unfold cnt
      rw [List.filter_cons, if_neg (by simpa using ht)]
      rfl
    omega
  unfold worst
  rw [List.getD_eq_getElem?_getD, List.getElem?_eq_getElem hl, Option.getD_some, q, e]
  omega
theorem worst_in {ls : List Nat} (h : LenOk ls) (m : Nat) : 0 ≤ worst ls m ∧ worst ls m ≤ 64 := by
  unfold worst
  rw [List.getD_eq_getElem?_getD]
  cases e : ((sortI (prodI ls)).reverse ++ [0])[m]? with
  | none => exact ⟨Int.le_refl _, by decide⟩
  | some x =>
    rcases List.mem_append.mp (List.mem_of_getElem? e) with q | q
    · have := prodI_in h ((sortI_perm _).mem_iff.mp (List.mem_reverse.mp q))
      show 0 ≤ x ∧ x ≤ 64
      omega
    · rw [List.mem_singleton.mp q]
      exact ⟨Int.le_refl _, by decide⟩
/-- no dark ones leave less -/
theorem worst_low {ls d : List Nat} (h : LenOk ls) (hd : pw d ls) : worst ls d.sum ≤ yieldN (leftN ls d) := by
  obtain ⟨p1, p2⟩ := pw_left hd
  by_cases z : worst ls d.sum ≤ yieldN (leftN ls d)
  · exact z
  · exfalso
    have y0 := yield_nn (leftN ls d)
    obtain ⟨t, et⟩ : ∃ t : Nat, worst ls d.sum = (t : Int) := ⟨(worst ls d.sum).toNat, by omega⟩
    have hm : d.sum ≤ ls.sum := by omega
    have h8 : ∀ x ∈ ls, x ≤ 8 := fun x m => (h.at8 x m).2
    have q := (worst_ge h hm (t := (t : Int)) (by omega)).mp (by omega)
    have e : cnt (t : Int) (prodI ls) = s8 fun j => colC t j 0 ls := cnt_cells t ls 0 h8
    have b : (s8 fun j => colC t j 0 ls + colN j (leftN ls d)) ≤ s8 fun j => colN j ls := s8_le fun j j1 j8 => by
      have hs : colN j (leftN ls d) * j < t := by
        have := lvl_yield (ms := leftN ls d) j1 j8
        rw [Nat.mul_comm]
        omega
      have := colC_left t j (colN j (leftN ls d)) hs ls 0 h.fall (by rw [Nat.sub_zero]; exact colN_mono j p1)
      rwa [Nat.sub_zero] at this
    rw [s8_add, s8_col h8, s8_col (pw_mem p1 h8)] at b
    omega
/-- dark ones that leave so little: in the i-th string all above w over i -/
def cutN (w : Nat) : Nat → List Nat → List Nat
  | _, [] => []
  | i, a :: r => (a - w / (i + 1)) :: cutN w (i + 1) r
theorem cutN_pw (w : Nat) : ∀ (ls : List Nat) (i : Nat), pw (cutN w i ls) ls
  | [], _ => trivial
  | a :: r, i => ⟨Nat.sub_le _ _, cutN_pw w r (i + 1)⟩
theorem cutN_sum (w : Nat) : ∀ (ls : List Nat) (i : Nat), (∀ x ∈ ls, x ≤ 8) → (cutN w i ls).sum = cnt ((w + 1 : Nat) : Int) ((cellsN i ls).map fun p => (p.1 : Int) * (p.2 : Int))
  | [], _, _ => rfl
  | a :: r, i, h => by
    rw [cells_prod, cnt_append, ← cutN_sum w r (i + 1) fun x m => h x (List.mem_cons_of_mem _ m)]
    show (a - w / (i + 1)) + (cutN w (i + 1) r).sum = _
    congr 1
    have : ∀ a : Nat, cnt ((w + 1 : Nat) : Int) ((List.range a).map fun p => ((i + 1 : Nat) : Int) * ((p + 1 : Nat) : Int)) = a - w / (i + 1) := fun a => by
      induction a with
      | zero => rw [Nat.zero_sub]; rfl
      | succ a ih =>
        rw [List.range_succ, List.map_append, cnt_append, ih]
        have e : cnt ((w + 1 : Nat) : Int) ((List.map (fun p => ((i + 1 : Nat) : Int) * ((p + 1 : Nat) : Int)) [a])) = if w < (i + 1) * (a + 1) then 1 else 0 := by
          show cnt ((w + 1 : Nat) : Int) [((i + 1 : Nat) : Int) * ((a + 1 : Nat) : Int)] = _
          unfold cnt
          rw [← Int.natCast_mul, List.filter_cons]
          by_cases z : w < (i + 1) * (a + 1)
          · rw [if_pos z, if_pos (decide_eq_true (Int.ofNat_le.mpr z))]
            rfl
          · rw [if_neg z, if_neg (by simpa using (fun q => z (Int.ofNat_le.mp q)))]
            rfl
        rw [e]
        have k : w < (i + 1) * (a + 1) ↔ w / (i + 1) < a + 1 := by
          rw [Nat.div_lt_iff_lt_mul (by omega), Nat.mul_comm]
        by_cases z : w < (i + 1) * (a + 1)
        · have := k.mp z
          rw [if_pos z]
          omega
        · have : ¬ w / (i + 1) < a + 1 := fun q => z (k.mpr q)
          rw [if_neg z]
          omega
    exact (this a).symm
theorem cut_col (w l : Nat) (h1 : 1 ≤ l) : ∀ (ls : List Nat) (i : Nat), colN l (leftN ls (cutN w i ls)) ≤ w / l - i
  | [], _ => Nat.zero_le _
  | a :: r, i => by
    have ih := cut_col w l h1 r (i + 1)
    show colN l ((a - (a - w / (i + 1))) :: leftN r (cutN w (i + 1) r)) ≤ _
    rw [colN_cons]
    by_cases z : l ≤ a - (a - w / (i + 1))
    · rw [if_pos z]
      have h2 : l ≤ w / (i + 1) := by omega
      have h3 : l * (i + 1) ≤ w := by
        have := (Nat.le_div_iff_mul_le (show 0 < i + 1 by omega)).mp h2
        exact this
      have h4 : i + 1 ≤ w / l := (Nat.le_div_iff_mul_le (by omega)).mpr (by rw [Nat.mul_comm]; exact h3)
      omega
    · rw [if_neg z]
      omega
/-- so many dark ones more -/
theorem more_dark : ∀ {d ls : List Nat} {m : Nat}, pw d ls → d.sum ≤ m → m ≤ ls.sum → ∃ e, pw d e ∧ pw e ls ∧ e.sum = m
  | [], [], m, _, h1, h2 => ⟨[], trivial, trivial, by simp at h2; simp [h2]⟩
  | a :: r, b :: s, m, h, h1, h2 => by
    have h0 := h.1
    rw [List.sum_cons] at h1 h2
    have hr : r.sum ≤ s.sum := by have := pw_left h.2; omega
    by_cases z : m - a ≤ s.sum
    · obtain ⟨e, e1, e2, e3⟩ := more_dark (m := m - a) h.2 (by omega) z
      exact ⟨a :: e, ⟨Nat.le_refl _, e1⟩, ⟨h0, e2⟩, by rw [List.sum_cons, e3]; omega⟩
    · obtain ⟨e, e1, e2, e3⟩ := more_dark (m := s.sum) h.2 hr (Nat.le_refl _)
      exact ⟨(m - s.sum) :: e, ⟨by omega, e1⟩, ⟨by omega, e2⟩, by rw [List.sum_cons, e3]; omega⟩
  | [], _ :: _, _, h, _, _ => h.elim
  | _ :: _, [], _, h, _, _ => h.elim
theorem left_pw : ∀ {d e ls : List Nat}, pw d e → pw e ls → pw (leftN ls e) (leftN ls d)
  | [], [], [], _, _ => trivial
  | a :: r, b :: s, c :: t, h, k => by
    refine ⟨?_, left_pw h.2 k.2⟩
    have := h.1
    show c - b ≤ c - a
    omega
  | [], _ :: _, _, h, _ => h.elim
  | _ :: _, [], _, h, _ => h.elim
  | [], [], _ :: _, _, k => k.elim
  | _ :: _, _ :: _, [], _, k => k.elim
theorem yield_mono {a b : List Nat} (h : pw a b) : yieldN a ≤ yieldN b := yield_le fun l h1 h8 => Int.le_trans (Int.ofNat_le.mpr (Nat.mul_le_mul_left l (colN_mono l h))) (lvl_yield h1 h8)
/-- some dark ones leave as little -/
theorem worst_some {ls : List Nat} (h : LenOk ls) {m : Nat} (hm : m ≤ ls.sum) : ∃ d, pw d ls ∧ d.sum = m ∧ yieldN (leftN ls d) = worst ls m := by
  have w0 := worst_in h m
  obtain ⟨w, ew⟩ : ∃ w : Nat, worst ls m = (w : Int) := ⟨(worst ls m).toNat, by omega⟩
  have h8 : ∀ x ∈ ls, x ≤ 8 := fun x q => (h.at8 x q).2
  have hc : (cutN w 0 ls).sum ≤ m := by
    rw [cutN_sum w ls 0 h8]
    have := (worst_ge h hm (t := ((w + 1 : Nat) : Int)) (by omega)).mpr
    by_cases z : m < cnt ((w + 1 : Nat) : Int) (prodI ls)
    · have := this z
      omega
    · show cnt ((w + 1 : Nat) : Int) (prodI ls) ≤ m
      omega
  obtain ⟨d, d1, d2, d3⟩ := more_dark (cutN_pw w ls 0) hc hm
  refine ⟨d, d2, d3, Int.le_antisymm ?_ (by rw [← d3]; exact worst_low h d2)⟩
  refine Int.le_trans (yield_mono (left_pw d1 d2)) ?_
  rw [ew]
  refine yield_le fun l h1 h8 => Int.ofNat_le.mpr ?_
  have := cut_col w l h1 ls 0
  have h2 : l * colN l (leftN ls (cutN w 0 ls)) ≤ l * (w / l) := Nat.mul_le_mul_left l (by omega)
  exact Nat.le_trans h2 (Nat.mul_div_le w l)
end SS

end

section
set_option linter.all false
set_option autoImplicit false
set_option maxRecDepth 100000
/-! Laws of refused input: data shown, by checks. -/
namespace SS
open PySem
def rpB (n m : Nat) (d : D) : Bool := d.canLay0 && d.showable && d.intsShort 70 && decide (d.depth ≤ n) && decide (d.weight ≤ m)
theorem rp_of {n m : Nat} {d : D} (h : rpB n m d = true) : Rp n m d := by
  simp only [rpB, Bool.and_eq_true, decide_eq_true_eq] at h
  exact ⟨h.1.1.1.1, h.1.1.1.2, h.1.1.2, h.1.2, h.2⟩
theorem ok_list {ds : List D} (h : ∀ d ∈ ds, Rp 4 602 d) (hl : ds.length ≤ 100) : reprOk (.list ds) = true := ((Rp.list (l := 100) h hl).mono (by omega) (by omega)).ok
end SS

end

section
set_option linter.all false
set_option autoImplicit false
set_option maxRecDepth 100000
set_option maxHeartbeats 4000000
/-! All lengths of so many panels, in rows; loops by while. -/
namespace SS
open PySem
theorem while_to {c : Env → Cells → Res EV} {f : Env → Cells → SRes} (P : Nat → Env → Cells → Prop) (Q : Env → Cells → Prop) (m : Nat)
    (step : ∀ i ρ S, P i ρ S → (∃ S', c ρ S = .ok (.d (.bool false)) S' ∧ Q ρ S') ∨ (i < m ∧ ∃ S1, c ρ S = .ok (.d (.bool true)) S1 ∧ ∃ ρ' S', f ρ S1 = .nx ρ' S' ∧ P (i + 1) ρ' S')) :
    ∀ (n i : Nat) {ρ : Env} {S : Cells} {r : SRes}, whileLoop c f n ρ S = r → P i ρ S → m - i < n → ∃ ρ' S', r = .nx ρ' S' ∧ Q ρ' S'
  | 0, _, _, _, _, _, _, h => by omega
  | n + 1, i, ρ, S, r, hr, hP, hm => by
    unfold whileLoop at hr
    rcases step i ρ S hP with ⟨S', e, q⟩ | ⟨hi, S1, e, ρ', S', e2, hP2⟩
    · rw [e] at hr
      exact ⟨ρ, S', hr.symm, q⟩
    · rw [e] at hr
      simp only [st_ok, dBool_d, sft_some, if_true, e2, thn_nx] at hr
      exact while_to P Q m step n (i + 1) hr hP2 (by omega)
def topN (n : Nat) (row : List Nat) : Nat := min (n - row.sum) (row.getLast?.getD 8)
def extN (n : Nat) (row : List Nat) : List (List Nat) := (List.range (topN n row)).map fun k => row ++ [k + 1]
def lenR (n : Nat) : Nat → List (List Nat)
  | 0 => [[]]
  | r + 1 => ((lenR n r).filter fun row => decide (row.sum < n)).flatMap (extN n)
theorem lenR_small : ∀ n, n < 25 → ∀ r, r < 9 → (lenR n r).length ≤ 1000 := by decide +kernel
structure InR (n r : Nat) (row : List Nat) : Prop where
  len : row.length = r
  sum : row.sum ≤ n
  at8 : ∀ x ∈ row, 1 ≤ x ∧ x ≤ 8
  fall : row.Pairwise (· ≥ ·)
theorem last_low : ∀ {row : List Nat} {z : Nat}, row.Pairwise (· ≥ ·) → row.getLast? = some z → ∀ x ∈ row, z ≤ x
  | [], _, _, _, x, m => by cases m
  | [a], z, _, h, x, m => by
    have e : a = z := by simpa using h
    rw [List.mem_singleton.mp m, e]
    exact Nat.le_refl _
  | a :: b :: r, z, p, h, x, m => by
    obtain ⟨p1, p2⟩ := List.pairwise_cons.mp p
    have h' : (b :: r).getLast? = some z := by simpa [List.getLast?_cons_cons] using h
    have ih := last_low p2 h'
    rcases List.mem_cons.mp m with e | e
    · have h1 := p1 b List.mem_cons_self
      have h2 := ih b List.mem_cons_self
      rw [e]
      omega
    · exact ih x e
theorem ext_in {n r : Nat} {row row' : List Nat} (h : InR n r row) (m : row' ∈ extN n row) : InR n (r + 1) row' := by
  obtain ⟨k, hk, rfl⟩ := List.mem_map.mp m
  rw [List.mem_range] at hk
  unfold topN at hk
  have hs := h.sum
  have hk8 : k + 1 ≤ row.getLast?.getD 8 := by omega
  have h8 : row.getLast?.getD 8 ≤ 8 := by
    cases e : row.getLast? with
    | none => exact Nat.le_refl _
    | some z => exact (h.at8 z (List.mem_of_getLast? e)).2
  refine ⟨by rw [List.length_append, h.len, List.length_singleton], by rw [List.sum_append, List.sum_cons, List.sum_nil]; omega, fun x mx => ?_, List.pairwise_append.mpr ⟨h.fall, List.pairwise_singleton _ _, fun a ha b hb => ?_⟩⟩
  · rcases List.mem_append.mp mx with q | q
    · exact h.at8 x q
    · rw [List.mem_singleton.mp q]
      omega
  · rw [List.mem_singleton.mp hb]
    cases e : row.getLast? with
    | none =>
      rw [List.getLast?_eq_none_iff.mp e] at ha
      cases ha
    | some z =>
      have := last_low h.fall e a ha
      rw [e] at hk8
      show k + 1 ≤ a
      have : k + 1 ≤ z := hk8
      omega
theorem lenR_in (n : Nat) : ∀ (r : Nat) {row : List Nat}, row ∈ lenR n r → InR n r row
  | 0, row, m => by
    rw [List.mem_singleton.mp m]
    exact ⟨rfl, Nat.zero_le _, (fun x m => by cases m), List.Pairwise.nil⟩
  | r + 1, row, m => by
    obtain ⟨row0, m0, m1⟩ := List.mem_flatMap.mp m
    exact ext_in (lenR_in n r (List.mem_filter.mp m0).1) m1
/-- found by the program behind r rounds; found by a law behind t turns -/
def fndR (n r : Nat) : List (List Nat) := (List.range r).flatMap fun q => (lenR n q).filter fun row => row.sum == n
def lawF (n t : Nat) : List (List Nat) := (List.range t).flatMap fun q => (lenR n (q + 1)).filter fun row => row.sum == n
theorem fnd_law {n : Nat} (hn : 1 ≤ n) (t : Nat) : fndR n (t + 1) = lawF n t := by
  unfold fndR lawF
  rw [List.range_succ_eq_map, List.flatMap_cons, List.flatMap_map]
  have : (lenR n 0).filter (fun row => row.sum == n) = [] := List.filter_eq_nil_iff.mpr fun row m => by
    rw [List.mem_singleton.mp m]
    simp
    omega
  rw [this, List.nil_append]
theorem fnd_snoc (n r : Nat) : fndR n (r + 1) = fndR n r ++ (lenR n r).filter fun row => row.sum == n := by
  unfold fndR
  rw [List.range_succ, List.flatMap_append, List.flatMap_cons, List.flatMap_nil, List.append_nil]
theorem lawF_snoc (n r : Nat) : lawF n (r + 1) = lawF n r ++ (lenR n (r + 1)).filter fun row => row.sum == n := by
  unfold lawF
  rw [List.range_succ, List.flatMap_append, List.flatMap_cons, List.flatMap_nil, List.append_nil]
theorem lenR_nil {n r : Nat} (h : lenR n r = []) : ∀ k, lenR n (r + k) = []
  | 0 => h
  | k + 1 => by
    show ((lenR n (r + k)).filter _).flatMap _ = []
    rw [lenR_nil h k]
    rfl
theorem fnd_end {n r : Nat} (h : lenR n r = []) : ∀ k, fndR n (r + k) = fndR n r
  | 0 => rfl
  | k + 1 => by
    rw [show r + (k + 1) = (r + k) + 1 by omega, fnd_snoc, lenR_nil h k, fnd_end h k]
    simp
theorem fnd_small {n r : Nat} (hn : n < 25) (hr : r ≤ 9) : (fndR n r).length ≤ 10000 := by
  have : ∀ k, k ≤ 9 → (fndR n k).length ≤ k * 1000 := by
    intro k
    induction k with
    | zero => intro _; exact Nat.le_refl _
    | succ k ih =>
      intro hk
      rw [fnd_snoc, List.length_append]
      have h1 := ih (by omega)
      have h2 := List.length_filter_le (fun row => row.sum == n) (lenR n k)
      have h3 := lenR_small n hn k (by omega)
      omega
  have := this r hr
  omega
theorem fnd_in {n r : Nat} {row : List Nat} (hn : 1 ≤ n) (hr : r ≤ 9) (m : row ∈ fndR n r) : row.sum = n ∧ 1 ≤ row.length ∧ row.length ≤ 8 ∧ (∀ x ∈ row, 1 ≤ x ∧ x ≤ 8) ∧ row.Pairwise (· ≥ ·) := by
  obtain ⟨q, hq, m1⟩ := List.mem_flatMap.mp m
  rw [List.mem_range] at hq
  obtain ⟨m2, m3⟩ := List.mem_filter.mp m1
  have i := lenR_in n q m2
  have e : row.sum = n := by simpa using m3
  refine ⟨e, ?_, by have := i.len; omega, i.at8, i.fall⟩
  cases row with
  | nil => simp at e; omega
  | cons a b => rw [List.length_cons]; omega
/-- rows, sorted -/
def sortR (rows : List (List Nat)) : List (List Nat) := rows.mergeSort fun a b => PySem.W.dataLe false id (tupN a) (tupN b)
theorem sortR_map (rows : List (List Nat)) : sortD false (rows.map tupN) = (sortR rows).map tupN := by
  unfold sortD sortR
  exact (List.map_mergeSort (f := tupN) (s := PySem.W.dataLe false id) (r := fun a b => PySem.W.dataLe false id (tupN a) (tupN b)) fun a _ b _ => rfl).symm
theorem sortR_mem {rows : List (List Nat)} {r : List Nat} : r ∈ sortR rows ↔ r ∈ rows := (List.mergeSort_perm _ _).mem_iff
theorem sortR_len (rows : List (List Nat)) : (sortR rows).length = rows.length := List.length_mergeSort _
theorem alike_nats : ∀ a b : List Nat, PySem.W.alikeAll (a.map natD) (b.map natD) = true
  | [], b => by cases b <;> simp [PySem.W.alikeAll]
  | _ :: _, [] => by simp [PySem.W.alikeAll]
  | x :: a, y :: b => by
    have := alike_nats a b
    simp [PySem.W.alikeAll, PySem.W.alike, natD, this]
theorem depth_nats : ∀ a : List Nat, PyData.depthAll (a.map natD) = 0
  | [] => by simp [PyData.depthAll]
  | x :: a => by
    have := depth_nats a
    simp [PyData.depthAll, PyData.depth, natD]
    exact this
theorem srtOk_rows {rows : List (List Nat)} (h : ∀ r ∈ rows, r ≠ []) : srtOk (rows.map tupN) = true := by
  unfold srtOk
  simp only [Bool.and_eq_true, Bool.or_eq_true, List.all_eq_true, decide_eq_true_eq]
  refine ⟨⟨fun d hd e he => ?_, fun d hd => ?_⟩, .inl fun d hd => ?_⟩
  · obtain ⟨a, _, rfl⟩ := List.mem_map.mp hd
    obtain ⟨b, _, rfl⟩ := List.mem_map.mp he
    show PySem.W.alike (.tuple (a.map natD)) (.tuple (b.map natD)) = true
    rw [PySem.W.alike]
    exact alike_nats a b
  · obtain ⟨a, _, rfl⟩ := List.mem_map.mp hd
    show PyData.depth (.tuple (a.map natD)) ≤ 60
    simp only [PyData.depth, depth_nats]
    omega
  · obtain ⟨a, ha, rfl⟩ := List.mem_map.mp hd
    cases a with
    | nil => exact absurd rfl (h [] ha)
    | cons x r => rfl
theorem srtL_rows {rows : List (List Nat)} (h : ∀ r ∈ rows, r ≠ []) : srtL (rows.map tupN) (asInts (rows.map tupN)) = some ((sortR rows).map tupN) := by
  cases rows with
  | nil => simp [srtL, asInts, sortI, sortR]
  | cons r rs =>
    have e : asInts ((r :: rs).map tupN) = none := rfl
    rw [e]
    show (if srtOk ((r :: rs).map tupN) = true then some (sortD false ((r :: rs).map tupN)) else none) = _
    rw [if_pos (srtOk_rows h), sortR_map]
theorem rp_rowsL {rows : List (List Nat)} {l : Nat} (h : ∀ r ∈ rows, r.length ≤ 8 ∧ ∀ x ∈ r, x ≤ 999999999999) (hl : rows.length ≤ l) : Rp 2 (l * (8 * 65 + 1)) (.list (rows.map tupN)) := Rp.list (fun d hd => by
  obtain ⟨r, hr, rfl⟩ := List.mem_map.mp hd
  exact rp_tupN (l := 8) (h r hr).2 (h r hr).1) (by rw [List.length_map]; exact hl)
theorem rp_rowsT {rows : List (List Nat)} {l : Nat} (h : ∀ r ∈ rows, r.length ≤ 8 ∧ ∀ x ∈ r, x ≤ 999999999999) (hl : rows.length ≤ l) : Rp 2 (l * (8 * 65 + 1)) (.tuple (rows.map tupN)) := Rp.tuple (fun d hd => by
  obtain ⟨r, hr, rfl⟩ := List.mem_map.mp hd
  exact rp_tupN (l := 8) (h r hr).2 (h r hr).1) (by rw [List.length_map]; exact hl)
theorem eq_nilL {n m : Nat} {xs : List D} (h : Rp n m (.list xs)) (hn : n ≤ 64) : eqD (.list xs) (.list []) = some xs.isEmpty := by
  have hs : SeqAt.shaped (.list xs) = true := by
    unfold SeqAt.shaped
    simp only [h.lay, Bool.true_and, decide_eq_true_eq]
    have := h.dp
    omega
  have hs2 : SeqAt.shaped (.list []) = true := by decide
  show (if SeqAt.shaped (.list xs) && SeqAt.shaped (.list []) then some (PyData.eqv (.list xs) (.list [])) else none) = _
  rw [hs, hs2]
  cases xs <;> simp [PyData.eqv, PyData.eqvAll]
theorem eq_nilT {n m : Nat} {xs : List D} (h : Rp n m (.tuple xs)) (hn : n ≤ 64) : eqD (.tuple xs) (.tuple []) = some xs.isEmpty := by
  cases xs with
  | nil => decide
  | cons a r => exact eq_nil h hn (by simp)
theorem ext_row (row : List Nat) (t : Nat) : (rangeD 1 ((t : Int) + 1)).map (fun x => PyData.tuple (row.map natD ++ [x])) = ((List.range t).map fun k => row ++ [k + 1]).map tupN := by
  unfold rangeD
  rw [List.map_map, List.map_map, show ((t : Int) + 1 - 1).toNat = t by omega]
  refine List.map_congr_left fun k _ => ?_
  show PyData.tuple (row.map natD ++ [.int (1 + (k : Int))]) = .tuple ((row ++ [k + 1]).map natD)
  rw [List.map_append, show (1 : Int) + (k : Int) = ((k + 1 : Nat) : Int) by omega]
  rfl

theorem loop_ret {f : D → Env → Cells → SRes} {ds : List D} {ρ : Env} {S : Cells} {r : SRes} (hr : forLoop f ds ρ S = r) (P : Nat → Env → Cells → Prop) (R : EV → Cells → Prop) (h : P 0 ρ S)
    (st : ∀ (i : Nat) (x : D) (ρ : Env) (S : Cells), ds[i]? = some x → P i ρ S → (∃ ρ' S', f x ρ S = .nx ρ' S' ∧ P (i + 1) ρ' S') ∨ ∃ v S', f x ρ S = .ret v S' ∧ R v S') : (∃ ρ' S', r = .nx ρ' S' ∧ P ds.length ρ' S') ∨ ∃ v S', r = .ret v S' ∧ R v S' := by
  have : ∀ (n m : Nat) (ρ : Env) (S : Cells), ds.length - m = n → m ≤ ds.length → P m ρ S → (∃ ρ' S', forLoop f (ds.drop m) ρ S = .nx ρ' S' ∧ P ds.length ρ' S') ∨ ∃ v S', forLoop f (ds.drop m) ρ S = .ret v S' ∧ R v S' := by
    intro n
    induction n with
    | zero =>
      intro m ρ S e hm hP
      have hm' : m = ds.length := by omega
      subst hm'
      rw [List.drop_length]
      exact .inl ⟨ρ, S, rfl, hP⟩
    | succ n ih =>
      intro m ρ S e hm hP
      have hl : m < ds.length := by omega
      rw [List.drop_eq_getElem_cons hl, forLoop_cons]
      rcases st m ds[m] ρ S (List.getElem?_eq_getElem hl) hP with ⟨ρ1, S1, e1, h1⟩ | ⟨v, S1, e1, h1⟩
      · rw [e1]
        exact ih (m + 1) ρ1 S1 (by omega) hl h1
      · rw [e1]
        exact .inr ⟨v, S1, rfl, h1⟩
  have q := this ds.length 0 ρ S (by omega) (Nat.zero_le _) h
  rw [List.drop_zero, hr] at q
  exact q
/-- the first that is not empty -/
def firstNE {α : Type} (f : Nat → List α) : List Nat → List α
  | [] => []
  | p :: r => match f p with
    | [] => firstNE f r
    | a :: b => a :: b
theorem firstNE_none {α : Type} {f : Nat → List α} : ∀ {ps : List Nat}, (∀ p ∈ ps, f p = []) → firstNE f ps = []
  | [], _ => rfl
  | p :: r, h => by
    unfold firstNE
    rw [h p List.mem_cons_self]
    exact firstNE_none fun q m => h q (List.mem_cons_of_mem _ m)
theorem firstNE_at {α : Type} {f : Nat → List α} {b : List Nat} {p : Nat} (hp : f p ≠ []) : ∀ {a : List Nat}, (∀ q ∈ a, f q = []) → firstNE f (a ++ p :: b) = f p
  | [], _ => by
    rw [List.nil_append]
    unfold firstNE
    cases e : f p with
    | nil => exact absurd e hp
    | cons x y => rfl
  | q :: a, h => by
    rw [List.cons_append]
    unfold firstNE
    rw [h q List.mem_cons_self]
    exact firstNE_at hp fun z m => h z (List.mem_cons_of_mem _ m)
theorem rp_nat8 {n : Nat} (h : n ≤ 8) : Rp 0 4 (natD n) where
  lay := (rp_natD (n := n) (by omega)).lay
  sh := (rp_natD (n := n) (by omega)).sh
  sm := (rp_natD (n := n) (by omega)).sm
  dp := (rp_natD (n := n) (by omega)).dp
  wt := by
    have : n = 0 ∨ n = 1 ∨ n = 2 ∨ n = 3 ∨ n = 4 ∨ n = 5 ∨ n = 6 ∨ n = 7 ∨ n = 8 := by omega
    rcases this with h | h | h | h | h | h | h | h | h <;> subst h <;> decide
theorem rp_tup8 {ls : List Nat} (h : ∀ x ∈ ls, x ≤ 8) (hl : ls.length ≤ 8) : Rp 1 40 (tupN ls) := Rp.tuple (n := 0) (m := 4) (l := 8) (fun d hd => by
  obtain ⟨x, hx, rfl⟩ := List.mem_map.mp hd
  exact rp_nat8 (h x hx)) (by rw [List.length_map]; exact hl)
theorem rp_rows8 {rows : List (List Nat)} {l : Nat} (h : ∀ r ∈ rows, r.length ≤ 8 ∧ ∀ x ∈ r, x ≤ 8) (hl : rows.length ≤ l) : Rp 2 (l * 41) (.tuple (rows.map tupN)) := Rp.tuple (fun d hd => by
  obtain ⟨r, hr, rfl⟩ := List.mem_map.mp hd
  exact rp_tup8 (h r hr).2 (h r hr).1) (by rw [List.length_map]; exact hl)
theorem fnd_383 : ∀ n, n < 25 → (fndR n 9).length ≤ 383 := by decide +kernel
theorem prodB_pow : ∀ (ls : List Nat) (p : Nat), ls.foldl (fun p a => p * (a + 1)) p ≤ p * 2 ^ ls.sum
  | [], p => by simp
  | a :: r, p => by
    refine Nat.le_trans (prodB_pow r (p * (a + 1))) ?_
    rw [List.sum_cons, Nat.pow_add, ← Nat.mul_assoc]
    exact Nat.mul_le_mul_right _ (Nat.mul_le_mul_left p (Nat.lt_two_pow_self))
/-- the lengths of p panels that keep a promise -/
def keptL (m : Nat) (t : Int) (p : Nat) : List (List Nat) := (sortR (fndR p 9)).filter fun ls => decide (m ≤ p) && decide (t ≤ worst ls m)
def layoutsL (m : Nat) (t : Int) : List (List Nat) := firstNE (keptL m t) ((List.range 24).map (· + 1))
theorem fnd_len {p : Nat} (h1 : 1 ≤ p) (h2 : p ≤ 24) {ls : List Nat} (m : ls ∈ sortR (fndR p 9)) : LenOk ls ∧ ls.sum = p := by
  obtain ⟨a, b, c, d, e⟩ := fnd_in h1 (by omega) (sortR_mem.mp m)
  exact ⟨⟨b, c, d, e, by omega⟩, a⟩
theorem kept_in {m p : Nat} {t : Int} (h1 : 1 ≤ p) (h2 : p ≤ 24) {ls : List Nat} (q : ls ∈ keptL m t p) : LenOk ls ∧ ls.sum = p := fnd_len h1 h2 (List.mem_filter.mp q).1
theorem kept_len {m p : Nat} {t : Int} (h2 : p ≤ 24) : (keptL m t p).length ≤ 383 := by
  refine Nat.le_trans (List.length_filter_le _ _) ?_
  rw [sortR_len]
  exact fnd_383 p (by omega)
theorem kept_low {m p : Nat} {t : Int} (h1 : 1 ≤ p) (h2 : p ≤ 24) (ht : 0 < t) (h : p ≤ m) : keptL m t p = [] := by
  refine List.filter_eq_nil_iff.mpr fun ls q => ?_
  obtain ⟨a, b⟩ := fnd_len h1 h2 q
  by_cases z : m ≤ p
  · have e : m = ls.sum := by omega
    have := (worst_ge a (Nat.le_of_eq e) ht).mp
    by_cases y : t ≤ worst ls m
    · have q2 := this y
      have q3 : cnt t (prodI ls) ≤ (prodI ls).length := List.length_filter_le _ _
      rw [prodI_len] at q3
      omega
    · simp [y]
  · simp [z]
theorem layouts_at {m p : Nat} {t : Int} (h1 : 1 ≤ p) (h2 : p ≤ 24) (hp : keptL m t p ≠ []) (h : ∀ q, 1 ≤ q → q < p → keptL m t q = []) : layoutsL m t = keptL m t p := by
  unfold layoutsL
  have e : (List.range 24).map (· + 1) = ((List.range (p - 1)).map (· + 1)) ++ p :: ((List.range (24 - p)).map (· + (p + 1))) := by
    have e1 : List.range 24 = List.range ((p - 1) + ((24 - p) + 1)) := by rw [show (p - 1) + ((24 - p) + 1) = 24 by omega]
    rw [e1, List.range_add, List.map_append, List.range_succ_eq_map, List.map_cons, List.map_cons, List.map_map, List.map_map]
    congr 1
    rw [show p - 1 + 0 + 1 = p by omega]
    congr 1
    refine List.map_congr_left fun x _ => ?_
    show p - 1 + (x + 1) + 1 = x + (p + 1)
    omega
  rw [e]
  refine firstNE_at hp fun q mq => ?_
  obtain ⟨x, hx, rfl⟩ := List.mem_map.mp mq
  rw [List.mem_range] at hx
  exact h (x + 1) (by omega) (by omega)
theorem layouts_in {m : Nat} {t : Int} : layoutsL m t = [] ∨ ∃ p, 1 ≤ p ∧ p ≤ 24 ∧ layoutsL m t = keptL m t p := by
  unfold layoutsL
  have : ∀ ps : List Nat, (∀ p ∈ ps, 1 ≤ p ∧ p ≤ 24) → firstNE (keptL m t) ps = [] ∨ ∃ p, 1 ≤ p ∧ p ≤ 24 ∧ firstNE (keptL m t) ps = keptL m t p := by
    intro ps
    induction ps with
    | nil => exact fun _ => .inl rfl
    | cons p r ih =>
      intro h
      unfold firstNE
      have hp := h p List.mem_cons_self
      cases e : keptL m t p with
      | nil => exact ih fun q mq => h q (List.mem_cons_of_mem _ mq)
      | cons a b => exact .inr ⟨p, hp.1, hp.2, by rw [e]⟩
  exact this _ fun p mp => by
    obtain ⟨x, hx, rfl⟩ := List.mem_map.mp mp
    rw [List.mem_range] at hx
    show 1 ≤ x + 1 ∧ x + 1 ≤ 24
    omega
end SS

end

section
set_option linter.all false
set_option maxRecDepth 100000
set_option maxHeartbeats 4000000
namespace K69
open SS PySem L2
def hr__law_heard : HrT := ⟨false, "let", (("InvalidNumber" : Str), ("number" : Str), 1) :: (("OutOfRange" : Str), ("range" : Str), 1) :: (("InvalidLights" : Str), ("lights" : Str), 1) :: []⟩
theorem hk_ok__law_heard (v : EV) (S : Cells) : kHear hr__law_heard (.ok v S) = .ok (.nw [.str "let"]) S := rfl
theorem hk_0__law_heard (x : D) (S : Cells) : kHear hr__law_heard (.exc "InvalidNumber" x S) = .ok (.nw [.str "number", x]) S := rfl
theorem hk_1__law_heard (x : D) (S : Cells) : kHear hr__law_heard (.exc "OutOfRange" x S) = .ok (.nw [.str "range", x]) S := rfl
theorem hk_2__law_heard (x : D) (S : Cells) : kHear hr__law_heard (.exc "InvalidLights" x S) = .ok (.nw [.str "lights", x]) S := rfl
def ir__law_take : FnIR := ⟨2, 4, (.cons (.ite (.cmp .gt (.ix (.var 0) (.lit (.int 0))) (.lit (.int 0))) (.cons (.set (.tup (.cons (.sub (.var 0) (.lit (.int 0))) (.cons (.nm 2) .nil))) (.b2 .divmod (.ix (.var 0) (.lit (.int 0))) (.var 1))) (.cons (.ret (.var 2)) .nil)) .nil) (.cons (.set (.sub (.var 0) (.lit (.int 2))) (.bin .add (.ix (.var 0) (.lit (.int 2))) (.lit (.int 1)))) (.cons (.set (.nm 3) (.bin .mod (.b1 .int (.bin .add (.bin .mul (.ix (.var 0) (.lit (.int 1))) (.lit (.int 40009))) (.bin .mul (.lit (.int 15013)) (.ix (.var 0) (.lit (.int 2)))))) (.lit (.int 2147483629)))) (.cons (.set (.sub (.var 0) (.lit (.int 1))) (.bin .mod (.b1 .int (.bin .add (.bin .mul (.var 3) (.bin .add (.bin .mod (.b1 .int (.var 3)) (.lit (.int 5003))) (.lit (.int 30011)))) (.bin .mul (.lit (.int 3)) (.ix (.var 0) (.lit (.int 2)))))) (.lit (.int 2147483629)))) (.cons (.ret (.bin .mod (.b1 .int (.bin .fdiv (.ix (.var 0) (.lit (.int 1))) (.lit (.int 907)))) (.var 1))) .nil))))), false⟩
def ir__law_of : FnIR := ⟨2, 2, (.cons (.ret (.ix (.var 1) (.call "_law_take" [] [0, 1] (.cons (.var 0) (.cons (.b1 .len (.var 1)) .nil)) .nil))) .nil), false⟩
def ir__law_no_lights : FnIR := ⟨1, 2, (.cons (.set (.nm 1) (.lst (.cons (.tup (.cons (.tup (.cons (.lit (.int 100)) .nil)) (.cons (.lit (.int 0)) .nil))) (.cons (.tup (.cons (.tup (.cons (.neg (.lit (.int 1))) .nil)) (.cons (.lit (.int 0)) .nil))) (.cons (.tup (.cons (.tup (.cons (.lit (.int 3)) (.cons (.lit (.int 4)) .nil))) (.cons (.lit (.int 1)) .nil))) (.cons (.tup (.cons (.tup (.cons (.lit (.int 3)) (.cons (.lit (.bool true)) .nil))) (.cons (.lit (.int 1)) .nil))) (.cons (.tup (.cons (.tup (.cons (.lit (.int 3)) (.cons (.lit .none) .nil))) (.cons (.lit (.int 1)) .nil))) (.cons (.tup (.cons (.tup (.cons (.lit (.str "3")) .nil)) (.cons (.lit (.int 0)) .nil))) (.cons (.tup (.cons (.lst (.cons (.lit (.int 3)) (.cons (.lit (.int 2)) .nil))) (.cons (.lit .none) .nil))) .nil))))))))) (.cons (.set (.nm 1) (.bin .add (.var 1) (.lst (.cons (.tup (.cons (.tup .nil) (.cons (.lit .none) .nil))) (.cons (.tup (.cons (.lit .none) (.cons (.lit .none) .nil))) .nil))))) (.cons (.ret (.call "_law_of" [] [0, 1] (.cons (.var 0) (.cons (.bin .add (.var 1) (.lst (.cons (.tup (.cons (.bin .mul (.tup (.cons (.lit (.int 5)) .nil)) (.lit (.int 25))) (.cons (.lit (.int 24)) .nil))) (.cons (.tup (.cons (.tup (.cons (.lit (.int 2)) (.cons (.lit (.int 1)) (.cons (.lit (.int 2)) .nil)))) (.cons (.lit (.int 2)) .nil))) (.cons (.tup (.cons (.lit (.int 5)) (.cons (.lit .none) .nil))) (.cons (.tup (.cons (.tup (.cons (.lit (.int 9)) (.cons (.lit (.int 8)) (.cons (.tup (.cons (.lit (.int 7)) .nil)) .nil)))) (.cons (.lit (.int 2)) .nil))) .nil)))))) .nil)) .nil)) .nil))), false⟩
def ir__law_no_number : FnIR := ⟨3, 3, (.cons (.ret (.call "_law_of" [] [0, 1] (.cons (.var 0) (.cons (.lst (.cons (.lit .none) (.cons (.lit (.bool true)) (.cons (.bin .sub (.var 1) (.lit (.int 1))) (.cons (.bin .add (.var 2) (.lit (.int 1))) (.cons (.lit (.str "1")) (.cons (.tup (.cons (.lit (.int 1)) .nil)) .nil))))))) .nil)) .nil)) .nil), false⟩
def ir_first_wrong : FnIR := ⟨2, 3, (.cons (.for (.nm 2) (.rng1 (.b1 .len (.var 0))) (.cons (.ite (.not (.callv 1 (.cons (.sl (.var 0) .none (.some (.bin .add (.var 2) (.lit (.int 1))))) .nil))) (.cons (.ret (.var 2)) .nil) .nil) .nil)) (.cons (.ret (.lit .none)) .nil)), false⟩
def ir_fault_in : FnIR := ⟨2, 3, (.cons (.ite (.or (.not (.isi (.var 0) .tuple)) (.cmp .eq (.var 0) (.tup .nil))) (.cons (.ret (.lit .none)) .nil) .nil) (.cons (.set (.nm 2) (.call "first_wrong" [] [0, 1] (.cons (.var 0) (.cons (.var 1) .nil)) .nil)) (.cons (.ret (.ite (.cmp .is (.var 2) (.lit .none)) (.glob "RIGHT" (-1)) (.var 2))) .nil))), false⟩
def ir_is_number : FnIR := ⟨3, 3, (.cons (.ite (.or (.not (.isi (.var 0) .int)) (.isi (.var 0) .bool)) (.cons (.ret (.lit (.bool false))) .nil) .nil) (.cons (.ret (.and (.cmp .ge (.var 0) (.var 1)) (.or (.cmp .is (.var 2) (.lit .none)) (.cmp .le (.var 0) (.var 2))))) .nil)), false⟩
def ir_is_light : FnIR := ⟨1, 1, (.cons (.ret (.call "is_number" [] [0, 1, 2] (.cons (.var 0) (.cons (.lit (.int 0)) (.cons (.glob "MOST_LIGHT" 99) .nil))) .nil)) .nil), false⟩
def ir_is_lights_row : FnIR := ⟨1, 1, (.cons (.ite (.or (.cmp .gt (.b1 .len (.var 0)) (.glob "MOST_PANELS" 24)) (.not (.call "is_light" [] [0] (.cons (.ix (.var 0) (.neg (.lit (.int 1)))) .nil) .nil))) (.cons (.ret (.lit (.bool false))) .nil) .nil) (.cons (.ret (.or (.cmp .eq (.b1 .len (.var 0)) (.lit (.int 1))) (.cmp .le (.ix (.var 0) (.neg (.lit (.int 1)))) (.ix (.var 0) (.neg (.lit (.int 2))))))) .nil)), false⟩
def ir_check_lights : FnIR := ⟨1, 2, (.cons (.set (.nm 1) (.call "fault_in" [] [0, 1] (.cons (.var 0) (.cons (.fnv "is_lights_row") .nil)) .nil)) (.cons (.ite (.cmp .ne (.var 1) (.glob "RIGHT" (-1))) (.cons (.raise "InvalidLights" (.var 1)) .nil) .nil) .nil)), false⟩
def ir_check_number : FnIR := ⟨3, 3, (.cons (.ite (.not (.call "is_number" [] [0, 1, 2] (.cons (.var 0) (.cons (.var 1) (.cons (.var 2) .nil))) .nil)) (.cons (.raise "InvalidNumber" (.var 0)) .nil) .nil) .nil), false⟩
def ir_check_length : FnIR := ⟨1, 1, (.cons (.expr (.call "check_number" [] [0, 1, 2] (.cons (.var 0) (.cons (.lit (.int 1)) (.cons (.glob "MOST_LEVEL" 8) .nil))) .nil)) .nil), false⟩
def ir_check_arranged : FnIR := ⟨2, 2, (.cons (.expr (.call "check_lights" [] [0] (.cons (.var 0) .nil) .nil)) (.cons (.expr (.call "check_length" [] [0] (.cons (.var 1) .nil) .nil)) .nil)), false⟩
def ir_check_level : FnIR := ⟨1, 1, (.cons (.expr (.call "check_number" [] [0, 1, 2] (.cons (.var 0) (.cons (.lit (.int 1)) (.cons (.glob "MOST_LEVEL" 8) .nil))) .nil)) .nil), false⟩
def ir_check_made : FnIR := ⟨2, 2, (.cons (.ite (.or (.cmp .ne (.bin .mod (.b1 .len (.var 0)) (.var 1)) (.lit (.int 0))) (.cmp .gt (.bin .fdiv (.b1 .len (.var 0)) (.var 1)) (.glob "MOST_STRINGS" 8))) (.cons (.raise "OutOfRange" (.var 1)) .nil) .nil) .nil), false⟩
def ir_check_leveled : FnIR := ⟨3, 3, (.cons (.expr (.call "check_arranged" [] [0, 1] (.cons (.var 0) (.cons (.var 1) .nil)) .nil)) (.cons (.expr (.call "check_level" [] [0] (.cons (.var 2) .nil) .nil)) (.cons (.expr (.call "check_made" [] [0, 1] (.cons (.var 0) (.cons (.var 1) .nil)) .nil)) (.cons (.ite (.cmp .gt (.var 2) (.var 1)) (.cons (.raise "OutOfRange" (.var 2)) .nil) .nil) .nil)))), false⟩
def ir_strings_made : FnIR := ⟨2, 2, (.cons (.ret (.bin .fdiv (.b1 .len (.var 0)) (.var 1))) .nil), false⟩
def ir_greatest_at : FnIR := ⟨3, 4, (.cons (.ret (.b1 .sum (.comp (.ix (.var 0) (.bin .sub (.bin .mul (.var 3) (.var 2)) (.lit (.int 1)))) (.nm 3) (.rng2 (.lit (.int 1)) (.bin .add (.call "strings_made" [] [0, 1] (.cons (.var 0) (.cons (.var 1) .nil)) .nil) (.lit (.int 1)))) .none))) .nil), false⟩
def ir_greatest_current : FnIR := ⟨3, 3, (.cons (.expr (.call "check_leveled" [] [0, 1, 2] (.cons (.var 0) (.cons (.var 1) (.cons (.var 2) .nil))) .nil)) (.cons (.ret (.call "greatest_at" [] [0, 1, 2] (.cons (.var 0) (.cons (.var 1) (.cons (.var 2) .nil))) .nil)) .nil)), false⟩
def ir_least_at : FnIR := ⟨3, 6, (.cons (.par [(3, false), (4, false)] (.cons (.rev (.var 0)) (.cons (.bin .add (.bin .sub (.var 1) (.var 2)) (.lit (.int 1))) .nil))) (.cons (.ret (.b1 .sum (.comp (.ix (.var 3) (.bin .sub (.bin .mul (.var 5) (.var 4)) (.lit (.int 1)))) (.nm 5) (.rng2 (.lit (.int 1)) (.bin .add (.call "strings_made" [] [0, 1] (.cons (.var 0) (.cons (.var 1) .nil)) .nil) (.lit (.int 1)))) .none))) .nil)), false⟩
def ir_least_current : FnIR := ⟨3, 3, (.cons (.expr (.call "check_leveled" [] [0, 1, 2] (.cons (.var 0) (.cons (.var 1) (.cons (.var 2) .nil))) .nil)) (.cons (.ret (.call "least_at" [] [0, 1, 2] (.cons (.var 0) (.cons (.var 1) (.cons (.var 2) .nil))) .nil)) .nil)), false⟩
def ir_arranged_at : FnIR := ⟨3, 9, (.cons (.set (.nm 3) (.call "strings_made" [] [0, 1] (.cons (.var 0) (.cons (.var 1) .nil)) .nil)) (.cons (.par [(4, false), (5, true)] (.cons (.sl (.var 0) (.some (.bin .mul (.var 3) (.var 2))) .none) (.cons (.lst .nil) .nil))) (.cons (.for (.nm 6) (.rng1 (.var 3)) (.cons (.set (.nm 7) (.bin .sub (.var 1) (.var 2))) (.cons (.set (.nm 8) (.sl (.var 0) (.some (.bin .mul (.var 6) (.var 2))) (.some (.bin .mul (.bin .add (.var 6) (.lit (.int 1))) (.var 2))))) (.cons (.app 5 (.bin .add (.var 8) (.sl (.var 4) (.some (.bin .mul (.var 6) (.var 7))) (.some (.bin .mul (.bin .add (.var 6) (.lit (.int 1))) (.var 7)))))) .nil)))) (.cons (.ret (.b1 .tuple (.peek 5))) .nil)))), false⟩
def ir_arrangement_at : FnIR := ⟨3, 3, (.cons (.expr (.call "check_leveled" [] [0, 1, 2] (.cons (.var 0) (.cons (.var 1) (.cons (.var 2) .nil))) .nil)) (.cons (.ret (.call "arranged_at" [] [0, 1, 2] (.cons (.var 0) (.cons (.var 1) (.cons (.var 2) .nil))) .nil)) .nil)), false⟩
def ir_choices : FnIR := ⟨2, 4, (.cons (.set (.nm 2) (.lit (.int 1))) (.cons (.for (.nm 3) (.rng1 (.var 1)) (.cons (.set (.nm 2) (.bin .fdiv (.bin .mul (.var 2) (.bin .sub (.var 0) (.var 3))) (.bin .add (.var 3) (.lit (.int 1))))) .nil)) (.cons (.ret (.var 2)) .nil))), false⟩
def ir_common_divisor : FnIR := ⟨2, 2, (.cons (.whil 1000000 (.cmp .gt (.var 1) (.lit (.int 0))) (.cons (.par [(0, false), (1, false)] (.cons (.var 1) (.cons (.bin .mod (.var 0) (.var 1)) .nil))) .nil)) (.cons (.ret (.var 0)) .nil)), false⟩
def ir_fraction : FnIR := ⟨2, 3, (.cons (.set (.nm 2) (.call "common_divisor" [] [0, 1] (.cons (.var 0) (.cons (.var 1) .nil)) .nil)) (.cons (.ret (.tup (.cons (.bin .fdiv (.var 0) (.var 2)) (.cons (.bin .fdiv (.var 1) (.var 2)) .nil)))) .nil)), false⟩
def ir_mean_at : FnIR := ⟨3, 7, (.cons (.par [(3, false), (4, false)] (.cons (.b1 .len (.var 0)) (.cons (.lit (.int 0)) .nil))) (.cons (.for (.tup (.cons (.nm 5) (.cons (.nm 6) .nil))) (.enum (.var 0)) (.cons (.set (.nm 4) (.bin .add (.var 4) (.bin .mul (.bin .mul (.var 6) (.call "choices" [] [0, 1] (.cons (.var 5) (.cons (.bin .sub (.var 2) (.lit (.int 1))) .nil)) .nil)) (.call "choices" [] [0, 1] (.cons (.bin .sub (.bin .sub (.var 3) (.var 5)) (.lit (.int 1))) (.cons (.bin .sub (.var 1) (.var 2)) .nil)) .nil)))) .nil)) (.cons (.ret (.call "fraction" [] [0, 1] (.cons (.bin .mul (.var 4) (.bin .fdiv (.var 3) (.var 1))) (.cons (.call "choices" [] [0, 1] (.cons (.var 3) (.cons (.var 1) .nil)) .nil) .nil)) .nil)) .nil))), false⟩
def ir_mean_current : FnIR := ⟨3, 3, (.cons (.expr (.call "check_leveled" [] [0, 1, 2] (.cons (.var 0) (.cons (.var 1) (.cons (.var 2) .nil))) .nil)) (.cons (.ret (.call "mean_at" [] [0, 1, 2] (.cons (.var 0) (.cons (.var 1) (.cons (.var 2) .nil))) .nil)) .nil)), false⟩
def ir_mean_currents : FnIR := ⟨2, 3, (.cons (.expr (.call "check_arranged" [] [0, 1] (.cons (.var 0) (.cons (.var 1) .nil)) .nil)) (.cons (.expr (.call "check_made" [] [0, 1] (.cons (.var 0) (.cons (.var 1) .nil)) .nil)) (.cons (.ret (.b1 .tuple (.comp (.call "mean_at" [] [0, 1, 2] (.cons (.var 0) (.cons (.var 1) (.cons (.var 2) .nil))) .nil) (.nm 2) (.rng2 (.lit (.int 1)) (.bin .add (.var 1) (.lit (.int 1)))) .none))) .nil))), false⟩
def ir_greatest_over : FnIR := ⟨2, 3, (.cons (.ret (.b1 .max (.comp (.bin .mul (.var 2) (.call "greatest_at" [] [0, 1, 2] (.cons (.var 0) (.cons (.var 1) (.cons (.var 2) .nil))) .nil)) (.nm 2) (.rng2 (.lit (.int 1)) (.bin .add (.var 1) (.lit (.int 1)))) .none))) .nil), false⟩
def ir_greatest_arranged : FnIR := ⟨2, 2, (.cons (.expr (.call "check_arranged" [] [0, 1] (.cons (.var 0) (.cons (.var 1) .nil)) .nil)) (.cons (.expr (.call "check_made" [] [0, 1] (.cons (.var 0) (.cons (.var 1) .nil)) .nil)) (.cons (.ret (.call "greatest_over" [] [0, 1] (.cons (.var 0) (.cons (.var 1) .nil)) .nil)) .nil))), false⟩
def ir__law_six : FnIR := ⟨3, 4, (.cons (.own 3 (.lst (.cons (.hear "_law_heard" hr__law_heard none (.call "greatest_current" [] [0, 1, 2] (.cons (.var 0) (.cons (.var 1) (.cons (.var 2) .nil))) .nil)) .nil))) (.cons (.app 3 (.hear "_law_heard" hr__law_heard none (.call "least_current" ["level", "length", "lights"] [2, 1, 0] .nil (.cons (.var 2) (.cons (.var 1) (.cons (.var 0) .nil)))))) (.cons (.app 3 (.hear "_law_heard" hr__law_heard none (.call "arrangement_at" [] [0, 1, 2] (.cons (.var 0) (.cons (.var 1) (.cons (.var 2) .nil))) .nil))) (.cons (.app 3 (.hear "_law_heard" hr__law_heard none (.call "mean_current" ["level", "length", "lights"] [2, 1, 0] .nil (.cons (.var 2) (.cons (.var 1) (.cons (.var 0) .nil)))))) (.cons (.app 3 (.hear "_law_heard" hr__law_heard none (.call "mean_currents" [] [0, 1] (.cons (.var 0) (.cons (.var 1) .nil)) .nil))) (.cons (.ret (.bin .add (.peek 3) (.lst (.cons (.hear "_law_heard" hr__law_heard none (.call "greatest_arranged" ["length", "lights"] [1, 0] .nil (.cons (.var 1) (.cons (.var 0) .nil)))) .nil)))) .nil)))))), true⟩
def ir__law_right : FnIR := ⟨1, 10, (.cons (.for (.nm 1) (.rng1 (.lit (.int 4))) (.cons (.set (.tup (.cons (.tup (.cons (.nm 2) (.cons (.nm 3) .nil))) (.cons (.nm 4) (.cons (.nm 5) .nil)))) (.tup (.cons (.call "_law_no_lights" [] [0] (.cons (.var 0) .nil) .nil) (.cons (.call "_law_no_number" [] [0, 1, 2] (.cons (.var 0) (.cons (.lit (.int 1)) (.cons (.lit (.int 8)) .nil))) .nil) (.cons (.call "_law_no_number" [] [0, 1, 2] (.cons (.var 0) (.cons (.lit (.int 1)) (.cons (.lit (.int 8)) .nil))) .nil) .nil))))) (.cons (.par [(6, false), (7, false)] (.cons (.tup (.cons (.lit (.int 9)) (.cons (.lit (.int 8)) (.cons (.lit (.int 5)) (.cons (.lit (.int 4)) (.cons (.lit (.int 1)) (.cons (.lit (.int 1)) .nil))))))) (.cons (.call "_law_of" [] [0, 1] (.cons (.var 0) (.cons (.lst (.cons (.lit (.int 4)) (.cons (.lit (.int 5)) (.cons (.lit (.int 7)) (.cons (.lit (.int 8)) .nil))))) .nil)) .nil) .nil))) (.cons (.set (.nm 8) (.bin .add (.bin .add (.call "_law_six" [] [0, 1, 2] (.cons (.var 2) (.cons (.var 4) (.cons (.var 5) .nil))) .nil) (.call "_law_six" [] [0, 1, 2] (.cons (.var 6) (.cons (.var 4) (.cons (.var 5) .nil))) .nil)) (.call "_law_six" [] [0, 1, 2] (.cons (.var 6) (.cons (.lit (.int 3)) (.cons (.var 5) .nil))) .nil))) (.cons (.set (.nm 9) (.bin .add (.bin .add (.bin .add (.bin .mul (.lst (.cons (.lst (.cons (.lit (.str "lights")) (.cons (.var 3) .nil))) .nil)) (.lit (.int 6))) (.bin .mul (.lst (.cons (.lst (.cons (.lit (.str "number")) (.cons (.var 4) .nil))) .nil)) (.lit (.int 6)))) (.bin .mul (.lst (.cons (.lst (.cons (.lit (.str "number")) (.cons (.var 5) .nil))) .nil)) (.lit (.int 4)))) (.bin .mul (.lst (.cons (.lst (.cons (.lit (.str "let")) .nil)) .nil)) (.lit (.int 2))))) (.cons (.ite (.cmp .ne (.b1 .repr (.var 8)) (.b1 .repr (.var 9))) (.cons (.ret (.lit (.bool false))) .nil) .nil) (.cons (.set (.nm 8) (.bin .add (.bin .add (.bin .add (.call "_law_six" [] [0, 1, 2] (.cons (.var 6) (.cons (.var 7) (.cons (.var 5) .nil))) .nil) (.call "_law_six" [] [0, 1, 2] (.cons (.var 6) (.cons (.var 7) (.cons (.lit (.int 8)) .nil))) .nil)) (.call "_law_six" [] [0, 1, 2] (.cons (.var 6) (.cons (.lit (.int 2)) (.cons (.lit (.int 3)) .nil))) .nil)) (.call "_law_six" [] [0, 1, 2] (.cons (.bin .mul (.tup (.cons (.lit (.int 5)) .nil)) (.lit (.int 9))) (.cons (.lit (.int 1)) (.cons (.lit (.int 1)) .nil))) .nil))) (.cons (.set (.nm 9) (.bin .add (.bin .add (.bin .add (.bin .add (.bin .mul (.lst (.cons (.lst (.cons (.lit (.str "number")) (.cons (.var 5) .nil))) .nil)) (.lit (.int 4))) (.bin .mul (.lst (.cons (.lst (.cons (.lit (.str "range")) (.cons (.var 7) .nil))) .nil)) (.lit (.int 8)))) (.bin .mul (.lst (.cons (.lst (.cons (.lit (.str "range")) (.cons (.lit (.int 3)) .nil))) .nil)) (.lit (.int 4)))) (.bin .mul (.lst (.cons (.lst (.cons (.lit (.str "let")) .nil)) .nil)) (.lit (.int 2)))) (.bin .mul (.lst (.cons (.lst (.cons (.lit (.str "range")) (.cons (.lit (.int 1)) .nil))) .nil)) (.lit (.int 6))))) (.cons (.ite (.or (.cmp .ne (.b1 .repr (.var 8)) (.b1 .repr (.var 9))) (.cmp .ne (.b1 .repr (.bin .add (.call "_law_six" [] [0, 1, 2] (.cons (.bin .mul (.tup (.cons (.lit (.int 0)) .nil)) (.lit (.int 24))) (.cons (.lit (.int 8)) (.cons (.lit (.int 8)) .nil))) .nil) (.call "_law_six" [] [0, 1, 2] (.cons (.tup (.cons (.lit (.int 7)) .nil)) (.cons (.lit (.int 1)) (.cons (.lit (.int 1)) .nil))) .nil))) (.b1 .repr (.bin .mul (.lst (.cons (.lst (.cons (.lit (.str "let")) .nil)) .nil)) (.lit (.int 12)))))) (.cons (.ret (.lit (.bool false))) .nil) .nil) .nil))))))))) (.cons (.ret (.lit (.bool true))) .nil)), false⟩
def ir__law_urn : FnIR := ⟨2, 5, (.cons (.set (.nm 2) (.bin .add (.lit (.int 697087)) (.bin .mul (.lit (.int 8111)) (.var 1)))) (.cons (.for (.nm 3) (.it (.sl (.var 0) .none (.some (.lit (.int 9))))) (.cons (.set (.nm 2) (.bin .mod (.b1 .int (.bin .add (.bin .add (.bin .mul (.var 2) (.lit (.int 50021))) (.bin .mul (.bin .mod (.b1 .int (.var 3)) (.lit (.int 2147483477))) (.lit (.int 13)))) (.lit (.int 41)))) (.lit (.int 2147483629)))) .nil)) (.cons (.set (.nm 4) (.ite (.cmp .lt (.var 1) (.b1 .len (.var 0))) (.b1 .int (.ix (.var 0) (.var 1))) (.lit (.int 0)))) (.cons (.set (.nm 2) (.bin .mod (.b1 .int (.bin .add (.bin .add (.bin .mul (.var 2) (.lit (.int 59))) (.bin .mul (.bin .mod (.b1 .int (.var 4)) (.lit (.int 2147483477))) (.lit (.int 30029)))) (.lit (.int 5)))) (.lit (.int 2147483629)))) (.cons (.ret (.newc (.lst (.cons (.ite (.or (.cmp .lt (.var 4) (.lit (.int 0))) (.cmp .ge (.var 4) (.bin .pow (.lit (.int 10)) (.lit (.int 15))))) (.b1 .abs (.var 4)) (.lit (.int 0))) (.cons (.var 2) (.cons (.lit (.int 0)) .nil)))))) .nil))))), false⟩
def ir_law : FnIR := ⟨1, 2, (.cons (.ret (.b1 .all (.comp (.call "_law_right" [] [0] (.cons (.call "_law_urn" [] [0, 1] (.cons (.var 0) (.cons (.var 1) .nil)) .nil) .nil) .nil) (.nm 1) (.rng1 (.b2 .max (.lit (.int 1)) (.b2 .min (.b1 .len (.var 0)) (.lit (.int 3))))) .none))) .nil), false⟩
def tb : List (Str × FnIR) := (("_law_take" : Str), ir__law_take) :: (("_law_of" : Str), ir__law_of) :: (("_law_no_lights" : Str), ir__law_no_lights) :: (("_law_no_number" : Str), ir__law_no_number) :: (("first_wrong" : Str), ir_first_wrong) :: (("fault_in" : Str), ir_fault_in) :: (("is_number" : Str), ir_is_number) :: (("is_light" : Str), ir_is_light) :: (("is_lights_row" : Str), ir_is_lights_row) :: (("check_lights" : Str), ir_check_lights) :: (("check_number" : Str), ir_check_number) :: (("check_length" : Str), ir_check_length) :: (("check_arranged" : Str), ir_check_arranged) :: (("check_level" : Str), ir_check_level) :: (("check_made" : Str), ir_check_made) :: (("check_leveled" : Str), ir_check_leveled) :: (("strings_made" : Str), ir_strings_made) :: (("greatest_at" : Str), ir_greatest_at) :: (("greatest_current" : Str), ir_greatest_current) :: (("least_at" : Str), ir_least_at) :: (("least_current" : Str), ir_least_current) :: (("arranged_at" : Str), ir_arranged_at) :: (("arrangement_at" : Str), ir_arrangement_at) :: (("choices" : Str), ir_choices) :: (("common_divisor" : Str), ir_common_divisor) :: (("fraction" : Str), ir_fraction) :: (("mean_at" : Str), ir_mean_at) :: (("mean_current" : Str), ir_mean_current) :: (("mean_currents" : Str), ir_mean_currents) :: (("greatest_over" : Str), ir_greatest_over) :: (("greatest_arranged" : Str), ir_greatest_arranged) :: (("_law_six" : Str), ir__law_six) :: (("_law_right" : Str), ir__law_right) :: (("_law_urn" : Str), ir__law_urn) :: (("law" : Str), ir_law) :: []
def T : Str → Option FnIR := fun f => tb.lookup f
def sg : Sg := { consts := [("MOST_LEVEL", (8 : Int)), ("MOST_LIGHT", (99 : Int)), ("MOST_PANELS", (24 : Int)), ("MOST_STRINGS", (8 : Int)), ("RIGHT", (-1 : Int))], blt := ["abs", "all", "bool", "divmod", "enumerate", "int", "isinstance", "len", "max", "min", "range", "repr", "sum", "tuple"], calls := (("_law_no_lights" : Str), (1 : Nat), ([] : List Str), ([0] : List Nat)) :: (("_law_no_number" : Str), (3 : Nat), ([] : List Str), ([0, 1, 2] : List Nat)) :: (("_law_of" : Str), (2 : Nat), ([] : List Str), ([0, 1] : List Nat)) :: (("_law_right" : Str), (1 : Nat), ([] : List Str), ([0] : List Nat)) :: (("_law_six" : Str), (3 : Nat), ([] : List Str), ([0, 1, 2] : List Nat)) :: (("_law_take" : Str), (2 : Nat), ([] : List Str), ([0, 1] : List Nat)) :: (("_law_urn" : Str), (2 : Nat), ([] : List Str), ([0, 1] : List Nat)) :: (("arranged_at" : Str), (3 : Nat), ([] : List Str), ([0, 1, 2] : List Nat)) :: (("arrangement_at" : Str), (3 : Nat), ([] : List Str), ([0, 1, 2] : List Nat)) :: (("check_arranged" : Str), (2 : Nat), ([] : List Str), ([0, 1] : List Nat)) :: (("check_length" : Str), (1 : Nat), ([] : List Str), ([0] : List Nat)) :: (("check_level" : Str), (1 : Nat), ([] : List Str), ([0] : List Nat)) :: (("check_leveled" : Str), (3 : Nat), ([] : List Str), ([0, 1, 2] : List Nat)) :: (("check_lights" : Str), (1 : Nat), ([] : List Str), ([0] : List Nat)) :: (("check_made" : Str), (2 : Nat), ([] : List Str), ([0, 1] : List Nat)) :: (("check_number" : Str), (3 : Nat), ([] : List Str), ([0, 1, 2] : List Nat)) :: (("choices" : Str), (2 : Nat), ([] : List Str), ([0, 1] : List Nat)) :: (("common_divisor" : Str), (2 : Nat), ([] : List Str), ([0, 1] : List Nat)) :: (("fault_in" : Str), (2 : Nat), ([] : List Str), ([0, 1] : List Nat)) :: (("first_wrong" : Str), (2 : Nat), ([] : List Str), ([0, 1] : List Nat)) :: (("fraction" : Str), (2 : Nat), ([] : List Str), ([0, 1] : List Nat)) :: (("greatest_arranged" : Str), (0 : Nat), (["length", "lights"] : List Str), ([1, 0] : List Nat)) :: (("greatest_at" : Str), (3 : Nat), ([] : List Str), ([0, 1, 2] : List Nat)) :: (("greatest_current" : Str), (3 : Nat), ([] : List Str), ([0, 1, 2] : List Nat)) :: (("greatest_over" : Str), (2 : Nat), ([] : List Str), ([0, 1] : List Nat)) :: (("is_light" : Str), (1 : Nat), ([] : List Str), ([0] : List Nat)) :: (("is_number" : Str), (3 : Nat), ([] : List Str), ([0, 1, 2] : List Nat)) :: (("least_at" : Str), (3 : Nat), ([] : List Str), ([0, 1, 2] : List Nat)) :: (("least_current" : Str), (0 : Nat), (["level", "length", "lights"] : List Str), ([2, 1, 0] : List Nat)) :: (("mean_at" : Str), (3 : Nat), ([] : List Str), ([0, 1, 2] : List Nat)) :: (("mean_current" : Str), (0 : Nat), (["level", "length", "lights"] : List Str), ([2, 1, 0] : List Nat)) :: (("mean_currents" : Str), (2 : Nat), ([] : List Str), ([0, 1] : List Nat)) :: (("strings_made" : Str), (2 : Nat), ([] : List Str), ([0, 1] : List Nat)) :: [], fns := ["is_lights_row"], classes := ["InvalidLights", "InvalidNumber", "OutOfRange"], att := (("InvalidLights" : Str), ("index" : Str)) :: (("InvalidNumber" : Str), ("given" : Str)) :: (("OutOfRange" : Str), ("given" : Str)) :: [], hears := (("_law_heard" : Str), hr__law_heard) :: [] }
def top (i : Nat) : Stmt := PySem.Challenge.pw_shadestrings_k69_arrangements_refused.main.body.getD i (.Pass ⟨0, 0, 0, 0⟩)
abbrev s__law_take : Stmt := top 45
theorem sc__law_take : FnScope ["urn", "many", "figure", "stir"] ["urn", "many"] (defScope s__law_take) := ⟨rfl, rfl, rfl, by decide +kernel, rfl, by decide +kernel, by decide +kernel⟩
theorem m__law_take : mSs { sg with lam := ir__law_take.lam } ["urn", "many", "figure", "stir"] (defScope s__law_take) ir__law_take.body (defBody s__law_take) = true := by decide +kernel
theorem T__law_take : T "_law_take" = some ir__law_take := rfl
abbrev s__law_of : Stmt := top 46
theorem sc__law_of : FnScope ["urn", "some"] ["urn", "some"] (defScope s__law_of) := ⟨rfl, rfl, rfl, by decide +kernel, rfl, by decide +kernel, by decide +kernel⟩
theorem m__law_of : mSs { sg with lam := ir__law_of.lam } ["urn", "some"] (defScope s__law_of) ir__law_of.body (defBody s__law_of) = true := by decide +kernel
theorem T__law_of : T "_law_of" = some ir__law_of := rfl
abbrev s__law_no_lights : Stmt := top 48
theorem sc__law_no_lights : FnScope ["urn", "rows"] ["urn"] (defScope s__law_no_lights) := ⟨rfl, rfl, rfl, by decide +kernel, rfl, by decide +kernel, by decide +kernel⟩
theorem m__law_no_lights : mSs { sg with lam := ir__law_no_lights.lam } ["urn", "rows"] (defScope s__law_no_lights) ir__law_no_lights.body (defBody s__law_no_lights) = true := by decide +kernel
theorem T__law_no_lights : T "_law_no_lights" = some ir__law_no_lights := rfl
abbrev s__law_no_number : Stmt := top 47
theorem sc__law_no_number : FnScope ["urn", "low", "top"] ["urn", "low", "top"] (defScope s__law_no_number) := ⟨rfl, rfl, rfl, by decide +kernel, rfl, by decide +kernel, by decide +kernel⟩
theorem m__law_no_number : mSs { sg with lam := ir__law_no_number.lam } ["urn", "low", "top"] (defScope s__law_no_number) ir__law_no_number.body (defBody s__law_no_number) = true := by decide +kernel
theorem T__law_no_number : T "_law_no_number" = some ir__law_no_number := rfl
abbrev s_first_wrong : Stmt := top 14
theorem sc_first_wrong : FnScope ["value", "is_right", "index"] ["value", "is_right"] (defScope s_first_wrong) := ⟨rfl, rfl, rfl, by decide +kernel, rfl, by decide +kernel, by decide +kernel⟩
theorem m_first_wrong : mSs { sg with lam := ir_first_wrong.lam } ["value", "is_right", "index"] (defScope s_first_wrong) ir_first_wrong.body (defBody s_first_wrong) = true := by decide +kernel
theorem T_first_wrong : T "first_wrong" = some ir_first_wrong := rfl
abbrev s_fault_in : Stmt := top 26
theorem sc_fault_in : FnScope ["value", "is_right", "index"] ["value", "is_right"] (defScope s_fault_in) := ⟨rfl, rfl, rfl, by decide +kernel, rfl, by decide +kernel, by decide +kernel⟩
theorem m_fault_in : mSs { sg with lam := ir_fault_in.lam } ["value", "is_right", "index"] (defScope s_fault_in) ir_fault_in.body (defBody s_fault_in) = true := by decide +kernel
theorem T_fault_in : T "fault_in" = some ir_fault_in := rfl
abbrev s_is_number : Stmt := top 10
theorem sc_is_number : FnScope ["value", "low", "high"] ["value", "low", "high"] (defScope s_is_number) := ⟨rfl, rfl, rfl, by decide +kernel, rfl, by decide +kernel, by decide +kernel⟩
theorem m_is_number : mSs { sg with lam := ir_is_number.lam } ["value", "low", "high"] (defScope s_is_number) ir_is_number.body (defBody s_is_number) = true := by decide +kernel
theorem T_is_number : T "is_number" = some ir_is_number := rfl
abbrev s_is_light : Stmt := top 11
theorem sc_is_light : FnScope ["value"] ["value"] (defScope s_is_light) := ⟨rfl, rfl, rfl, by decide +kernel, rfl, by decide +kernel, by decide +kernel⟩
theorem m_is_light : mSs { sg with lam := ir_is_light.lam } ["value"] (defScope s_is_light) ir_is_light.body (defBody s_is_light) = true := by decide +kernel
theorem T_is_light : T "is_light" = some ir_is_light := rfl
abbrev s_is_lights_row : Stmt := top 15
theorem sc_is_lights_row : FnScope ["row"] ["row"] (defScope s_is_lights_row) := ⟨rfl, rfl, rfl, by decide +kernel, rfl, by decide +kernel, by decide +kernel⟩
theorem m_is_lights_row : mSs { sg with lam := ir_is_lights_row.lam } ["row"] (defScope s_is_lights_row) ir_is_lights_row.body (defBody s_is_lights_row) = true := by decide +kernel
theorem T_is_lights_row : T "is_lights_row" = some ir_is_lights_row := rfl
abbrev s_check_lights : Stmt := top 27
theorem sc_check_lights : FnScope ["lights", "fault"] ["lights"] (defScope s_check_lights) := ⟨rfl, rfl, rfl, by decide +kernel, rfl, by decide +kernel, by decide +kernel⟩
theorem m_check_lights : mSs { sg with lam := ir_check_lights.lam } ["lights", "fault"] (defScope s_check_lights) ir_check_lights.body (defBody s_check_lights) = true := by decide +kernel
theorem T_check_lights : T "check_lights" = some ir_check_lights := rfl
abbrev s_check_number : Stmt := top 24
theorem sc_check_number : FnScope ["number", "low", "high"] ["number", "low", "high"] (defScope s_check_number) := ⟨rfl, rfl, rfl, by decide +kernel, rfl, by decide +kernel, by decide +kernel⟩
theorem m_check_number : mSs { sg with lam := ir_check_number.lam } ["number", "low", "high"] (defScope s_check_number) ir_check_number.body (defBody s_check_number) = true := by decide +kernel
theorem T_check_number : T "check_number" = some ir_check_number := rfl
abbrev s_check_length : Stmt := top 28
theorem sc_check_length : FnScope ["length"] ["length"] (defScope s_check_length) := ⟨rfl, rfl, rfl, by decide +kernel, rfl, by decide +kernel, by decide +kernel⟩
theorem m_check_length : mSs { sg with lam := ir_check_length.lam } ["length"] (defScope s_check_length) ir_check_length.body (defBody s_check_length) = true := by decide +kernel
theorem T_check_length : T "check_length" = some ir_check_length := rfl
abbrev s_check_arranged : Stmt := top 30
theorem sc_check_arranged : FnScope ["lights", "length"] ["lights", "length"] (defScope s_check_arranged) := ⟨rfl, rfl, rfl, by decide +kernel, rfl, by decide +kernel, by decide +kernel⟩
theorem m_check_arranged : mSs { sg with lam := ir_check_arranged.lam } ["lights", "length"] (defScope s_check_arranged) ir_check_arranged.body (defBody s_check_arranged) = true := by decide +kernel
theorem T_check_arranged : T "check_arranged" = some ir_check_arranged := rfl
abbrev s_check_level : Stmt := top 25
theorem sc_check_level : FnScope ["level"] ["level"] (defScope s_check_level) := ⟨rfl, rfl, rfl, by decide +kernel, rfl, by decide +kernel, by decide +kernel⟩
theorem m_check_level : mSs { sg with lam := ir_check_level.lam } ["level"] (defScope s_check_level) ir_check_level.body (defBody s_check_level) = true := by decide +kernel
theorem T_check_level : T "check_level" = some ir_check_level := rfl
abbrev s_check_made : Stmt := top 29
theorem sc_check_made : FnScope ["lights", "length"] ["lights", "length"] (defScope s_check_made) := ⟨rfl, rfl, rfl, by decide +kernel, rfl, by decide +kernel, by decide +kernel⟩
theorem m_check_made : mSs { sg with lam := ir_check_made.lam } ["lights", "length"] (defScope s_check_made) ir_check_made.body (defBody s_check_made) = true := by decide +kernel
theorem T_check_made : T "check_made" = some ir_check_made := rfl
abbrev s_check_leveled : Stmt := top 32
theorem sc_check_leveled : FnScope ["lights", "length", "level"] ["lights", "length", "level"] (defScope s_check_leveled) := ⟨rfl, rfl, rfl, by decide +kernel, rfl, by decide +kernel, by decide +kernel⟩
theorem m_check_leveled : mSs { sg with lam := ir_check_leveled.lam } ["lights", "length", "level"] (defScope s_check_leveled) ir_check_leveled.body (defBody s_check_leveled) = true := by decide +kernel
theorem T_check_leveled : T "check_leveled" = some ir_check_leveled := rfl
abbrev s_strings_made : Stmt := top 17
theorem sc_strings_made : FnScope ["lights", "length"] ["lights", "length"] (defScope s_strings_made) := ⟨rfl, rfl, rfl, by decide +kernel, rfl, by decide +kernel, by decide +kernel⟩
theorem m_strings_made : mSs { sg with lam := ir_strings_made.lam } ["lights", "length"] (defScope s_strings_made) ir_strings_made.body (defBody s_strings_made) = true := by decide +kernel
theorem T_strings_made : T "strings_made" = some ir_strings_made := rfl
abbrev s_greatest_at : Stmt := top 18
theorem sc_greatest_at : FnScope ["lights", "length", "level", "number"] ["lights", "length", "level"] (defScope s_greatest_at) := ⟨rfl, rfl, rfl, by decide +kernel, rfl, by decide +kernel, by decide +kernel⟩
theorem m_greatest_at : mSs { sg with lam := ir_greatest_at.lam } ["lights", "length", "level", "number"] (defScope s_greatest_at) ir_greatest_at.body (defBody s_greatest_at) = true := by decide +kernel
theorem T_greatest_at : T "greatest_at" = some ir_greatest_at := rfl
abbrev s_greatest_current : Stmt := top 33
theorem sc_greatest_current : FnScope ["lights", "length", "level"] ["lights", "length", "level"] (defScope s_greatest_current) := ⟨rfl, rfl, rfl, by decide +kernel, rfl, by decide +kernel, by decide +kernel⟩
theorem m_greatest_current : mSs { sg with lam := ir_greatest_current.lam } ["lights", "length", "level"] (defScope s_greatest_current) ir_greatest_current.body (defBody s_greatest_current) = true := by decide +kernel
theorem T_greatest_current : T "greatest_current" = some ir_greatest_current := rfl
abbrev s_least_at : Stmt := top 19
theorem sc_least_at : FnScope ["lights", "length", "level", "rising", "step", "number"] ["lights", "length", "level"] (defScope s_least_at) := ⟨rfl, rfl, rfl, by decide +kernel, rfl, by decide +kernel, by decide +kernel⟩
theorem m_least_at : mSs { sg with lam := ir_least_at.lam } ["lights", "length", "level", "rising", "step", "number"] (defScope s_least_at) ir_least_at.body (defBody s_least_at) = true := by decide +kernel
theorem T_least_at : T "least_at" = some ir_least_at := rfl
abbrev s_least_current : Stmt := top 34
theorem sc_least_current : FnScope ["lights", "length", "level"] ["lights", "length", "level"] (defScope s_least_current) := ⟨rfl, rfl, rfl, by decide +kernel, rfl, by decide +kernel, by decide +kernel⟩
theorem m_least_current : mSs { sg with lam := ir_least_current.lam } ["lights", "length", "level"] (defScope s_least_current) ir_least_current.body (defBody s_least_current) = true := by decide +kernel
theorem T_least_current : T "least_current" = some ir_least_current := rfl
abbrev s_arranged_at : Stmt := top 21
theorem sc_arranged_at : FnScope ["lights", "length", "level", "many", "rest", "found", "number", "more", "head"] ["lights", "length", "level"] (defScope s_arranged_at) := ⟨rfl, rfl, rfl, by decide +kernel, rfl, by decide +kernel, by decide +kernel⟩
theorem m_arranged_at : mSs { sg with lam := ir_arranged_at.lam } ["lights", "length", "level", "many", "rest", "found", "number", "more", "head"] (defScope s_arranged_at) ir_arranged_at.body (defBody s_arranged_at) = true := by decide +kernel
theorem T_arranged_at : T "arranged_at" = some ir_arranged_at := rfl
abbrev s_arrangement_at : Stmt := top 35
theorem sc_arrangement_at : FnScope ["lights", "length", "level"] ["lights", "length", "level"] (defScope s_arrangement_at) := ⟨rfl, rfl, rfl, by decide +kernel, rfl, by decide +kernel, by decide +kernel⟩
theorem m_arrangement_at : mSs { sg with lam := ir_arrangement_at.lam } ["lights", "length", "level"] (defScope s_arrangement_at) ir_arrangement_at.body (defBody s_arrangement_at) = true := by decide +kernel
theorem T_arrangement_at : T "arrangement_at" = some ir_arrangement_at := rfl
abbrev s_choices : Stmt := top 38
theorem sc_choices : FnScope ["many", "some", "found", "number"] ["many", "some"] (defScope s_choices) := ⟨rfl, rfl, rfl, by decide +kernel, rfl, by decide +kernel, by decide +kernel⟩
theorem m_choices : mSs { sg with lam := ir_choices.lam } ["many", "some", "found", "number"] (defScope s_choices) ir_choices.body (defBody s_choices) = true := by decide +kernel
theorem T_choices : T "choices" = some ir_choices := rfl
abbrev s_common_divisor : Stmt := top 12
theorem sc_common_divisor : FnScope ["one", "two"] ["one", "two"] (defScope s_common_divisor) := ⟨rfl, rfl, rfl, by decide +kernel, rfl, by decide +kernel, by decide +kernel⟩
theorem m_common_divisor : mSs { sg with lam := ir_common_divisor.lam } ["one", "two"] (defScope s_common_divisor) ir_common_divisor.body (defBody s_common_divisor) = true := by decide +kernel
theorem T_common_divisor : T "common_divisor" = some ir_common_divisor := rfl
abbrev s_fraction : Stmt := top 13
theorem sc_fraction : FnScope ["number", "scale", "divisor"] ["number", "scale"] (defScope s_fraction) := ⟨rfl, rfl, rfl, by decide +kernel, rfl, by decide +kernel, by decide +kernel⟩
theorem m_fraction : mSs { sg with lam := ir_fraction.lam } ["number", "scale", "divisor"] (defScope s_fraction) ir_fraction.body (defBody s_fraction) = true := by decide +kernel
theorem T_fraction : T "fraction" = some ir_fraction := rfl
abbrev s_mean_at : Stmt := top 40
theorem sc_mean_at : FnScope ["lights", "length", "level", "panels", "total", "at", "light"] ["lights", "length", "level"] (defScope s_mean_at) := ⟨rfl, rfl, rfl, by decide +kernel, rfl, by decide +kernel, by decide +kernel⟩
theorem m_mean_at : mSs { sg with lam := ir_mean_at.lam } ["lights", "length", "level", "panels", "total", "at", "light"] (defScope s_mean_at) ir_mean_at.body (defBody s_mean_at) = true := by decide +kernel
theorem T_mean_at : T "mean_at" = some ir_mean_at := rfl
abbrev s_mean_current : Stmt := top 41
theorem sc_mean_current : FnScope ["lights", "length", "level"] ["lights", "length", "level"] (defScope s_mean_current) := ⟨rfl, rfl, rfl, by decide +kernel, rfl, by decide +kernel, by decide +kernel⟩
theorem m_mean_current : mSs { sg with lam := ir_mean_current.lam } ["lights", "length", "level"] (defScope s_mean_current) ir_mean_current.body (defBody s_mean_current) = true := by decide +kernel
theorem T_mean_current : T "mean_current" = some ir_mean_current := rfl
abbrev s_mean_currents : Stmt := top 42
theorem sc_mean_currents : FnScope ["lights", "length", "level"] ["lights", "length"] (defScope s_mean_currents) := ⟨rfl, rfl, rfl, by decide +kernel, rfl, by decide +kernel, by decide +kernel⟩
theorem m_mean_currents : mSs { sg with lam := ir_mean_currents.lam } ["lights", "length", "level"] (defScope s_mean_currents) ir_mean_currents.body (defBody s_mean_currents) = true := by decide +kernel
theorem T_mean_currents : T "mean_currents" = some ir_mean_currents := rfl
abbrev s_greatest_over : Stmt := top 20
theorem sc_greatest_over : FnScope ["lights", "length", "level"] ["lights", "length"] (defScope s_greatest_over) := ⟨rfl, rfl, rfl, by decide +kernel, rfl, by decide +kernel, by decide +kernel⟩
theorem m_greatest_over : mSs { sg with lam := ir_greatest_over.lam } ["lights", "length", "level"] (defScope s_greatest_over) ir_greatest_over.body (defBody s_greatest_over) = true := by decide +kernel
theorem T_greatest_over : T "greatest_over" = some ir_greatest_over := rfl
abbrev s_greatest_arranged : Stmt := top 36
theorem sc_greatest_arranged : FnScope ["lights", "length"] ["lights", "length"] (defScope s_greatest_arranged) := ⟨rfl, rfl, rfl, by decide +kernel, rfl, by decide +kernel, by decide +kernel⟩
theorem m_greatest_arranged : mSs { sg with lam := ir_greatest_arranged.lam } ["lights", "length"] (defScope s_greatest_arranged) ir_greatest_arranged.body (defBody s_greatest_arranged) = true := by decide +kernel
theorem T_greatest_arranged : T "greatest_arranged" = some ir_greatest_arranged := rfl
abbrev s__law_six : Stmt := top 50
theorem sc__law_six : FnScope ["lights", "length", "level", "told"] ["lights", "length", "level"] (defScope s__law_six) := ⟨rfl, rfl, rfl, by decide +kernel, rfl, by decide +kernel, by decide +kernel⟩
theorem m__law_six : mSs { sg with lam := ir__law_six.lam } ["lights", "length", "level", "told"] (defScope s__law_six) ir__law_six.body (defBody s__law_six) = true := by decide +kernel
theorem T__law_six : T "_law_six" = some ir__law_six := rfl
abbrev s__law_right : Stmt := top 51
theorem sc__law_right : FnScope ["urn", "turn", "bad", "at", "length", "level", "six", "odd", "told", "due"] ["urn"] (defScope s__law_right) := ⟨rfl, rfl, rfl, by decide +kernel, rfl, by decide +kernel, by decide +kernel⟩
theorem m__law_right : mSs { sg with lam := ir__law_right.lam } ["urn", "turn", "bad", "at", "length", "level", "six", "odd", "told", "due"] (defScope s__law_right) ir__law_right.body (defBody s__law_right) = true := by decide +kernel
theorem T__law_right : T "_law_right" = some ir__law_right := rfl
abbrev s__law_urn : Stmt := top 44
theorem sc__law_urn : FnScope ["script", "lap", "mixed", "cell", "own"] ["script", "lap"] (defScope s__law_urn) := ⟨rfl, rfl, rfl, by decide +kernel, rfl, by decide +kernel, by decide +kernel⟩
theorem m__law_urn : mSs { sg with lam := ir__law_urn.lam } ["script", "lap", "mixed", "cell", "own"] (defScope s__law_urn) ir__law_urn.body (defBody s__law_urn) = true := by decide +kernel
theorem T__law_urn : T "_law_urn" = some ir__law_urn := rfl
abbrev s_law : Stmt := top 52
theorem sc_law : FnScope ["script", "lap"] ["script"] (defScope s_law) := ⟨rfl, rfl, rfl, by decide +kernel, rfl, by decide +kernel, by decide +kernel⟩
theorem m_law : mSs { sg with lam := ir_law.lam } ["script", "lap"] (defScope s_law) ir_law.body (defBody s_law) = true := by decide +kernel
theorem T_law : T "law" = some ir_law := rfl
theorem at_InvalidLights : attOf sg "InvalidLights" = "index" := by decide +kernel
theorem at_InvalidNumber : attOf sg "InvalidNumber" = "given" := by decide +kernel
theorem at_OutOfRange : attOf sg "OutOfRange" = "given" := by decide +kernel
theorem at_ShadeError : attOf sg "ShadeError" = "" := by decide +kernel
abbrev s__law_heard : Stmt := top 49
theorem sc__law_heard : FnScope (["act", "e", "flags", "at", "word"] : List Str) (["act"] : List Str) (defScope s__law_heard) := ⟨rfl, rfl, rfl, by decide +kernel, rfl, by decide +kernel, by decide +kernel⟩
theorem hn__law_heard : hdN "act" "e" "flags" "at" "word" "ShadeError" (["InvalidNumber", "OutOfRange", "InvalidLights"] : List Str) (defScope s__law_heard) = true := by decide +kernel
theorem hb__law_heard : hdB "let" "act" "e" "flags" "at" "word" "ShadeError" (["InvalidNumber", "OutOfRange", "InvalidLights"] : List Str) (["number", "range", "lights"] : List Str) 2 3 (defBody s__law_heard) = true := by decide +kernel
theorem ht__law_heard : hr__law_heard = ⟨false, "let", tbOf (["InvalidNumber", "OutOfRange", "InvalidLights"] : List Str) (["number", "range", "lights"] : List Str) 3⟩ := by decide +kernel
section
theorem d__law_take {K : PySem.W.Frag} {h : Heap} {mg : Str → Option Value} (X : K.In h) (G : h.Ns mainGlobals mg) {f : Addr} {od an : Option Addr} {sl : Array (Option Value)} {oc kV dc pm cd ct : Value} {ts : List (Addr × Addr × Str)} (a : PySem.W.nsIn K mainGlobals "_law_take" = some (some (.ref f))) (l : K.lookup f = some ⟨oc, od, .func (PySem.W.fnOf "_law_take" "_law_take" (defArgs s__law_take) (defBody s__law_take) (defScope s__law_take) .none kV dc pm an cd ct), sl⟩) (c : PySem.W.codeIn K cd "_law_take" = true) (k : PySem.W.keepIn K (.ref f) = true) :
    DefOk K mg sg ts "_law_take" ir__law_take f (PySem.W.fnOf "_law_take" "_law_take" (defArgs s__law_take) (defBody s__law_take) (defScope s__law_take) .none kV dc pm an cd ct) ["urn", "many"] where
  mgf := PySem.W.mg_of X G a
  keep := k
  binds := .all fun us hl => match us, hl with | [_, _], _ => rfl
  body := ⟨_, _, _, _, _, _, _, _, _, _, _, _, _, _, _, ["urn", "many", "figure", "stir"], rfl, l, c, sc__law_take, rfl, rfl, m__law_take, fun z => Bool.noConfusion (show false = true from z)⟩
theorem d__law_of {K : PySem.W.Frag} {h : Heap} {mg : Str → Option Value} (X : K.In h) (G : h.Ns mainGlobals mg) {f : Addr} {od an : Option Addr} {sl : Array (Option Value)} {oc kV dc pm cd ct : Value} {ts : List (Addr × Addr × Str)} (a : PySem.W.nsIn K mainGlobals "_law_of" = some (some (.ref f))) (l : K.lookup f = some ⟨oc, od, .func (PySem.W.fnOf "_law_of" "_law_of" (defArgs s__law_of) (defBody s__law_of) (defScope s__law_of) .none kV dc pm an cd ct), sl⟩) (c : PySem.W.codeIn K cd "_law_of" = true) (k : PySem.W.keepIn K (.ref f) = true) :
    DefOk K mg sg ts "_law_of" ir__law_of f (PySem.W.fnOf "_law_of" "_law_of" (defArgs s__law_of) (defBody s__law_of) (defScope s__law_of) .none kV dc pm an cd ct) ["urn", "some"] where
  mgf := PySem.W.mg_of X G a
  keep := k
  binds := .all fun us hl => match us, hl with | [_, _], _ => rfl
  body := ⟨_, _, _, _, _, _, _, _, _, _, _, _, _, _, _, ["urn", "some"], rfl, l, c, sc__law_of, rfl, rfl, m__law_of, fun z => Bool.noConfusion (show false = true from z)⟩
theorem d__law_no_lights {K : PySem.W.Frag} {h : Heap} {mg : Str → Option Value} (X : K.In h) (G : h.Ns mainGlobals mg) {f : Addr} {od an : Option Addr} {sl : Array (Option Value)} {oc kV dc pm cd ct : Value} {ts : List (Addr × Addr × Str)} (a : PySem.W.nsIn K mainGlobals "_law_no_lights" = some (some (.ref f))) (l : K.lookup f = some ⟨oc, od, .func (PySem.W.fnOf "_law_no_lights" "_law_no_lights" (defArgs s__law_no_lights) (defBody s__law_no_lights) (defScope s__law_no_lights) .none kV dc pm an cd ct), sl⟩) (c : PySem.W.codeIn K cd "_law_no_lights" = true) (k : PySem.W.keepIn K (.ref f) = true) :
    DefOk K mg sg ts "_law_no_lights" ir__law_no_lights f (PySem.W.fnOf "_law_no_lights" "_law_no_lights" (defArgs s__law_no_lights) (defBody s__law_no_lights) (defScope s__law_no_lights) .none kV dc pm an cd ct) ["urn"] where
  mgf := PySem.W.mg_of X G a
  keep := k
  binds := .all fun us hl => match us, hl with | [_], _ => rfl
  body := ⟨_, _, _, _, _, _, _, _, _, _, _, _, _, _, _, ["urn", "rows"], rfl, l, c, sc__law_no_lights, rfl, rfl, m__law_no_lights, fun z => Bool.noConfusion (show false = true from z)⟩
theorem d__law_no_number {K : PySem.W.Frag} {h : Heap} {mg : Str → Option Value} (X : K.In h) (G : h.Ns mainGlobals mg) {f : Addr} {od an : Option Addr} {sl : Array (Option Value)} {oc kV dc pm cd ct : Value} {ts : List (Addr × Addr × Str)} (a : PySem.W.nsIn K mainGlobals "_law_no_number" = some (some (.ref f))) (l : K.lookup f = some ⟨oc, od, .func (PySem.W.fnOf "_law_no_number" "_law_no_number" (defArgs s__law_no_number) (defBody s__law_no_number) (defScope s__law_no_number) .none kV dc pm an cd ct), sl⟩) (c : PySem.W.codeIn K cd "_law_no_number" = true) (k : PySem.W.keepIn K (.ref f) = true) :
    DefOk K mg sg ts "_law_no_number" ir__law_no_number f (PySem.W.fnOf "_law_no_number" "_law_no_number" (defArgs s__law_no_number) (defBody s__law_no_number) (defScope s__law_no_number) .none kV dc pm an cd ct) ["urn", "low", "top"] where
  mgf := PySem.W.mg_of X G a
  keep := k
  binds := .all fun us hl => match us, hl with | [_, _, _], _ => rfl
  body := ⟨_, _, _, _, _, _, _, _, _, _, _, _, _, _, _, ["urn", "low", "top"], rfl, l, c, sc__law_no_number, rfl, rfl, m__law_no_number, fun z => Bool.noConfusion (show false = true from z)⟩
theorem d_first_wrong {K : PySem.W.Frag} {h : Heap} {mg : Str → Option Value} (X : K.In h) (G : h.Ns mainGlobals mg) {f : Addr} {od an : Option Addr} {sl : Array (Option Value)} {oc kV dc pm cd ct : Value} {ts : List (Addr × Addr × Str)} (a : PySem.W.nsIn K mainGlobals "first_wrong" = some (some (.ref f))) (l : K.lookup f = some ⟨oc, od, .func (PySem.W.fnOf "first_wrong" "first_wrong" (defArgs s_first_wrong) (defBody s_first_wrong) (defScope s_first_wrong) .none kV dc pm an cd ct), sl⟩) (c : PySem.W.codeIn K cd "first_wrong" = true) (k : PySem.W.keepIn K (.ref f) = true) :
    DefOk K mg sg ts "first_wrong" ir_first_wrong f (PySem.W.fnOf "first_wrong" "first_wrong" (defArgs s_first_wrong) (defBody s_first_wrong) (defScope s_first_wrong) .none kV dc pm an cd ct) ["value", "is_right"] where
  mgf := PySem.W.mg_of X G a
  keep := k
  binds := .all fun us hl => match us, hl with | [_, _], _ => rfl
  body := ⟨_, _, _, _, _, _, _, _, _, _, _, _, _, _, _, ["value", "is_right", "index"], rfl, l, c, sc_first_wrong, rfl, rfl, m_first_wrong, fun z => Bool.noConfusion (show false = true from z)⟩
theorem d_fault_in {K : PySem.W.Frag} {h : Heap} {mg : Str → Option Value} (X : K.In h) (G : h.Ns mainGlobals mg) {f : Addr} {od an : Option Addr} {sl : Array (Option Value)} {oc kV dc pm cd ct : Value} {ts : List (Addr × Addr × Str)} (a : PySem.W.nsIn K mainGlobals "fault_in" = some (some (.ref f))) (l : K.lookup f = some ⟨oc, od, .func (PySem.W.fnOf "fault_in" "fault_in" (defArgs s_fault_in) (defBody s_fault_in) (defScope s_fault_in) .none kV dc pm an cd ct), sl⟩) (c : PySem.W.codeIn K cd "fault_in" = true) (k : PySem.W.keepIn K (.ref f) = true) :
    DefOk K mg sg ts "fault_in" ir_fault_in f (PySem.W.fnOf "fault_in" "fault_in" (defArgs s_fault_in) (defBody s_fault_in) (defScope s_fault_in) .none kV dc pm an cd ct) ["value", "is_right"] where
  mgf := PySem.W.mg_of X G a
  keep := k
  binds := .all fun us hl => match us, hl with | [_, _], _ => rfl
  body := ⟨_, _, _, _, _, _, _, _, _, _, _, _, _, _, _, ["value", "is_right", "index"], rfl, l, c, sc_fault_in, rfl, rfl, m_fault_in, fun z => Bool.noConfusion (show false = true from z)⟩
theorem d_is_number {K : PySem.W.Frag} {h : Heap} {mg : Str → Option Value} (X : K.In h) (G : h.Ns mainGlobals mg) {f : Addr} {od an : Option Addr} {sl : Array (Option Value)} {oc kV dc pm cd ct : Value} {ts : List (Addr × Addr × Str)} (a : PySem.W.nsIn K mainGlobals "is_number" = some (some (.ref f))) (l : K.lookup f = some ⟨oc, od, .func (PySem.W.fnOf "is_number" "is_number" (defArgs s_is_number) (defBody s_is_number) (defScope s_is_number) .none kV dc pm an cd ct), sl⟩) (c : PySem.W.codeIn K cd "is_number" = true) (k : PySem.W.keepIn K (.ref f) = true) :
    DefOk K mg sg ts "is_number" ir_is_number f (PySem.W.fnOf "is_number" "is_number" (defArgs s_is_number) (defBody s_is_number) (defScope s_is_number) .none kV dc pm an cd ct) ["value", "low", "high"] where
  mgf := PySem.W.mg_of X G a
  keep := k
  binds := .all fun us hl => match us, hl with | [_, _, _], _ => rfl
  body := ⟨_, _, _, _, _, _, _, _, _, _, _, _, _, _, _, ["value", "low", "high"], rfl, l, c, sc_is_number, rfl, rfl, m_is_number, fun z => Bool.noConfusion (show false = true from z)⟩
theorem d_is_light {K : PySem.W.Frag} {h : Heap} {mg : Str → Option Value} (X : K.In h) (G : h.Ns mainGlobals mg) {f : Addr} {od an : Option Addr} {sl : Array (Option Value)} {oc kV dc pm cd ct : Value} {ts : List (Addr × Addr × Str)} (a : PySem.W.nsIn K mainGlobals "is_light" = some (some (.ref f))) (l : K.lookup f = some ⟨oc, od, .func (PySem.W.fnOf "is_light" "is_light" (defArgs s_is_light) (defBody s_is_light) (defScope s_is_light) .none kV dc pm an cd ct), sl⟩) (c : PySem.W.codeIn K cd "is_light" = true) (k : PySem.W.keepIn K (.ref f) = true) :
    DefOk K mg sg ts "is_light" ir_is_light f (PySem.W.fnOf "is_light" "is_light" (defArgs s_is_light) (defBody s_is_light) (defScope s_is_light) .none kV dc pm an cd ct) ["value"] where
  mgf := PySem.W.mg_of X G a
  keep := k
  binds := .all fun us hl => match us, hl with | [_], _ => rfl
  body := ⟨_, _, _, _, _, _, _, _, _, _, _, _, _, _, _, ["value"], rfl, l, c, sc_is_light, rfl, rfl, m_is_light, fun z => Bool.noConfusion (show false = true from z)⟩
theorem d_is_lights_row {K : PySem.W.Frag} {h : Heap} {mg : Str → Option Value} (X : K.In h) (G : h.Ns mainGlobals mg) {f : Addr} {od an : Option Addr} {sl : Array (Option Value)} {oc kV dc pm cd ct : Value} {ts : List (Addr × Addr × Str)} (a : PySem.W.nsIn K mainGlobals "is_lights_row" = some (some (.ref f))) (l : K.lookup f = some ⟨oc, od, .func (PySem.W.fnOf "is_lights_row" "is_lights_row" (defArgs s_is_lights_row) (defBody s_is_lights_row) (defScope s_is_lights_row) .none kV dc pm an cd ct), sl⟩) (c : PySem.W.codeIn K cd "is_lights_row" = true) (k : PySem.W.keepIn K (.ref f) = true) :
    DefOk K mg sg ts "is_lights_row" ir_is_lights_row f (PySem.W.fnOf "is_lights_row" "is_lights_row" (defArgs s_is_lights_row) (defBody s_is_lights_row) (defScope s_is_lights_row) .none kV dc pm an cd ct) ["row"] where
  mgf := PySem.W.mg_of X G a
  keep := k
  binds := .all fun us hl => match us, hl with | [_], _ => rfl
  body := ⟨_, _, _, _, _, _, _, _, _, _, _, _, _, _, _, ["row"], rfl, l, c, sc_is_lights_row, rfl, rfl, m_is_lights_row, fun z => Bool.noConfusion (show false = true from z)⟩
theorem d_check_lights {K : PySem.W.Frag} {h : Heap} {mg : Str → Option Value} (X : K.In h) (G : h.Ns mainGlobals mg) {f : Addr} {od an : Option Addr} {sl : Array (Option Value)} {oc kV dc pm cd ct : Value} {ts : List (Addr × Addr × Str)} (a : PySem.W.nsIn K mainGlobals "check_lights" = some (some (.ref f))) (l : K.lookup f = some ⟨oc, od, .func (PySem.W.fnOf "check_lights" "check_lights" (defArgs s_check_lights) (defBody s_check_lights) (defScope s_check_lights) .none kV dc pm an cd ct), sl⟩) (c : PySem.W.codeIn K cd "check_lights" = true) (k : PySem.W.keepIn K (.ref f) = true) :
    DefOk K mg sg ts "check_lights" ir_check_lights f (PySem.W.fnOf "check_lights" "check_lights" (defArgs s_check_lights) (defBody s_check_lights) (defScope s_check_lights) .none kV dc pm an cd ct) ["lights"] where
  mgf := PySem.W.mg_of X G a
  keep := k
  binds := .all fun us hl => match us, hl with | [_], _ => rfl
  body := ⟨_, _, _, _, _, _, _, _, _, _, _, _, _, _, _, ["lights", "fault"], rfl, l, c, sc_check_lights, rfl, rfl, m_check_lights, fun z => Bool.noConfusion (show false = true from z)⟩
theorem d_check_number {K : PySem.W.Frag} {h : Heap} {mg : Str → Option Value} (X : K.In h) (G : h.Ns mainGlobals mg) {f : Addr} {od an : Option Addr} {sl : Array (Option Value)} {oc kV dc pm cd ct : Value} {ts : List (Addr × Addr × Str)} (a : PySem.W.nsIn K mainGlobals "check_number" = some (some (.ref f))) (l : K.lookup f = some ⟨oc, od, .func (PySem.W.fnOf "check_number" "check_number" (defArgs s_check_number) (defBody s_check_number) (defScope s_check_number) .none kV dc pm an cd ct), sl⟩) (c : PySem.W.codeIn K cd "check_number" = true) (k : PySem.W.keepIn K (.ref f) = true) :
    DefOk K mg sg ts "check_number" ir_check_number f (PySem.W.fnOf "check_number" "check_number" (defArgs s_check_number) (defBody s_check_number) (defScope s_check_number) .none kV dc pm an cd ct) ["number", "low", "high"] where
  mgf := PySem.W.mg_of X G a
  keep := k
  binds := .all fun us hl => match us, hl with | [_, _, _], _ => rfl
  body := ⟨_, _, _, _, _, _, _, _, _, _, _, _, _, _, _, ["number", "low", "high"], rfl, l, c, sc_check_number, rfl, rfl, m_check_number, fun z => Bool.noConfusion (show false = true from z)⟩
theorem d_check_length {K : PySem.W.Frag} {h : Heap} {mg : Str → Option Value} (X : K.In h) (G : h.Ns mainGlobals mg) {f : Addr} {od an : Option Addr} {sl : Array (Option Value)} {oc kV dc pm cd ct : Value} {ts : List (Addr × Addr × Str)} (a : PySem.W.nsIn K mainGlobals "check_length" = some (some (.ref f))) (l : K.lookup f = some ⟨oc, od, .func (PySem.W.fnOf "check_length" "check_length" (defArgs s_check_length) (defBody s_check_length) (defScope s_check_length) .none kV dc pm an cd ct), sl⟩) (c : PySem.W.codeIn K cd "check_length" = true) (k : PySem.W.keepIn K (.ref f) = true) :
    DefOk K mg sg ts "check_length" ir_check_length f (PySem.W.fnOf "check_length" "check_length" (defArgs s_check_length) (defBody s_check_length) (defScope s_check_length) .none kV dc pm an cd ct) ["length"] where
  mgf := PySem.W.mg_of X G a
  keep := k
  binds := .all fun us hl => match us, hl with | [_], _ => rfl
  body := ⟨_, _, _, _, _, _, _, _, _, _, _, _, _, _, _, ["length"], rfl, l, c, sc_check_length, rfl, rfl, m_check_length, fun z => Bool.noConfusion (show false = true from z)⟩
theorem d_check_arranged {K : PySem.W.Frag} {h : Heap} {mg : Str → Option Value} (X : K.In h) (G : h.Ns mainGlobals mg) {f : Addr} {od an : Option Addr} {sl : Array (Option Value)} {oc kV dc pm cd ct : Value} {ts : List (Addr × Addr × Str)} (a : PySem.W.nsIn K mainGlobals "check_arranged" = some (some (.ref f))) (l : K.lookup f = some ⟨oc, od, .func (PySem.W.fnOf "check_arranged" "check_arranged" (defArgs s_check_arranged) (defBody s_check_arranged) (defScope s_check_arranged) .none kV dc pm an cd ct), sl⟩) (c : PySem.W.codeIn K cd "check_arranged" = true) (k : PySem.W.keepIn K (.ref f) = true) :
    DefOk K mg sg ts "check_arranged" ir_check_arranged f (PySem.W.fnOf "check_arranged" "check_arranged" (defArgs s_check_arranged) (defBody s_check_arranged) (defScope s_check_arranged) .none kV dc pm an cd ct) ["lights", "length"] where
  mgf := PySem.W.mg_of X G a
  keep := k
  binds := .all fun us hl => match us, hl with | [_, _], _ => rfl
  body := ⟨_, _, _, _, _, _, _, _, _, _, _, _, _, _, _, ["lights", "length"], rfl, l, c, sc_check_arranged, rfl, rfl, m_check_arranged, fun z => Bool.noConfusion (show false = true from z)⟩
theorem d_check_level {K : PySem.W.Frag} {h : Heap} {mg : Str → Option Value} (X : K.In h) (G : h.Ns mainGlobals mg) {f : Addr} {od an : Option Addr} {sl : Array (Option Value)} {oc kV dc pm cd ct : Value} {ts : List (Addr × Addr × Str)} (a : PySem.W.nsIn K mainGlobals "check_level" = some (some (.ref f))) (l : K.lookup f = some ⟨oc, od, .func (PySem.W.fnOf "check_level" "check_level" (defArgs s_check_level) (defBody s_check_level) (defScope s_check_level) .none kV dc pm an cd ct), sl⟩) (c : PySem.W.codeIn K cd "check_level" = true) (k : PySem.W.keepIn K (.ref f) = true) :
    DefOk K mg sg ts "check_level" ir_check_level f (PySem.W.fnOf "check_level" "check_level" (defArgs s_check_level) (defBody s_check_level) (defScope s_check_level) .none kV dc pm an cd ct) ["level"] where
  mgf := PySem.W.mg_of X G a
  keep := k
  binds := .all fun us hl => match us, hl with | [_], _ => rfl
  body := ⟨_, _, _, _, _, _, _, _, _, _, _, _, _, _, _, ["level"], rfl, l, c, sc_check_level, rfl, rfl, m_check_level, fun z => Bool.noConfusion (show false = true from z)⟩
theorem d_check_made {K : PySem.W.Frag} {h : Heap} {mg : Str → Option Value} (X : K.In h) (G : h.Ns mainGlobals mg) {f : Addr} {od an : Option Addr} {sl : Array (Option Value)} {oc kV dc pm cd ct : Value} {ts : List (Addr × Addr × Str)} (a : PySem.W.nsIn K mainGlobals "check_made" = some (some (.ref f))) (l : K.lookup f = some ⟨oc, od, .func (PySem.W.fnOf "check_made" "check_made" (defArgs s_check_made) (defBody s_check_made) (defScope s_check_made) .none kV dc pm an cd ct), sl⟩) (c : PySem.W.codeIn K cd "check_made" = true) (k : PySem.W.keepIn K (.ref f) = true) :
    DefOk K mg sg ts "check_made" ir_check_made f (PySem.W.fnOf "check_made" "check_made" (defArgs s_check_made) (defBody s_check_made) (defScope s_check_made) .none kV dc pm an cd ct) ["lights", "length"] where
  mgf := PySem.W.mg_of X G a
  keep := k
  binds := .all fun us hl => match us, hl with | [_, _], _ => rfl
  body := ⟨_, _, _, _, _, _, _, _, _, _, _, _, _, _, _, ["lights", "length"], rfl, l, c, sc_check_made, rfl, rfl, m_check_made, fun z => Bool.noConfusion (show false = true from z)⟩
theorem d_check_leveled {K : PySem.W.Frag} {h : Heap} {mg : Str → Option Value} (X : K.In h) (G : h.Ns mainGlobals mg) {f : Addr} {od an : Option Addr} {sl : Array (Option Value)} {oc kV dc pm cd ct : Value} {ts : List (Addr × Addr × Str)} (a : PySem.W.nsIn K mainGlobals "check_leveled" = some (some (.ref f))) (l : K.lookup f = some ⟨oc, od, .func (PySem.W.fnOf "check_leveled" "check_leveled" (defArgs s_check_leveled) (defBody s_check_leveled) (defScope s_check_leveled) .none kV dc pm an cd ct), sl⟩) (c : PySem.W.codeIn K cd "check_leveled" = true) (k : PySem.W.keepIn K (.ref f) = true) :
    DefOk K mg sg ts "check_leveled" ir_check_leveled f (PySem.W.fnOf "check_leveled" "check_leveled" (defArgs s_check_leveled) (defBody s_check_leveled) (defScope s_check_leveled) .none kV dc pm an cd ct) ["lights", "length", "level"] where
  mgf := PySem.W.mg_of X G a
  keep := k
  binds := .all fun us hl => match us, hl with | [_, _, _], _ => rfl
  body := ⟨_, _, _, _, _, _, _, _, _, _, _, _, _, _, _, ["lights", "length", "level"], rfl, l, c, sc_check_leveled, rfl, rfl, m_check_leveled, fun z => Bool.noConfusion (show false = true from z)⟩
theorem d_strings_made {K : PySem.W.Frag} {h : Heap} {mg : Str → Option Value} (X : K.In h) (G : h.Ns mainGlobals mg) {f : Addr} {od an : Option Addr} {sl : Array (Option Value)} {oc kV dc pm cd ct : Value} {ts : List (Addr × Addr × Str)} (a : PySem.W.nsIn K mainGlobals "strings_made" = some (some (.ref f))) (l : K.lookup f = some ⟨oc, od, .func (PySem.W.fnOf "strings_made" "strings_made" (defArgs s_strings_made) (defBody s_strings_made) (defScope s_strings_made) .none kV dc pm an cd ct), sl⟩) (c : PySem.W.codeIn K cd "strings_made" = true) (k : PySem.W.keepIn K (.ref f) = true) :
    DefOk K mg sg ts "strings_made" ir_strings_made f (PySem.W.fnOf "strings_made" "strings_made" (defArgs s_strings_made) (defBody s_strings_made) (defScope s_strings_made) .none kV dc pm an cd ct) ["lights", "length"] where
  mgf := PySem.W.mg_of X G a
  keep := k
  binds := .all fun us hl => match us, hl with | [_, _], _ => rfl
  body := ⟨_, _, _, _, _, _, _, _, _, _, _, _, _, _, _, ["lights", "length"], rfl, l, c, sc_strings_made, rfl, rfl, m_strings_made, fun z => Bool.noConfusion (show false = true from z)⟩
theorem d_greatest_at {K : PySem.W.Frag} {h : Heap} {mg : Str → Option Value} (X : K.In h) (G : h.Ns mainGlobals mg) {f : Addr} {od an : Option Addr} {sl : Array (Option Value)} {oc kV dc pm cd ct : Value} {ts : List (Addr × Addr × Str)} (a : PySem.W.nsIn K mainGlobals "greatest_at" = some (some (.ref f))) (l : K.lookup f = some ⟨oc, od, .func (PySem.W.fnOf "greatest_at" "greatest_at" (defArgs s_greatest_at) (defBody s_greatest_at) (defScope s_greatest_at) .none kV dc pm an cd ct), sl⟩) (c : PySem.W.codeIn K cd "greatest_at" = true) (k : PySem.W.keepIn K (.ref f) = true) :
    DefOk K mg sg ts "greatest_at" ir_greatest_at f (PySem.W.fnOf "greatest_at" "greatest_at" (defArgs s_greatest_at) (defBody s_greatest_at) (defScope s_greatest_at) .none kV dc pm an cd ct) ["lights", "length", "level"] where
  mgf := PySem.W.mg_of X G a
  keep := k
  binds := .all fun us hl => match us, hl with | [_, _, _], _ => rfl
  body := ⟨_, _, _, _, _, _, _, _, _, _, _, _, _, _, _, ["lights", "length", "level", "number"], rfl, l, c, sc_greatest_at, rfl, rfl, m_greatest_at, fun z => Bool.noConfusion (show false = true from z)⟩
theorem d_greatest_current {K : PySem.W.Frag} {h : Heap} {mg : Str → Option Value} (X : K.In h) (G : h.Ns mainGlobals mg) {f : Addr} {od an : Option Addr} {sl : Array (Option Value)} {oc kV dc pm cd ct : Value} {ts : List (Addr × Addr × Str)} (a : PySem.W.nsIn K mainGlobals "greatest_current" = some (some (.ref f))) (l : K.lookup f = some ⟨oc, od, .func (PySem.W.fnOf "greatest_current" "greatest_current" (defArgs s_greatest_current) (defBody s_greatest_current) (defScope s_greatest_current) .none kV dc pm an cd ct), sl⟩) (c : PySem.W.codeIn K cd "greatest_current" = true) (k : PySem.W.keepIn K (.ref f) = true) :
    DefOk K mg sg ts "greatest_current" ir_greatest_current f (PySem.W.fnOf "greatest_current" "greatest_current" (defArgs s_greatest_current) (defBody s_greatest_current) (defScope s_greatest_current) .none kV dc pm an cd ct) ["lights", "length", "level"] where
  mgf := PySem.W.mg_of X G a
  keep := k
  binds := .all fun us hl => match us, hl with | [_, _, _], _ => rfl
  body := ⟨_, _, _, _, _, _, _, _, _, _, _, _, _, _, _, ["lights", "length", "level"], rfl, l, c, sc_greatest_current, rfl, rfl, m_greatest_current, fun z => Bool.noConfusion (show false = true from z)⟩
theorem d_least_at {K : PySem.W.Frag} {h : Heap} {mg : Str → Option Value} (X : K.In h) (G : h.Ns mainGlobals mg) {f : Addr} {od an : Option Addr} {sl : Array (Option Value)} {oc kV dc pm cd ct : Value} {ts : List (Addr × Addr × Str)} (a : PySem.W.nsIn K mainGlobals "least_at" = some (some (.ref f))) (l : K.lookup f = some ⟨oc, od, .func (PySem.W.fnOf "least_at" "least_at" (defArgs s_least_at) (defBody s_least_at) (defScope s_least_at) .none kV dc pm an cd ct), sl⟩) (c : PySem.W.codeIn K cd "least_at" = true) (k : PySem.W.keepIn K (.ref f) = true) :
    DefOk K mg sg ts "least_at" ir_least_at f (PySem.W.fnOf "least_at" "least_at" (defArgs s_least_at) (defBody s_least_at) (defScope s_least_at) .none kV dc pm an cd ct) ["lights", "length", "level"] where
  mgf := PySem.W.mg_of X G a
  keep := k
  binds := .all fun us hl => match us, hl with | [_, _, _], _ => rfl
  body := ⟨_, _, _, _, _, _, _, _, _, _, _, _, _, _, _, ["lights", "length", "level", "rising", "step", "number"], rfl, l, c, sc_least_at, rfl, rfl, m_least_at, fun z => Bool.noConfusion (show false = true from z)⟩
theorem d_least_current {K : PySem.W.Frag} {h : Heap} {mg : Str → Option Value} (X : K.In h) (G : h.Ns mainGlobals mg) {f : Addr} {od an : Option Addr} {sl : Array (Option Value)} {oc kV dc pm cd ct : Value} {ts : List (Addr × Addr × Str)} (a : PySem.W.nsIn K mainGlobals "least_current" = some (some (.ref f))) (l : K.lookup f = some ⟨oc, od, .func (PySem.W.fnOf "least_current" "least_current" (defArgs s_least_current) (defBody s_least_current) (defScope s_least_current) .none kV dc pm an cd ct), sl⟩) (c : PySem.W.codeIn K cd "least_current" = true) (k : PySem.W.keepIn K (.ref f) = true) :
    DefOk K mg sg ts "least_current" ir_least_current f (PySem.W.fnOf "least_current" "least_current" (defArgs s_least_current) (defBody s_least_current) (defScope s_least_current) .none kV dc pm an cd ct) ["lights", "length", "level"] where
  mgf := PySem.W.mg_of X G a
  keep := k
  binds := .all fun us hl => match us, hl with | [_, _, _], _ => rfl
  body := ⟨_, _, _, _, _, _, _, _, _, _, _, _, _, _, _, ["lights", "length", "level"], rfl, l, c, sc_least_current, rfl, rfl, m_least_current, fun z => Bool.noConfusion (show false = true from z)⟩
theorem d_arranged_at {K : PySem.W.Frag} {h : Heap} {mg : Str → Option Value} (X : K.In h) (G : h.Ns mainGlobals mg) {f : Addr} {od an : Option Addr} {sl : Array (Option Value)} {oc kV dc pm cd ct : Value} {ts : List (Addr × Addr × Str)} (a : PySem.W.nsIn K mainGlobals "arranged_at" = some (some (.ref f))) (l : K.lookup f = some ⟨oc, od, .func (PySem.W.fnOf "arranged_at" "arranged_at" (defArgs s_arranged_at) (defBody s_arranged_at) (defScope s_arranged_at) .none kV dc pm an cd ct), sl⟩) (c : PySem.W.codeIn K cd "arranged_at" = true) (k : PySem.W.keepIn K (.ref f) = true) :
    DefOk K mg sg ts "arranged_at" ir_arranged_at f (PySem.W.fnOf "arranged_at" "arranged_at" (defArgs s_arranged_at) (defBody s_arranged_at) (defScope s_arranged_at) .none kV dc pm an cd ct) ["lights", "length", "level"] where
  mgf := PySem.W.mg_of X G a
  keep := k
  binds := .all fun us hl => match us, hl with | [_, _, _], _ => rfl
  body := ⟨_, _, _, _, _, _, _, _, _, _, _, _, _, _, _, ["lights", "length", "level", "many", "rest", "found", "number", "more", "head"], rfl, l, c, sc_arranged_at, rfl, rfl, m_arranged_at, fun z => Bool.noConfusion (show false = true from z)⟩
theorem d_arrangement_at {K : PySem.W.Frag} {h : Heap} {mg : Str → Option Value} (X : K.In h) (G : h.Ns mainGlobals mg) {f : Addr} {od an : Option Addr} {sl : Array (Option Value)} {oc kV dc pm cd ct : Value} {ts : List (Addr × Addr × Str)} (a : PySem.W.nsIn K mainGlobals "arrangement_at" = some (some (.ref f))) (l : K.lookup f = some ⟨oc, od, .func (PySem.W.fnOf "arrangement_at" "arrangement_at" (defArgs s_arrangement_at) (defBody s_arrangement_at) (defScope s_arrangement_at) .none kV dc pm an cd ct), sl⟩) (c : PySem.W.codeIn K cd "arrangement_at" = true) (k : PySem.W.keepIn K (.ref f) = true) :
    DefOk K mg sg ts "arrangement_at" ir_arrangement_at f (PySem.W.fnOf "arrangement_at" "arrangement_at" (defArgs s_arrangement_at) (defBody s_arrangement_at) (defScope s_arrangement_at) .none kV dc pm an cd ct) ["lights", "length", "level"] where
  mgf := PySem.W.mg_of X G a
  keep := k
  binds := .all fun us hl => match us, hl with | [_, _, _], _ => rfl
  body := ⟨_, _, _, _, _, _, _, _, _, _, _, _, _, _, _, ["lights", "length", "level"], rfl, l, c, sc_arrangement_at, rfl, rfl, m_arrangement_at, fun z => Bool.noConfusion (show false = true from z)⟩
theorem d_choices {K : PySem.W.Frag} {h : Heap} {mg : Str → Option Value} (X : K.In h) (G : h.Ns mainGlobals mg) {f : Addr} {od an : Option Addr} {sl : Array (Option Value)} {oc kV dc pm cd ct : Value} {ts : List (Addr × Addr × Str)} (a : PySem.W.nsIn K mainGlobals "choices" = some (some (.ref f))) (l : K.lookup f = some ⟨oc, od, .func (PySem.W.fnOf "choices" "choices" (defArgs s_choices) (defBody s_choices) (defScope s_choices) .none kV dc pm an cd ct), sl⟩) (c : PySem.W.codeIn K cd "choices" = true) (k : PySem.W.keepIn K (.ref f) = true) :
    DefOk K mg sg ts "choices" ir_choices f (PySem.W.fnOf "choices" "choices" (defArgs s_choices) (defBody s_choices) (defScope s_choices) .none kV dc pm an cd ct) ["many", "some"] where
  mgf := PySem.W.mg_of X G a
  keep := k
  binds := .all fun us hl => match us, hl with | [_, _], _ => rfl
  body := ⟨_, _, _, _, _, _, _, _, _, _, _, _, _, _, _, ["many", "some", "found", "number"], rfl, l, c, sc_choices, rfl, rfl, m_choices, fun z => Bool.noConfusion (show false = true from z)⟩
theorem d_common_divisor {K : PySem.W.Frag} {h : Heap} {mg : Str → Option Value} (X : K.In h) (G : h.Ns mainGlobals mg) {f : Addr} {od an : Option Addr} {sl : Array (Option Value)} {oc kV dc pm cd ct : Value} {ts : List (Addr × Addr × Str)} (a : PySem.W.nsIn K mainGlobals "common_divisor" = some (some (.ref f))) (l : K.lookup f = some ⟨oc, od, .func (PySem.W.fnOf "common_divisor" "common_divisor" (defArgs s_common_divisor) (defBody s_common_divisor) (defScope s_common_divisor) .none kV dc pm an cd ct), sl⟩) (c : PySem.W.codeIn K cd "common_divisor" = true) (k : PySem.W.keepIn K (.ref f) = true) :
    DefOk K mg sg ts "common_divisor" ir_common_divisor f (PySem.W.fnOf "common_divisor" "common_divisor" (defArgs s_common_divisor) (defBody s_common_divisor) (defScope s_common_divisor) .none kV dc pm an cd ct) ["one", "two"] where
  mgf := PySem.W.mg_of X G a
  keep := k
  binds := .all fun us hl => match us, hl with | [_, _], _ => rfl
  body := ⟨_, _, _, _, _, _, _, _, _, _, _, _, _, _, _, ["one", "two"], rfl, l, c, sc_common_divisor, rfl, rfl, m_common_divisor, fun z => Bool.noConfusion (show false = true from z)⟩
theorem d_fraction {K : PySem.W.Frag} {h : Heap} {mg : Str → Option Value} (X : K.In h) (G : h.Ns mainGlobals mg) {f : Addr} {od an : Option Addr} {sl : Array (Option Value)} {oc kV dc pm cd ct : Value} {ts : List (Addr × Addr × Str)} (a : PySem.W.nsIn K mainGlobals "fraction" = some (some (.ref f))) (l : K.lookup f = some ⟨oc, od, .func (PySem.W.fnOf "fraction" "fraction" (defArgs s_fraction) (defBody s_fraction) (defScope s_fraction) .none kV dc pm an cd ct), sl⟩) (c : PySem.W.codeIn K cd "fraction" = true) (k : PySem.W.keepIn K (.ref f) = true) :
    DefOk K mg sg ts "fraction" ir_fraction f (PySem.W.fnOf "fraction" "fraction" (defArgs s_fraction) (defBody s_fraction) (defScope s_fraction) .none kV dc pm an cd ct) ["number", "scale"] where
  mgf := PySem.W.mg_of X G a
  keep := k
  binds := .all fun us hl => match us, hl with | [_, _], _ => rfl
  body := ⟨_, _, _, _, _, _, _, _, _, _, _, _, _, _, _, ["number", "scale", "divisor"], rfl, l, c, sc_fraction, rfl, rfl, m_fraction, fun z => Bool.noConfusion (show false = true from z)⟩
theorem d_mean_at {K : PySem.W.Frag} {h : Heap} {mg : Str → Option Value} (X : K.In h) (G : h.Ns mainGlobals mg) {f : Addr} {od an : Option Addr} {sl : Array (Option Value)} {oc kV dc pm cd ct : Value} {ts : List (Addr × Addr × Str)} (a : PySem.W.nsIn K mainGlobals "mean_at" = some (some (.ref f))) (l : K.lookup f = some ⟨oc, od, .func (PySem.W.fnOf "mean_at" "mean_at" (defArgs s_mean_at) (defBody s_mean_at) (defScope s_mean_at) .none kV dc pm an cd ct), sl⟩) (c : PySem.W.codeIn K cd "mean_at" = true) (k : PySem.W.keepIn K (.ref f) = true) :
    DefOk K mg sg ts "mean_at" ir_mean_at f (PySem.W.fnOf "mean_at" "mean_at" (defArgs s_mean_at) (defBody s_mean_at) (defScope s_mean_at) .none kV dc pm an cd ct) ["lights", "length", "level"] where
  mgf := PySem.W.mg_of X G a
  keep := k
  binds := .all fun us hl => match us, hl with | [_, _, _], _ => rfl
  body := ⟨_, _, _, _, _, _, _, _, _, _, _, _, _, _, _, ["lights", "length", "level", "panels", "total", "at", "light"], rfl, l, c, sc_mean_at, rfl, rfl, m_mean_at, fun z => Bool.noConfusion (show false = true from z)⟩
theorem d_mean_current {K : PySem.W.Frag} {h : Heap} {mg : Str → Option Value} (X : K.In h) (G : h.Ns mainGlobals mg) {f : Addr} {od an : Option Addr} {sl : Array (Option Value)} {oc kV dc pm cd ct : Value} {ts : List (Addr × Addr × Str)} (a : PySem.W.nsIn K mainGlobals "mean_current" = some (some (.ref f))) (l : K.lookup f = some ⟨oc, od, .func (PySem.W.fnOf "mean_current" "mean_current" (defArgs s_mean_current) (defBody s_mean_current) (defScope s_mean_current) .none kV dc pm an cd ct), sl⟩) (c : PySem.W.codeIn K cd "mean_current" = true) (k : PySem.W.keepIn K (.ref f) = true) :
    DefOk K mg sg ts "mean_current" ir_mean_current f (PySem.W.fnOf "mean_current" "mean_current" (defArgs s_mean_current) (defBody s_mean_current) (defScope s_mean_current) .none kV dc pm an cd ct) ["lights", "length", "level"] where
  mgf := PySem.W.mg_of X G a
  keep := k
  binds := .all fun us hl => match us, hl with | [_, _, _], _ => rfl
  body := ⟨_, _, _, _, _, _, _, _, _, _, _, _, _, _, _, ["lights", "length", "level"], rfl, l, c, sc_mean_current, rfl, rfl, m_mean_current, fun z => Bool.noConfusion (show false = true from z)⟩
theorem d_mean_currents {K : PySem.W.Frag} {h : Heap} {mg : Str → Option Value} (X : K.In h) (G : h.Ns mainGlobals mg) {f : Addr} {od an : Option Addr} {sl : Array (Option Value)} {oc kV dc pm cd ct : Value} {ts : List (Addr × Addr × Str)} (a : PySem.W.nsIn K mainGlobals "mean_currents" = some (some (.ref f))) (l : K.lookup f = some ⟨oc, od, .func (PySem.W.fnOf "mean_currents" "mean_currents" (defArgs s_mean_currents) (defBody s_mean_currents) (defScope s_mean_currents) .none kV dc pm an cd ct), sl⟩) (c : PySem.W.codeIn K cd "mean_currents" = true) (k : PySem.W.keepIn K (.ref f) = true) :
    DefOk K mg sg ts "mean_currents" ir_mean_currents f (PySem.W.fnOf "mean_currents" "mean_currents" (defArgs s_mean_currents) (defBody s_mean_currents) (defScope s_mean_currents) .none kV dc pm an cd ct) ["lights", "length"] where
  mgf := PySem.W.mg_of X G a
  keep := k
  binds := .all fun us hl => match us, hl with | [_, _], _ => rfl
  body := ⟨_, _, _, _, _, _, _, _, _, _, _, _, _, _, _, ["lights", "length", "level"], rfl, l, c, sc_mean_currents, rfl, rfl, m_mean_currents, fun z => Bool.noConfusion (show false = true from z)⟩
theorem d_greatest_over {K : PySem.W.Frag} {h : Heap} {mg : Str → Option Value} (X : K.In h) (G : h.Ns mainGlobals mg) {f : Addr} {od an : Option Addr} {sl : Array (Option Value)} {oc kV dc pm cd ct : Value} {ts : List (Addr × Addr × Str)} (a : PySem.W.nsIn K mainGlobals "greatest_over" = some (some (.ref f))) (l : K.lookup f = some ⟨oc, od, .func (PySem.W.fnOf "greatest_over" "greatest_over" (defArgs s_greatest_over) (defBody s_greatest_over) (defScope s_greatest_over) .none kV dc pm an cd ct), sl⟩) (c : PySem.W.codeIn K cd "greatest_over" = true) (k : PySem.W.keepIn K (.ref f) = true) :
    DefOk K mg sg ts "greatest_over" ir_greatest_over f (PySem.W.fnOf "greatest_over" "greatest_over" (defArgs s_greatest_over) (defBody s_greatest_over) (defScope s_greatest_over) .none kV dc pm an cd ct) ["lights", "length"] where
  mgf := PySem.W.mg_of X G a
  keep := k
  binds := .all fun us hl => match us, hl with | [_, _], _ => rfl
  body := ⟨_, _, _, _, _, _, _, _, _, _, _, _, _, _, _, ["lights", "length", "level"], rfl, l, c, sc_greatest_over, rfl, rfl, m_greatest_over, fun z => Bool.noConfusion (show false = true from z)⟩
theorem d_greatest_arranged {K : PySem.W.Frag} {h : Heap} {mg : Str → Option Value} (X : K.In h) (G : h.Ns mainGlobals mg) {f : Addr} {od an : Option Addr} {sl : Array (Option Value)} {oc kV dc pm cd ct : Value} {ts : List (Addr × Addr × Str)} (a : PySem.W.nsIn K mainGlobals "greatest_arranged" = some (some (.ref f))) (l : K.lookup f = some ⟨oc, od, .func (PySem.W.fnOf "greatest_arranged" "greatest_arranged" (defArgs s_greatest_arranged) (defBody s_greatest_arranged) (defScope s_greatest_arranged) .none kV dc pm an cd ct), sl⟩) (c : PySem.W.codeIn K cd "greatest_arranged" = true) (k : PySem.W.keepIn K (.ref f) = true) :
    DefOk K mg sg ts "greatest_arranged" ir_greatest_arranged f (PySem.W.fnOf "greatest_arranged" "greatest_arranged" (defArgs s_greatest_arranged) (defBody s_greatest_arranged) (defScope s_greatest_arranged) .none kV dc pm an cd ct) ["lights", "length"] where
  mgf := PySem.W.mg_of X G a
  keep := k
  binds := .all fun us hl => match us, hl with | [_, _], _ => rfl
  body := ⟨_, _, _, _, _, _, _, _, _, _, _, _, _, _, _, ["lights", "length"], rfl, l, c, sc_greatest_arranged, rfl, rfl, m_greatest_arranged, fun z => Bool.noConfusion (show false = true from z)⟩
theorem d__law_six {K : PySem.W.Frag} {h : Heap} {mg : Str → Option Value} (X : K.In h) (G : h.Ns mainGlobals mg) {f : Addr} {od an : Option Addr} {sl : Array (Option Value)} {oc kV dc pm ct : Value} {ts : List (Addr × Addr × Str)} {co tp : Addr} (hm : (co, tp, (("_law_six" : Str) ++ ".<locals>." ++ "<lambda>")) ∈ ts) (a : PySem.W.nsIn K mainGlobals "_law_six" = some (some (.ref f))) (l : K.lookup f = some ⟨oc, od, .func (PySem.W.fnOf "_law_six" "_law_six" (defArgs s__law_six) (defBody s__law_six) (defScope s__law_six) .none kV dc pm an (.ref co) ct), sl⟩) (c : PySem.W.codeIn K (.ref co) "_law_six" = true) (k : PySem.W.keepIn K (.ref f) = true) :
    DefOk K mg sg ts "_law_six" ir__law_six f (PySem.W.fnOf "_law_six" "_law_six" (defArgs s__law_six) (defBody s__law_six) (defScope s__law_six) .none kV dc pm an (.ref co) ct) ["lights", "length", "level"] where
  mgf := PySem.W.mg_of X G a
  keep := k
  binds := .all fun us hl => match us, hl with | [_, _, _], _ => rfl
  body := ⟨_, _, _, _, _, _, _, _, _, _, _, _, _, _, _, ["lights", "length", "level", "told"], rfl, l, c, sc__law_six, rfl, rfl, m__law_six, fun _ => ⟨co, tp, rfl, hm⟩⟩
theorem d__law_right {K : PySem.W.Frag} {h : Heap} {mg : Str → Option Value} (X : K.In h) (G : h.Ns mainGlobals mg) {f : Addr} {od an : Option Addr} {sl : Array (Option Value)} {oc kV dc pm cd ct : Value} {ts : List (Addr × Addr × Str)} (a : PySem.W.nsIn K mainGlobals "_law_right" = some (some (.ref f))) (l : K.lookup f = some ⟨oc, od, .func (PySem.W.fnOf "_law_right" "_law_right" (defArgs s__law_right) (defBody s__law_right) (defScope s__law_right) .none kV dc pm an cd ct), sl⟩) (c : PySem.W.codeIn K cd "_law_right" = true) (k : PySem.W.keepIn K (.ref f) = true) :
    DefOk K mg sg ts "_law_right" ir__law_right f (PySem.W.fnOf "_law_right" "_law_right" (defArgs s__law_right) (defBody s__law_right) (defScope s__law_right) .none kV dc pm an cd ct) ["urn"] where
  mgf := PySem.W.mg_of X G a
  keep := k
  binds := .all fun us hl => match us, hl with | [_], _ => rfl
  body := ⟨_, _, _, _, _, _, _, _, _, _, _, _, _, _, _, ["urn", "turn", "bad", "at", "length", "level", "six", "odd", "told", "due"], rfl, l, c, sc__law_right, rfl, rfl, m__law_right, fun z => Bool.noConfusion (show false = true from z)⟩
theorem d__law_urn {K : PySem.W.Frag} {h : Heap} {mg : Str → Option Value} (X : K.In h) (G : h.Ns mainGlobals mg) {f : Addr} {od an : Option Addr} {sl : Array (Option Value)} {oc kV dc pm cd ct : Value} {ts : List (Addr × Addr × Str)} (a : PySem.W.nsIn K mainGlobals "_law_urn" = some (some (.ref f))) (l : K.lookup f = some ⟨oc, od, .func (PySem.W.fnOf "_law_urn" "_law_urn" (defArgs s__law_urn) (defBody s__law_urn) (defScope s__law_urn) .none kV dc pm an cd ct), sl⟩) (c : PySem.W.codeIn K cd "_law_urn" = true) (k : PySem.W.keepIn K (.ref f) = true) :
    DefOk K mg sg ts "_law_urn" ir__law_urn f (PySem.W.fnOf "_law_urn" "_law_urn" (defArgs s__law_urn) (defBody s__law_urn) (defScope s__law_urn) .none kV dc pm an cd ct) ["script", "lap"] where
  mgf := PySem.W.mg_of X G a
  keep := k
  binds := .all fun us hl => match us, hl with | [_, _], _ => rfl
  body := ⟨_, _, _, _, _, _, _, _, _, _, _, _, _, _, _, ["script", "lap", "mixed", "cell", "own"], rfl, l, c, sc__law_urn, rfl, rfl, m__law_urn, fun z => Bool.noConfusion (show false = true from z)⟩
theorem d_law {K : PySem.W.Frag} {h : Heap} {mg : Str → Option Value} (X : K.In h) (G : h.Ns mainGlobals mg) {f : Addr} {od an : Option Addr} {sl : Array (Option Value)} {oc kV dc pm cd ct : Value} {ts : List (Addr × Addr × Str)} (a : PySem.W.nsIn K mainGlobals "law" = some (some (.ref f))) (l : K.lookup f = some ⟨oc, od, .func (PySem.W.fnOf "law" "law" (defArgs s_law) (defBody s_law) (defScope s_law) .none kV dc pm an cd ct), sl⟩) (c : PySem.W.codeIn K cd "law" = true) (k : PySem.W.keepIn K (.ref f) = true) :
    DefOk K mg sg ts "law" ir_law f (PySem.W.fnOf "law" "law" (defArgs s_law) (defBody s_law) (defScope s_law) .none kV dc pm an cd ct) ["script"] where
  mgf := PySem.W.mg_of X G a
  keep := k
  binds := .all fun us hl => match us, hl with | [_], _ => rfl
  body := ⟨_, _, _, _, _, _, _, _, _, _, _, _, _, _, _, ["script", "lap"], rfl, l, c, sc_law, rfl, rfl, m_law, fun z => Bool.noConfusion (show false = true from z)⟩
end
theorem all_mk {w : World} {K : PySem.W.Frag} {h : Heap} {mg : Str → Option Value} {fa : Addr} (X : K.In h) (G : h.Ns mainGlobals mg) (hfa : mg "law" = some (.ref fa)) {f0 f1 f2 f3 f4 f5 f6 f7 f8 f9 f10 f11 f12 f13 f14 f15 f16 f17 f18 f19 f20 f21 f22 f23 f24 f25 f26 f27 f28 f29 f30 f31 f32 f33 f34 f35 : Addr} {od0 od1 od2 od3 od4 od5 od6 od7 od8 od9 od10 od11 od12 od13 od14 od15 od16 od17 od18 od19 od20 od21 od22 od23 od24 od25 od26 od27 od28 od29 od30 od31 od32 od33 od34 od35 an0 an1 an2 an3 an4 an5 an6 an7 an8 an9 an10 an11 an12 an13 an14 an15 an16 an17 an18 an19 an20 an21 an22 an23 an24 an25 an26 an27 an28 an29 an30 an31 an32 an33 an34 an35 : Option Addr} {sl0 sl1 sl2 sl3 sl4 sl5 sl6 sl7 sl8 sl9 sl10 sl11 sl12 sl13 sl14 sl15 sl16 sl17 sl18 sl19 sl20 sl21 sl22 sl23 sl24 sl25 sl26 sl27 sl28 sl29 sl30 sl31 sl32 sl33 sl34 sl35 : Array (Option Value)} {oc0 oc1 oc2 oc3 oc4 oc5 oc6 oc7 oc8 oc9 oc10 oc11 oc12 oc13 oc14 oc15 oc16 oc17 oc18 oc19 oc20 oc21 oc22 oc23 oc24 oc25 oc26 oc27 oc28 oc29 oc30 oc31 oc32 oc33 oc34 oc35 kV0 kV1 kV2 kV3 kV4 kV5 kV6 kV7 kV8 kV9 kV10 kV11 kV12 kV13 kV14 kV15 kV16 kV17 kV18 kV19 kV20 kV21 kV22 kV23 kV24 kV25 kV26 kV27 kV28 kV29 kV30 kV31 kV32 kV33 kV34 kV35 dc0 dc1 dc2 dc3 dc4 dc5 dc6 dc7 dc8 dc9 dc10 dc11 dc12 dc13 dc14 dc15 dc16 dc17 dc18 dc19 dc20 dc21 dc22 dc23 dc24 dc25 dc26 dc27 dc28 dc29 dc30 dc31 dc32 dc33 dc34 dc35 pm0 pm1 pm2 pm3 pm4 pm5 pm6 pm7 pm8 pm9 pm10 pm11 pm12 pm13 pm14 pm15 pm16 pm17 pm18 pm19 pm20 pm21 pm22 pm23 pm24 pm25 pm26 pm27 pm28 pm29 pm30 pm31 pm32 pm33 pm34 pm35 cd0 cd1 cd2 cd3 cd4 cd5 cd6 cd7 cd8 cd9 cd10 cd11 cd12 cd13 cd14 cd15 cd16 cd17 cd18 cd19 cd20 cd21 cd22 cd23 cd24 cd25 cd26 cd27 cd28 cd29 cd30 cd32 cd33 cd34 cd35 ct0 ct1 ct2 ct3 ct4 ct5 ct6 ct7 ct8 ct9 ct10 ct11 ct12 ct13 ct14 ct15 ct16 ct17 ct18 ct19 ct20 ct21 ct22 ct23 ct24 ct25 ct26 ct27 ct28 ct29 ct30 ct31 ct32 ct33 ct34 ct35 : Value} {co31 tp31 : Addr} {ec31 : Value} {ed31 : Option Addr} {ev31 : Array Value} {eo31 : Array (Option Value)} {t0 t1 t2 t3 t4 : Tok} {xc0 xc1 xc2 xc3 : Addr}
    (a0 : PySem.W.nsIn K mainGlobals "_law_take" = some (some (.ref f0))) (l0 : K.lookup f0 = some ⟨oc0, od0, .func (PySem.W.fnOf "_law_take" "_law_take" (defArgs s__law_take) (defBody s__law_take) (defScope s__law_take) .none kV0 dc0 pm0 an0 cd0 ct0), sl0⟩) (c0 : PySem.W.codeIn K cd0 "_law_take" = true) (k0 : PySem.W.keepIn K (.ref f0) = true)
    (a1 : PySem.W.nsIn K mainGlobals "_law_of" = some (some (.ref f1))) (l1 : K.lookup f1 = some ⟨oc1, od1, .func (PySem.W.fnOf "_law_of" "_law_of" (defArgs s__law_of) (defBody s__law_of) (defScope s__law_of) .none kV1 dc1 pm1 an1 cd1 ct1), sl1⟩) (c1 : PySem.W.codeIn K cd1 "_law_of" = true) (k1 : PySem.W.keepIn K (.ref f1) = true)
    (a2 : PySem.W.nsIn K mainGlobals "_law_no_lights" = some (some (.ref f2))) (l2 : K.lookup f2 = some ⟨oc2, od2, .func (PySem.W.fnOf "_law_no_lights" "_law_no_lights" (defArgs s__law_no_lights) (defBody s__law_no_lights) (defScope s__law_no_lights) .none kV2 dc2 pm2 an2 cd2 ct2), sl2⟩) (c2 : PySem.W.codeIn K cd2 "_law_no_lights" = true) (k2 : PySem.W.keepIn K (.ref f2) = true)
    (a3 : PySem.W.nsIn K mainGlobals "_law_no_number" = some (some (.ref f3))) (l3 : K.lookup f3 = some ⟨oc3, od3, .func (PySem.W.fnOf "_law_no_number" "_law_no_number" (defArgs s__law_no_number) (defBody s__law_no_number) (defScope s__law_no_number) .none kV3 dc3 pm3 an3 cd3 ct3), sl3⟩) (c3 : PySem.W.codeIn K cd3 "_law_no_number" = true) (k3 : PySem.W.keepIn K (.ref f3) = true)
    (a4 : PySem.W.nsIn K mainGlobals "first_wrong" = some (some (.ref f4))) (l4 : K.lookup f4 = some ⟨oc4, od4, .func (PySem.W.fnOf "first_wrong" "first_wrong" (defArgs s_first_wrong) (defBody s_first_wrong) (defScope s_first_wrong) .none kV4 dc4 pm4 an4 cd4 ct4), sl4⟩) (c4 : PySem.W.codeIn K cd4 "first_wrong" = true) (k4 : PySem.W.keepIn K (.ref f4) = true)
    (a5 : PySem.W.nsIn K mainGlobals "fault_in" = some (some (.ref f5))) (l5 : K.lookup f5 = some ⟨oc5, od5, .func (PySem.W.fnOf "fault_in" "fault_in" (defArgs s_fault_in) (defBody s_fault_in) (defScope s_fault_in) .none kV5 dc5 pm5 an5 cd5 ct5), sl5⟩) (c5 : PySem.W.codeIn K cd5 "fault_in" = true) (k5 : PySem.W.keepIn K (.ref f5) = true)
    (a6 : PySem.W.nsIn K mainGlobals "is_number" = some (some (.ref f6))) (l6 : K.lookup f6 = some ⟨oc6, od6, .func (PySem.W.fnOf "is_number" "is_number" (defArgs s_is_number) (defBody s_is_number) (defScope s_is_number) .none kV6 dc6 pm6 an6 cd6 ct6), sl6⟩) (c6 : PySem.W.codeIn K cd6 "is_number" = true) (k6 : PySem.W.keepIn K (.ref f6) = true)
    (a7 : PySem.W.nsIn K mainGlobals "is_light" = some (some (.ref f7))) (l7 : K.lookup f7 = some ⟨oc7, od7, .func (PySem.W.fnOf "is_light" "is_light" (defArgs s_is_light) (defBody s_is_light) (defScope s_is_light) .none kV7 dc7 pm7 an7 cd7 ct7), sl7⟩) (c7 : PySem.W.codeIn K cd7 "is_light" = true) (k7 : PySem.W.keepIn K (.ref f7) = true)
    (a8 : PySem.W.nsIn K mainGlobals "is_lights_row" = some (some (.ref f8))) (l8 : K.lookup f8 = some ⟨oc8, od8, .func (PySem.W.fnOf "is_lights_row" "is_lights_row" (defArgs s_is_lights_row) (defBody s_is_lights_row) (defScope s_is_lights_row) .none kV8 dc8 pm8 an8 cd8 ct8), sl8⟩) (c8 : PySem.W.codeIn K cd8 "is_lights_row" = true) (k8 : PySem.W.keepIn K (.ref f8) = true)
    (a9 : PySem.W.nsIn K mainGlobals "check_lights" = some (some (.ref f9))) (l9 : K.lookup f9 = some ⟨oc9, od9, .func (PySem.W.fnOf "check_lights" "check_lights" (defArgs s_check_lights) (defBody s_check_lights) (defScope s_check_lights) .none kV9 dc9 pm9 an9 cd9 ct9), sl9⟩) (c9 : PySem.W.codeIn K cd9 "check_lights" = true) (k9 : PySem.W.keepIn K (.ref f9) = true)
    (a10 : PySem.W.nsIn K mainGlobals "check_number" = some (some (.ref f10))) (l10 : K.lookup f10 = some ⟨oc10, od10, .func (PySem.W.fnOf "check_number" "check_number" (defArgs s_check_number) (defBody s_check_number) (defScope s_check_number) .none kV10 dc10 pm10 an10 cd10 ct10), sl10⟩) (c10 : PySem.W.codeIn K cd10 "check_number" = true) (k10 : PySem.W.keepIn K (.ref f10) = true)
    (a11 : PySem.W.nsIn K mainGlobals "check_length" = some (some (.ref f11))) (l11 : K.lookup f11 = some ⟨oc11, od11, .func (PySem.W.fnOf "check_length" "check_length" (defArgs s_check_length) (defBody s_check_length) (defScope s_check_length) .none kV11 dc11 pm11 an11 cd11 ct11), sl11⟩) (c11 : PySem.W.codeIn K cd11 "check_length" = true) (k11 : PySem.W.keepIn K (.ref f11) = true)
    (a12 : PySem.W.nsIn K mainGlobals "check_arranged" = some (some (.ref f12))) (l12 : K.lookup f12 = some ⟨oc12, od12, .func (PySem.W.fnOf "check_arranged" "check_arranged" (defArgs s_check_arranged) (defBody s_check_arranged) (defScope s_check_arranged) .none kV12 dc12 pm12 an12 cd12 ct12), sl12⟩) (c12 : PySem.W.codeIn K cd12 "check_arranged" = true) (k12 : PySem.W.keepIn K (.ref f12) = true)
    (a13 : PySem.W.nsIn K mainGlobals "check_level" = some (some (.ref f13))) (l13 : K.lookup f13 = some ⟨oc13, od13, .func (PySem.W.fnOf "check_level" "check_level" (defArgs s_check_level) (defBody s_check_level) (defScope s_check_level) .none kV13 dc13 pm13 an13 cd13 ct13), sl13⟩) (c13 : PySem.W.codeIn K cd13 "check_level" = true) (k13 : PySem.W.keepIn K (.ref f13) = true)
    (a14 : PySem.W.nsIn K mainGlobals "check_made" = some (some (.ref f14))) (l14 : K.lookup f14 = some ⟨oc14, od14, .func (PySem.W.fnOf "check_made" "check_made" (defArgs s_check_made) (defBody s_check_made) (defScope s_check_made) .none kV14 dc14 pm14 an14 cd14 ct14), sl14⟩) (c14 : PySem.W.codeIn K cd14 "check_made" = true) (k14 : PySem.W.keepIn K (.ref f14) = true)
    (a15 : PySem.W.nsIn K mainGlobals "check_leveled" = some (some (.ref f15))) (l15 : K.lookup f15 = some ⟨oc15, od15, .func (PySem.W.fnOf "check_leveled" "check_leveled" (defArgs s_check_leveled) (defBody s_check_leveled) (defScope s_check_leveled) .none kV15 dc15 pm15 an15 cd15 ct15), sl15⟩) (c15 : PySem.W.codeIn K cd15 "check_leveled" = true) (k15 : PySem.W.keepIn K (.ref f15) = true)
    (a16 : PySem.W.nsIn K mainGlobals "strings_made" = some (some (.ref f16))) (l16 : K.lookup f16 = some ⟨oc16, od16, .func (PySem.W.fnOf "strings_made" "strings_made" (defArgs s_strings_made) (defBody s_strings_made) (defScope s_strings_made) .none kV16 dc16 pm16 an16 cd16 ct16), sl16⟩) (c16 : PySem.W.codeIn K cd16 "strings_made" = true) (k16 : PySem.W.keepIn K (.ref f16) = true)
    (a17 : PySem.W.nsIn K mainGlobals "greatest_at" = some (some (.ref f17))) (l17 : K.lookup f17 = some ⟨oc17, od17, .func (PySem.W.fnOf "greatest_at" "greatest_at" (defArgs s_greatest_at) (defBody s_greatest_at) (defScope s_greatest_at) .none kV17 dc17 pm17 an17 cd17 ct17), sl17⟩) (c17 : PySem.W.codeIn K cd17 "greatest_at" = true) (k17 : PySem.W.keepIn K (.ref f17) = true)
    (a18 : PySem.W.nsIn K mainGlobals "greatest_current" = some (some (.ref f18))) (l18 : K.lookup f18 = some ⟨oc18, od18, .func (PySem.W.fnOf "greatest_current" "greatest_current" (defArgs s_greatest_current) (defBody s_greatest_current) (defScope s_greatest_current) .none kV18 dc18 pm18 an18 cd18 ct18), sl18⟩) (c18 : PySem.W.codeIn K cd18 "greatest_current" = true) (k18 : PySem.W.keepIn K (.ref f18) = true)
    (a19 : PySem.W.nsIn K mainGlobals "least_at" = some (some (.ref f19))) (l19 : K.lookup f19 = some ⟨oc19, od19, .func (PySem.W.fnOf "least_at" "least_at" (defArgs s_least_at) (defBody s_least_at) (defScope s_least_at) .none kV19 dc19 pm19 an19 cd19 ct19), sl19⟩) (c19 : PySem.W.codeIn K cd19 "least_at" = true) (k19 : PySem.W.keepIn K (.ref f19) = true)
    (a20 : PySem.W.nsIn K mainGlobals "least_current" = some (some (.ref f20))) (l20 : K.lookup f20 = some ⟨oc20, od20, .func (PySem.W.fnOf "least_current" "least_current" (defArgs s_least_current) (defBody s_least_current) (defScope s_least_current) .none kV20 dc20 pm20 an20 cd20 ct20), sl20⟩) (c20 : PySem.W.codeIn K cd20 "least_current" = true) (k20 : PySem.W.keepIn K (.ref f20) = true)
    (a21 : PySem.W.nsIn K mainGlobals "arranged_at" = some (some (.ref f21))) (l21 : K.lookup f21 = some ⟨oc21, od21, .func (PySem.W.fnOf "arranged_at" "arranged_at" (defArgs s_arranged_at) (defBody s_arranged_at) (defScope s_arranged_at) .none kV21 dc21 pm21 an21 cd21 ct21), sl21⟩) (c21 : PySem.W.codeIn K cd21 "arranged_at" = true) (k21 : PySem.W.keepIn K (.ref f21) = true)
    (a22 : PySem.W.nsIn K mainGlobals "arrangement_at" = some (some (.ref f22))) (l22 : K.lookup f22 = some ⟨oc22, od22, .func (PySem.W.fnOf "arrangement_at" "arrangement_at" (defArgs s_arrangement_at) (defBody s_arrangement_at) (defScope s_arrangement_at) .none kV22 dc22 pm22 an22 cd22 ct22), sl22⟩) (c22 : PySem.W.codeIn K cd22 "arrangement_at" = true) (k22 : PySem.W.keepIn K (.ref f22) = true)
    (a23 : PySem.W.nsIn K mainGlobals "choices" = some (some (.ref f23))) (l23 : K.lookup f23 = some ⟨oc23, od23, .func (PySem.W.fnOf "choices" "choices" (defArgs s_choices) (defBody s_choices) (defScope s_choices) .none kV23 dc23 pm23 an23 cd23 ct23), sl23⟩) (c23 : PySem.W.codeIn K cd23 "choices" = true) (k23 : PySem.W.keepIn K (.ref f23) = true)
    (a24 : PySem.W.nsIn K mainGlobals "common_divisor" = some (some (.ref f24))) (l24 : K.lookup f24 = some ⟨oc24, od24, .func (PySem.W.fnOf "common_divisor" "common_divisor" (defArgs s_common_divisor) (defBody s_common_divisor) (defScope s_common_divisor) .none kV24 dc24 pm24 an24 cd24 ct24), sl24⟩) (c24 : PySem.W.codeIn K cd24 "common_divisor" = true) (k24 : PySem.W.keepIn K (.ref f24) = true)
    (a25 : PySem.W.nsIn K mainGlobals "fraction" = some (some (.ref f25))) (l25 : K.lookup f25 = some ⟨oc25, od25, .func (PySem.W.fnOf "fraction" "fraction" (defArgs s_fraction) (defBody s_fraction) (defScope s_fraction) .none kV25 dc25 pm25 an25 cd25 ct25), sl25⟩) (c25 : PySem.W.codeIn K cd25 "fraction" = true) (k25 : PySem.W.keepIn K (.ref f25) = true)
    (a26 : PySem.W.nsIn K mainGlobals "mean_at" = some (some (.ref f26))) (l26 : K.lookup f26 = some ⟨oc26, od26, .func (PySem.W.fnOf "mean_at" "mean_at" (defArgs s_mean_at) (defBody s_mean_at) (defScope s_mean_at) .none kV26 dc26 pm26 an26 cd26 ct26), sl26⟩) (c26 : PySem.W.codeIn K cd26 "mean_at" = true) (k26 : PySem.W.keepIn K (.ref f26) = true)
    (a27 : PySem.W.nsIn K mainGlobals "mean_current" = some (some (.ref f27))) (l27 : K.lookup f27 = some ⟨oc27, od27, .func (PySem.W.fnOf "mean_current" "mean_current" (defArgs s_mean_current) (defBody s_mean_current) (defScope s_mean_current) .none kV27 dc27 pm27 an27 cd27 ct27), sl27⟩) (c27 : PySem.W.codeIn K cd27 "mean_current" = true) (k27 : PySem.W.keepIn K (.ref f27) = true)
    (a28 : PySem.W.nsIn K mainGlobals "mean_currents" = some (some (.ref f28))) (l28 : K.lookup f28 = some ⟨oc28, od28, .func (PySem.W.fnOf "mean_currents" "mean_currents" (defArgs s_mean_currents) (defBody s_mean_currents) (defScope s_mean_currents) .none kV28 dc28 pm28 an28 cd28 ct28), sl28⟩) (c28 : PySem.W.codeIn K cd28 "mean_currents" = true) (k28 : PySem.W.keepIn K (.ref f28) = true)
    (a29 : PySem.W.nsIn K mainGlobals "greatest_over" = some (some (.ref f29))) (l29 : K.lookup f29 = some ⟨oc29, od29, .func (PySem.W.fnOf "greatest_over" "greatest_over" (defArgs s_greatest_over) (defBody s_greatest_over) (defScope s_greatest_over) .none kV29 dc29 pm29 an29 cd29 ct29), sl29⟩) (c29 : PySem.W.codeIn K cd29 "greatest_over" = true) (k29 : PySem.W.keepIn K (.ref f29) = true)
    (a30 : PySem.W.nsIn K mainGlobals "greatest_arranged" = some (some (.ref f30))) (l30 : K.lookup f30 = some ⟨oc30, od30, .func (PySem.W.fnOf "greatest_arranged" "greatest_arranged" (defArgs s_greatest_arranged) (defBody s_greatest_arranged) (defScope s_greatest_arranged) .none kV30 dc30 pm30 an30 cd30 ct30), sl30⟩) (c30 : PySem.W.codeIn K cd30 "greatest_arranged" = true) (k30 : PySem.W.keepIn K (.ref f30) = true)
    (a31 : PySem.W.nsIn K mainGlobals "_law_six" = some (some (.ref f31))) (l31 : K.lookup f31 = some ⟨oc31, od31, .func (PySem.W.fnOf "_law_six" "_law_six" (defArgs s__law_six) (defBody s__law_six) (defScope s__law_six) .none kV31 dc31 pm31 an31 (.ref co31) ct31), sl31⟩) (c31 : PySem.W.codeIn K (.ref co31) "_law_six" = true) (k31 : PySem.W.keepIn K (.ref f31) = true)
    (a32 : PySem.W.nsIn K mainGlobals "_law_right" = some (some (.ref f32))) (l32 : K.lookup f32 = some ⟨oc32, od32, .func (PySem.W.fnOf "_law_right" "_law_right" (defArgs s__law_right) (defBody s__law_right) (defScope s__law_right) .none kV32 dc32 pm32 an32 cd32 ct32), sl32⟩) (c32 : PySem.W.codeIn K cd32 "_law_right" = true) (k32 : PySem.W.keepIn K (.ref f32) = true)
    (a33 : PySem.W.nsIn K mainGlobals "_law_urn" = some (some (.ref f33))) (l33 : K.lookup f33 = some ⟨oc33, od33, .func (PySem.W.fnOf "_law_urn" "_law_urn" (defArgs s__law_urn) (defBody s__law_urn) (defScope s__law_urn) .none kV33 dc33 pm33 an33 cd33 ct33), sl33⟩) (c33 : PySem.W.codeIn K cd33 "_law_urn" = true) (k33 : PySem.W.keepIn K (.ref f33) = true)
    (a34 : PySem.W.nsIn K mainGlobals "law" = some (some (.ref f34))) (l34 : K.lookup f34 = some ⟨oc34, od34, .func (PySem.W.fnOf "law" "law" (defArgs s_law) (defBody s_law) (defScope s_law) .none kV34 dc34 pm34 an34 cd34 ct34), sl34⟩) (c34 : PySem.W.codeIn K cd34 "law" = true) (k34 : PySem.W.keepIn K (.ref f34) = true)
    (a35 : PySem.W.nsIn K mainGlobals "_law_heard" = some (some (.ref f35))) (l35 : K.lookup f35 = some ⟨oc35, od35, .func (PySem.W.fnOf "_law_heard" "_law_heard" (defArgs s__law_heard) (defBody s__law_heard) (defScope s__law_heard) .none kV35 dc35 pm35 an35 cd35 ct35), sl35⟩) (c35 : PySem.W.codeIn K cd35 "_law_heard" = true) (k35 : PySem.W.keepIn K (.ref f35) = true)
    (e31 : K.lookup co31 = some ⟨ec31, ed31, .fields ev31, eo31⟩) (p31 : ev31[11]? = some (.ref tp31)) (h31 : PySem.W.codeHdIn K co31 tp31 = true) (n31 : K.lookup tp31 = none) (y31 : h.get? tp31 = some (PySem.W.tabObj #[]))
    (u0 : ([tp31] : List Addr).Nodup)
    (xg0 : PySem.W.nsIn K mainGlobals "InvalidLights" = some (some (.ref xc0)))
    (xe0 : errB K PySem.Challenge.pw_shadestrings_k69_arrangements_refused.main.file "index" xc0 = true)
    (xg1 : PySem.W.nsIn K mainGlobals "InvalidNumber" = some (some (.ref xc1)))
    (xe1 : errB K PySem.Challenge.pw_shadestrings_k69_arrangements_refused.main.file "given" xc1 = true)
    (xg2 : PySem.W.nsIn K mainGlobals "OutOfRange" = some (some (.ref xc2)))
    (xe2 : errB K PySem.Challenge.pw_shadestrings_k69_arrangements_refused.main.file "given" xc2 = true)
    (xg3 : PySem.W.nsIn K mainGlobals "ShadeError" = some (some (.ref xc3)))
    (xh0_0 : hdcB K [xc1, xc2, xc0] xc3 "given" xc1 0 = true)
    (xh0_1 : hdcB K [xc1, xc2, xc0] xc3 "given" xc2 1 = true)
    (xh0_2 : hdcB K [xc1, xc2, xc0] xc3 "index" xc0 2 = true)
    (q0 : PySem.W.nsIn K mainGlobals "MOST_LEVEL" = some (some (.int (8) t0)))
    (q1 : PySem.W.nsIn K mainGlobals "MOST_LIGHT" = some (some (.int (99) t1)))
    (q2 : PySem.W.nsIn K mainGlobals "MOST_PANELS" = some (some (.int (24) t2)))
    (q3 : PySem.W.nsIn K mainGlobals "MOST_STRINGS" = some (some (.int (8) t3)))
    (q4 : PySem.W.nsIn K mainGlobals "RIGHT" = some (some (.int (-1) t4)))
    (z0 : PySem.W.nsIn K mainGlobals "abs" = some none)
    (z1 : PySem.W.nsIn K mainGlobals "all" = some none)
    (z2 : PySem.W.nsIn K mainGlobals "bool" = some none)
    (z3 : PySem.W.nsIn K mainGlobals "divmod" = some none)
    (z4 : PySem.W.nsIn K mainGlobals "enumerate" = some none)
    (z5 : PySem.W.nsIn K mainGlobals "int" = some none)
    (z6 : PySem.W.nsIn K mainGlobals "isinstance" = some none)
    (z7 : PySem.W.nsIn K mainGlobals "len" = some none)
    (z8 : PySem.W.nsIn K mainGlobals "max" = some none)
    (z9 : PySem.W.nsIn K mainGlobals "min" = some none)
    (z10 : PySem.W.nsIn K mainGlobals "range" = some none)
    (z11 : PySem.W.nsIn K mainGlobals "repr" = some none)
    (z12 : PySem.W.nsIn K mainGlobals "sum" = some none)
    (z13 : PySem.W.nsIn K mainGlobals "tuple" = some none) :
    ∃ ts, TsAt h K ts ∧ Stat PySem.Challenge.pw_shadestrings_k69_arrangements_refused w K mg sg ts T ∧ ∃ fd, DefOk K mg sg ts "law" ir_law fa fd ["script"] ∧ ∀ (s : Shared) (u : Value), BindsTo s fd ⟨[u], []⟩ [("script", u)] := by
  let ts0 : List (Addr × Addr × Str) := [(co31, tp31, (("_law_six" : Str) ++ ".<locals>." ++ "<lambda>"))]
  have D0 := d__law_take (ts := ts0) X G a0 l0 c0 k0
  have D1 := d__law_of (ts := ts0) X G a1 l1 c1 k1
  have D2 := d__law_no_lights (ts := ts0) X G a2 l2 c2 k2
  have D3 := d__law_no_number (ts := ts0) X G a3 l3 c3 k3
  have D4 := d_first_wrong (ts := ts0) X G a4 l4 c4 k4
  have D5 := d_fault_in (ts := ts0) X G a5 l5 c5 k5
  have D6 := d_is_number (ts := ts0) X G a6 l6 c6 k6
  have D7 := d_is_light (ts := ts0) X G a7 l7 c7 k7
  have D8 := d_is_lights_row (ts := ts0) X G a8 l8 c8 k8
  have D9 := d_check_lights (ts := ts0) X G a9 l9 c9 k9
  have D10 := d_check_number (ts := ts0) X G a10 l10 c10 k10
  have D11 := d_check_length (ts := ts0) X G a11 l11 c11 k11
  have D12 := d_check_arranged (ts := ts0) X G a12 l12 c12 k12
  have D13 := d_check_level (ts := ts0) X G a13 l13 c13 k13
  have D14 := d_check_made (ts := ts0) X G a14 l14 c14 k14
  have D15 := d_check_leveled (ts := ts0) X G a15 l15 c15 k15
  have D16 := d_strings_made (ts := ts0) X G a16 l16 c16 k16
  have D17 := d_greatest_at (ts := ts0) X G a17 l17 c17 k17
  have D18 := d_greatest_current (ts := ts0) X G a18 l18 c18 k18
  have D19 := d_least_at (ts := ts0) X G a19 l19 c19 k19
  have D20 := d_least_current (ts := ts0) X G a20 l20 c20 k20
  have D21 := d_arranged_at (ts := ts0) X G a21 l21 c21 k21
  have D22 := d_arrangement_at (ts := ts0) X G a22 l22 c22 k22
  have D23 := d_choices (ts := ts0) X G a23 l23 c23 k23
  have D24 := d_common_divisor (ts := ts0) X G a24 l24 c24 k24
  have D25 := d_fraction (ts := ts0) X G a25 l25 c25 k25
  have D26 := d_mean_at (ts := ts0) X G a26 l26 c26 k26
  have D27 := d_mean_current (ts := ts0) X G a27 l27 c27 k27
  have D28 := d_mean_currents (ts := ts0) X G a28 l28 c28 k28
  have D29 := d_greatest_over (ts := ts0) X G a29 l29 c29 k29
  have D30 := d_greatest_arranged (ts := ts0) X G a30 l30 c30 k30
  have D31 := d__law_six (ts := ts0) (co := co31) (tp := tp31) X G (by simp [ts0]) a31 l31 c31 k31
  have D32 := d__law_right (ts := ts0) X G a32 l32 c32 k32
  have D33 := d__law_urn (ts := ts0) X G a33 l33 c33 k33
  have D34 := d_law (ts := ts0) X G a34 l34 c34 k34
  have e := hfa.symm.trans D34.mgf
  cases e
  refine ⟨ts0, ⟨?_, ?_, ?_, u0⟩, ⟨?_, ?_, ?_, ?_, ?_, ?_, ?_⟩, _, D34, fun s u => .of_eq rfl⟩
  · intro t ht
    simp only [ts0, List.mem_cons, List.not_mem_nil, or_false] at ht
    rcases ht with rfl
    · exact y31
  · intro t ht
    simp only [ts0, List.mem_cons, List.not_mem_nil, or_false] at ht
    rcases ht with rfl
    · exact n31
  · intro t ht
    simp only [ts0, List.mem_cons, List.not_mem_nil, or_false] at ht
    rcases ht with rfl
    · exact PySem.W.codeHd_of_K X h31
  · intro x i hx
    simp only [sg, List.mem_cons, List.not_mem_nil, or_false, Prod.mk.injEq] at hx
    rcases hx with ⟨rfl, rfl⟩ | ⟨rfl, rfl⟩ | ⟨rfl, rfl⟩ | ⟨rfl, rfl⟩ | ⟨rfl, rfl⟩
    · exact ⟨_, PySem.W.mg_of X G q0⟩
    · exact ⟨_, PySem.W.mg_of X G q1⟩
    · exact ⟨_, PySem.W.mg_of X G q2⟩
    · exact ⟨_, PySem.W.mg_of X G q3⟩
    · exact ⟨_, PySem.W.mg_of X G q4⟩
  · intro x hx
    have hx : x ∈ sg.blt := List.contains_iff_mem.mp hx
    simp only [sg, List.mem_cons, List.not_mem_nil, or_false] at hx
    rcases hx with rfl | rfl | rfl | rfl | rfl | rfl | rfl | rfl | rfl | rfl | rfl | rfl | rfl | rfl
    · exact PySem.W.mg_none_of X G z0
    · exact PySem.W.mg_none_of X G z1
    · exact PySem.W.mg_none_of X G z2
    · exact PySem.W.mg_none_of X G z3
    · exact PySem.W.mg_none_of X G z4
    · exact PySem.W.mg_none_of X G z5
    · exact PySem.W.mg_none_of X G z6
    · exact PySem.W.mg_none_of X G z7
    · exact PySem.W.mg_none_of X G z8
    · exact PySem.W.mg_none_of X G z9
    · exact PySem.W.mg_none_of X G z10
    · exact PySem.W.mg_none_of X G z11
    · exact PySem.W.mg_none_of X G z12
    · exact PySem.W.mg_none_of X G z13
  · intro f hf
    simp only [sg, List.mem_cons, List.not_mem_nil, or_false] at hf
    rcases hf with rfl
    · rfl
  · intro f fn hf
    have hf := lookup_mem hf
    simp only [tb, List.mem_cons, List.not_mem_nil, or_false, Prod.mk.injEq] at hf
    rcases hf with ⟨rfl, rfl⟩ | ⟨rfl, rfl⟩ | ⟨rfl, rfl⟩ | ⟨rfl, rfl⟩ | ⟨rfl, rfl⟩ | ⟨rfl, rfl⟩ | ⟨rfl, rfl⟩ | ⟨rfl, rfl⟩ | ⟨rfl, rfl⟩ | ⟨rfl, rfl⟩ | ⟨rfl, rfl⟩ | ⟨rfl, rfl⟩ | ⟨rfl, rfl⟩ | ⟨rfl, rfl⟩ | ⟨rfl, rfl⟩ | ⟨rfl, rfl⟩ | ⟨rfl, rfl⟩ | ⟨rfl, rfl⟩ | ⟨rfl, rfl⟩ | ⟨rfl, rfl⟩ | ⟨rfl, rfl⟩ | ⟨rfl, rfl⟩ | ⟨rfl, rfl⟩ | ⟨rfl, rfl⟩ | ⟨rfl, rfl⟩ | ⟨rfl, rfl⟩ | ⟨rfl, rfl⟩ | ⟨rfl, rfl⟩ | ⟨rfl, rfl⟩ | ⟨rfl, rfl⟩ | ⟨rfl, rfl⟩ | ⟨rfl, rfl⟩ | ⟨rfl, rfl⟩ | ⟨rfl, rfl⟩ | ⟨rfl, rfl⟩
    · exact ⟨_, _, _, D0⟩
    · exact ⟨_, _, _, D1⟩
    · exact ⟨_, _, _, D2⟩
    · exact ⟨_, _, _, D3⟩
    · exact ⟨_, _, _, D4⟩
    · exact ⟨_, _, _, D5⟩
    · exact ⟨_, _, _, D6⟩
    · exact ⟨_, _, _, D7⟩
    · exact ⟨_, _, _, D8⟩
    · exact ⟨_, _, _, D9⟩
    · exact ⟨_, _, _, D10⟩
    · exact ⟨_, _, _, D11⟩
    · exact ⟨_, _, _, D12⟩
    · exact ⟨_, _, _, D13⟩
    · exact ⟨_, _, _, D14⟩
    · exact ⟨_, _, _, D15⟩
    · exact ⟨_, _, _, D16⟩
    · exact ⟨_, _, _, D17⟩
    · exact ⟨_, _, _, D18⟩
    · exact ⟨_, _, _, D19⟩
    · exact ⟨_, _, _, D20⟩
    · exact ⟨_, _, _, D21⟩
    · exact ⟨_, _, _, D22⟩
    · exact ⟨_, _, _, D23⟩
    · exact ⟨_, _, _, D24⟩
    · exact ⟨_, _, _, D25⟩
    · exact ⟨_, _, _, D26⟩
    · exact ⟨_, _, _, D27⟩
    · exact ⟨_, _, _, D28⟩
    · exact ⟨_, _, _, D29⟩
    · exact ⟨_, _, _, D30⟩
    · exact ⟨_, _, _, D31⟩
    · exact ⟨_, _, _, D32⟩
    · exact ⟨_, _, _, D33⟩
    · exact ⟨_, _, _, D34⟩
  · intro f n ks p hm
    simp only [sg, List.mem_cons, List.not_mem_nil, or_false, Prod.mk.injEq] at hm
    rcases hm with ⟨rfl, rfl, rfl, rfl⟩ | ⟨rfl, rfl, rfl, rfl⟩ | ⟨rfl, rfl, rfl, rfl⟩ | ⟨rfl, rfl, rfl, rfl⟩ | ⟨rfl, rfl, rfl, rfl⟩ | ⟨rfl, rfl, rfl, rfl⟩ | ⟨rfl, rfl, rfl, rfl⟩ | ⟨rfl, rfl, rfl, rfl⟩ | ⟨rfl, rfl, rfl, rfl⟩ | ⟨rfl, rfl, rfl, rfl⟩ | ⟨rfl, rfl, rfl, rfl⟩ | ⟨rfl, rfl, rfl, rfl⟩ | ⟨rfl, rfl, rfl, rfl⟩ | ⟨rfl, rfl, rfl, rfl⟩ | ⟨rfl, rfl, rfl, rfl⟩ | ⟨rfl, rfl, rfl, rfl⟩ | ⟨rfl, rfl, rfl, rfl⟩ | ⟨rfl, rfl, rfl, rfl⟩ | ⟨rfl, rfl, rfl, rfl⟩ | ⟨rfl, rfl, rfl, rfl⟩ | ⟨rfl, rfl, rfl, rfl⟩ | ⟨rfl, rfl, rfl, rfl⟩ | ⟨rfl, rfl, rfl, rfl⟩ | ⟨rfl, rfl, rfl, rfl⟩ | ⟨rfl, rfl, rfl, rfl⟩ | ⟨rfl, rfl, rfl, rfl⟩ | ⟨rfl, rfl, rfl, rfl⟩ | ⟨rfl, rfl, rfl, rfl⟩ | ⟨rfl, rfl, rfl, rfl⟩ | ⟨rfl, rfl, rfl, rfl⟩ | ⟨rfl, rfl, rfl, rfl⟩ | ⟨rfl, rfl, rfl, rfl⟩ | ⟨rfl, rfl, rfl, rfl⟩
    · exact ⟨_, _, _, _, T__law_no_lights, D2, fun us ws h1 h2 => (match us, ws, h1, h2 with | [_], [], _, _ => rfl), rfl, by decide⟩
    · exact ⟨_, _, _, _, T__law_no_number, D3, fun us ws h1 h2 => (match us, ws, h1, h2 with | [_, _, _], [], _, _ => rfl), rfl, by decide⟩
    · exact ⟨_, _, _, _, T__law_of, D1, fun us ws h1 h2 => (match us, ws, h1, h2 with | [_, _], [], _, _ => rfl), rfl, by decide⟩
    · exact ⟨_, _, _, _, T__law_right, D32, fun us ws h1 h2 => (match us, ws, h1, h2 with | [_], [], _, _ => rfl), rfl, by decide⟩
    · exact ⟨_, _, _, _, T__law_six, D31, fun us ws h1 h2 => (match us, ws, h1, h2 with | [_, _, _], [], _, _ => rfl), rfl, by decide⟩
    · exact ⟨_, _, _, _, T__law_take, D0, fun us ws h1 h2 => (match us, ws, h1, h2 with | [_, _], [], _, _ => rfl), rfl, by decide⟩
    · exact ⟨_, _, _, _, T__law_urn, D33, fun us ws h1 h2 => (match us, ws, h1, h2 with | [_, _], [], _, _ => rfl), rfl, by decide⟩
    · exact ⟨_, _, _, _, T_arranged_at, D21, fun us ws h1 h2 => (match us, ws, h1, h2 with | [_, _, _], [], _, _ => rfl), rfl, by decide⟩
    · exact ⟨_, _, _, _, T_arrangement_at, D22, fun us ws h1 h2 => (match us, ws, h1, h2 with | [_, _, _], [], _, _ => rfl), rfl, by decide⟩
    · exact ⟨_, _, _, _, T_check_arranged, D12, fun us ws h1 h2 => (match us, ws, h1, h2 with | [_, _], [], _, _ => rfl), rfl, by decide⟩
    · exact ⟨_, _, _, _, T_check_length, D11, fun us ws h1 h2 => (match us, ws, h1, h2 with | [_], [], _, _ => rfl), rfl, by decide⟩
    · exact ⟨_, _, _, _, T_check_level, D13, fun us ws h1 h2 => (match us, ws, h1, h2 with | [_], [], _, _ => rfl), rfl, by decide⟩
    · exact ⟨_, _, _, _, T_check_leveled, D15, fun us ws h1 h2 => (match us, ws, h1, h2 with | [_, _, _], [], _, _ => rfl), rfl, by decide⟩
    · exact ⟨_, _, _, _, T_check_lights, D9, fun us ws h1 h2 => (match us, ws, h1, h2 with | [_], [], _, _ => rfl), rfl, by decide⟩
    · exact ⟨_, _, _, _, T_check_made, D14, fun us ws h1 h2 => (match us, ws, h1, h2 with | [_, _], [], _, _ => rfl), rfl, by decide⟩
    · exact ⟨_, _, _, _, T_check_number, D10, fun us ws h1 h2 => (match us, ws, h1, h2 with | [_, _, _], [], _, _ => rfl), rfl, by decide⟩
    · exact ⟨_, _, _, _, T_choices, D23, fun us ws h1 h2 => (match us, ws, h1, h2 with | [_, _], [], _, _ => rfl), rfl, by decide⟩
    · exact ⟨_, _, _, _, T_common_divisor, D24, fun us ws h1 h2 => (match us, ws, h1, h2 with | [_, _], [], _, _ => rfl), rfl, by decide⟩
    · exact ⟨_, _, _, _, T_fault_in, D5, fun us ws h1 h2 => (match us, ws, h1, h2 with | [_, _], [], _, _ => rfl), rfl, by decide⟩
    · exact ⟨_, _, _, _, T_first_wrong, D4, fun us ws h1 h2 => (match us, ws, h1, h2 with | [_, _], [], _, _ => rfl), rfl, by decide⟩
    · exact ⟨_, _, _, _, T_fraction, D25, fun us ws h1 h2 => (match us, ws, h1, h2 with | [_, _], [], _, _ => rfl), rfl, by decide⟩
    · exact ⟨_, _, _, _, T_greatest_arranged, D30, fun us ws h1 h2 => (match us, ws, h1, h2 with | [], [_, _], _, _ => rfl), rfl, by decide⟩
    · exact ⟨_, _, _, _, T_greatest_at, D17, fun us ws h1 h2 => (match us, ws, h1, h2 with | [_, _, _], [], _, _ => rfl), rfl, by decide⟩
    · exact ⟨_, _, _, _, T_greatest_current, D18, fun us ws h1 h2 => (match us, ws, h1, h2 with | [_, _, _], [], _, _ => rfl), rfl, by decide⟩
    · exact ⟨_, _, _, _, T_greatest_over, D29, fun us ws h1 h2 => (match us, ws, h1, h2 with | [_, _], [], _, _ => rfl), rfl, by decide⟩
    · exact ⟨_, _, _, _, T_is_light, D7, fun us ws h1 h2 => (match us, ws, h1, h2 with | [_], [], _, _ => rfl), rfl, by decide⟩
    · exact ⟨_, _, _, _, T_is_number, D6, fun us ws h1 h2 => (match us, ws, h1, h2 with | [_, _, _], [], _, _ => rfl), rfl, by decide⟩
    · exact ⟨_, _, _, _, T_least_at, D19, fun us ws h1 h2 => (match us, ws, h1, h2 with | [_, _, _], [], _, _ => rfl), rfl, by decide⟩
    · exact ⟨_, _, _, _, T_least_current, D20, fun us ws h1 h2 => (match us, ws, h1, h2 with | [], [_, _, _], _, _ => rfl), rfl, by decide⟩
    · exact ⟨_, _, _, _, T_mean_at, D26, fun us ws h1 h2 => (match us, ws, h1, h2 with | [_, _, _], [], _, _ => rfl), rfl, by decide⟩
    · exact ⟨_, _, _, _, T_mean_current, D27, fun us ws h1 h2 => (match us, ws, h1, h2 with | [], [_, _, _], _, _ => rfl), rfl, by decide⟩
    · exact ⟨_, _, _, _, T_mean_currents, D28, fun us ws h1 h2 => (match us, ws, h1, h2 with | [_, _], [], _, _ => rfl), rfl, by decide⟩
    · exact ⟨_, _, _, _, T_strings_made, D16, fun us ws h1 h2 => (match us, ws, h1, h2 with | [_, _], [], _, _ => rfl), rfl, by decide⟩
  · intro x hx
    simp only [sg, List.mem_cons, List.not_mem_nil, or_false] at hx
    rcases hx with rfl | rfl | rfl
    · refine ⟨xc0, PySem.W.mg_of X G xg0, ?_⟩
      rw [at_InvalidLights]
      exact .inr ⟨by decide, PySem.Challenge.pw_shadestrings_k69_arrangements_refused.main.file, errB_ok xe0, ⟨beq_self_eq_true _, by decide +kernel⟩⟩
    · refine ⟨xc1, PySem.W.mg_of X G xg1, ?_⟩
      rw [at_InvalidNumber]
      exact .inr ⟨by decide, PySem.Challenge.pw_shadestrings_k69_arrangements_refused.main.file, errB_ok xe1, ⟨beq_self_eq_true _, by decide +kernel⟩⟩
    · refine ⟨xc2, PySem.W.mg_of X G xg2, ?_⟩
      rw [at_OutOfRange]
      exact .inr ⟨by decide, PySem.Challenge.pw_shadestrings_k69_arrangements_refused.main.file, errB_ok xe2, ⟨beq_self_eq_true _, by decide +kernel⟩⟩
  · intro h t base hm
    simp only [sg, List.mem_cons, List.not_mem_nil, or_false, Prod.mk.injEq] at hm
    rcases hm with ⟨rfl, rfl⟩
    · rw [ht__law_heard]
      refine hear_by [xc1, xc2, xc0] (PySem.W.mg_of X G a35) k35 l35 c35 (.all fun us hl => match us, hl with | [_], _ => rfl) sc__law_heard hn__law_heard hb__law_heard (PySem.W.mg_none_of X G z6) (PySem.W.mg_of X G xg3) (by decide) (by decide) (by decide) fun j n hj => ?_
      match j, hj with
      | 0, hj => cases hj; exact ⟨xc1, rfl, PySem.W.mg_of X G xg1, by rw [at_InvalidNumber]; exact xh0_0, fun _ => at_InvalidNumber, fun z => absurd z (by decide)⟩
      | 1, hj => cases hj; exact ⟨xc2, rfl, PySem.W.mg_of X G xg2, by rw [at_OutOfRange]; exact xh0_1, fun _ => at_OutOfRange, fun z => absurd z (by decide)⟩
      | 2, hj => cases hj; exact ⟨xc0, rfl, PySem.W.mg_of X G xg0, by rw [at_InvalidLights]; exact xh0_2, fun z => absurd z (by decide), fun _ _ => at_InvalidLights⟩
      | j + 3, hj => simp at hj
end K69

end

section
set_option linter.all false
set_option maxRecDepth 100000
set_option maxHeartbeats 4000000
namespace K69
open SS PySem
theorem c_take {k : Nat} (hk : 1 ≤ k) {S : Cells} {c : Nat} {top : Int} (h : Pail S c) (h1 : 0 < top) (h2 : top < 1000) : ∃ v S', callF T k "_law_take" [.cell c, .d (.int top)] S = .ok (.d (.int v)) S' ∧ 0 ≤ v ∧ v < top ∧ Pail S' c ∧ S'.length = S.length := by
  obtain ⟨j, rfl⟩ : ∃ j, k = j + 1 := ⟨k - 1, by omega⟩
  rw [callF_at T__law_take, runFn_eq rfl]
  obtain ⟨a, b, n, hS, ha, hb, hn⟩ := h
  have hl := at_lt hS
  have g0 : ∀ x, (S.set c x)[c]? = some x := fun x => List.getElem?_set_self hl
  have t3 : top < 1073741824 := by omega
  have p1 : ∀ x : Int, 0 ≤ x % top := fun x => Int.emod_nonneg _ (by omega)
  have p2 : ∀ x : Int, x % top < top := fun x => Int.emod_lt_of_pos _ h1
  by_cases h0 : 0 < a
  · simp only [ir__law_take, SS.ite_iff, SS.r_gV, SS.r_gP, SS.r_lit, SS.r_glob, SS.r_fnv, SS.r_var, SS.r_peek, SS.r_okD, SS.r_okV, SS.r_tup, SS.r_kTup, SS.r_kTupD, SS.r_lst, SS.r_kLst, SS.r_kLstD, SS.r_newc, SS.r_kNewc, SS.r_bin, SS.r_kBin1, SS.r_kBin2, SS.r_binE, SS.r_kb1, SS.r_kb2, SS.r_kb3s, SS.r_kb3n, SS.d_add, SS.d_addT, SS.d_addL, SS.n_addL, SS.d_sub, SS.d_mul, SS.d_mulL, SS.n_mulL, SS.d_mod, SS.d_fdiv, SS.d_pow, SS.r_neg, SS.r_kNeg, SS.r_kNeg2, SS.r_not, SS.r_kNot, SS.r_kNot2, SS.r_okB, SS.r_cmp, SS.r_kCmp1, SS.r_kCmp2, SS.r_cmpE, SS.r_kc1, SS.c_lt, SS.c_le, SS.c_gt, SS.c_ge, SS.c_eq, SS.c_ne, SS.e_str, SS.r_chn, SS.r_kCh1, SS.r_kCh2, SS.r_kCh2b, SS.r_kCh3, SS.r_and, SS.r_kAnd, SS.r_kAnd2, SS.r_or, SS.r_kOr, SS.r_kOr2, SS.r_ite, SS.r_kIte, SS.r_kIte2, SS.r_ix, SS.r_kIx1, SS.r_kIx2, SS.r_kIx3, SS.x_l, SS.x_t, SS.x_n, SS.x_p, SS.x_c, SS.x_s, SS.r_sl, SS.r_kSl1, SS.r_kSl2, SS.r_kSl3, SS.s_l, SS.s_t, SS.s_n, SS.s_p, SS.s_s, SS.r_oN, SS.r_oS, SS.r_kO, SS.r_okO, SS.r_rev, SS.r_kRev, SS.r_kRev2, SS.r_revL, SS.r_revT, SS.r_listD, SS.r_itemsL, SS.r_itemsT, SS.r_call, SS.r_kCall1, SS.r_kCall2, SS.r_kCall3, SS.m_n, SS.m_c, SS.r_kmh, SS.t_n, SS.t_c, SS.r_kms, SS.r_esN, SS.r_esC, SS.r_kEs1, SS.r_kEs2, SS.r_callv, SS.r_gF, SS.r_kCv1, SS.r_kCv2, SS.r_b1, SS.r_kB1, SS.b_d, SS.b_n, SS.b_p, SS.b_s, SS.r_kbbS, SS.r_kbbN, SS.u_lenL, SS.u_lenT, SS.u_int, SS.u_intB, SS.u_abs, SS.u_sumL, SS.u_sumT, SS.u_maxL, SS.u_minL, SS.u_maxT, SS.u_minT, SS.u_tupL, SS.u_tupT, SS.u_all, SS.u_reprL, SS.u_reprT, SS.u_listL, SS.u_listT, SS.v_listL, SS.v_listT, SS.u_sorted, SS.v_sorted, SS.v_srtL, SS.v_srtLn, SS.r_b2, SS.r_kB2a, SS.r_kB2b, SS.r_kB2c, SS.w_max, SS.w_min, SS.w_divmod, SS.r_isi, SS.r_kIsi, SS.r_kIsi2, SS.r_comp, SS.r_kComp, SS.r_kComp2, SS.r_fComp, SS.r_kC1, SS.r_kC2, SS.r_kC3, SS.r_kC4, SS.r_cN, SS.r_cS, SS.r_kCn, SS.r_okBo, SS.p_nm, SS.p_tup, SS.p_nil, SS.p_cons, SS.r_kbp, SS.r_sset, SS.r_kSset, SS.r_kSset2t, SS.r_kSset2f, SS.r_uqD, SS.r_srtK, SS.r_kSk, SS.r_kSk2, SS.r_fKey, SS.r_srtR, SS.r_kSrt, SS.r_kSrt2, SS.r_srtRDl, SS.r_srtRDt, SS.r_srtLR, SS.r_srtLRn, SS.r_srtTR, SS.d_mulT, SS.c_ltT, SS.c_gtT, SS.c_leT, SS.c_geT, SS.r_m1, SS.r_kM1, SS.r_kM2, SS.r_kM3, SS.r_kM4, SS.r_kM5, SS.r_rgl, SS.r_kRglT, SS.r_kRglF, SS.u_sortedT, SS.v_sortedT, SS.r_okL, SS.r_it, SS.r_kSrcIt, SS.r_rng1, SS.r_kR1, SS.r_kR1b, SS.r_rng2, SS.r_kR2, SS.r_kR2b, SS.r_kR2b', SS.r_kR2c, SS.r_rngd, SS.r_kRd2, SS.r_kRd2b, SS.r_kRd2b', SS.r_kRd2c, SS.r_enum, SS.r_kEn, SS.r_kEn2, SS.r_zip, SS.r_kZ1, SS.r_kZ2, SS.r_kZ3, SS.z_l, SS.z_t, SS.q_t, SS.q_f, SS.x_set, SS.r_kSet, SS.r_kSet2, SS.x_own, SS.r_kOwn, SS.r_okN, SS.x_par, SS.r_kPar, SS.y_n, SS.y_t, SS.y_f, SS.r_kps, SS.x_expr, SS.r_kExpr, SS.x_popA, SS.r_gPopA, SS.r_kPop2, SS.r_kPop3, SS.r_kPop4, SS.x_app, SS.r_gApp, SS.r_kApp2, SS.r_kApp3, SS.x_ext, SS.r_gExt, SS.r_kExt2, SS.r_kExt3, SS.x_ret, SS.r_kRet, SS.v_d, SS.v_n, SS.v_p, SS.v_c, SS.x_retN, SS.x_raise, SS.r_kRaise, SS.r_kRaiseN, SS.x_raise0, SS.r_hear, SS.x_pass, SS.x_never, SS.x_ite, SS.r_kIf, SS.r_kIf2, SS.x_for, SS.r_kFor, SS.r_fBody, SS.r_kBody, SS.r_kCond, SS.x_whil, SS.x_frz, SS.r_gFrz, SS.x_nil, SS.x_cons, SS.r_kSeq, SS.b_nm, SS.b_tup, SS.r_kSub3, SS.b_sub, SS.r_kSub1, SS.r_kSub2, SS.b_osub, SS.r_gOs, SS.r_kOs2, SS.r_kOs3, SS.b_nil, SS.b_cons, SS.r_kBts, SS.l_n, SS.l_c, SS.st_eq, SS.r_isN, SS.r_isI, SS.r_isnN, SS.r_isnI, SS.r_isT, SS.r_isnT, Res.bind_ok, Res.bind_bad, st_ok, st_bad, lft_some, lft_none, sft_some, sft_none, thn_nx, thn_ret, thn_bad, held_d, held_nw, held_cell, held_fn, held_scr, strict_d, strict_nw, asD_d, asD_nw, asD_pk, dInt_d, dBool_d, Res.bind_exc, st_exc, thn_exc, ret_exc, ret_nx, ret_ret, ret_bad, Option.bind_some, Option.map_some, ite_true, ite_false, if_true, if_false, Bool.false_eq_true, decide_eq_true_eq, List.map_cons, List.map_nil, List.length_cons, List.length_nil, List.replicate_succ, List.replicate_zero, List.cons_append, List.nil_append, List.getElem?_cons_zero, List.getElem?_cons_succ, List.set_cons_zero, List.set_cons_succ, List.getD_cons_zero, List.getD_cons_succ, Nat.reduceAdd, Nat.reduceSub, Nat.reduceLeDiff, Int.reduceNeg, Int.reduceLT, Int.reduceLE, if_pos, Nat.reducePow, Int.natAbs_cast, Int.reduceAbs, Int.reduceToNat, Int.reduceNeg, at0, at1, at2, at3, at4, at5, SS.abs_mod, SS.lim_eq, Int.reduceAdd, Int.reduceSub, Int.sub_zero, range_length, Nat.reduceLT, or_true, true_or, and_self, and_true, true_and, Nat.zero_add, Nat.reduceEqDiff, hk_ok__law_heard, hk_0__law_heard, hk_1__law_heard, hk_2__law_heard, hS, g0, h0, h1, t3, set3_0 hS]
    exact ⟨_, _, rfl, p1 _, p2 _, .set hl (Int.ediv_nonneg ha (by omega)) hb hn, by rw [List.length_set]⟩
  · simp only [ir__law_take, SS.ite_iff, SS.r_gV, SS.r_gP, SS.r_lit, SS.r_glob, SS.r_fnv, SS.r_var, SS.r_peek, SS.r_okD, SS.r_okV, SS.r_tup, SS.r_kTup, SS.r_kTupD, SS.r_lst, SS.r_kLst, SS.r_kLstD, SS.r_newc, SS.r_kNewc, SS.r_bin, SS.r_kBin1, SS.r_kBin2, SS.r_binE, SS.r_kb1, SS.r_kb2, SS.r_kb3s, SS.r_kb3n, SS.d_add, SS.d_addT, SS.d_addL, SS.n_addL, SS.d_sub, SS.d_mul, SS.d_mulL, SS.n_mulL, SS.d_mod, SS.d_fdiv, SS.d_pow, SS.r_neg, SS.r_kNeg, SS.r_kNeg2, SS.r_not, SS.r_kNot, SS.r_kNot2, SS.r_okB, SS.r_cmp, SS.r_kCmp1, SS.r_kCmp2, SS.r_cmpE, SS.r_kc1, SS.c_lt, SS.c_le, SS.c_gt, SS.c_ge, SS.c_eq, SS.c_ne, SS.e_str, SS.r_chn, SS.r_kCh1, SS.r_kCh2, SS.r_kCh2b, SS.r_kCh3, SS.r_and, SS.r_kAnd, SS.r_kAnd2, SS.r_or, SS.r_kOr, SS.r_kOr2, SS.r_ite, SS.r_kIte, SS.r_kIte2, SS.r_ix, SS.r_kIx1, SS.r_kIx2, SS.r_kIx3, SS.x_l, SS.x_t, SS.x_n, SS.x_p, SS.x_c, SS.x_s, SS.r_sl, SS.r_kSl1, SS.r_kSl2, SS.r_kSl3, SS.s_l, SS.s_t, SS.s_n, SS.s_p, SS.s_s, SS.r_oN, SS.r_oS, SS.r_kO, SS.r_okO, SS.r_rev, SS.r_kRev, SS.r_kRev2, SS.r_revL, SS.r_revT, SS.r_listD, SS.r_itemsL, SS.r_itemsT, SS.r_call, SS.r_kCall1, SS.r_kCall2, SS.r_kCall3, SS.m_n, SS.m_c, SS.r_kmh, SS.t_n, SS.t_c, SS.r_kms, SS.r_esN, SS.r_esC, SS.r_kEs1, SS.r_kEs2, SS.r_callv, SS.r_gF, SS.r_kCv1, SS.r_kCv2, SS.r_b1, SS.r_kB1, SS.b_d, SS.b_n, SS.b_p, SS.b_s, SS.r_kbbS, SS.r_kbbN, SS.u_lenL, SS.u_lenT, SS.u_int, SS.u_intB, SS.u_abs, SS.u_sumL, SS.u_sumT, SS.u_maxL, SS.u_minL, SS.u_maxT, SS.u_minT, SS.u_tupL, SS.u_tupT, SS.u_all, SS.u_reprL, SS.u_reprT, SS.u_listL, SS.u_listT, SS.v_listL, SS.v_listT, SS.u_sorted, SS.v_sorted, SS.v_srtL, SS.v_srtLn, SS.r_b2, SS.r_kB2a, SS.r_kB2b, SS.r_kB2c, SS.w_max, SS.w_min, SS.w_divmod, SS.r_isi, SS.r_kIsi, SS.r_kIsi2, SS.r_comp, SS.r_kComp, SS.r_kComp2, SS.r_fComp, SS.r_kC1, SS.r_kC2, SS.r_kC3, SS.r_kC4, SS.r_cN, SS.r_cS, SS.r_kCn, SS.r_okBo, SS.p_nm, SS.p_tup, SS.p_nil, SS.p_cons, SS.r_kbp, SS.r_sset, SS.r_kSset, SS.r_kSset2t, SS.r_kSset2f, SS.r_uqD, SS.r_srtK, SS.r_kSk, SS.r_kSk2, SS.r_fKey, SS.r_srtR, SS.r_kSrt, SS.r_kSrt2, SS.r_srtRDl, SS.r_srtRDt, SS.r_srtLR, SS.r_srtLRn, SS.r_srtTR, SS.d_mulT, SS.c_ltT, SS.c_gtT, SS.c_leT, SS.c_geT, SS.r_m1, SS.r_kM1, SS.r_kM2, SS.r_kM3, SS.r_kM4, SS.r_kM5, SS.r_rgl, SS.r_kRglT, SS.r_kRglF, SS.u_sortedT, SS.v_sortedT, SS.r_okL, SS.r_it, SS.r_kSrcIt, SS.r_rng1, SS.r_kR1, SS.r_kR1b, SS.r_rng2, SS.r_kR2, SS.r_kR2b, SS.r_kR2b', SS.r_kR2c, SS.r_rngd, SS.r_kRd2, SS.r_kRd2b, SS.r_kRd2b', SS.r_kRd2c, SS.r_enum, SS.r_kEn, SS.r_kEn2, SS.r_zip, SS.r_kZ1, SS.r_kZ2, SS.r_kZ3, SS.z_l, SS.z_t, SS.q_t, SS.q_f, SS.x_set, SS.r_kSet, SS.r_kSet2, SS.x_own, SS.r_kOwn, SS.r_okN, SS.x_par, SS.r_kPar, SS.y_n, SS.y_t, SS.y_f, SS.r_kps, SS.x_expr, SS.r_kExpr, SS.x_popA, SS.r_gPopA, SS.r_kPop2, SS.r_kPop3, SS.r_kPop4, SS.x_app, SS.r_gApp, SS.r_kApp2, SS.r_kApp3, SS.x_ext, SS.r_gExt, SS.r_kExt2, SS.r_kExt3, SS.x_ret, SS.r_kRet, SS.v_d, SS.v_n, SS.v_p, SS.v_c, SS.x_retN, SS.x_raise, SS.r_kRaise, SS.r_kRaiseN, SS.x_raise0, SS.r_hear, SS.x_pass, SS.x_never, SS.x_ite, SS.r_kIf, SS.r_kIf2, SS.x_for, SS.r_kFor, SS.r_fBody, SS.r_kBody, SS.r_kCond, SS.x_whil, SS.x_frz, SS.r_gFrz, SS.x_nil, SS.x_cons, SS.r_kSeq, SS.b_nm, SS.b_tup, SS.r_kSub3, SS.b_sub, SS.r_kSub1, SS.r_kSub2, SS.b_osub, SS.r_gOs, SS.r_kOs2, SS.r_kOs3, SS.b_nil, SS.b_cons, SS.r_kBts, SS.l_n, SS.l_c, SS.st_eq, SS.r_isN, SS.r_isI, SS.r_isnN, SS.r_isnI, SS.r_isT, SS.r_isnT, Res.bind_ok, Res.bind_bad, st_ok, st_bad, lft_some, lft_none, sft_some, sft_none, thn_nx, thn_ret, thn_bad, held_d, held_nw, held_cell, held_fn, held_scr, strict_d, strict_nw, asD_d, asD_nw, asD_pk, dInt_d, dBool_d, Res.bind_exc, st_exc, thn_exc, ret_exc, ret_nx, ret_ret, ret_bad, Option.bind_some, Option.map_some, ite_true, ite_false, if_true, if_false, Bool.false_eq_true, decide_eq_true_eq, List.map_cons, List.map_nil, List.length_cons, List.length_nil, List.replicate_succ, List.replicate_zero, List.cons_append, List.nil_append, List.getElem?_cons_zero, List.getElem?_cons_succ, List.set_cons_zero, List.set_cons_succ, List.getD_cons_zero, List.getD_cons_succ, Nat.reduceAdd, Nat.reduceSub, Nat.reduceLeDiff, Int.reduceNeg, Int.reduceLT, Int.reduceLE, if_pos, Nat.reducePow, Int.natAbs_cast, Int.reduceAbs, Int.reduceToNat, Int.reduceNeg, at0, at1, at2, at3, at4, at5, SS.abs_mod, SS.lim_eq, Int.reduceAdd, Int.reduceSub, Int.sub_zero, range_length, Nat.reduceLT, or_true, true_or, and_self, and_true, true_and, Nat.zero_add, Nat.reduceEqDiff, hk_ok__law_heard, hk_0__law_heard, hk_1__law_heard, hk_2__law_heard, hS, g0, h0, h1, set3_2 hS, set3_1 (g0 _), List.set_set]
    exact ⟨_, _, rfl, p1 _, p2 _, .set hl ha (Int.emod_nonneg _ (by omega)) (by omega), by rw [List.length_set]⟩
theorem c_of {k : Nat} (hk : 2 ≤ k) {S : Cells} {c : Nat} {xs : List D} (h : Pail S c) (h1 : 0 < xs.length) (h2 : xs.length < 1000) : ∃ v S', callF T k "_law_of" [.cell c, .d (.list xs)] S = .ok (.d v) S' ∧ v ∈ xs ∧ Pail S' c ∧ S'.length = S.length := by
  obtain ⟨j, rfl⟩ : ∃ j, k = j + 1 := ⟨k - 1, by omega⟩
  rw [callF_at T__law_of, runFn_eq rfl]
  obtain ⟨v, S', e, v1, v2, p, l⟩ := c_take (k := j) (by omega) h (top := xs.length) (by omega) (by omega)
  obtain ⟨i, rfl⟩ : ∃ i : Nat, v = i := ⟨v.toNat, by omega⟩
  have hi : i < xs.length := by omega
  simp only [ir__law_of, SS.ite_iff, SS.r_gV, SS.r_gP, SS.r_lit, SS.r_glob, SS.r_fnv, SS.r_var, SS.r_peek, SS.r_okD, SS.r_okV, SS.r_tup, SS.r_kTup, SS.r_kTupD, SS.r_lst, SS.r_kLst, SS.r_kLstD, SS.r_newc, SS.r_kNewc, SS.r_bin, SS.r_kBin1, SS.r_kBin2, SS.r_binE, SS.r_kb1, SS.r_kb2, SS.r_kb3s, SS.r_kb3n, SS.d_add, SS.d_addT, SS.d_addL, SS.n_addL, SS.d_sub, SS.d_mul, SS.d_mulL, SS.n_mulL, SS.d_mod, SS.d_fdiv, SS.d_pow, SS.r_neg, SS.r_kNeg, SS.r_kNeg2, SS.r_not, SS.r_kNot, SS.r_kNot2, SS.r_okB, SS.r_cmp, SS.r_kCmp1, SS.r_kCmp2, SS.r_cmpE, SS.r_kc1, SS.c_lt, SS.c_le, SS.c_gt, SS.c_ge, SS.c_eq, SS.c_ne, SS.e_str, SS.r_chn, SS.r_kCh1, SS.r_kCh2, SS.r_kCh2b, SS.r_kCh3, SS.r_and, SS.r_kAnd, SS.r_kAnd2, SS.r_or, SS.r_kOr, SS.r_kOr2, SS.r_ite, SS.r_kIte, SS.r_kIte2, SS.r_ix, SS.r_kIx1, SS.r_kIx2, SS.r_kIx3, SS.x_l, SS.x_t, SS.x_n, SS.x_p, SS.x_c, SS.x_s, SS.r_sl, SS.r_kSl1, SS.r_kSl2, SS.r_kSl3, SS.s_l, SS.s_t, SS.s_n, SS.s_p, SS.s_s, SS.r_oN, SS.r_oS, SS.r_kO, SS.r_okO, SS.r_rev, SS.r_kRev, SS.r_kRev2, SS.r_revL, SS.r_revT, SS.r_listD, SS.r_itemsL, SS.r_itemsT, SS.r_call, SS.r_kCall1, SS.r_kCall2, SS.r_kCall3, SS.m_n, SS.m_c, SS.r_kmh, SS.t_n, SS.t_c, SS.r_kms, SS.r_esN, SS.r_esC, SS.r_kEs1, SS.r_kEs2, SS.r_callv, SS.r_gF, SS.r_kCv1, SS.r_kCv2, SS.r_b1, SS.r_kB1, SS.b_d, SS.b_n, SS.b_p, SS.b_s, SS.r_kbbS, SS.r_kbbN, SS.u_lenL, SS.u_lenT, SS.u_int, SS.u_intB, SS.u_abs, SS.u_sumL, SS.u_sumT, SS.u_maxL, SS.u_minL, SS.u_maxT, SS.u_minT, SS.u_tupL, SS.u_tupT, SS.u_all, SS.u_reprL, SS.u_reprT, SS.u_listL, SS.u_listT, SS.v_listL, SS.v_listT, SS.u_sorted, SS.v_sorted, SS.v_srtL, SS.v_srtLn, SS.r_b2, SS.r_kB2a, SS.r_kB2b, SS.r_kB2c, SS.w_max, SS.w_min, SS.w_divmod, SS.r_isi, SS.r_kIsi, SS.r_kIsi2, SS.r_comp, SS.r_kComp, SS.r_kComp2, SS.r_fComp, SS.r_kC1, SS.r_kC2, SS.r_kC3, SS.r_kC4, SS.r_cN, SS.r_cS, SS.r_kCn, SS.r_okBo, SS.p_nm, SS.p_tup, SS.p_nil, SS.p_cons, SS.r_kbp, SS.r_sset, SS.r_kSset, SS.r_kSset2t, SS.r_kSset2f, SS.r_uqD, SS.r_srtK, SS.r_kSk, SS.r_kSk2, SS.r_fKey, SS.r_srtR, SS.r_kSrt, SS.r_kSrt2, SS.r_srtRDl, SS.r_srtRDt, SS.r_srtLR, SS.r_srtLRn, SS.r_srtTR, SS.d_mulT, SS.c_ltT, SS.c_gtT, SS.c_leT, SS.c_geT, SS.r_m1, SS.r_kM1, SS.r_kM2, SS.r_kM3, SS.r_kM4, SS.r_kM5, SS.r_rgl, SS.r_kRglT, SS.r_kRglF, SS.u_sortedT, SS.v_sortedT, SS.r_okL, SS.r_it, SS.r_kSrcIt, SS.r_rng1, SS.r_kR1, SS.r_kR1b, SS.r_rng2, SS.r_kR2, SS.r_kR2b, SS.r_kR2b', SS.r_kR2c, SS.r_rngd, SS.r_kRd2, SS.r_kRd2b, SS.r_kRd2b', SS.r_kRd2c, SS.r_enum, SS.r_kEn, SS.r_kEn2, SS.r_zip, SS.r_kZ1, SS.r_kZ2, SS.r_kZ3, SS.z_l, SS.z_t, SS.q_t, SS.q_f, SS.x_set, SS.r_kSet, SS.r_kSet2, SS.x_own, SS.r_kOwn, SS.r_okN, SS.x_par, SS.r_kPar, SS.y_n, SS.y_t, SS.y_f, SS.r_kps, SS.x_expr, SS.r_kExpr, SS.x_popA, SS.r_gPopA, SS.r_kPop2, SS.r_kPop3, SS.r_kPop4, SS.x_app, SS.r_gApp, SS.r_kApp2, SS.r_kApp3, SS.x_ext, SS.r_gExt, SS.r_kExt2, SS.r_kExt3, SS.x_ret, SS.r_kRet, SS.v_d, SS.v_n, SS.v_p, SS.v_c, SS.x_retN, SS.x_raise, SS.r_kRaise, SS.r_kRaiseN, SS.x_raise0, SS.r_hear, SS.x_pass, SS.x_never, SS.x_ite, SS.r_kIf, SS.r_kIf2, SS.x_for, SS.r_kFor, SS.r_fBody, SS.r_kBody, SS.r_kCond, SS.x_whil, SS.x_frz, SS.r_gFrz, SS.x_nil, SS.x_cons, SS.r_kSeq, SS.b_nm, SS.b_tup, SS.r_kSub3, SS.b_sub, SS.r_kSub1, SS.r_kSub2, SS.b_osub, SS.r_gOs, SS.r_kOs2, SS.r_kOs3, SS.b_nil, SS.b_cons, SS.r_kBts, SS.l_n, SS.l_c, SS.st_eq, SS.r_isN, SS.r_isI, SS.r_isnN, SS.r_isnI, SS.r_isT, SS.r_isnT, Res.bind_ok, Res.bind_bad, st_ok, st_bad, lft_some, lft_none, sft_some, sft_none, thn_nx, thn_ret, thn_bad, held_d, held_nw, held_cell, held_fn, held_scr, strict_d, strict_nw, asD_d, asD_nw, asD_pk, dInt_d, dBool_d, Res.bind_exc, st_exc, thn_exc, ret_exc, ret_nx, ret_ret, ret_bad, Option.bind_some, Option.map_some, ite_true, ite_false, if_true, if_false, Bool.false_eq_true, decide_eq_true_eq, List.map_cons, List.map_nil, List.length_cons, List.length_nil, List.replicate_succ, List.replicate_zero, List.cons_append, List.nil_append, List.getElem?_cons_zero, List.getElem?_cons_succ, List.set_cons_zero, List.set_cons_succ, List.getD_cons_zero, List.getD_cons_succ, Nat.reduceAdd, Nat.reduceSub, Nat.reduceLeDiff, Int.reduceNeg, Int.reduceLT, Int.reduceLE, if_pos, Nat.reducePow, Int.natAbs_cast, Int.reduceAbs, Int.reduceToNat, Int.reduceNeg, at0, at1, at2, at3, at4, at5, SS.abs_mod, SS.lim_eq, Int.reduceAdd, Int.reduceSub, Int.sub_zero, range_length, Nat.reduceLT, or_true, true_or, and_self, and_true, true_and, Nat.zero_add, Nat.reduceEqDiff, hk_ok__law_heard, hk_0__law_heard, hk_1__law_heard, hk_2__law_heard, e, at_nat, List.getElem?_eq_getElem hi]
  exact ⟨_, _, rfl, List.getElem_mem hi, p, l⟩
theorem c_urn {k : Nat} (hk : 1 ≤ k) {S : Cells} {ns : List Int} {t : Int} (h0 : 0 ≤ t) (ht : t < 1000) (hn : ns.length ≤ 63) : ∃ S', callF T k "_law_urn" [.scr ns, .d (.int t)] S = .ok (.cell S.length) S' ∧ Pail S' S.length ∧ S'.length = S.length + 1 := by
  obtain ⟨j, rfl⟩ : ∃ j, k = j + 1 := ⟨k - 1, by omega⟩
  rw [callF_at T__law_urn, runFn_eq rfl]
  obtain ⟨ms, hms⟩ := cut_map ns none (some 9)
  simp only [ir__law_urn, SS.ite_iff, SS.r_gV, SS.r_gP, SS.r_lit, SS.r_glob, SS.r_fnv, SS.r_var, SS.r_peek, SS.r_okD, SS.r_okV, SS.r_tup, SS.r_kTup, SS.r_kTupD, SS.r_lst, SS.r_kLst, SS.r_kLstD, SS.r_newc, SS.r_kNewc, SS.r_bin, SS.r_kBin1, SS.r_kBin2, SS.r_binE, SS.r_kb1, SS.r_kb2, SS.r_kb3s, SS.r_kb3n, SS.d_add, SS.d_addT, SS.d_addL, SS.n_addL, SS.d_sub, SS.d_mul, SS.d_mulL, SS.n_mulL, SS.d_mod, SS.d_fdiv, SS.d_pow, SS.r_neg, SS.r_kNeg, SS.r_kNeg2, SS.r_not, SS.r_kNot, SS.r_kNot2, SS.r_okB, SS.r_cmp, SS.r_kCmp1, SS.r_kCmp2, SS.r_cmpE, SS.r_kc1, SS.c_lt, SS.c_le, SS.c_gt, SS.c_ge, SS.c_eq, SS.c_ne, SS.e_str, SS.r_chn, SS.r_kCh1, SS.r_kCh2, SS.r_kCh2b, SS.r_kCh3, SS.r_and, SS.r_kAnd, SS.r_kAnd2, SS.r_or, SS.r_kOr, SS.r_kOr2, SS.r_ite, SS.r_kIte, SS.r_kIte2, SS.r_ix, SS.r_kIx1, SS.r_kIx2, SS.r_kIx3, SS.x_l, SS.x_t, SS.x_n, SS.x_p, SS.x_c, SS.x_s, SS.r_sl, SS.r_kSl1, SS.r_kSl2, SS.r_kSl3, SS.s_l, SS.s_t, SS.s_n, SS.s_p, SS.s_s, SS.r_oN, SS.r_oS, SS.r_kO, SS.r_okO, SS.r_rev, SS.r_kRev, SS.r_kRev2, SS.r_revL, SS.r_revT, SS.r_listD, SS.r_itemsL, SS.r_itemsT, SS.r_call, SS.r_kCall1, SS.r_kCall2, SS.r_kCall3, SS.m_n, SS.m_c, SS.r_kmh, SS.t_n, SS.t_c, SS.r_kms, SS.r_esN, SS.r_esC, SS.r_kEs1, SS.r_kEs2, SS.r_callv, SS.r_gF, SS.r_kCv1, SS.r_kCv2, SS.r_b1, SS.r_kB1, SS.b_d, SS.b_n, SS.b_p, SS.b_s, SS.r_kbbS, SS.r_kbbN, SS.u_lenL, SS.u_lenT, SS.u_int, SS.u_intB, SS.u_abs, SS.u_sumL, SS.u_sumT, SS.u_maxL, SS.u_minL, SS.u_maxT, SS.u_minT, SS.u_tupL, SS.u_tupT, SS.u_all, SS.u_reprL, SS.u_reprT, SS.u_listL, SS.u_listT, SS.v_listL, SS.v_listT, SS.u_sorted, SS.v_sorted, SS.v_srtL, SS.v_srtLn, SS.r_b2, SS.r_kB2a, SS.r_kB2b, SS.r_kB2c, SS.w_max, SS.w_min, SS.w_divmod, SS.r_isi, SS.r_kIsi, SS.r_kIsi2, SS.r_comp, SS.r_kComp, SS.r_kComp2, SS.r_fComp, SS.r_kC1, SS.r_kC2, SS.r_kC3, SS.r_kC4, SS.r_cN, SS.r_cS, SS.r_kCn, SS.r_okBo, SS.p_nm, SS.p_tup, SS.p_nil, SS.p_cons, SS.r_kbp, SS.r_sset, SS.r_kSset, SS.r_kSset2t, SS.r_kSset2f, SS.r_uqD, SS.r_srtK, SS.r_kSk, SS.r_kSk2, SS.r_fKey, SS.r_srtR, SS.r_kSrt, SS.r_kSrt2, SS.r_srtRDl, SS.r_srtRDt, SS.r_srtLR, SS.r_srtLRn, SS.r_srtTR, SS.d_mulT, SS.c_ltT, SS.c_gtT, SS.c_leT, SS.c_geT, SS.r_m1, SS.r_kM1, SS.r_kM2, SS.r_kM3, SS.r_kM4, SS.r_kM5, SS.r_rgl, SS.r_kRglT, SS.r_kRglF, SS.u_sortedT, SS.v_sortedT, SS.r_okL, SS.r_it, SS.r_kSrcIt, SS.r_rng1, SS.r_kR1, SS.r_kR1b, SS.r_rng2, SS.r_kR2, SS.r_kR2b, SS.r_kR2b', SS.r_kR2c, SS.r_rngd, SS.r_kRd2, SS.r_kRd2b, SS.r_kRd2b', SS.r_kRd2c, SS.r_enum, SS.r_kEn, SS.r_kEn2, SS.r_zip, SS.r_kZ1, SS.r_kZ2, SS.r_kZ3, SS.z_l, SS.z_t, SS.q_t, SS.q_f, SS.x_set, SS.r_kSet, SS.r_kSet2, SS.x_own, SS.r_kOwn, SS.r_okN, SS.x_par, SS.r_kPar, SS.y_n, SS.y_t, SS.y_f, SS.r_kps, SS.x_expr, SS.r_kExpr, SS.x_popA, SS.r_gPopA, SS.r_kPop2, SS.r_kPop3, SS.r_kPop4, SS.x_app, SS.r_gApp, SS.r_kApp2, SS.r_kApp3, SS.x_ext, SS.r_gExt, SS.r_kExt2, SS.r_kExt3, SS.x_ret, SS.r_kRet, SS.v_d, SS.v_n, SS.v_p, SS.v_c, SS.x_retN, SS.x_raise, SS.r_kRaise, SS.r_kRaiseN, SS.x_raise0, SS.r_hear, SS.x_pass, SS.x_never, SS.x_ite, SS.r_kIf, SS.r_kIf2, SS.x_for, SS.r_kFor, SS.r_fBody, SS.r_kBody, SS.r_kCond, SS.x_whil, SS.x_frz, SS.r_gFrz, SS.x_nil, SS.x_cons, SS.r_kSeq, SS.b_nm, SS.b_tup, SS.r_kSub3, SS.b_sub, SS.r_kSub1, SS.r_kSub2, SS.b_osub, SS.r_gOs, SS.r_kOs2, SS.r_kOs3, SS.b_nil, SS.b_cons, SS.r_kBts, SS.l_n, SS.l_c, SS.st_eq, SS.r_isN, SS.r_isI, SS.r_isnN, SS.r_isnI, SS.r_isT, SS.r_isnT, Res.bind_ok, Res.bind_bad, st_ok, st_bad, lft_some, lft_none, sft_some, sft_none, thn_nx, thn_ret, thn_bad, held_d, held_nw, held_cell, held_fn, held_scr, strict_d, strict_nw, asD_d, asD_nw, asD_pk, dInt_d, dBool_d, Res.bind_exc, st_exc, thn_exc, ret_exc, ret_nx, ret_ret, ret_bad, Option.bind_some, Option.map_some, ite_true, ite_false, if_true, if_false, Bool.false_eq_true, decide_eq_true_eq, List.map_cons, List.map_nil, List.length_cons, List.length_nil, List.replicate_succ, List.replicate_zero, List.cons_append, List.nil_append, List.getElem?_cons_zero, List.getElem?_cons_succ, List.set_cons_zero, List.set_cons_succ, List.getD_cons_zero, List.getD_cons_succ, Nat.reduceAdd, Nat.reduceSub, Nat.reduceLeDiff, Int.reduceNeg, Int.reduceLT, Int.reduceLE, if_pos, Nat.reducePow, Int.natAbs_cast, Int.reduceAbs, Int.reduceToNat, Int.reduceNeg, at0, at1, at2, at3, at4, at5, SS.abs_mod, SS.lim_eq, Int.reduceAdd, Int.reduceSub, Int.sub_zero, range_length, Nat.reduceLT, or_true, true_or, and_self, and_true, true_and, Nat.zero_add, Nat.reduceEqDiff, hk_ok__law_heard, hk_0__law_heard, hk_1__law_heard, hk_2__law_heard, hms]
  generalize hr : forLoop _ _ _ _ = r
  obtain ⟨ρ', S', rfl, m, w, rfl, rfl, m0⟩ := loop_to hr (fun i ρ S' => ∃ (m : Int) (w : SV), ρ = [.v (.scr ns), .v (.d (.int t)), .v (.d (.int m)), w, .un] ∧ S' = S ∧ 0 ≤ m ∧ m < 1000000000000)
    ⟨_, _, rfl, rfl, by omega, by omega⟩ (fun i x ρ S1 hx ⟨m, w, h1, h2, h3, h4⟩ => by
      subst h1
      subst h2
      rw [List.getElem?_map] at hx
      obtain ⟨y, _, rfl⟩ := Option.map_eq_some_iff.mp hx
      simp only [SS.ite_iff, SS.r_gV, SS.r_gP, SS.r_lit, SS.r_glob, SS.r_fnv, SS.r_var, SS.r_peek, SS.r_okD, SS.r_okV, SS.r_tup, SS.r_kTup, SS.r_kTupD, SS.r_lst, SS.r_kLst, SS.r_kLstD, SS.r_newc, SS.r_kNewc, SS.r_bin, SS.r_kBin1, SS.r_kBin2, SS.r_binE, SS.r_kb1, SS.r_kb2, SS.r_kb3s, SS.r_kb3n, SS.d_add, SS.d_addT, SS.d_addL, SS.n_addL, SS.d_sub, SS.d_mul, SS.d_mulL, SS.n_mulL, SS.d_mod, SS.d_fdiv, SS.d_pow, SS.r_neg, SS.r_kNeg, SS.r_kNeg2, SS.r_not, SS.r_kNot, SS.r_kNot2, SS.r_okB, SS.r_cmp, SS.r_kCmp1, SS.r_kCmp2, SS.r_cmpE, SS.r_kc1, SS.c_lt, SS.c_le, SS.c_gt, SS.c_ge, SS.c_eq, SS.c_ne, SS.e_str, SS.r_chn, SS.r_kCh1, SS.r_kCh2, SS.r_kCh2b, SS.r_kCh3, SS.r_and, SS.r_kAnd, SS.r_kAnd2, SS.r_or, SS.r_kOr, SS.r_kOr2, SS.r_ite, SS.r_kIte, SS.r_kIte2, SS.r_ix, SS.r_kIx1, SS.r_kIx2, SS.r_kIx3, SS.x_l, SS.x_t, SS.x_n, SS.x_p, SS.x_c, SS.x_s, SS.r_sl, SS.r_kSl1, SS.r_kSl2, SS.r_kSl3, SS.s_l, SS.s_t, SS.s_n, SS.s_p, SS.s_s, SS.r_oN, SS.r_oS, SS.r_kO, SS.r_okO, SS.r_rev, SS.r_kRev, SS.r_kRev2, SS.r_revL, SS.r_revT, SS.r_listD, SS.r_itemsL, SS.r_itemsT, SS.r_call, SS.r_kCall1, SS.r_kCall2, SS.r_kCall3, SS.m_n, SS.m_c, SS.r_kmh, SS.t_n, SS.t_c, SS.r_kms, SS.r_esN, SS.r_esC, SS.r_kEs1, SS.r_kEs2, SS.r_callv, SS.r_gF, SS.r_kCv1, SS.r_kCv2, SS.r_b1, SS.r_kB1, SS.b_d, SS.b_n, SS.b_p, SS.b_s, SS.r_kbbS, SS.r_kbbN, SS.u_lenL, SS.u_lenT, SS.u_int, SS.u_intB, SS.u_abs, SS.u_sumL, SS.u_sumT, SS.u_maxL, SS.u_minL, SS.u_maxT, SS.u_minT, SS.u_tupL, SS.u_tupT, SS.u_all, SS.u_reprL, SS.u_reprT, SS.u_listL, SS.u_listT, SS.v_listL, SS.v_listT, SS.u_sorted, SS.v_sorted, SS.v_srtL, SS.v_srtLn, SS.r_b2, SS.r_kB2a, SS.r_kB2b, SS.r_kB2c, SS.w_max, SS.w_min, SS.w_divmod, SS.r_isi, SS.r_kIsi, SS.r_kIsi2, SS.r_comp, SS.r_kComp, SS.r_kComp2, SS.r_fComp, SS.r_kC1, SS.r_kC2, SS.r_kC3, SS.r_kC4, SS.r_cN, SS.r_cS, SS.r_kCn, SS.r_okBo, SS.p_nm, SS.p_tup, SS.p_nil, SS.p_cons, SS.r_kbp, SS.r_sset, SS.r_kSset, SS.r_kSset2t, SS.r_kSset2f, SS.r_uqD, SS.r_srtK, SS.r_kSk, SS.r_kSk2, SS.r_fKey, SS.r_srtR, SS.r_kSrt, SS.r_kSrt2, SS.r_srtRDl, SS.r_srtRDt, SS.r_srtLR, SS.r_srtLRn, SS.r_srtTR, SS.d_mulT, SS.c_ltT, SS.c_gtT, SS.c_leT, SS.c_geT, SS.r_m1, SS.r_kM1, SS.r_kM2, SS.r_kM3, SS.r_kM4, SS.r_kM5, SS.r_rgl, SS.r_kRglT, SS.r_kRglF, SS.u_sortedT, SS.v_sortedT, SS.r_okL, SS.r_it, SS.r_kSrcIt, SS.r_rng1, SS.r_kR1, SS.r_kR1b, SS.r_rng2, SS.r_kR2, SS.r_kR2b, SS.r_kR2b', SS.r_kR2c, SS.r_rngd, SS.r_kRd2, SS.r_kRd2b, SS.r_kRd2b', SS.r_kRd2c, SS.r_enum, SS.r_kEn, SS.r_kEn2, SS.r_zip, SS.r_kZ1, SS.r_kZ2, SS.r_kZ3, SS.z_l, SS.z_t, SS.q_t, SS.q_f, SS.x_set, SS.r_kSet, SS.r_kSet2, SS.x_own, SS.r_kOwn, SS.r_okN, SS.x_par, SS.r_kPar, SS.y_n, SS.y_t, SS.y_f, SS.r_kps, SS.x_expr, SS.r_kExpr, SS.x_popA, SS.r_gPopA, SS.r_kPop2, SS.r_kPop3, SS.r_kPop4, SS.x_app, SS.r_gApp, SS.r_kApp2, SS.r_kApp3, SS.x_ext, SS.r_gExt, SS.r_kExt2, SS.r_kExt3, SS.x_ret, SS.r_kRet, SS.v_d, SS.v_n, SS.v_p, SS.v_c, SS.x_retN, SS.x_raise, SS.r_kRaise, SS.r_kRaiseN, SS.x_raise0, SS.r_hear, SS.x_pass, SS.x_never, SS.x_ite, SS.r_kIf, SS.r_kIf2, SS.x_for, SS.r_kFor, SS.r_fBody, SS.r_kBody, SS.r_kCond, SS.x_whil, SS.x_frz, SS.r_gFrz, SS.x_nil, SS.x_cons, SS.r_kSeq, SS.b_nm, SS.b_tup, SS.r_kSub3, SS.b_sub, SS.r_kSub1, SS.r_kSub2, SS.b_osub, SS.r_gOs, SS.r_kOs2, SS.r_kOs3, SS.b_nil, SS.b_cons, SS.r_kBts, SS.l_n, SS.l_c, SS.st_eq, SS.r_isN, SS.r_isI, SS.r_isnN, SS.r_isnI, SS.r_isT, SS.r_isnT, Res.bind_ok, Res.bind_bad, st_ok, st_bad, lft_some, lft_none, sft_some, sft_none, thn_nx, thn_ret, thn_bad, held_d, held_nw, held_cell, held_fn, held_scr, strict_d, strict_nw, asD_d, asD_nw, asD_pk, dInt_d, dBool_d, Res.bind_exc, st_exc, thn_exc, ret_exc, ret_nx, ret_ret, ret_bad, Option.bind_some, Option.map_some, ite_true, ite_false, if_true, if_false, Bool.false_eq_true, decide_eq_true_eq, List.map_cons, List.map_nil, List.length_cons, List.length_nil, List.replicate_succ, List.replicate_zero, List.cons_append, List.nil_append, List.getElem?_cons_zero, List.getElem?_cons_succ, List.set_cons_zero, List.set_cons_succ, List.getD_cons_zero, List.getD_cons_succ, Nat.reduceAdd, Nat.reduceSub, Nat.reduceLeDiff, Int.reduceNeg, Int.reduceLT, Int.reduceLE, if_pos, Nat.reducePow, Int.natAbs_cast, Int.reduceAbs, Int.reduceToNat, Int.reduceNeg, at0, at1, at2, at3, at4, at5, SS.abs_mod, SS.lim_eq, Int.reduceAdd, Int.reduceSub, Int.sub_zero, range_length, Nat.reduceLT, or_true, true_or, and_self, and_true, true_and, Nat.zero_add, Nat.reduceEqDiff, hk_ok__law_heard, hk_0__law_heard, hk_1__law_heard, hk_2__law_heard]
      exact ⟨_, _, rfl, _, _, rfl, rfl, Int.emod_nonneg _ (by omega), by omega⟩)
  clear hr
  have key : ∃ o : Int, (if t < (ns.length : Int) then (lft (Option.map PyData.int (atD ns t)) (okD S')).bind (kB1 B1.int) else Res.ok (EV.d (PyData.int 0)) S') = .ok (.d (.int o)) S' := by
    by_cases h : t < (ns.length : Int)
    · obtain ⟨i, rfl⟩ : ∃ i : Nat, t = i := ⟨t.toNat, by omega⟩
      have hi : i < ns.length := by omega
      simp only [h, SS.ite_iff, SS.r_gV, SS.r_gP, SS.r_lit, SS.r_glob, SS.r_fnv, SS.r_var, SS.r_peek, SS.r_okD, SS.r_okV, SS.r_tup, SS.r_kTup, SS.r_kTupD, SS.r_lst, SS.r_kLst, SS.r_kLstD, SS.r_newc, SS.r_kNewc, SS.r_bin, SS.r_kBin1, SS.r_kBin2, SS.r_binE, SS.r_kb1, SS.r_kb2, SS.r_kb3s, SS.r_kb3n, SS.d_add, SS.d_addT, SS.d_addL, SS.n_addL, SS.d_sub, SS.d_mul, SS.d_mulL, SS.n_mulL, SS.d_mod, SS.d_fdiv, SS.d_pow, SS.r_neg, SS.r_kNeg, SS.r_kNeg2, SS.r_not, SS.r_kNot, SS.r_kNot2, SS.r_okB, SS.r_cmp, SS.r_kCmp1, SS.r_kCmp2, SS.r_cmpE, SS.r_kc1, SS.c_lt, SS.c_le, SS.c_gt, SS.c_ge, SS.c_eq, SS.c_ne, SS.e_str, SS.r_chn, SS.r_kCh1, SS.r_kCh2, SS.r_kCh2b, SS.r_kCh3, SS.r_and, SS.r_kAnd, SS.r_kAnd2, SS.r_or, SS.r_kOr, SS.r_kOr2, SS.r_ite, SS.r_kIte, SS.r_kIte2, SS.r_ix, SS.r_kIx1, SS.r_kIx2, SS.r_kIx3, SS.x_l, SS.x_t, SS.x_n, SS.x_p, SS.x_c, SS.x_s, SS.r_sl, SS.r_kSl1, SS.r_kSl2, SS.r_kSl3, SS.s_l, SS.s_t, SS.s_n, SS.s_p, SS.s_s, SS.r_oN, SS.r_oS, SS.r_kO, SS.r_okO, SS.r_rev, SS.r_kRev, SS.r_kRev2, SS.r_revL, SS.r_revT, SS.r_listD, SS.r_itemsL, SS.r_itemsT, SS.r_call, SS.r_kCall1, SS.r_kCall2, SS.r_kCall3, SS.m_n, SS.m_c, SS.r_kmh, SS.t_n, SS.t_c, SS.r_kms, SS.r_esN, SS.r_esC, SS.r_kEs1, SS.r_kEs2, SS.r_callv, SS.r_gF, SS.r_kCv1, SS.r_kCv2, SS.r_b1, SS.r_kB1, SS.b_d, SS.b_n, SS.b_p, SS.b_s, SS.r_kbbS, SS.r_kbbN, SS.u_lenL, SS.u_lenT, SS.u_int, SS.u_intB, SS.u_abs, SS.u_sumL, SS.u_sumT, SS.u_maxL, SS.u_minL, SS.u_maxT, SS.u_minT, SS.u_tupL, SS.u_tupT, SS.u_all, SS.u_reprL, SS.u_reprT, SS.u_listL, SS.u_listT, SS.v_listL, SS.v_listT, SS.u_sorted, SS.v_sorted, SS.v_srtL, SS.v_srtLn, SS.r_b2, SS.r_kB2a, SS.r_kB2b, SS.r_kB2c, SS.w_max, SS.w_min, SS.w_divmod, SS.r_isi, SS.r_kIsi, SS.r_kIsi2, SS.r_comp, SS.r_kComp, SS.r_kComp2, SS.r_fComp, SS.r_kC1, SS.r_kC2, SS.r_kC3, SS.r_kC4, SS.r_cN, SS.r_cS, SS.r_kCn, SS.r_okBo, SS.p_nm, SS.p_tup, SS.p_nil, SS.p_cons, SS.r_kbp, SS.r_sset, SS.r_kSset, SS.r_kSset2t, SS.r_kSset2f, SS.r_uqD, SS.r_srtK, SS.r_kSk, SS.r_kSk2, SS.r_fKey, SS.r_srtR, SS.r_kSrt, SS.r_kSrt2, SS.r_srtRDl, SS.r_srtRDt, SS.r_srtLR, SS.r_srtLRn, SS.r_srtTR, SS.d_mulT, SS.c_ltT, SS.c_gtT, SS.c_leT, SS.c_geT, SS.r_m1, SS.r_kM1, SS.r_kM2, SS.r_kM3, SS.r_kM4, SS.r_kM5, SS.r_rgl, SS.r_kRglT, SS.r_kRglF, SS.u_sortedT, SS.v_sortedT, SS.r_okL, SS.r_it, SS.r_kSrcIt, SS.r_rng1, SS.r_kR1, SS.r_kR1b, SS.r_rng2, SS.r_kR2, SS.r_kR2b, SS.r_kR2b', SS.r_kR2c, SS.r_rngd, SS.r_kRd2, SS.r_kRd2b, SS.r_kRd2b', SS.r_kRd2c, SS.r_enum, SS.r_kEn, SS.r_kEn2, SS.r_zip, SS.r_kZ1, SS.r_kZ2, SS.r_kZ3, SS.z_l, SS.z_t, SS.q_t, SS.q_f, SS.x_set, SS.r_kSet, SS.r_kSet2, SS.x_own, SS.r_kOwn, SS.r_okN, SS.x_par, SS.r_kPar, SS.y_n, SS.y_t, SS.y_f, SS.r_kps, SS.x_expr, SS.r_kExpr, SS.x_popA, SS.r_gPopA, SS.r_kPop2, SS.r_kPop3, SS.r_kPop4, SS.x_app, SS.r_gApp, SS.r_kApp2, SS.r_kApp3, SS.x_ext, SS.r_gExt, SS.r_kExt2, SS.r_kExt3, SS.x_ret, SS.r_kRet, SS.v_d, SS.v_n, SS.v_p, SS.v_c, SS.x_retN, SS.x_raise, SS.r_kRaise, SS.r_kRaiseN, SS.x_raise0, SS.r_hear, SS.x_pass, SS.x_never, SS.x_ite, SS.r_kIf, SS.r_kIf2, SS.x_for, SS.r_kFor, SS.r_fBody, SS.r_kBody, SS.r_kCond, SS.x_whil, SS.x_frz, SS.r_gFrz, SS.x_nil, SS.x_cons, SS.r_kSeq, SS.b_nm, SS.b_tup, SS.r_kSub3, SS.b_sub, SS.r_kSub1, SS.r_kSub2, SS.b_osub, SS.r_gOs, SS.r_kOs2, SS.r_kOs3, SS.b_nil, SS.b_cons, SS.r_kBts, SS.l_n, SS.l_c, SS.st_eq, SS.r_isN, SS.r_isI, SS.r_isnN, SS.r_isnI, SS.r_isT, SS.r_isnT, Res.bind_ok, Res.bind_bad, st_ok, st_bad, lft_some, lft_none, sft_some, sft_none, thn_nx, thn_ret, thn_bad, held_d, held_nw, held_cell, held_fn, held_scr, strict_d, strict_nw, asD_d, asD_nw, asD_pk, dInt_d, dBool_d, Res.bind_exc, st_exc, thn_exc, ret_exc, ret_nx, ret_ret, ret_bad, Option.bind_some, Option.map_some, ite_true, ite_false, if_true, if_false, Bool.false_eq_true, decide_eq_true_eq, List.map_cons, List.map_nil, List.length_cons, List.length_nil, List.replicate_succ, List.replicate_zero, List.cons_append, List.nil_append, List.getElem?_cons_zero, List.getElem?_cons_succ, List.set_cons_zero, List.set_cons_succ, List.getD_cons_zero, List.getD_cons_succ, Nat.reduceAdd, Nat.reduceSub, Nat.reduceLeDiff, Int.reduceNeg, Int.reduceLT, Int.reduceLE, if_pos, Nat.reducePow, Int.natAbs_cast, Int.reduceAbs, Int.reduceToNat, Int.reduceNeg, at0, at1, at2, at3, at4, at5, SS.abs_mod, SS.lim_eq, Int.reduceAdd, Int.reduceSub, Int.sub_zero, range_length, Nat.reduceLT, or_true, true_or, and_self, and_true, true_and, Nat.zero_add, Nat.reduceEqDiff, hk_ok__law_heard, hk_0__law_heard, hk_1__law_heard, hk_2__law_heard, at_nat, List.getElem?_eq_getElem hi]
      exact ⟨_, rfl⟩
    · simp only [h, SS.ite_iff, SS.r_gV, SS.r_gP, SS.r_lit, SS.r_glob, SS.r_fnv, SS.r_var, SS.r_peek, SS.r_okD, SS.r_okV, SS.r_tup, SS.r_kTup, SS.r_kTupD, SS.r_lst, SS.r_kLst, SS.r_kLstD, SS.r_newc, SS.r_kNewc, SS.r_bin, SS.r_kBin1, SS.r_kBin2, SS.r_binE, SS.r_kb1, SS.r_kb2, SS.r_kb3s, SS.r_kb3n, SS.d_add, SS.d_addT, SS.d_addL, SS.n_addL, SS.d_sub, SS.d_mul, SS.d_mulL, SS.n_mulL, SS.d_mod, SS.d_fdiv, SS.d_pow, SS.r_neg, SS.r_kNeg, SS.r_kNeg2, SS.r_not, SS.r_kNot, SS.r_kNot2, SS.r_okB, SS.r_cmp, SS.r_kCmp1, SS.r_kCmp2, SS.r_cmpE, SS.r_kc1, SS.c_lt, SS.c_le, SS.c_gt, SS.c_ge, SS.c_eq, SS.c_ne, SS.e_str, SS.r_chn, SS.r_kCh1, SS.r_kCh2, SS.r_kCh2b, SS.r_kCh3, SS.r_and, SS.r_kAnd, SS.r_kAnd2, SS.r_or, SS.r_kOr, SS.r_kOr2, SS.r_ite, SS.r_kIte, SS.r_kIte2, SS.r_ix, SS.r_kIx1, SS.r_kIx2, SS.r_kIx3, SS.x_l, SS.x_t, SS.x_n, SS.x_p, SS.x_c, SS.x_s, SS.r_sl, SS.r_kSl1, SS.r_kSl2, SS.r_kSl3, SS.s_l, SS.s_t, SS.s_n, SS.s_p, SS.s_s, SS.r_oN, SS.r_oS, SS.r_kO, SS.r_okO, SS.r_rev, SS.r_kRev, SS.r_kRev2, SS.r_revL, SS.r_revT, SS.r_listD, SS.r_itemsL, SS.r_itemsT, SS.r_call, SS.r_kCall1, SS.r_kCall2, SS.r_kCall3, SS.m_n, SS.m_c, SS.r_kmh, SS.t_n, SS.t_c, SS.r_kms, SS.r_esN, SS.r_esC, SS.r_kEs1, SS.r_kEs2, SS.r_callv, SS.r_gF, SS.r_kCv1, SS.r_kCv2, SS.r_b1, SS.r_kB1, SS.b_d, SS.b_n, SS.b_p, SS.b_s, SS.r_kbbS, SS.r_kbbN, SS.u_lenL, SS.u_lenT, SS.u_int, SS.u_intB, SS.u_abs, SS.u_sumL, SS.u_sumT, SS.u_maxL, SS.u_minL, SS.u_maxT, SS.u_minT, SS.u_tupL, SS.u_tupT, SS.u_all, SS.u_reprL, SS.u_reprT, SS.u_listL, SS.u_listT, SS.v_listL, SS.v_listT, SS.u_sorted, SS.v_sorted, SS.v_srtL, SS.v_srtLn, SS.r_b2, SS.r_kB2a, SS.r_kB2b, SS.r_kB2c, SS.w_max, SS.w_min, SS.w_divmod, SS.r_isi, SS.r_kIsi, SS.r_kIsi2, SS.r_comp, SS.r_kComp, SS.r_kComp2, SS.r_fComp, SS.r_kC1, SS.r_kC2, SS.r_kC3, SS.r_kC4, SS.r_cN, SS.r_cS, SS.r_kCn, SS.r_okBo, SS.p_nm, SS.p_tup, SS.p_nil, SS.p_cons, SS.r_kbp, SS.r_sset, SS.r_kSset, SS.r_kSset2t, SS.r_kSset2f, SS.r_uqD, SS.r_srtK, SS.r_kSk, SS.r_kSk2, SS.r_fKey, SS.r_srtR, SS.r_kSrt, SS.r_kSrt2, SS.r_srtRDl, SS.r_srtRDt, SS.r_srtLR, SS.r_srtLRn, SS.r_srtTR, SS.d_mulT, SS.c_ltT, SS.c_gtT, SS.c_leT, SS.c_geT, SS.r_m1, SS.r_kM1, SS.r_kM2, SS.r_kM3, SS.r_kM4, SS.r_kM5, SS.r_rgl, SS.r_kRglT, SS.r_kRglF, SS.u_sortedT, SS.v_sortedT, SS.r_okL, SS.r_it, SS.r_kSrcIt, SS.r_rng1, SS.r_kR1, SS.r_kR1b, SS.r_rng2, SS.r_kR2, SS.r_kR2b, SS.r_kR2b', SS.r_kR2c, SS.r_rngd, SS.r_kRd2, SS.r_kRd2b, SS.r_kRd2b', SS.r_kRd2c, SS.r_enum, SS.r_kEn, SS.r_kEn2, SS.r_zip, SS.r_kZ1, SS.r_kZ2, SS.r_kZ3, SS.z_l, SS.z_t, SS.q_t, SS.q_f, SS.x_set, SS.r_kSet, SS.r_kSet2, SS.x_own, SS.r_kOwn, SS.r_okN, SS.x_par, SS.r_kPar, SS.y_n, SS.y_t, SS.y_f, SS.r_kps, SS.x_expr, SS.r_kExpr, SS.x_popA, SS.r_gPopA, SS.r_kPop2, SS.r_kPop3, SS.r_kPop4, SS.x_app, SS.r_gApp, SS.r_kApp2, SS.r_kApp3, SS.x_ext, SS.r_gExt, SS.r_kExt2, SS.r_kExt3, SS.x_ret, SS.r_kRet, SS.v_d, SS.v_n, SS.v_p, SS.v_c, SS.x_retN, SS.x_raise, SS.r_kRaise, SS.r_kRaiseN, SS.x_raise0, SS.r_hear, SS.x_pass, SS.x_never, SS.x_ite, SS.r_kIf, SS.r_kIf2, SS.x_for, SS.r_kFor, SS.r_fBody, SS.r_kBody, SS.r_kCond, SS.x_whil, SS.x_frz, SS.r_gFrz, SS.x_nil, SS.x_cons, SS.r_kSeq, SS.b_nm, SS.b_tup, SS.r_kSub3, SS.b_sub, SS.r_kSub1, SS.r_kSub2, SS.b_osub, SS.r_gOs, SS.r_kOs2, SS.r_kOs3, SS.b_nil, SS.b_cons, SS.r_kBts, SS.l_n, SS.l_c, SS.st_eq, SS.r_isN, SS.r_isI, SS.r_isnN, SS.r_isnI, SS.r_isT, SS.r_isnT, Res.bind_ok, Res.bind_bad, st_ok, st_bad, lft_some, lft_none, sft_some, sft_none, thn_nx, thn_ret, thn_bad, held_d, held_nw, held_cell, held_fn, held_scr, strict_d, strict_nw, asD_d, asD_nw, asD_pk, dInt_d, dBool_d, Res.bind_exc, st_exc, thn_exc, ret_exc, ret_nx, ret_ret, ret_bad, Option.bind_some, Option.map_some, ite_true, ite_false, if_true, if_false, Bool.false_eq_true, decide_eq_true_eq, List.map_cons, List.map_nil, List.length_cons, List.length_nil, List.replicate_succ, List.replicate_zero, List.cons_append, List.nil_append, List.getElem?_cons_zero, List.getElem?_cons_succ, List.set_cons_zero, List.set_cons_succ, List.getD_cons_zero, List.getD_cons_succ, Nat.reduceAdd, Nat.reduceSub, Nat.reduceLeDiff, Int.reduceNeg, Int.reduceLT, Int.reduceLE, if_pos, Nat.reducePow, Int.natAbs_cast, Int.reduceAbs, Int.reduceToNat, Int.reduceNeg, at0, at1, at2, at3, at4, at5, SS.abs_mod, SS.lim_eq, Int.reduceAdd, Int.reduceSub, Int.sub_zero, range_length, Nat.reduceLT, or_true, true_or, and_self, and_true, true_and, Nat.zero_add, Nat.reduceEqDiff, hk_ok__law_heard, hk_0__law_heard, hk_1__law_heard, hk_2__law_heard]
      exact ⟨_, rfl⟩
  obtain ⟨o, ho⟩ := key
  simp only [SS.ite_iff, SS.r_gV, SS.r_gP, SS.r_lit, SS.r_glob, SS.r_fnv, SS.r_var, SS.r_peek, SS.r_okD, SS.r_okV, SS.r_tup, SS.r_kTup, SS.r_kTupD, SS.r_lst, SS.r_kLst, SS.r_kLstD, SS.r_newc, SS.r_kNewc, SS.r_bin, SS.r_kBin1, SS.r_kBin2, SS.r_binE, SS.r_kb1, SS.r_kb2, SS.r_kb3s, SS.r_kb3n, SS.d_add, SS.d_addT, SS.d_addL, SS.n_addL, SS.d_sub, SS.d_mul, SS.d_mulL, SS.n_mulL, SS.d_mod, SS.d_fdiv, SS.d_pow, SS.r_neg, SS.r_kNeg, SS.r_kNeg2, SS.r_not, SS.r_kNot, SS.r_kNot2, SS.r_okB, SS.r_cmp, SS.r_kCmp1, SS.r_kCmp2, SS.r_cmpE, SS.r_kc1, SS.c_lt, SS.c_le, SS.c_gt, SS.c_ge, SS.c_eq, SS.c_ne, SS.e_str, SS.r_chn, SS.r_kCh1, SS.r_kCh2, SS.r_kCh2b, SS.r_kCh3, SS.r_and, SS.r_kAnd, SS.r_kAnd2, SS.r_or, SS.r_kOr, SS.r_kOr2, SS.r_ite, SS.r_kIte, SS.r_kIte2, SS.r_ix, SS.r_kIx1, SS.r_kIx2, SS.r_kIx3, SS.x_l, SS.x_t, SS.x_n, SS.x_p, SS.x_c, SS.x_s, SS.r_sl, SS.r_kSl1, SS.r_kSl2, SS.r_kSl3, SS.s_l, SS.s_t, SS.s_n, SS.s_p, SS.s_s, SS.r_oN, SS.r_oS, SS.r_kO, SS.r_okO, SS.r_rev, SS.r_kRev, SS.r_kRev2, SS.r_revL, SS.r_revT, SS.r_listD, SS.r_itemsL, SS.r_itemsT, SS.r_call, SS.r_kCall1, SS.r_kCall2, SS.r_kCall3, SS.m_n, SS.m_c, SS.r_kmh, SS.t_n, SS.t_c, SS.r_kms, SS.r_esN, SS.r_esC, SS.r_kEs1, SS.r_kEs2, SS.r_callv, SS.r_gF, SS.r_kCv1, SS.r_kCv2, SS.r_b1, SS.r_kB1, SS.b_d, SS.b_n, SS.b_p, SS.b_s, SS.r_kbbS, SS.r_kbbN, SS.u_lenL, SS.u_lenT, SS.u_int, SS.u_intB, SS.u_abs, SS.u_sumL, SS.u_sumT, SS.u_maxL, SS.u_minL, SS.u_maxT, SS.u_minT, SS.u_tupL, SS.u_tupT, SS.u_all, SS.u_reprL, SS.u_reprT, SS.u_listL, SS.u_listT, SS.v_listL, SS.v_listT, SS.u_sorted, SS.v_sorted, SS.v_srtL, SS.v_srtLn, SS.r_b2, SS.r_kB2a, SS.r_kB2b, SS.r_kB2c, SS.w_max, SS.w_min, SS.w_divmod, SS.r_isi, SS.r_kIsi, SS.r_kIsi2, SS.r_comp, SS.r_kComp, SS.r_kComp2, SS.r_fComp, SS.r_kC1, SS.r_kC2, SS.r_kC3, SS.r_kC4, SS.r_cN, SS.r_cS, SS.r_kCn, SS.r_okBo, SS.p_nm, SS.p_tup, SS.p_nil, SS.p_cons, SS.r_kbp, SS.r_sset, SS.r_kSset, SS.r_kSset2t, SS.r_kSset2f, SS.r_uqD, SS.r_srtK, SS.r_kSk, SS.r_kSk2, SS.r_fKey, SS.r_srtR, SS.r_kSrt, SS.r_kSrt2, SS.r_srtRDl, SS.r_srtRDt, SS.r_srtLR, SS.r_srtLRn, SS.r_srtTR, SS.d_mulT, SS.c_ltT, SS.c_gtT, SS.c_leT, SS.c_geT, SS.r_m1, SS.r_kM1, SS.r_kM2, SS.r_kM3, SS.r_kM4, SS.r_kM5, SS.r_rgl, SS.r_kRglT, SS.r_kRglF, SS.u_sortedT, SS.v_sortedT, SS.r_okL, SS.r_it, SS.r_kSrcIt, SS.r_rng1, SS.r_kR1, SS.r_kR1b, SS.r_rng2, SS.r_kR2, SS.r_kR2b, SS.r_kR2b', SS.r_kR2c, SS.r_rngd, SS.r_kRd2, SS.r_kRd2b, SS.r_kRd2b', SS.r_kRd2c, SS.r_enum, SS.r_kEn, SS.r_kEn2, SS.r_zip, SS.r_kZ1, SS.r_kZ2, SS.r_kZ3, SS.z_l, SS.z_t, SS.q_t, SS.q_f, SS.x_set, SS.r_kSet, SS.r_kSet2, SS.x_own, SS.r_kOwn, SS.r_okN, SS.x_par, SS.r_kPar, SS.y_n, SS.y_t, SS.y_f, SS.r_kps, SS.x_expr, SS.r_kExpr, SS.x_popA, SS.r_gPopA, SS.r_kPop2, SS.r_kPop3, SS.r_kPop4, SS.x_app, SS.r_gApp, SS.r_kApp2, SS.r_kApp3, SS.x_ext, SS.r_gExt, SS.r_kExt2, SS.r_kExt3, SS.x_ret, SS.r_kRet, SS.v_d, SS.v_n, SS.v_p, SS.v_c, SS.x_retN, SS.x_raise, SS.r_kRaise, SS.r_kRaiseN, SS.x_raise0, SS.r_hear, SS.x_pass, SS.x_never, SS.x_ite, SS.r_kIf, SS.r_kIf2, SS.x_for, SS.r_kFor, SS.r_fBody, SS.r_kBody, SS.r_kCond, SS.x_whil, SS.x_frz, SS.r_gFrz, SS.x_nil, SS.x_cons, SS.r_kSeq, SS.b_nm, SS.b_tup, SS.r_kSub3, SS.b_sub, SS.r_kSub1, SS.r_kSub2, SS.b_osub, SS.r_gOs, SS.r_kOs2, SS.r_kOs3, SS.b_nil, SS.b_cons, SS.r_kBts, SS.l_n, SS.l_c, SS.st_eq, SS.r_isN, SS.r_isI, SS.r_isnN, SS.r_isnI, SS.r_isT, SS.r_isnT, Res.bind_ok, Res.bind_bad, st_ok, st_bad, lft_some, lft_none, sft_some, sft_none, thn_nx, thn_ret, thn_bad, held_d, held_nw, held_cell, held_fn, held_scr, strict_d, strict_nw, asD_d, asD_nw, asD_pk, dInt_d, dBool_d, Res.bind_exc, st_exc, thn_exc, ret_exc, ret_nx, ret_ret, ret_bad, Option.bind_some, Option.map_some, ite_true, ite_false, if_true, if_false, Bool.false_eq_true, decide_eq_true_eq, List.map_cons, List.map_nil, List.length_cons, List.length_nil, List.replicate_succ, List.replicate_zero, List.cons_append, List.nil_append, List.getElem?_cons_zero, List.getElem?_cons_succ, List.set_cons_zero, List.set_cons_succ, List.getD_cons_zero, List.getD_cons_succ, Nat.reduceAdd, Nat.reduceSub, Nat.reduceLeDiff, Int.reduceNeg, Int.reduceLT, Int.reduceLE, if_pos, Nat.reducePow, Int.natAbs_cast, Int.reduceAbs, Int.reduceToNat, Int.reduceNeg, at0, at1, at2, at3, at4, at5, SS.abs_mod, SS.lim_eq, Int.reduceAdd, Int.reduceSub, Int.sub_zero, range_length, Nat.reduceLT, or_true, true_or, and_self, and_true, true_and, Nat.zero_add, Nat.reduceEqDiff, hk_ok__law_heard, hk_0__law_heard, hk_1__law_heard, hk_2__law_heard, ho]
  have fin : ∀ z : Int, 0 ≤ z → Pail (S' ++ [[.int z, .int ((m * 59 + o % 2147483477 * 30029 + 5) % 2147483629), .int 0]]) S'.length := fun z hz => .new hz (Int.emod_nonneg _ (by omega))
  by_cases h1 : o < 0
  · simp only [SS.ite_iff, SS.r_gV, SS.r_gP, SS.r_lit, SS.r_glob, SS.r_fnv, SS.r_var, SS.r_peek, SS.r_okD, SS.r_okV, SS.r_tup, SS.r_kTup, SS.r_kTupD, SS.r_lst, SS.r_kLst, SS.r_kLstD, SS.r_newc, SS.r_kNewc, SS.r_bin, SS.r_kBin1, SS.r_kBin2, SS.r_binE, SS.r_kb1, SS.r_kb2, SS.r_kb3s, SS.r_kb3n, SS.d_add, SS.d_addT, SS.d_addL, SS.n_addL, SS.d_sub, SS.d_mul, SS.d_mulL, SS.n_mulL, SS.d_mod, SS.d_fdiv, SS.d_pow, SS.r_neg, SS.r_kNeg, SS.r_kNeg2, SS.r_not, SS.r_kNot, SS.r_kNot2, SS.r_okB, SS.r_cmp, SS.r_kCmp1, SS.r_kCmp2, SS.r_cmpE, SS.r_kc1, SS.c_lt, SS.c_le, SS.c_gt, SS.c_ge, SS.c_eq, SS.c_ne, SS.e_str, SS.r_chn, SS.r_kCh1, SS.r_kCh2, SS.r_kCh2b, SS.r_kCh3, SS.r_and, SS.r_kAnd, SS.r_kAnd2, SS.r_or, SS.r_kOr, SS.r_kOr2, SS.r_ite, SS.r_kIte, SS.r_kIte2, SS.r_ix, SS.r_kIx1, SS.r_kIx2, SS.r_kIx3, SS.x_l, SS.x_t, SS.x_n, SS.x_p, SS.x_c, SS.x_s, SS.r_sl, SS.r_kSl1, SS.r_kSl2, SS.r_kSl3, SS.s_l, SS.s_t, SS.s_n, SS.s_p, SS.s_s, SS.r_oN, SS.r_oS, SS.r_kO, SS.r_okO, SS.r_rev, SS.r_kRev, SS.r_kRev2, SS.r_revL, SS.r_revT, SS.r_listD, SS.r_itemsL, SS.r_itemsT, SS.r_call, SS.r_kCall1, SS.r_kCall2, SS.r_kCall3, SS.m_n, SS.m_c, SS.r_kmh, SS.t_n, SS.t_c, SS.r_kms, SS.r_esN, SS.r_esC, SS.r_kEs1, SS.r_kEs2, SS.r_callv, SS.r_gF, SS.r_kCv1, SS.r_kCv2, SS.r_b1, SS.r_kB1, SS.b_d, SS.b_n, SS.b_p, SS.b_s, SS.r_kbbS, SS.r_kbbN, SS.u_lenL, SS.u_lenT, SS.u_int, SS.u_intB, SS.u_abs, SS.u_sumL, SS.u_sumT, SS.u_maxL, SS.u_minL, SS.u_maxT, SS.u_minT, SS.u_tupL, SS.u_tupT, SS.u_all, SS.u_reprL, SS.u_reprT, SS.u_listL, SS.u_listT, SS.v_listL, SS.v_listT, SS.u_sorted, SS.v_sorted, SS.v_srtL, SS.v_srtLn, SS.r_b2, SS.r_kB2a, SS.r_kB2b, SS.r_kB2c, SS.w_max, SS.w_min, SS.w_divmod, SS.r_isi, SS.r_kIsi, SS.r_kIsi2, SS.r_comp, SS.r_kComp, SS.r_kComp2, SS.r_fComp, SS.r_kC1, SS.r_kC2, SS.r_kC3, SS.r_kC4, SS.r_cN, SS.r_cS, SS.r_kCn, SS.r_okBo, SS.p_nm, SS.p_tup, SS.p_nil, SS.p_cons, SS.r_kbp, SS.r_sset, SS.r_kSset, SS.r_kSset2t, SS.r_kSset2f, SS.r_uqD, SS.r_srtK, SS.r_kSk, SS.r_kSk2, SS.r_fKey, SS.r_srtR, SS.r_kSrt, SS.r_kSrt2, SS.r_srtRDl, SS.r_srtRDt, SS.r_srtLR, SS.r_srtLRn, SS.r_srtTR, SS.d_mulT, SS.c_ltT, SS.c_gtT, SS.c_leT, SS.c_geT, SS.r_m1, SS.r_kM1, SS.r_kM2, SS.r_kM3, SS.r_kM4, SS.r_kM5, SS.r_rgl, SS.r_kRglT, SS.r_kRglF, SS.u_sortedT, SS.v_sortedT, SS.r_okL, SS.r_it, SS.r_kSrcIt, SS.r_rng1, SS.r_kR1, SS.r_kR1b, SS.r_rng2, SS.r_kR2, SS.r_kR2b, SS.r_kR2b', SS.r_kR2c, SS.r_rngd, SS.r_kRd2, SS.r_kRd2b, SS.r_kRd2b', SS.r_kRd2c, SS.r_enum, SS.r_kEn, SS.r_kEn2, SS.r_zip, SS.r_kZ1, SS.r_kZ2, SS.r_kZ3, SS.z_l, SS.z_t, SS.q_t, SS.q_f, SS.x_set, SS.r_kSet, SS.r_kSet2, SS.x_own, SS.r_kOwn, SS.r_okN, SS.x_par, SS.r_kPar, SS.y_n, SS.y_t, SS.y_f, SS.r_kps, SS.x_expr, SS.r_kExpr, SS.x_popA, SS.r_gPopA, SS.r_kPop2, SS.r_kPop3, SS.r_kPop4, SS.x_app, SS.r_gApp, SS.r_kApp2, SS.r_kApp3, SS.x_ext, SS.r_gExt, SS.r_kExt2, SS.r_kExt3, SS.x_ret, SS.r_kRet, SS.v_d, SS.v_n, SS.v_p, SS.v_c, SS.x_retN, SS.x_raise, SS.r_kRaise, SS.r_kRaiseN, SS.x_raise0, SS.r_hear, SS.x_pass, SS.x_never, SS.x_ite, SS.r_kIf, SS.r_kIf2, SS.x_for, SS.r_kFor, SS.r_fBody, SS.r_kBody, SS.r_kCond, SS.x_whil, SS.x_frz, SS.r_gFrz, SS.x_nil, SS.x_cons, SS.r_kSeq, SS.b_nm, SS.b_tup, SS.r_kSub3, SS.b_sub, SS.r_kSub1, SS.r_kSub2, SS.b_osub, SS.r_gOs, SS.r_kOs2, SS.r_kOs3, SS.b_nil, SS.b_cons, SS.r_kBts, SS.l_n, SS.l_c, SS.st_eq, SS.r_isN, SS.r_isI, SS.r_isnN, SS.r_isnI, SS.r_isT, SS.r_isnT, Res.bind_ok, Res.bind_bad, st_ok, st_bad, lft_some, lft_none, sft_some, sft_none, thn_nx, thn_ret, thn_bad, held_d, held_nw, held_cell, held_fn, held_scr, strict_d, strict_nw, asD_d, asD_nw, asD_pk, dInt_d, dBool_d, Res.bind_exc, st_exc, thn_exc, ret_exc, ret_nx, ret_ret, ret_bad, Option.bind_some, Option.map_some, ite_true, ite_false, if_true, if_false, Bool.false_eq_true, decide_eq_true_eq, List.map_cons, List.map_nil, List.length_cons, List.length_nil, List.replicate_succ, List.replicate_zero, List.cons_append, List.nil_append, List.getElem?_cons_zero, List.getElem?_cons_succ, List.set_cons_zero, List.set_cons_succ, List.getD_cons_zero, List.getD_cons_succ, Nat.reduceAdd, Nat.reduceSub, Nat.reduceLeDiff, Int.reduceNeg, Int.reduceLT, Int.reduceLE, if_pos, Nat.reducePow, Int.natAbs_cast, Int.reduceAbs, Int.reduceToNat, Int.reduceNeg, at0, at1, at2, at3, at4, at5, SS.abs_mod, SS.lim_eq, Int.reduceAdd, Int.reduceSub, Int.sub_zero, range_length, Nat.reduceLT, or_true, true_or, and_self, and_true, true_and, Nat.zero_add, Nat.reduceEqDiff, hk_ok__law_heard, hk_0__law_heard, hk_1__law_heard, hk_2__law_heard, h1]
    exact ⟨_, rfl, fin _ (by omega), by simp⟩
  · simp only [SS.ite_iff, SS.r_gV, SS.r_gP, SS.r_lit, SS.r_glob, SS.r_fnv, SS.r_var, SS.r_peek, SS.r_okD, SS.r_okV, SS.r_tup, SS.r_kTup, SS.r_kTupD, SS.r_lst, SS.r_kLst, SS.r_kLstD, SS.r_newc, SS.r_kNewc, SS.r_bin, SS.r_kBin1, SS.r_kBin2, SS.r_binE, SS.r_kb1, SS.r_kb2, SS.r_kb3s, SS.r_kb3n, SS.d_add, SS.d_addT, SS.d_addL, SS.n_addL, SS.d_sub, SS.d_mul, SS.d_mulL, SS.n_mulL, SS.d_mod, SS.d_fdiv, SS.d_pow, SS.r_neg, SS.r_kNeg, SS.r_kNeg2, SS.r_not, SS.r_kNot, SS.r_kNot2, SS.r_okB, SS.r_cmp, SS.r_kCmp1, SS.r_kCmp2, SS.r_cmpE, SS.r_kc1, SS.c_lt, SS.c_le, SS.c_gt, SS.c_ge, SS.c_eq, SS.c_ne, SS.e_str, SS.r_chn, SS.r_kCh1, SS.r_kCh2, SS.r_kCh2b, SS.r_kCh3, SS.r_and, SS.r_kAnd, SS.r_kAnd2, SS.r_or, SS.r_kOr, SS.r_kOr2, SS.r_ite, SS.r_kIte, SS.r_kIte2, SS.r_ix, SS.r_kIx1, SS.r_kIx2, SS.r_kIx3, SS.x_l, SS.x_t, SS.x_n, SS.x_p, SS.x_c, SS.x_s, SS.r_sl, SS.r_kSl1, SS.r_kSl2, SS.r_kSl3, SS.s_l, SS.s_t, SS.s_n, SS.s_p, SS.s_s, SS.r_oN, SS.r_oS, SS.r_kO, SS.r_okO, SS.r_rev, SS.r_kRev, SS.r_kRev2, SS.r_revL, SS.r_revT, SS.r_listD, SS.r_itemsL, SS.r_itemsT, SS.r_call, SS.r_kCall1, SS.r_kCall2, SS.r_kCall3, SS.m_n, SS.m_c, SS.r_kmh, SS.t_n, SS.t_c, SS.r_kms, SS.r_esN, SS.r_esC, SS.r_kEs1, SS.r_kEs2, SS.r_callv, SS.r_gF, SS.r_kCv1, SS.r_kCv2, SS.r_b1, SS.r_kB1, SS.b_d, SS.b_n, SS.b_p, SS.b_s, SS.r_kbbS, SS.r_kbbN, SS.u_lenL, SS.u_lenT, SS.u_int, SS.u_intB, SS.u_abs, SS.u_sumL, SS.u_sumT, SS.u_maxL, SS.u_minL, SS.u_maxT, SS.u_minT, SS.u_tupL, SS.u_tupT, SS.u_all, SS.u_reprL, SS.u_reprT, SS.u_listL, SS.u_listT, SS.v_listL, SS.v_listT, SS.u_sorted, SS.v_sorted, SS.v_srtL, SS.v_srtLn, SS.r_b2, SS.r_kB2a, SS.r_kB2b, SS.r_kB2c, SS.w_max, SS.w_min, SS.w_divmod, SS.r_isi, SS.r_kIsi, SS.r_kIsi2, SS.r_comp, SS.r_kComp, SS.r_kComp2, SS.r_fComp, SS.r_kC1, SS.r_kC2, SS.r_kC3, SS.r_kC4, SS.r_cN, SS.r_cS, SS.r_kCn, SS.r_okBo, SS.p_nm, SS.p_tup, SS.p_nil, SS.p_cons, SS.r_kbp, SS.r_sset, SS.r_kSset, SS.r_kSset2t, SS.r_kSset2f, SS.r_uqD, SS.r_srtK, SS.r_kSk, SS.r_kSk2, SS.r_fKey, SS.r_srtR, SS.r_kSrt, SS.r_kSrt2, SS.r_srtRDl, SS.r_srtRDt, SS.r_srtLR, SS.r_srtLRn, SS.r_srtTR, SS.d_mulT, SS.c_ltT, SS.c_gtT, SS.c_leT, SS.c_geT, SS.r_m1, SS.r_kM1, SS.r_kM2, SS.r_kM3, SS.r_kM4, SS.r_kM5, SS.r_rgl, SS.r_kRglT, SS.r_kRglF, SS.u_sortedT, SS.v_sortedT, SS.r_okL, SS.r_it, SS.r_kSrcIt, SS.r_rng1, SS.r_kR1, SS.r_kR1b, SS.r_rng2, SS.r_kR2, SS.r_kR2b, SS.r_kR2b', SS.r_kR2c, SS.r_rngd, SS.r_kRd2, SS.r_kRd2b, SS.r_kRd2b', SS.r_kRd2c, SS.r_enum, SS.r_kEn, SS.r_kEn2, SS.r_zip, SS.r_kZ1, SS.r_kZ2, SS.r_kZ3, SS.z_l, SS.z_t, SS.q_t, SS.q_f, SS.x_set, SS.r_kSet, SS.r_kSet2, SS.x_own, SS.r_kOwn, SS.r_okN, SS.x_par, SS.r_kPar, SS.y_n, SS.y_t, SS.y_f, SS.r_kps, SS.x_expr, SS.r_kExpr, SS.x_popA, SS.r_gPopA, SS.r_kPop2, SS.r_kPop3, SS.r_kPop4, SS.x_app, SS.r_gApp, SS.r_kApp2, SS.r_kApp3, SS.x_ext, SS.r_gExt, SS.r_kExt2, SS.r_kExt3, SS.x_ret, SS.r_kRet, SS.v_d, SS.v_n, SS.v_p, SS.v_c, SS.x_retN, SS.x_raise, SS.r_kRaise, SS.r_kRaiseN, SS.x_raise0, SS.r_hear, SS.x_pass, SS.x_never, SS.x_ite, SS.r_kIf, SS.r_kIf2, SS.x_for, SS.r_kFor, SS.r_fBody, SS.r_kBody, SS.r_kCond, SS.x_whil, SS.x_frz, SS.r_gFrz, SS.x_nil, SS.x_cons, SS.r_kSeq, SS.b_nm, SS.b_tup, SS.r_kSub3, SS.b_sub, SS.r_kSub1, SS.r_kSub2, SS.b_osub, SS.r_gOs, SS.r_kOs2, SS.r_kOs3, SS.b_nil, SS.b_cons, SS.r_kBts, SS.l_n, SS.l_c, SS.st_eq, SS.r_isN, SS.r_isI, SS.r_isnN, SS.r_isnI, SS.r_isT, SS.r_isnT, Res.bind_ok, Res.bind_bad, st_ok, st_bad, lft_some, lft_none, sft_some, sft_none, thn_nx, thn_ret, thn_bad, held_d, held_nw, held_cell, held_fn, held_scr, strict_d, strict_nw, asD_d, asD_nw, asD_pk, dInt_d, dBool_d, Res.bind_exc, st_exc, thn_exc, ret_exc, ret_nx, ret_ret, ret_bad, Option.bind_some, Option.map_some, ite_true, ite_false, if_true, if_false, Bool.false_eq_true, decide_eq_true_eq, List.map_cons, List.map_nil, List.length_cons, List.length_nil, List.replicate_succ, List.replicate_zero, List.cons_append, List.nil_append, List.getElem?_cons_zero, List.getElem?_cons_succ, List.set_cons_zero, List.set_cons_succ, List.getD_cons_zero, List.getD_cons_succ, Nat.reduceAdd, Nat.reduceSub, Nat.reduceLeDiff, Int.reduceNeg, Int.reduceLT, Int.reduceLE, if_pos, Nat.reducePow, Int.natAbs_cast, Int.reduceAbs, Int.reduceToNat, Int.reduceNeg, at0, at1, at2, at3, at4, at5, SS.abs_mod, SS.lim_eq, Int.reduceAdd, Int.reduceSub, Int.sub_zero, range_length, Nat.reduceLT, or_true, true_or, and_self, and_true, true_and, Nat.zero_add, Nat.reduceEqDiff, hk_ok__law_heard, hk_0__law_heard, hk_1__law_heard, hk_2__law_heard, h1]
    by_cases h2 : (10 : Int) ^ 15 ≤ o
    · simp only [SS.ite_iff, SS.r_gV, SS.r_gP, SS.r_lit, SS.r_glob, SS.r_fnv, SS.r_var, SS.r_peek, SS.r_okD, SS.r_okV, SS.r_tup, SS.r_kTup, SS.r_kTupD, SS.r_lst, SS.r_kLst, SS.r_kLstD, SS.r_newc, SS.r_kNewc, SS.r_bin, SS.r_kBin1, SS.r_kBin2, SS.r_binE, SS.r_kb1, SS.r_kb2, SS.r_kb3s, SS.r_kb3n, SS.d_add, SS.d_addT, SS.d_addL, SS.n_addL, SS.d_sub, SS.d_mul, SS.d_mulL, SS.n_mulL, SS.d_mod, SS.d_fdiv, SS.d_pow, SS.r_neg, SS.r_kNeg, SS.r_kNeg2, SS.r_not, SS.r_kNot, SS.r_kNot2, SS.r_okB, SS.r_cmp, SS.r_kCmp1, SS.r_kCmp2, SS.r_cmpE, SS.r_kc1, SS.c_lt, SS.c_le, SS.c_gt, SS.c_ge, SS.c_eq, SS.c_ne, SS.e_str, SS.r_chn, SS.r_kCh1, SS.r_kCh2, SS.r_kCh2b, SS.r_kCh3, SS.r_and, SS.r_kAnd, SS.r_kAnd2, SS.r_or, SS.r_kOr, SS.r_kOr2, SS.r_ite, SS.r_kIte, SS.r_kIte2, SS.r_ix, SS.r_kIx1, SS.r_kIx2, SS.r_kIx3, SS.x_l, SS.x_t, SS.x_n, SS.x_p, SS.x_c, SS.x_s, SS.r_sl, SS.r_kSl1, SS.r_kSl2, SS.r_kSl3, SS.s_l, SS.s_t, SS.s_n, SS.s_p, SS.s_s, SS.r_oN, SS.r_oS, SS.r_kO, SS.r_okO, SS.r_rev, SS.r_kRev, SS.r_kRev2, SS.r_revL, SS.r_revT, SS.r_listD, SS.r_itemsL, SS.r_itemsT, SS.r_call, SS.r_kCall1, SS.r_kCall2, SS.r_kCall3, SS.m_n, SS.m_c, SS.r_kmh, SS.t_n, SS.t_c, SS.r_kms, SS.r_esN, SS.r_esC, SS.r_kEs1, SS.r_kEs2, SS.r_callv, SS.r_gF, SS.r_kCv1, SS.r_kCv2, SS.r_b1, SS.r_kB1, SS.b_d, SS.b_n, SS.b_p, SS.b_s, SS.r_kbbS, SS.r_kbbN, SS.u_lenL, SS.u_lenT, SS.u_int, SS.u_intB, SS.u_abs, SS.u_sumL, SS.u_sumT, SS.u_maxL, SS.u_minL, SS.u_maxT, SS.u_minT, SS.u_tupL, SS.u_tupT, SS.u_all, SS.u_reprL, SS.u_reprT, SS.u_listL, SS.u_listT, SS.v_listL, SS.v_listT, SS.u_sorted, SS.v_sorted, SS.v_srtL, SS.v_srtLn, SS.r_b2, SS.r_kB2a, SS.r_kB2b, SS.r_kB2c, SS.w_max, SS.w_min, SS.w_divmod, SS.r_isi, SS.r_kIsi, SS.r_kIsi2, SS.r_comp, SS.r_kComp, SS.r_kComp2, SS.r_fComp, SS.r_kC1, SS.r_kC2, SS.r_kC3, SS.r_kC4, SS.r_cN, SS.r_cS, SS.r_kCn, SS.r_okBo, SS.p_nm, SS.p_tup, SS.p_nil, SS.p_cons, SS.r_kbp, SS.r_sset, SS.r_kSset, SS.r_kSset2t, SS.r_kSset2f, SS.r_uqD, SS.r_srtK, SS.r_kSk, SS.r_kSk2, SS.r_fKey, SS.r_srtR, SS.r_kSrt, SS.r_kSrt2, SS.r_srtRDl, SS.r_srtRDt, SS.r_srtLR, SS.r_srtLRn, SS.r_srtTR, SS.d_mulT, SS.c_ltT, SS.c_gtT, SS.c_leT, SS.c_geT, SS.r_m1, SS.r_kM1, SS.r_kM2, SS.r_kM3, SS.r_kM4, SS.r_kM5, SS.r_rgl, SS.r_kRglT, SS.r_kRglF, SS.u_sortedT, SS.v_sortedT, SS.r_okL, SS.r_it, SS.r_kSrcIt, SS.r_rng1, SS.r_kR1, SS.r_kR1b, SS.r_rng2, SS.r_kR2, SS.r_kR2b, SS.r_kR2b', SS.r_kR2c, SS.r_rngd, SS.r_kRd2, SS.r_kRd2b, SS.r_kRd2b', SS.r_kRd2c, SS.r_enum, SS.r_kEn, SS.r_kEn2, SS.r_zip, SS.r_kZ1, SS.r_kZ2, SS.r_kZ3, SS.z_l, SS.z_t, SS.q_t, SS.q_f, SS.x_set, SS.r_kSet, SS.r_kSet2, SS.x_own, SS.r_kOwn, SS.r_okN, SS.x_par, SS.r_kPar, SS.y_n, SS.y_t, SS.y_f, SS.r_kps, SS.x_expr, SS.r_kExpr, SS.x_popA, SS.r_gPopA, SS.r_kPop2, SS.r_kPop3, SS.r_kPop4, SS.x_app, SS.r_gApp, SS.r_kApp2, SS.r_kApp3, SS.x_ext, SS.r_gExt, SS.r_kExt2, SS.r_kExt3, SS.x_ret, SS.r_kRet, SS.v_d, SS.v_n, SS.v_p, SS.v_c, SS.x_retN, SS.x_raise, SS.r_kRaise, SS.r_kRaiseN, SS.x_raise0, SS.r_hear, SS.x_pass, SS.x_never, SS.x_ite, SS.r_kIf, SS.r_kIf2, SS.x_for, SS.r_kFor, SS.r_fBody, SS.r_kBody, SS.r_kCond, SS.x_whil, SS.x_frz, SS.r_gFrz, SS.x_nil, SS.x_cons, SS.r_kSeq, SS.b_nm, SS.b_tup, SS.r_kSub3, SS.b_sub, SS.r_kSub1, SS.r_kSub2, SS.b_osub, SS.r_gOs, SS.r_kOs2, SS.r_kOs3, SS.b_nil, SS.b_cons, SS.r_kBts, SS.l_n, SS.l_c, SS.st_eq, SS.r_isN, SS.r_isI, SS.r_isnN, SS.r_isnI, SS.r_isT, SS.r_isnT, Res.bind_ok, Res.bind_bad, st_ok, st_bad, lft_some, lft_none, sft_some, sft_none, thn_nx, thn_ret, thn_bad, held_d, held_nw, held_cell, held_fn, held_scr, strict_d, strict_nw, asD_d, asD_nw, asD_pk, dInt_d, dBool_d, Res.bind_exc, st_exc, thn_exc, ret_exc, ret_nx, ret_ret, ret_bad, Option.bind_some, Option.map_some, ite_true, ite_false, if_true, if_false, Bool.false_eq_true, decide_eq_true_eq, List.map_cons, List.map_nil, List.length_cons, List.length_nil, List.replicate_succ, List.replicate_zero, List.cons_append, List.nil_append, List.getElem?_cons_zero, List.getElem?_cons_succ, List.set_cons_zero, List.set_cons_succ, List.getD_cons_zero, List.getD_cons_succ, Nat.reduceAdd, Nat.reduceSub, Nat.reduceLeDiff, Int.reduceNeg, Int.reduceLT, Int.reduceLE, if_pos, Nat.reducePow, Int.natAbs_cast, Int.reduceAbs, Int.reduceToNat, Int.reduceNeg, at0, at1, at2, at3, at4, at5, SS.abs_mod, SS.lim_eq, Int.reduceAdd, Int.reduceSub, Int.sub_zero, range_length, Nat.reduceLT, or_true, true_or, and_self, and_true, true_and, Nat.zero_add, Nat.reduceEqDiff, hk_ok__law_heard, hk_0__law_heard, hk_1__law_heard, hk_2__law_heard, h2]
      exact ⟨_, rfl, fin _ (by omega), by simp⟩
    · simp only [SS.ite_iff, SS.r_gV, SS.r_gP, SS.r_lit, SS.r_glob, SS.r_fnv, SS.r_var, SS.r_peek, SS.r_okD, SS.r_okV, SS.r_tup, SS.r_kTup, SS.r_kTupD, SS.r_lst, SS.r_kLst, SS.r_kLstD, SS.r_newc, SS.r_kNewc, SS.r_bin, SS.r_kBin1, SS.r_kBin2, SS.r_binE, SS.r_kb1, SS.r_kb2, SS.r_kb3s, SS.r_kb3n, SS.d_add, SS.d_addT, SS.d_addL, SS.n_addL, SS.d_sub, SS.d_mul, SS.d_mulL, SS.n_mulL, SS.d_mod, SS.d_fdiv, SS.d_pow, SS.r_neg, SS.r_kNeg, SS.r_kNeg2, SS.r_not, SS.r_kNot, SS.r_kNot2, SS.r_okB, SS.r_cmp, SS.r_kCmp1, SS.r_kCmp2, SS.r_cmpE, SS.r_kc1, SS.c_lt, SS.c_le, SS.c_gt, SS.c_ge, SS.c_eq, SS.c_ne, SS.e_str, SS.r_chn, SS.r_kCh1, SS.r_kCh2, SS.r_kCh2b, SS.r_kCh3, SS.r_and, SS.r_kAnd, SS.r_kAnd2, SS.r_or, SS.r_kOr, SS.r_kOr2, SS.r_ite, SS.r_kIte, SS.r_kIte2, SS.r_ix, SS.r_kIx1, SS.r_kIx2, SS.r_kIx3, SS.x_l, SS.x_t, SS.x_n, SS.x_p, SS.x_c, SS.x_s, SS.r_sl, SS.r_kSl1, SS.r_kSl2, SS.r_kSl3, SS.s_l, SS.s_t, SS.s_n, SS.s_p, SS.s_s, SS.r_oN, SS.r_oS, SS.r_kO, SS.r_okO, SS.r_rev, SS.r_kRev, SS.r_kRev2, SS.r_revL, SS.r_revT, SS.r_listD, SS.r_itemsL, SS.r_itemsT, SS.r_call, SS.r_kCall1, SS.r_kCall2, SS.r_kCall3, SS.m_n, SS.m_c, SS.r_kmh, SS.t_n, SS.t_c, SS.r_kms, SS.r_esN, SS.r_esC, SS.r_kEs1, SS.r_kEs2, SS.r_callv, SS.r_gF, SS.r_kCv1, SS.r_kCv2, SS.r_b1, SS.r_kB1, SS.b_d, SS.b_n, SS.b_p, SS.b_s, SS.r_kbbS, SS.r_kbbN, SS.u_lenL, SS.u_lenT, SS.u_int, SS.u_intB, SS.u_abs, SS.u_sumL, SS.u_sumT, SS.u_maxL, SS.u_minL, SS.u_maxT, SS.u_minT, SS.u_tupL, SS.u_tupT, SS.u_all, SS.u_reprL, SS.u_reprT, SS.u_listL, SS.u_listT, SS.v_listL, SS.v_listT, SS.u_sorted, SS.v_sorted, SS.v_srtL, SS.v_srtLn, SS.r_b2, SS.r_kB2a, SS.r_kB2b, SS.r_kB2c, SS.w_max, SS.w_min, SS.w_divmod, SS.r_isi, SS.r_kIsi, SS.r_kIsi2, SS.r_comp, SS.r_kComp, SS.r_kComp2, SS.r_fComp, SS.r_kC1, SS.r_kC2, SS.r_kC3, SS.r_kC4, SS.r_cN, SS.r_cS, SS.r_kCn, SS.r_okBo, SS.p_nm, SS.p_tup, SS.p_nil, SS.p_cons, SS.r_kbp, SS.r_sset, SS.r_kSset, SS.r_kSset2t, SS.r_kSset2f, SS.r_uqD, SS.r_srtK, SS.r_kSk, SS.r_kSk2, SS.r_fKey, SS.r_srtR, SS.r_kSrt, SS.r_kSrt2, SS.r_srtRDl, SS.r_srtRDt, SS.r_srtLR, SS.r_srtLRn, SS.r_srtTR, SS.d_mulT, SS.c_ltT, SS.c_gtT, SS.c_leT, SS.c_geT, SS.r_m1, SS.r_kM1, SS.r_kM2, SS.r_kM3, SS.r_kM4, SS.r_kM5, SS.r_rgl, SS.r_kRglT, SS.r_kRglF, SS.u_sortedT, SS.v_sortedT, SS.r_okL, SS.r_it, SS.r_kSrcIt, SS.r_rng1, SS.r_kR1, SS.r_kR1b, SS.r_rng2, SS.r_kR2, SS.r_kR2b, SS.r_kR2b', SS.r_kR2c, SS.r_rngd, SS.r_kRd2, SS.r_kRd2b, SS.r_kRd2b', SS.r_kRd2c, SS.r_enum, SS.r_kEn, SS.r_kEn2, SS.r_zip, SS.r_kZ1, SS.r_kZ2, SS.r_kZ3, SS.z_l, SS.z_t, SS.q_t, SS.q_f, SS.x_set, SS.r_kSet, SS.r_kSet2, SS.x_own, SS.r_kOwn, SS.r_okN, SS.x_par, SS.r_kPar, SS.y_n, SS.y_t, SS.y_f, SS.r_kps, SS.x_expr, SS.r_kExpr, SS.x_popA, SS.r_gPopA, SS.r_kPop2, SS.r_kPop3, SS.r_kPop4, SS.x_app, SS.r_gApp, SS.r_kApp2, SS.r_kApp3, SS.x_ext, SS.r_gExt, SS.r_kExt2, SS.r_kExt3, SS.x_ret, SS.r_kRet, SS.v_d, SS.v_n, SS.v_p, SS.v_c, SS.x_retN, SS.x_raise, SS.r_kRaise, SS.r_kRaiseN, SS.x_raise0, SS.r_hear, SS.x_pass, SS.x_never, SS.x_ite, SS.r_kIf, SS.r_kIf2, SS.x_for, SS.r_kFor, SS.r_fBody, SS.r_kBody, SS.r_kCond, SS.x_whil, SS.x_frz, SS.r_gFrz, SS.x_nil, SS.x_cons, SS.r_kSeq, SS.b_nm, SS.b_tup, SS.r_kSub3, SS.b_sub, SS.r_kSub1, SS.r_kSub2, SS.b_osub, SS.r_gOs, SS.r_kOs2, SS.r_kOs3, SS.b_nil, SS.b_cons, SS.r_kBts, SS.l_n, SS.l_c, SS.st_eq, SS.r_isN, SS.r_isI, SS.r_isnN, SS.r_isnI, SS.r_isT, SS.r_isnT, Res.bind_ok, Res.bind_bad, st_ok, st_bad, lft_some, lft_none, sft_some, sft_none, thn_nx, thn_ret, thn_bad, held_d, held_nw, held_cell, held_fn, held_scr, strict_d, strict_nw, asD_d, asD_nw, asD_pk, dInt_d, dBool_d, Res.bind_exc, st_exc, thn_exc, ret_exc, ret_nx, ret_ret, ret_bad, Option.bind_some, Option.map_some, ite_true, ite_false, if_true, if_false, Bool.false_eq_true, decide_eq_true_eq, List.map_cons, List.map_nil, List.length_cons, List.length_nil, List.replicate_succ, List.replicate_zero, List.cons_append, List.nil_append, List.getElem?_cons_zero, List.getElem?_cons_succ, List.set_cons_zero, List.set_cons_succ, List.getD_cons_zero, List.getD_cons_succ, Nat.reduceAdd, Nat.reduceSub, Nat.reduceLeDiff, Int.reduceNeg, Int.reduceLT, Int.reduceLE, if_pos, Nat.reducePow, Int.natAbs_cast, Int.reduceAbs, Int.reduceToNat, Int.reduceNeg, at0, at1, at2, at3, at4, at5, SS.abs_mod, SS.lim_eq, Int.reduceAdd, Int.reduceSub, Int.sub_zero, range_length, Nat.reduceLT, or_true, true_or, and_self, and_true, true_and, Nat.zero_add, Nat.reduceEqDiff, hk_ok__law_heard, hk_0__law_heard, hk_1__law_heard, hk_2__law_heard, h2]
      exact ⟨_, rfl, fin _ (by omega), by simp⟩
def badL : List (D × D) := [(.tuple [.int 100], .int 0), (.tuple [.int (-1)], .int 0), (.tuple [.int 3, .int 4], .int 1), (.tuple [.int 3, .bool true], .int 1), (.tuple [.int 3, .none], .int 1), (.tuple [.str "3"], .int 0), (.list [.int 3, .int 2], .none), (.tuple [], .none), (.none, .none), (.tuple [.int 5, .int 5, .int 5, .int 5, .int 5, .int 5, .int 5, .int 5, .int 5, .int 5, .int 5, .int 5, .int 5, .int 5, .int 5, .int 5, .int 5, .int 5, .int 5, .int 5, .int 5, .int 5, .int 5, .int 5, .int 5], .int 24), (.tuple [.int 2, .int 1, .int 2], .int 2), (.int 5, .none), (.tuple [.int 9, .int 8, .tuple [.int 7]], .int 2)]
def badN : List D := [.none, .bool true, .int 0, .int 9, .str "1", .tuple [.int 1]]
def odds : List D := [.int 4, .int 5, .int 7, .int 8]
theorem c_no_number {k : Nat} (hk : 3 ≤ k) {S : Cells} {c : Nat} {lo hi : Int} (h : Pail S c) : ∃ v S', callF T k "_law_no_number" [.cell c, .d (.int lo), .d (.int hi)] S = .ok (.d v) S' ∧ v ∈ [.none, .bool true, .int (lo - 1), .int (hi + 1), .str "1", .tuple [.int 1]] ∧ Pail S' c ∧ S'.length = S.length := by
  obtain ⟨j, rfl⟩ : ∃ j, k = j + 1 := ⟨k - 1, by omega⟩
  obtain ⟨v, S', e, m, p, l⟩ := c_of (k := j) (by omega) h (xs := [.none, .bool true, .int (lo - 1), .int (hi + 1), .str "1", .tuple [.int 1]]) (by simp) (by simp)
  rw [callF_at T__law_no_number, runFn_eq rfl]
  simp only [SS.ite_iff, SS.r_gV, SS.r_gP, SS.r_lit, SS.r_glob, SS.r_fnv, SS.r_var, SS.r_peek, SS.r_okD, SS.r_okV, SS.r_tup, SS.r_kTup, SS.r_kTupD, SS.r_lst, SS.r_kLst, SS.r_kLstD, SS.r_newc, SS.r_kNewc, SS.r_bin, SS.r_kBin1, SS.r_kBin2, SS.r_binE, SS.r_kb1, SS.r_kb2, SS.r_kb3s, SS.r_kb3n, SS.d_add, SS.d_addT, SS.d_addL, SS.n_addL, SS.d_sub, SS.d_mul, SS.d_mulL, SS.n_mulL, SS.d_mod, SS.d_fdiv, SS.d_pow, SS.r_neg, SS.r_kNeg, SS.r_kNeg2, SS.r_not, SS.r_kNot, SS.r_kNot2, SS.r_okB, SS.r_cmp, SS.r_kCmp1, SS.r_kCmp2, SS.r_cmpE, SS.r_kc1, SS.c_lt, SS.c_le, SS.c_gt, SS.c_ge, SS.c_eq, SS.c_ne, SS.e_str, SS.r_chn, SS.r_kCh1, SS.r_kCh2, SS.r_kCh2b, SS.r_kCh3, SS.r_and, SS.r_kAnd, SS.r_kAnd2, SS.r_or, SS.r_kOr, SS.r_kOr2, SS.r_ite, SS.r_kIte, SS.r_kIte2, SS.r_ix, SS.r_kIx1, SS.r_kIx2, SS.r_kIx3, SS.x_l, SS.x_t, SS.x_n, SS.x_p, SS.x_c, SS.x_s, SS.r_sl, SS.r_kSl1, SS.r_kSl2, SS.r_kSl3, SS.s_l, SS.s_t, SS.s_n, SS.s_p, SS.s_s, SS.r_oN, SS.r_oS, SS.r_kO, SS.r_okO, SS.r_rev, SS.r_kRev, SS.r_kRev2, SS.r_revL, SS.r_revT, SS.r_listD, SS.r_itemsL, SS.r_itemsT, SS.r_call, SS.r_kCall1, SS.r_kCall2, SS.r_kCall3, SS.m_n, SS.m_c, SS.r_kmh, SS.t_n, SS.t_c, SS.r_kms, SS.r_esN, SS.r_esC, SS.r_kEs1, SS.r_kEs2, SS.r_callv, SS.r_gF, SS.r_kCv1, SS.r_kCv2, SS.r_b1, SS.r_kB1, SS.b_d, SS.b_n, SS.b_p, SS.b_s, SS.r_kbbS, SS.r_kbbN, SS.u_lenL, SS.u_lenT, SS.u_int, SS.u_intB, SS.u_abs, SS.u_sumL, SS.u_sumT, SS.u_maxL, SS.u_minL, SS.u_maxT, SS.u_minT, SS.u_tupL, SS.u_tupT, SS.u_all, SS.u_reprL, SS.u_reprT, SS.u_listL, SS.u_listT, SS.v_listL, SS.v_listT, SS.u_sorted, SS.v_sorted, SS.v_srtL, SS.v_srtLn, SS.r_b2, SS.r_kB2a, SS.r_kB2b, SS.r_kB2c, SS.w_max, SS.w_min, SS.w_divmod, SS.r_isi, SS.r_kIsi, SS.r_kIsi2, SS.r_comp, SS.r_kComp, SS.r_kComp2, SS.r_fComp, SS.r_kC1, SS.r_kC2, SS.r_kC3, SS.r_kC4, SS.r_cN, SS.r_cS, SS.r_kCn, SS.r_okBo, SS.p_nm, SS.p_tup, SS.p_nil, SS.p_cons, SS.r_kbp, SS.r_sset, SS.r_kSset, SS.r_kSset2t, SS.r_kSset2f, SS.r_uqD, SS.r_srtK, SS.r_kSk, SS.r_kSk2, SS.r_fKey, SS.r_srtR, SS.r_kSrt, SS.r_kSrt2, SS.r_srtRDl, SS.r_srtRDt, SS.r_srtLR, SS.r_srtLRn, SS.r_srtTR, SS.d_mulT, SS.c_ltT, SS.c_gtT, SS.c_leT, SS.c_geT, SS.r_m1, SS.r_kM1, SS.r_kM2, SS.r_kM3, SS.r_kM4, SS.r_kM5, SS.r_rgl, SS.r_kRglT, SS.r_kRglF, SS.u_sortedT, SS.v_sortedT, SS.r_okL, SS.r_it, SS.r_kSrcIt, SS.r_rng1, SS.r_kR1, SS.r_kR1b, SS.r_rng2, SS.r_kR2, SS.r_kR2b, SS.r_kR2b', SS.r_kR2c, SS.r_rngd, SS.r_kRd2, SS.r_kRd2b, SS.r_kRd2b', SS.r_kRd2c, SS.r_enum, SS.r_kEn, SS.r_kEn2, SS.r_zip, SS.r_kZ1, SS.r_kZ2, SS.r_kZ3, SS.z_l, SS.z_t, SS.q_t, SS.q_f, SS.x_set, SS.r_kSet, SS.r_kSet2, SS.x_own, SS.r_kOwn, SS.r_okN, SS.x_par, SS.r_kPar, SS.y_n, SS.y_t, SS.y_f, SS.r_kps, SS.x_expr, SS.r_kExpr, SS.x_popA, SS.r_gPopA, SS.r_kPop2, SS.r_kPop3, SS.r_kPop4, SS.x_app, SS.r_gApp, SS.r_kApp2, SS.r_kApp3, SS.x_ext, SS.r_gExt, SS.r_kExt2, SS.r_kExt3, SS.x_ret, SS.r_kRet, SS.v_d, SS.v_n, SS.v_p, SS.v_c, SS.x_retN, SS.x_raise, SS.r_kRaise, SS.r_kRaiseN, SS.x_raise0, SS.r_hear, SS.x_pass, SS.x_never, SS.x_ite, SS.r_kIf, SS.r_kIf2, SS.x_for, SS.r_kFor, SS.r_fBody, SS.r_kBody, SS.r_kCond, SS.x_whil, SS.x_frz, SS.r_gFrz, SS.x_nil, SS.x_cons, SS.r_kSeq, SS.b_nm, SS.b_tup, SS.r_kSub3, SS.b_sub, SS.r_kSub1, SS.r_kSub2, SS.b_osub, SS.r_gOs, SS.r_kOs2, SS.r_kOs3, SS.b_nil, SS.b_cons, SS.r_kBts, SS.l_n, SS.l_c, SS.st_eq, SS.r_isN, SS.r_isI, SS.r_isnN, SS.r_isnI, SS.r_isT, SS.r_isnT, Res.bind_ok, Res.bind_bad, st_ok, st_bad, lft_some, lft_none, sft_some, sft_none, thn_nx, thn_ret, thn_bad, held_d, held_nw, held_cell, held_fn, held_scr, strict_d, strict_nw, asD_d, asD_nw, asD_pk, dInt_d, dBool_d, Res.bind_exc, st_exc, thn_exc, ret_exc, ret_nx, ret_ret, ret_bad, Option.bind_some, Option.map_some, ite_true, ite_false, if_true, if_false, Bool.false_eq_true, decide_eq_true_eq, List.map_cons, List.map_nil, List.length_cons, List.length_nil, List.replicate_succ, List.replicate_zero, List.cons_append, List.nil_append, List.getElem?_cons_zero, List.getElem?_cons_succ, List.set_cons_zero, List.set_cons_succ, List.getD_cons_zero, List.getD_cons_succ, Nat.reduceAdd, Nat.reduceSub, Nat.reduceLeDiff, Int.reduceNeg, Int.reduceLT, Int.reduceLE, if_pos, Nat.reducePow, Int.natAbs_cast, Int.reduceAbs, Int.reduceToNat, Int.reduceNeg, at0, at1, at2, at3, at4, at5, SS.abs_mod, SS.lim_eq, Int.reduceAdd, Int.reduceSub, Int.sub_zero, range_length, Nat.reduceLT, or_true, true_or, and_self, and_true, true_and, Nat.zero_add, Nat.reduceEqDiff, hk_ok__law_heard, hk_0__law_heard, hk_1__law_heard, hk_2__law_heard, ir__law_no_number, e]
  exact ⟨_, _, rfl, m, p, l⟩
theorem c_no_lights {k : Nat} (hk : 4 ≤ k) {S : Cells} {c : Nat} (h : Pail S c) : ∃ (d : D × D) (S' : Cells), callF T k "_law_no_lights" [.cell c] S = .ok (.d (.tuple [d.1, d.2])) S' ∧ d ∈ badL ∧ Pail S' c ∧ S'.length = S.length := by
  obtain ⟨j, rfl⟩ : ∃ j, k = j + 1 := ⟨k - 1, by omega⟩
  obtain ⟨v, S', e, m, p, l⟩ := c_of (k := j) (by omega) h (xs := badL.map fun p => .tuple [p.1, p.2]) (by decide) (by decide)
  obtain ⟨d, hd, rfl⟩ := List.mem_map.mp m
  simp only [badL, List.map_cons, List.map_nil] at e
  have hne : ∀ x : D, (([x] : List D) ≠ []) = True := fun x => by simp
  rw [callF_at T__law_no_lights, runFn_eq rfl]
  simp only [SS.ite_iff, SS.r_gV, SS.r_gP, SS.r_lit, SS.r_glob, SS.r_fnv, SS.r_var, SS.r_peek, SS.r_okD, SS.r_okV, SS.r_tup, SS.r_kTup, SS.r_kTupD, SS.r_lst, SS.r_kLst, SS.r_kLstD, SS.r_newc, SS.r_kNewc, SS.r_bin, SS.r_kBin1, SS.r_kBin2, SS.r_binE, SS.r_kb1, SS.r_kb2, SS.r_kb3s, SS.r_kb3n, SS.d_add, SS.d_addT, SS.d_addL, SS.n_addL, SS.d_sub, SS.d_mul, SS.d_mulL, SS.n_mulL, SS.d_mod, SS.d_fdiv, SS.d_pow, SS.r_neg, SS.r_kNeg, SS.r_kNeg2, SS.r_not, SS.r_kNot, SS.r_kNot2, SS.r_okB, SS.r_cmp, SS.r_kCmp1, SS.r_kCmp2, SS.r_cmpE, SS.r_kc1, SS.c_lt, SS.c_le, SS.c_gt, SS.c_ge, SS.c_eq, SS.c_ne, SS.e_str, SS.r_chn, SS.r_kCh1, SS.r_kCh2, SS.r_kCh2b, SS.r_kCh3, SS.r_and, SS.r_kAnd, SS.r_kAnd2, SS.r_or, SS.r_kOr, SS.r_kOr2, SS.r_ite, SS.r_kIte, SS.r_kIte2, SS.r_ix, SS.r_kIx1, SS.r_kIx2, SS.r_kIx3, SS.x_l, SS.x_t, SS.x_n, SS.x_p, SS.x_c, SS.x_s, SS.r_sl, SS.r_kSl1, SS.r_kSl2, SS.r_kSl3, SS.s_l, SS.s_t, SS.s_n, SS.s_p, SS.s_s, SS.r_oN, SS.r_oS, SS.r_kO, SS.r_okO, SS.r_rev, SS.r_kRev, SS.r_kRev2, SS.r_revL, SS.r_revT, SS.r_listD, SS.r_itemsL, SS.r_itemsT, SS.r_call, SS.r_kCall1, SS.r_kCall2, SS.r_kCall3, SS.m_n, SS.m_c, SS.r_kmh, SS.t_n, SS.t_c, SS.r_kms, SS.r_esN, SS.r_esC, SS.r_kEs1, SS.r_kEs2, SS.r_callv, SS.r_gF, SS.r_kCv1, SS.r_kCv2, SS.r_b1, SS.r_kB1, SS.b_d, SS.b_n, SS.b_p, SS.b_s, SS.r_kbbS, SS.r_kbbN, SS.u_lenL, SS.u_lenT, SS.u_int, SS.u_intB, SS.u_abs, SS.u_sumL, SS.u_sumT, SS.u_maxL, SS.u_minL, SS.u_maxT, SS.u_minT, SS.u_tupL, SS.u_tupT, SS.u_all, SS.u_reprL, SS.u_reprT, SS.u_listL, SS.u_listT, SS.v_listL, SS.v_listT, SS.u_sorted, SS.v_sorted, SS.v_srtL, SS.v_srtLn, SS.r_b2, SS.r_kB2a, SS.r_kB2b, SS.r_kB2c, SS.w_max, SS.w_min, SS.w_divmod, SS.r_isi, SS.r_kIsi, SS.r_kIsi2, SS.r_comp, SS.r_kComp, SS.r_kComp2, SS.r_fComp, SS.r_kC1, SS.r_kC2, SS.r_kC3, SS.r_kC4, SS.r_cN, SS.r_cS, SS.r_kCn, SS.r_okBo, SS.p_nm, SS.p_tup, SS.p_nil, SS.p_cons, SS.r_kbp, SS.r_sset, SS.r_kSset, SS.r_kSset2t, SS.r_kSset2f, SS.r_uqD, SS.r_srtK, SS.r_kSk, SS.r_kSk2, SS.r_fKey, SS.r_srtR, SS.r_kSrt, SS.r_kSrt2, SS.r_srtRDl, SS.r_srtRDt, SS.r_srtLR, SS.r_srtLRn, SS.r_srtTR, SS.d_mulT, SS.c_ltT, SS.c_gtT, SS.c_leT, SS.c_geT, SS.r_m1, SS.r_kM1, SS.r_kM2, SS.r_kM3, SS.r_kM4, SS.r_kM5, SS.r_rgl, SS.r_kRglT, SS.r_kRglF, SS.u_sortedT, SS.v_sortedT, SS.r_okL, SS.r_it, SS.r_kSrcIt, SS.r_rng1, SS.r_kR1, SS.r_kR1b, SS.r_rng2, SS.r_kR2, SS.r_kR2b, SS.r_kR2b', SS.r_kR2c, SS.r_rngd, SS.r_kRd2, SS.r_kRd2b, SS.r_kRd2b', SS.r_kRd2c, SS.r_enum, SS.r_kEn, SS.r_kEn2, SS.r_zip, SS.r_kZ1, SS.r_kZ2, SS.r_kZ3, SS.z_l, SS.z_t, SS.q_t, SS.q_f, SS.x_set, SS.r_kSet, SS.r_kSet2, SS.x_own, SS.r_kOwn, SS.r_okN, SS.x_par, SS.r_kPar, SS.y_n, SS.y_t, SS.y_f, SS.r_kps, SS.x_expr, SS.r_kExpr, SS.x_popA, SS.r_gPopA, SS.r_kPop2, SS.r_kPop3, SS.r_kPop4, SS.x_app, SS.r_gApp, SS.r_kApp2, SS.r_kApp3, SS.x_ext, SS.r_gExt, SS.r_kExt2, SS.r_kExt3, SS.x_ret, SS.r_kRet, SS.v_d, SS.v_n, SS.v_p, SS.v_c, SS.x_retN, SS.x_raise, SS.r_kRaise, SS.r_kRaiseN, SS.x_raise0, SS.r_hear, SS.x_pass, SS.x_never, SS.x_ite, SS.r_kIf, SS.r_kIf2, SS.x_for, SS.r_kFor, SS.r_fBody, SS.r_kBody, SS.r_kCond, SS.x_whil, SS.x_frz, SS.r_gFrz, SS.x_nil, SS.x_cons, SS.r_kSeq, SS.b_nm, SS.b_tup, SS.r_kSub3, SS.b_sub, SS.r_kSub1, SS.r_kSub2, SS.b_osub, SS.r_gOs, SS.r_kOs2, SS.r_kOs3, SS.b_nil, SS.b_cons, SS.r_kBts, SS.l_n, SS.l_c, SS.st_eq, SS.r_isN, SS.r_isI, SS.r_isnN, SS.r_isnI, SS.r_isT, SS.r_isnT, Res.bind_ok, Res.bind_bad, st_ok, st_bad, lft_some, lft_none, sft_some, sft_none, thn_nx, thn_ret, thn_bad, held_d, held_nw, held_cell, held_fn, held_scr, strict_d, strict_nw, asD_d, asD_nw, asD_pk, dInt_d, dBool_d, Res.bind_exc, st_exc, thn_exc, ret_exc, ret_nx, ret_ret, ret_bad, Option.bind_some, Option.map_some, ite_true, ite_false, if_true, if_false, Bool.false_eq_true, decide_eq_true_eq, List.map_cons, List.map_nil, List.length_cons, List.length_nil, List.replicate_succ, List.replicate_zero, List.cons_append, List.nil_append, List.getElem?_cons_zero, List.getElem?_cons_succ, List.set_cons_zero, List.set_cons_succ, List.getD_cons_zero, List.getD_cons_succ, Nat.reduceAdd, Nat.reduceSub, Nat.reduceLeDiff, Int.reduceNeg, Int.reduceLT, Int.reduceLE, if_pos, Nat.reducePow, Int.natAbs_cast, Int.reduceAbs, Int.reduceToNat, Int.reduceNeg, at0, at1, at2, at3, at4, at5, SS.abs_mod, SS.lim_eq, Int.reduceAdd, Int.reduceSub, Int.sub_zero, range_length, Nat.reduceLT, or_true, true_or, and_self, and_true, true_and, Nat.zero_add, Nat.reduceEqDiff, hk_ok__law_heard, hk_0__law_heard, hk_1__law_heard, hk_2__law_heard, ir__law_no_lights, hne, List.flatten_cons, List.flatten_nil, List.append_nil, e]
  exact ⟨d, S', rfl, hd, p, l⟩
theorem x1 {k : Nat} (hk : 22 ≤ k) {S : Cells} {l v : D} {b : D × D} (hb : b ∈ badL) : callF T k "_law_six" [.d b.1, .d l, .d v] S = .ok (.nw [.list [.str "lights", b.2], .list [.str "lights", b.2], .list [.str "lights", b.2], .list [.str "lights", b.2], .list [.str "lights", b.2], .list [.str "lights", b.2]]) S := by
  obtain ⟨j, rfl⟩ : ∃ j, k = j + 22 := ⟨k - 22, by omega⟩
  simp only [badL, List.mem_cons, List.not_mem_nil, or_false] at hb
  rcases hb with rfl | rfl | rfl | rfl | rfl | rfl | rfl | rfl | rfl | rfl | rfl | rfl | rfl <;> kernel_rfl
theorem x2 {k : Nat} (hk : 22 ≤ k) {S : Cells} {v : D} {l : D} (hl : l ∈ badN) : callF T k "_law_six" [.d (.tuple [.int 9, .int 8, .int 5, .int 4, .int 1, .int 1]), .d l, .d v] S = .ok (.nw [.list [.str "number", l], .list [.str "number", l], .list [.str "number", l], .list [.str "number", l], .list [.str "number", l], .list [.str "number", l]]) S := by
  obtain ⟨j, rfl⟩ : ∃ j, k = j + 22 := ⟨k - 22, by omega⟩
  simp only [badN, List.mem_cons, List.not_mem_nil, or_false] at hl
  rcases hl with rfl | rfl | rfl | rfl | rfl | rfl <;> kernel_rfl
theorem x3 {k : Nat} (hk : 22 ≤ k) {S : Cells} {v : D} (hv : v ∈ badN) : callF T k "_law_six" [.d (.tuple [.int 9, .int 8, .int 5, .int 4, .int 1, .int 1]), .d (.int 3), .d v] S = .ok (.nw [.list [.str "number", v], .list [.str "number", v], .list [.str "number", v], .list [.str "number", v], .list [.str "let"], .list [.str "let"]]) S := by
  obtain ⟨j, rfl⟩ : ∃ j, k = j + 22 := ⟨k - 22, by omega⟩
  simp only [badN, List.mem_cons, List.not_mem_nil, or_false] at hv
  rcases hv with rfl | rfl | rfl | rfl | rfl | rfl <;> kernel_rfl
theorem x4 {k : Nat} (hk : 22 ≤ k) {S : Cells} {o : D} (ho : o ∈ odds) {v : D} (hv : v ∈ badN) : callF T k "_law_six" [.d (.tuple [.int 9, .int 8, .int 5, .int 4, .int 1, .int 1]), .d o, .d v] S = .ok (.nw [.list [.str "number", v], .list [.str "number", v], .list [.str "number", v], .list [.str "number", v], .list [.str "range", o], .list [.str "range", o]]) S := by
  obtain ⟨j, rfl⟩ : ∃ j, k = j + 22 := ⟨k - 22, by omega⟩
  simp only [odds, badN, List.mem_cons, List.not_mem_nil, or_false] at ho hv
  rcases ho with rfl | rfl | rfl | rfl <;> rcases hv with rfl | rfl | rfl | rfl | rfl | rfl <;> kernel_rfl
theorem x5 {k : Nat} (hk : 22 ≤ k) {S : Cells} {o : D} (ho : o ∈ odds) : callF T k "_law_six" [.d (.tuple [.int 9, .int 8, .int 5, .int 4, .int 1, .int 1]), .d o, .d (.int 8)] S = .ok (.nw [.list [.str "range", o], .list [.str "range", o], .list [.str "range", o], .list [.str "range", o], .list [.str "range", o], .list [.str "range", o]]) S := by
  obtain ⟨j, rfl⟩ : ∃ j, k = j + 22 := ⟨k - 22, by omega⟩
  simp only [odds, List.mem_cons, List.not_mem_nil, or_false] at ho
  rcases ho with rfl | rfl | rfl | rfl <;> kernel_rfl
theorem x6 {k : Nat} (hk : 22 ≤ k) {S : Cells} : callF T k "_law_six" [.d (.tuple [.int 9, .int 8, .int 5, .int 4, .int 1, .int 1]), .d (.int 2), .d (.int 3)] S = .ok (.nw [.list [.str "range", .int 3], .list [.str "range", .int 3], .list [.str "range", .int 3], .list [.str "range", .int 3], .list [.str "let"], .list [.str "let"]]) S := by
  obtain ⟨j, rfl⟩ : ∃ j, k = j + 22 := ⟨k - 22, by omega⟩
  kernel_rfl
theorem x7 {k : Nat} (hk : 22 ≤ k) {S : Cells} : callF T k "_law_six" [.d (.tuple [.int 5, .int 5, .int 5, .int 5, .int 5, .int 5, .int 5, .int 5, .int 5]), .d (.int 1), .d (.int 1)] S = .ok (.nw [.list [.str "range", .int 1], .list [.str "range", .int 1], .list [.str "range", .int 1], .list [.str "range", .int 1], .list [.str "range", .int 1], .list [.str "range", .int 1]]) S := by
  obtain ⟨j, rfl⟩ : ∃ j, k = j + 22 := ⟨k - 22, by omega⟩
  kernel_rfl
theorem x8 {k : Nat} (hk : 22 ≤ k) {S : Cells} : callF T k "_law_six" [.d (.tuple [.int 0, .int 0, .int 0, .int 0, .int 0, .int 0, .int 0, .int 0, .int 0, .int 0, .int 0, .int 0, .int 0, .int 0, .int 0, .int 0, .int 0, .int 0, .int 0, .int 0, .int 0, .int 0, .int 0, .int 0]), .d (.int 8), .d (.int 8)] S = .ok (.nw [.list [.str "let"], .list [.str "let"], .list [.str "let"], .list [.str "let"], .list [.str "let"], .list [.str "let"]]) S := by
  obtain ⟨j, rfl⟩ : ∃ j, k = j + 22 := ⟨k - 22, by omega⟩
  kernel_rfl
theorem x9 {k : Nat} (hk : 22 ≤ k) {S : Cells} : callF T k "_law_six" [.d (.tuple [.int 7]), .d (.int 1), .d (.int 1)] S = .ok (.nw [.list [.str "let"], .list [.str "let"], .list [.str "let"], .list [.str "let"], .list [.str "let"], .list [.str "let"]]) S := by
  obtain ⟨j, rfl⟩ : ∃ j, k = j + 22 := ⟨k - 22, by omega⟩
  kernel_rfl
theorem c_right {k : Nat} (hk : 25 ≤ k) {S : Cells} {c : Nat} (h : Pail S c) : ∃ S', callF T k "_law_right" [.cell c] S = .ok (.d (.bool true)) S' ∧ Pail S' c ∧ S'.length = S.length := by
  obtain ⟨j, rfl⟩ : ∃ j, k = j + 1 := ⟨k - 1, by omega⟩
  rw [callF_at T__law_right, runFn_eq rfl]
  simp only [ir__law_right, SS.ite_iff, SS.r_gV, SS.r_gP, SS.r_lit, SS.r_glob, SS.r_fnv, SS.r_var, SS.r_peek, SS.r_okD, SS.r_okV, SS.r_tup, SS.r_kTup, SS.r_kTupD, SS.r_lst, SS.r_kLst, SS.r_kLstD, SS.r_newc, SS.r_kNewc, SS.r_bin, SS.r_kBin1, SS.r_kBin2, SS.r_binE, SS.r_kb1, SS.r_kb2, SS.r_kb3s, SS.r_kb3n, SS.d_add, SS.d_addT, SS.d_addL, SS.n_addL, SS.d_sub, SS.d_mul, SS.d_mulL, SS.n_mulL, SS.d_mod, SS.d_fdiv, SS.d_pow, SS.r_neg, SS.r_kNeg, SS.r_kNeg2, SS.r_not, SS.r_kNot, SS.r_kNot2, SS.r_okB, SS.r_cmp, SS.r_kCmp1, SS.r_kCmp2, SS.r_cmpE, SS.r_kc1, SS.c_lt, SS.c_le, SS.c_gt, SS.c_ge, SS.c_eq, SS.c_ne, SS.e_str, SS.r_chn, SS.r_kCh1, SS.r_kCh2, SS.r_kCh2b, SS.r_kCh3, SS.r_and, SS.r_kAnd, SS.r_kAnd2, SS.r_or, SS.r_kOr, SS.r_kOr2, SS.r_ite, SS.r_kIte, SS.r_kIte2, SS.r_ix, SS.r_kIx1, SS.r_kIx2, SS.r_kIx3, SS.x_l, SS.x_t, SS.x_n, SS.x_p, SS.x_c, SS.x_s, SS.r_sl, SS.r_kSl1, SS.r_kSl2, SS.r_kSl3, SS.s_l, SS.s_t, SS.s_n, SS.s_p, SS.s_s, SS.r_oN, SS.r_oS, SS.r_kO, SS.r_okO, SS.r_rev, SS.r_kRev, SS.r_kRev2, SS.r_revL, SS.r_revT, SS.r_listD, SS.r_itemsL, SS.r_itemsT, SS.r_call, SS.r_kCall1, SS.r_kCall2, SS.r_kCall3, SS.m_n, SS.m_c, SS.r_kmh, SS.t_n, SS.t_c, SS.r_kms, SS.r_esN, SS.r_esC, SS.r_kEs1, SS.r_kEs2, SS.r_callv, SS.r_gF, SS.r_kCv1, SS.r_kCv2, SS.r_b1, SS.r_kB1, SS.b_d, SS.b_n, SS.b_p, SS.b_s, SS.r_kbbS, SS.r_kbbN, SS.u_lenL, SS.u_lenT, SS.u_int, SS.u_intB, SS.u_abs, SS.u_sumL, SS.u_sumT, SS.u_maxL, SS.u_minL, SS.u_maxT, SS.u_minT, SS.u_tupL, SS.u_tupT, SS.u_all, SS.u_reprL, SS.u_reprT, SS.u_listL, SS.u_listT, SS.v_listL, SS.v_listT, SS.u_sorted, SS.v_sorted, SS.v_srtL, SS.v_srtLn, SS.r_b2, SS.r_kB2a, SS.r_kB2b, SS.r_kB2c, SS.w_max, SS.w_min, SS.w_divmod, SS.r_isi, SS.r_kIsi, SS.r_kIsi2, SS.r_comp, SS.r_kComp, SS.r_kComp2, SS.r_fComp, SS.r_kC1, SS.r_kC2, SS.r_kC3, SS.r_kC4, SS.r_cN, SS.r_cS, SS.r_kCn, SS.r_okBo, SS.p_nm, SS.p_tup, SS.p_nil, SS.p_cons, SS.r_kbp, SS.r_sset, SS.r_kSset, SS.r_kSset2t, SS.r_kSset2f, SS.r_uqD, SS.r_srtK, SS.r_kSk, SS.r_kSk2, SS.r_fKey, SS.r_srtR, SS.r_kSrt, SS.r_kSrt2, SS.r_srtRDl, SS.r_srtRDt, SS.r_srtLR, SS.r_srtLRn, SS.r_srtTR, SS.d_mulT, SS.c_ltT, SS.c_gtT, SS.c_leT, SS.c_geT, SS.r_m1, SS.r_kM1, SS.r_kM2, SS.r_kM3, SS.r_kM4, SS.r_kM5, SS.r_rgl, SS.r_kRglT, SS.r_kRglF, SS.u_sortedT, SS.v_sortedT, SS.r_okL, SS.r_it, SS.r_kSrcIt, SS.r_rng1, SS.r_kR1, SS.r_kR1b, SS.r_rng2, SS.r_kR2, SS.r_kR2b, SS.r_kR2b', SS.r_kR2c, SS.r_rngd, SS.r_kRd2, SS.r_kRd2b, SS.r_kRd2b', SS.r_kRd2c, SS.r_enum, SS.r_kEn, SS.r_kEn2, SS.r_zip, SS.r_kZ1, SS.r_kZ2, SS.r_kZ3, SS.z_l, SS.z_t, SS.q_t, SS.q_f, SS.x_set, SS.r_kSet, SS.r_kSet2, SS.x_own, SS.r_kOwn, SS.r_okN, SS.x_par, SS.r_kPar, SS.y_n, SS.y_t, SS.y_f, SS.r_kps, SS.x_expr, SS.r_kExpr, SS.x_popA, SS.r_gPopA, SS.r_kPop2, SS.r_kPop3, SS.r_kPop4, SS.x_app, SS.r_gApp, SS.r_kApp2, SS.r_kApp3, SS.x_ext, SS.r_gExt, SS.r_kExt2, SS.r_kExt3, SS.x_ret, SS.r_kRet, SS.v_d, SS.v_n, SS.v_p, SS.v_c, SS.x_retN, SS.x_raise, SS.r_kRaise, SS.r_kRaiseN, SS.x_raise0, SS.r_hear, SS.x_pass, SS.x_never, SS.x_ite, SS.r_kIf, SS.r_kIf2, SS.x_for, SS.r_kFor, SS.r_fBody, SS.r_kBody, SS.r_kCond, SS.x_whil, SS.x_frz, SS.r_gFrz, SS.x_nil, SS.x_cons, SS.r_kSeq, SS.b_nm, SS.b_tup, SS.r_kSub3, SS.b_sub, SS.r_kSub1, SS.r_kSub2, SS.b_osub, SS.r_gOs, SS.r_kOs2, SS.r_kOs3, SS.b_nil, SS.b_cons, SS.r_kBts, SS.l_n, SS.l_c, SS.st_eq, SS.r_isN, SS.r_isI, SS.r_isnN, SS.r_isnI, SS.r_isT, SS.r_isnT, Res.bind_ok, Res.bind_bad, st_ok, st_bad, lft_some, lft_none, sft_some, sft_none, thn_nx, thn_ret, thn_bad, held_d, held_nw, held_cell, held_fn, held_scr, strict_d, strict_nw, asD_d, asD_nw, asD_pk, dInt_d, dBool_d, Res.bind_exc, st_exc, thn_exc, ret_exc, ret_nx, ret_ret, ret_bad, Option.bind_some, Option.map_some, ite_true, ite_false, if_true, if_false, Bool.false_eq_true, decide_eq_true_eq, List.map_cons, List.map_nil, List.length_cons, List.length_nil, List.replicate_succ, List.replicate_zero, List.cons_append, List.nil_append, List.getElem?_cons_zero, List.getElem?_cons_succ, List.set_cons_zero, List.set_cons_succ, List.getD_cons_zero, List.getD_cons_succ, Nat.reduceAdd, Nat.reduceSub, Nat.reduceLeDiff, Int.reduceNeg, Int.reduceLT, Int.reduceLE, if_pos, Nat.reducePow, Int.natAbs_cast, Int.reduceAbs, Int.reduceToNat, Int.reduceNeg, at0, at1, at2, at3, at4, at5, SS.abs_mod, SS.lim_eq, Int.reduceAdd, Int.reduceSub, Int.sub_zero, range_length, Nat.reduceLT, or_true, true_or, and_self, and_true, true_and, Nat.zero_add, Nat.reduceEqDiff, hk_ok__law_heard, hk_0__law_heard, hk_1__law_heard, hk_2__law_heard]
  generalize hr : forLoop _ _ _ _ = r
  obtain ⟨ρ', S', rfl, w1, w2, w3, w4, w5, w6, w7, w8, w9, rfl, p', l'⟩ := loop_to hr (fun i ρ' S' => ∃ (w1 w2 w3 w4 w5 w6 w7 w8 w9 : SV), ρ' = [.v (.cell c), w1, w2, w3, w4, w5, w6, w7, w8, w9] ∧ Pail S' c ∧ S'.length = S.length)
      ⟨_, _, _, _, _, _, _, _, _, rfl, h, rfl⟩ (by
    intro i x ρ S' hx ⟨w1, w2, w3, w4, w5, w6, w7, w8, w9, e1, p1, l1⟩
    subst e1
    obtain ⟨b, S_0, e_0, hb, pp0, l_0⟩ := c_no_lights (k := j) (by omega) p1
    obtain ⟨l, S_1, e_1, hl, pp1, l_1⟩ := c_no_number (k := j) (by omega) (lo := 1) (hi := 8) pp0
    obtain ⟨v, S_2, e_2, hv, pp2, l_2⟩ := c_no_number (k := j) (by omega) (lo := 1) (hi := 8) pp1
    obtain ⟨o, S_3, e_3, ho, pp3, l_3⟩ := c_of (k := j) (by omega) pp2 (xs := odds) (by decide) (by decide)
    simp only [odds] at e_3
    have r1 : Rp 4 602 (.list [.str "lights", b.2]) := by
      have key : ∀ p ∈ badL, rpB 4 602 (.list [.str "lights", p.2]) = true := by decide +kernel
      exact rp_of (key b hb)
    have r2 : Rp 4 602 (.list [.str "number", l]) := by
      have key : ∀ p ∈ badN, rpB 4 602 (.list [.str "number", p]) = true := by decide +kernel
      exact rp_of (key l hl)
    have r3 : Rp 4 602 (.list [.str "number", v]) := by
      have key : ∀ p ∈ badN, rpB 4 602 (.list [.str "number", p]) = true := by decide +kernel
      exact rp_of (key v hv)
    have r4 : Rp 4 602 (.list [.str "range", o]) := by
      have key : ∀ p ∈ odds, rpB 4 602 (.list [.str "range", p]) = true := by decide +kernel
      exact rp_of (key o ho)
    have r5 : Rp 4 602 (.list [.str "let"]) := rp_of (by decide +kernel)
    have r6 : Rp 4 602 (.list [.str "range", .int 3]) := rp_of (by decide +kernel)
    have r7 : Rp 4 602 (.list [.str "range", .int 1]) := rp_of (by decide +kernel)
    have R1 : reprOk (.list [.list [.str "lights", b.2], .list [.str "lights", b.2], .list [.str "lights", b.2], .list [.str "lights", b.2], .list [.str "lights", b.2], .list [.str "lights", b.2], .list [.str "number", l], .list [.str "number", l], .list [.str "number", l], .list [.str "number", l], .list [.str "number", l], .list [.str "number", l], .list [.str "number", v], .list [.str "number", v], .list [.str "number", v], .list [.str "number", v], .list [.str "let"], .list [.str "let"]]) = true := by
      refine ok_list (fun x hx => ?_) (by simp)
      simp only [List.mem_cons, List.not_mem_nil, or_false] at hx
      rcases hx with rfl | rfl | rfl | rfl | rfl | rfl | rfl | rfl | rfl | rfl | rfl | rfl | rfl | rfl | rfl | rfl | rfl | rfl <;> first | exact r1 | exact r2 | exact r3 | exact r5
    have R2 : reprOk (.list [.list [.str "number", v], .list [.str "number", v], .list [.str "number", v], .list [.str "number", v], .list [.str "range", o], .list [.str "range", o], .list [.str "range", o], .list [.str "range", o], .list [.str "range", o], .list [.str "range", o], .list [.str "range", o], .list [.str "range", o], .list [.str "range", .int 3], .list [.str "range", .int 3], .list [.str "range", .int 3], .list [.str "range", .int 3], .list [.str "let"], .list [.str "let"], .list [.str "range", .int 1], .list [.str "range", .int 1], .list [.str "range", .int 1], .list [.str "range", .int 1], .list [.str "range", .int 1], .list [.str "range", .int 1]]) = true := by
      refine ok_list (fun x hx => ?_) (by simp)
      simp only [List.mem_cons, List.not_mem_nil, or_false] at hx
      rcases hx with rfl | rfl | rfl | rfl | rfl | rfl | rfl | rfl | rfl | rfl | rfl | rfl | rfl | rfl | rfl | rfl | rfl | rfl | rfl | rfl | rfl | rfl | rfl | rfl <;> first | exact r3 | exact r4 | exact r6 | exact r5 | exact r7
    have R3 : reprOk (.list [.list [.str "let"], .list [.str "let"], .list [.str "let"], .list [.str "let"], .list [.str "let"], .list [.str "let"], .list [.str "let"], .list [.str "let"], .list [.str "let"], .list [.str "let"], .list [.str "let"], .list [.str "let"]]) = true := by
      refine ok_list (fun x hx => ?_) (by simp)
      simp only [List.mem_cons, List.not_mem_nil, or_false] at hx
      rcases hx with rfl | rfl | rfl | rfl | rfl | rfl | rfl | rfl | rfl | rfl | rfl | rfl <;> first | exact r5
    have m_6 : 1 * 6 ≤ 1000000 ∧ -2 ^ 60 ≤ (6 : Int) ∧ (6 : Int) < 2 ^ 60 := by decide
    have m_4 : 1 * 4 ≤ 1000000 ∧ -2 ^ 60 ≤ (4 : Int) ∧ (4 : Int) < 2 ^ 60 := by decide
    have m_2 : 1 * 2 ≤ 1000000 ∧ -2 ^ 60 ≤ (2 : Int) ∧ (2 : Int) < 2 ^ 60 := by decide
    have m_8 : 1 * 8 ≤ 1000000 ∧ -2 ^ 60 ≤ (8 : Int) ∧ (8 : Int) < 2 ^ 60 := by decide
    have m_12 : 1 * 12 ≤ 1000000 ∧ -2 ^ 60 ≤ (12 : Int) ∧ (12 : Int) < 2 ^ 60 := by decide
    have hne : ∀ x : D, (([x] : List D) ≠ []) = True := fun x => by simp
    simp only [SS.ite_iff, SS.r_gV, SS.r_gP, SS.r_lit, SS.r_glob, SS.r_fnv, SS.r_var, SS.r_peek, SS.r_okD, SS.r_okV, SS.r_tup, SS.r_kTup, SS.r_kTupD, SS.r_lst, SS.r_kLst, SS.r_kLstD, SS.r_newc, SS.r_kNewc, SS.r_bin, SS.r_kBin1, SS.r_kBin2, SS.r_binE, SS.r_kb1, SS.r_kb2, SS.r_kb3s, SS.r_kb3n, SS.d_add, SS.d_addT, SS.d_addL, SS.n_addL, SS.d_sub, SS.d_mul, SS.d_mulL, SS.n_mulL, SS.d_mod, SS.d_fdiv, SS.d_pow, SS.r_neg, SS.r_kNeg, SS.r_kNeg2, SS.r_not, SS.r_kNot, SS.r_kNot2, SS.r_okB, SS.r_cmp, SS.r_kCmp1, SS.r_kCmp2, SS.r_cmpE, SS.r_kc1, SS.c_lt, SS.c_le, SS.c_gt, SS.c_ge, SS.c_eq, SS.c_ne, SS.e_str, SS.r_chn, SS.r_kCh1, SS.r_kCh2, SS.r_kCh2b, SS.r_kCh3, SS.r_and, SS.r_kAnd, SS.r_kAnd2, SS.r_or, SS.r_kOr, SS.r_kOr2, SS.r_ite, SS.r_kIte, SS.r_kIte2, SS.r_ix, SS.r_kIx1, SS.r_kIx2, SS.r_kIx3, SS.x_l, SS.x_t, SS.x_n, SS.x_p, SS.x_c, SS.x_s, SS.r_sl, SS.r_kSl1, SS.r_kSl2, SS.r_kSl3, SS.s_l, SS.s_t, SS.s_n, SS.s_p, SS.s_s, SS.r_oN, SS.r_oS, SS.r_kO, SS.r_okO, SS.r_rev, SS.r_kRev, SS.r_kRev2, SS.r_revL, SS.r_revT, SS.r_listD, SS.r_itemsL, SS.r_itemsT, SS.r_call, SS.r_kCall1, SS.r_kCall2, SS.r_kCall3, SS.m_n, SS.m_c, SS.r_kmh, SS.t_n, SS.t_c, SS.r_kms, SS.r_esN, SS.r_esC, SS.r_kEs1, SS.r_kEs2, SS.r_callv, SS.r_gF, SS.r_kCv1, SS.r_kCv2, SS.r_b1, SS.r_kB1, SS.b_d, SS.b_n, SS.b_p, SS.b_s, SS.r_kbbS, SS.r_kbbN, SS.u_lenL, SS.u_lenT, SS.u_int, SS.u_intB, SS.u_abs, SS.u_sumL, SS.u_sumT, SS.u_maxL, SS.u_minL, SS.u_maxT, SS.u_minT, SS.u_tupL, SS.u_tupT, SS.u_all, SS.u_reprL, SS.u_reprT, SS.u_listL, SS.u_listT, SS.v_listL, SS.v_listT, SS.u_sorted, SS.v_sorted, SS.v_srtL, SS.v_srtLn, SS.r_b2, SS.r_kB2a, SS.r_kB2b, SS.r_kB2c, SS.w_max, SS.w_min, SS.w_divmod, SS.r_isi, SS.r_kIsi, SS.r_kIsi2, SS.r_comp, SS.r_kComp, SS.r_kComp2, SS.r_fComp, SS.r_kC1, SS.r_kC2, SS.r_kC3, SS.r_kC4, SS.r_cN, SS.r_cS, SS.r_kCn, SS.r_okBo, SS.p_nm, SS.p_tup, SS.p_nil, SS.p_cons, SS.r_kbp, SS.r_sset, SS.r_kSset, SS.r_kSset2t, SS.r_kSset2f, SS.r_uqD, SS.r_srtK, SS.r_kSk, SS.r_kSk2, SS.r_fKey, SS.r_srtR, SS.r_kSrt, SS.r_kSrt2, SS.r_srtRDl, SS.r_srtRDt, SS.r_srtLR, SS.r_srtLRn, SS.r_srtTR, SS.d_mulT, SS.c_ltT, SS.c_gtT, SS.c_leT, SS.c_geT, SS.r_m1, SS.r_kM1, SS.r_kM2, SS.r_kM3, SS.r_kM4, SS.r_kM5, SS.r_rgl, SS.r_kRglT, SS.r_kRglF, SS.u_sortedT, SS.v_sortedT, SS.r_okL, SS.r_it, SS.r_kSrcIt, SS.r_rng1, SS.r_kR1, SS.r_kR1b, SS.r_rng2, SS.r_kR2, SS.r_kR2b, SS.r_kR2b', SS.r_kR2c, SS.r_rngd, SS.r_kRd2, SS.r_kRd2b, SS.r_kRd2b', SS.r_kRd2c, SS.r_enum, SS.r_kEn, SS.r_kEn2, SS.r_zip, SS.r_kZ1, SS.r_kZ2, SS.r_kZ3, SS.z_l, SS.z_t, SS.q_t, SS.q_f, SS.x_set, SS.r_kSet, SS.r_kSet2, SS.x_own, SS.r_kOwn, SS.r_okN, SS.x_par, SS.r_kPar, SS.y_n, SS.y_t, SS.y_f, SS.r_kps, SS.x_expr, SS.r_kExpr, SS.x_popA, SS.r_gPopA, SS.r_kPop2, SS.r_kPop3, SS.r_kPop4, SS.x_app, SS.r_gApp, SS.r_kApp2, SS.r_kApp3, SS.x_ext, SS.r_gExt, SS.r_kExt2, SS.r_kExt3, SS.x_ret, SS.r_kRet, SS.v_d, SS.v_n, SS.v_p, SS.v_c, SS.x_retN, SS.x_raise, SS.r_kRaise, SS.r_kRaiseN, SS.x_raise0, SS.r_hear, SS.x_pass, SS.x_never, SS.x_ite, SS.r_kIf, SS.r_kIf2, SS.x_for, SS.r_kFor, SS.r_fBody, SS.r_kBody, SS.r_kCond, SS.x_whil, SS.x_frz, SS.r_gFrz, SS.x_nil, SS.x_cons, SS.r_kSeq, SS.b_nm, SS.b_tup, SS.r_kSub3, SS.b_sub, SS.r_kSub1, SS.r_kSub2, SS.b_osub, SS.r_gOs, SS.r_kOs2, SS.r_kOs3, SS.b_nil, SS.b_cons, SS.r_kBts, SS.l_n, SS.l_c, SS.st_eq, SS.r_isN, SS.r_isI, SS.r_isnN, SS.r_isnI, SS.r_isT, SS.r_isnT, Res.bind_ok, Res.bind_bad, st_ok, st_bad, lft_some, lft_none, sft_some, sft_none, thn_nx, thn_ret, thn_bad, held_d, held_nw, held_cell, held_fn, held_scr, strict_d, strict_nw, asD_d, asD_nw, asD_pk, dInt_d, dBool_d, Res.bind_exc, st_exc, thn_exc, ret_exc, ret_nx, ret_ret, ret_bad, Option.bind_some, Option.map_some, ite_true, ite_false, if_true, if_false, Bool.false_eq_true, decide_eq_true_eq, List.map_cons, List.map_nil, List.length_cons, List.length_nil, List.replicate_succ, List.replicate_zero, List.cons_append, List.nil_append, List.getElem?_cons_zero, List.getElem?_cons_succ, List.set_cons_zero, List.set_cons_succ, List.getD_cons_zero, List.getD_cons_succ, Nat.reduceAdd, Nat.reduceSub, Nat.reduceLeDiff, Int.reduceNeg, Int.reduceLT, Int.reduceLE, if_pos, Nat.reducePow, Int.natAbs_cast, Int.reduceAbs, Int.reduceToNat, Int.reduceNeg, at0, at1, at2, at3, at4, at5, SS.abs_mod, SS.lim_eq, Int.reduceAdd, Int.reduceSub, Int.sub_zero, range_length, Nat.reduceLT, or_true, true_or, and_self, and_true, true_and, Nat.zero_add, Nat.reduceEqDiff, hk_ok__law_heard, hk_0__law_heard, hk_1__law_heard, hk_2__law_heard, hne, e_0, e_1, e_2, e_3, x1 (k := j) (by omega) hb, x2 (k := j) (by omega) hl, x3 (k := j) (by omega) hv, x4 (k := j) (by omega) ho hv, x5 (k := j) (by omega) ho, x6 (k := j) (by omega), x7 (k := j) (by omega), x8 (k := j) (by omega), x9 (k := j) (by omega), R1, R2, R3, m_6, m_4, m_2, m_8, m_12, beq_self_eq_true, List.flatten_cons, List.flatten_nil, Bool.not_true]
    exact ⟨_, _, rfl, _, _, _, _, _, _, _, _, _, rfl, pp3, by omega⟩
    )
  simp only [SS.ite_iff, SS.r_gV, SS.r_gP, SS.r_lit, SS.r_glob, SS.r_fnv, SS.r_var, SS.r_peek, SS.r_okD, SS.r_okV, SS.r_tup, SS.r_kTup, SS.r_kTupD, SS.r_lst, SS.r_kLst, SS.r_kLstD, SS.r_newc, SS.r_kNewc, SS.r_bin, SS.r_kBin1, SS.r_kBin2, SS.r_binE, SS.r_kb1, SS.r_kb2, SS.r_kb3s, SS.r_kb3n, SS.d_add, SS.d_addT, SS.d_addL, SS.n_addL, SS.d_sub, SS.d_mul, SS.d_mulL, SS.n_mulL, SS.d_mod, SS.d_fdiv, SS.d_pow, SS.r_neg, SS.r_kNeg, SS.r_kNeg2, SS.r_not, SS.r_kNot, SS.r_kNot2, SS.r_okB, SS.r_cmp, SS.r_kCmp1, SS.r_kCmp2, SS.r_cmpE, SS.r_kc1, SS.c_lt, SS.c_le, SS.c_gt, SS.c_ge, SS.c_eq, SS.c_ne, SS.e_str, SS.r_chn, SS.r_kCh1, SS.r_kCh2, SS.r_kCh2b, SS.r_kCh3, SS.r_and, SS.r_kAnd, SS.r_kAnd2, SS.r_or, SS.r_kOr, SS.r_kOr2, SS.r_ite, SS.r_kIte, SS.r_kIte2, SS.r_ix, SS.r_kIx1, SS.r_kIx2, SS.r_kIx3, SS.x_l, SS.x_t, SS.x_n, SS.x_p, SS.x_c, SS.x_s, SS.r_sl, SS.r_kSl1, SS.r_kSl2, SS.r_kSl3, SS.s_l, SS.s_t, SS.s_n, SS.s_p, SS.s_s, SS.r_oN, SS.r_oS, SS.r_kO, SS.r_okO, SS.r_rev, SS.r_kRev, SS.r_kRev2, SS.r_revL, SS.r_revT, SS.r_listD, SS.r_itemsL, SS.r_itemsT, SS.r_call, SS.r_kCall1, SS.r_kCall2, SS.r_kCall3, SS.m_n, SS.m_c, SS.r_kmh, SS.t_n, SS.t_c, SS.r_kms, SS.r_esN, SS.r_esC, SS.r_kEs1, SS.r_kEs2, SS.r_callv, SS.r_gF, SS.r_kCv1, SS.r_kCv2, SS.r_b1, SS.r_kB1, SS.b_d, SS.b_n, SS.b_p, SS.b_s, SS.r_kbbS, SS.r_kbbN, SS.u_lenL, SS.u_lenT, SS.u_int, SS.u_intB, SS.u_abs, SS.u_sumL, SS.u_sumT, SS.u_maxL, SS.u_minL, SS.u_maxT, SS.u_minT, SS.u_tupL, SS.u_tupT, SS.u_all, SS.u_reprL, SS.u_reprT, SS.u_listL, SS.u_listT, SS.v_listL, SS.v_listT, SS.u_sorted, SS.v_sorted, SS.v_srtL, SS.v_srtLn, SS.r_b2, SS.r_kB2a, SS.r_kB2b, SS.r_kB2c, SS.w_max, SS.w_min, SS.w_divmod, SS.r_isi, SS.r_kIsi, SS.r_kIsi2, SS.r_comp, SS.r_kComp, SS.r_kComp2, SS.r_fComp, SS.r_kC1, SS.r_kC2, SS.r_kC3, SS.r_kC4, SS.r_cN, SS.r_cS, SS.r_kCn, SS.r_okBo, SS.p_nm, SS.p_tup, SS.p_nil, SS.p_cons, SS.r_kbp, SS.r_sset, SS.r_kSset, SS.r_kSset2t, SS.r_kSset2f, SS.r_uqD, SS.r_srtK, SS.r_kSk, SS.r_kSk2, SS.r_fKey, SS.r_srtR, SS.r_kSrt, SS.r_kSrt2, SS.r_srtRDl, SS.r_srtRDt, SS.r_srtLR, SS.r_srtLRn, SS.r_srtTR, SS.d_mulT, SS.c_ltT, SS.c_gtT, SS.c_leT, SS.c_geT, SS.r_m1, SS.r_kM1, SS.r_kM2, SS.r_kM3, SS.r_kM4, SS.r_kM5, SS.r_rgl, SS.r_kRglT, SS.r_kRglF, SS.u_sortedT, SS.v_sortedT, SS.r_okL, SS.r_it, SS.r_kSrcIt, SS.r_rng1, SS.r_kR1, SS.r_kR1b, SS.r_rng2, SS.r_kR2, SS.r_kR2b, SS.r_kR2b', SS.r_kR2c, SS.r_rngd, SS.r_kRd2, SS.r_kRd2b, SS.r_kRd2b', SS.r_kRd2c, SS.r_enum, SS.r_kEn, SS.r_kEn2, SS.r_zip, SS.r_kZ1, SS.r_kZ2, SS.r_kZ3, SS.z_l, SS.z_t, SS.q_t, SS.q_f, SS.x_set, SS.r_kSet, SS.r_kSet2, SS.x_own, SS.r_kOwn, SS.r_okN, SS.x_par, SS.r_kPar, SS.y_n, SS.y_t, SS.y_f, SS.r_kps, SS.x_expr, SS.r_kExpr, SS.x_popA, SS.r_gPopA, SS.r_kPop2, SS.r_kPop3, SS.r_kPop4, SS.x_app, SS.r_gApp, SS.r_kApp2, SS.r_kApp3, SS.x_ext, SS.r_gExt, SS.r_kExt2, SS.r_kExt3, SS.x_ret, SS.r_kRet, SS.v_d, SS.v_n, SS.v_p, SS.v_c, SS.x_retN, SS.x_raise, SS.r_kRaise, SS.r_kRaiseN, SS.x_raise0, SS.r_hear, SS.x_pass, SS.x_never, SS.x_ite, SS.r_kIf, SS.r_kIf2, SS.x_for, SS.r_kFor, SS.r_fBody, SS.r_kBody, SS.r_kCond, SS.x_whil, SS.x_frz, SS.r_gFrz, SS.x_nil, SS.x_cons, SS.r_kSeq, SS.b_nm, SS.b_tup, SS.r_kSub3, SS.b_sub, SS.r_kSub1, SS.r_kSub2, SS.b_osub, SS.r_gOs, SS.r_kOs2, SS.r_kOs3, SS.b_nil, SS.b_cons, SS.r_kBts, SS.l_n, SS.l_c, SS.st_eq, SS.r_isN, SS.r_isI, SS.r_isnN, SS.r_isnI, SS.r_isT, SS.r_isnT, Res.bind_ok, Res.bind_bad, st_ok, st_bad, lft_some, lft_none, sft_some, sft_none, thn_nx, thn_ret, thn_bad, held_d, held_nw, held_cell, held_fn, held_scr, strict_d, strict_nw, asD_d, asD_nw, asD_pk, dInt_d, dBool_d, Res.bind_exc, st_exc, thn_exc, ret_exc, ret_nx, ret_ret, ret_bad, Option.bind_some, Option.map_some, ite_true, ite_false, if_true, if_false, Bool.false_eq_true, decide_eq_true_eq, List.map_cons, List.map_nil, List.length_cons, List.length_nil, List.replicate_succ, List.replicate_zero, List.cons_append, List.nil_append, List.getElem?_cons_zero, List.getElem?_cons_succ, List.set_cons_zero, List.set_cons_succ, List.getD_cons_zero, List.getD_cons_succ, Nat.reduceAdd, Nat.reduceSub, Nat.reduceLeDiff, Int.reduceNeg, Int.reduceLT, Int.reduceLE, if_pos, Nat.reducePow, Int.natAbs_cast, Int.reduceAbs, Int.reduceToNat, Int.reduceNeg, at0, at1, at2, at3, at4, at5, SS.abs_mod, SS.lim_eq, Int.reduceAdd, Int.reduceSub, Int.sub_zero, range_length, Nat.reduceLT, or_true, true_or, and_self, and_true, true_and, Nat.zero_add, Nat.reduceEqDiff, hk_ok__law_heard, hk_0__law_heard, hk_1__law_heard, hk_2__law_heard]
  exact ⟨_, rfl, p', l'⟩
def depth : Nat := 30

theorem law_runs (ns : List Int) (hn : ns.length ≤ 63) : ∃ S', callF T (depth + 1) "law" [.scr ns] [] = .ok (.d (.bool true)) S' := by
  rw [callF_at T_law, runFn_eq rfl]
  obtain ⟨n, hmx, n0, n3⟩ : ∃ n : Int, (if (if (3 : Int) < (ns.length : Int) then (3 : Int) else (ns.length : Int)) > 1 then (if (3 : Int) < (ns.length : Int) then (3 : Int) else (ns.length : Int)) else 1) = n ∧ 0 ≤ n ∧ n ≤ 8 := by
    refine ⟨_, rfl, ?_, ?_⟩ <;> split <;> (try split) <;> omega
  have r1 : (-1000000 : Int) ≤ n := by omega
  have r2 : n ≤ (1000000 : Int) := by omega
  simp only [ir_law, SS.ite_iff, SS.r_gV, SS.r_gP, SS.r_lit, SS.r_glob, SS.r_fnv, SS.r_var, SS.r_peek, SS.r_okD, SS.r_okV, SS.r_tup, SS.r_kTup, SS.r_kTupD, SS.r_lst, SS.r_kLst, SS.r_kLstD, SS.r_newc, SS.r_kNewc, SS.r_bin, SS.r_kBin1, SS.r_kBin2, SS.r_binE, SS.r_kb1, SS.r_kb2, SS.r_kb3s, SS.r_kb3n, SS.d_add, SS.d_addT, SS.d_addL, SS.n_addL, SS.d_sub, SS.d_mul, SS.d_mulL, SS.n_mulL, SS.d_mod, SS.d_fdiv, SS.d_pow, SS.r_neg, SS.r_kNeg, SS.r_kNeg2, SS.r_not, SS.r_kNot, SS.r_kNot2, SS.r_okB, SS.r_cmp, SS.r_kCmp1, SS.r_kCmp2, SS.r_cmpE, SS.r_kc1, SS.c_lt, SS.c_le, SS.c_gt, SS.c_ge, SS.c_eq, SS.c_ne, SS.e_str, SS.r_chn, SS.r_kCh1, SS.r_kCh2, SS.r_kCh2b, SS.r_kCh3, SS.r_and, SS.r_kAnd, SS.r_kAnd2, SS.r_or, SS.r_kOr, SS.r_kOr2, SS.r_ite, SS.r_kIte, SS.r_kIte2, SS.r_ix, SS.r_kIx1, SS.r_kIx2, SS.r_kIx3, SS.x_l, SS.x_t, SS.x_n, SS.x_p, SS.x_c, SS.x_s, SS.r_sl, SS.r_kSl1, SS.r_kSl2, SS.r_kSl3, SS.s_l, SS.s_t, SS.s_n, SS.s_p, SS.s_s, SS.r_oN, SS.r_oS, SS.r_kO, SS.r_okO, SS.r_rev, SS.r_kRev, SS.r_kRev2, SS.r_revL, SS.r_revT, SS.r_listD, SS.r_itemsL, SS.r_itemsT, SS.r_call, SS.r_kCall1, SS.r_kCall2, SS.r_kCall3, SS.m_n, SS.m_c, SS.r_kmh, SS.t_n, SS.t_c, SS.r_kms, SS.r_esN, SS.r_esC, SS.r_kEs1, SS.r_kEs2, SS.r_callv, SS.r_gF, SS.r_kCv1, SS.r_kCv2, SS.r_b1, SS.r_kB1, SS.b_d, SS.b_n, SS.b_p, SS.b_s, SS.r_kbbS, SS.r_kbbN, SS.u_lenL, SS.u_lenT, SS.u_int, SS.u_intB, SS.u_abs, SS.u_sumL, SS.u_sumT, SS.u_maxL, SS.u_minL, SS.u_maxT, SS.u_minT, SS.u_tupL, SS.u_tupT, SS.u_all, SS.u_reprL, SS.u_reprT, SS.u_listL, SS.u_listT, SS.v_listL, SS.v_listT, SS.u_sorted, SS.v_sorted, SS.v_srtL, SS.v_srtLn, SS.r_b2, SS.r_kB2a, SS.r_kB2b, SS.r_kB2c, SS.w_max, SS.w_min, SS.w_divmod, SS.r_isi, SS.r_kIsi, SS.r_kIsi2, SS.r_comp, SS.r_kComp, SS.r_kComp2, SS.r_fComp, SS.r_kC1, SS.r_kC2, SS.r_kC3, SS.r_kC4, SS.r_cN, SS.r_cS, SS.r_kCn, SS.r_okBo, SS.p_nm, SS.p_tup, SS.p_nil, SS.p_cons, SS.r_kbp, SS.r_sset, SS.r_kSset, SS.r_kSset2t, SS.r_kSset2f, SS.r_uqD, SS.r_srtK, SS.r_kSk, SS.r_kSk2, SS.r_fKey, SS.r_srtR, SS.r_kSrt, SS.r_kSrt2, SS.r_srtRDl, SS.r_srtRDt, SS.r_srtLR, SS.r_srtLRn, SS.r_srtTR, SS.d_mulT, SS.c_ltT, SS.c_gtT, SS.c_leT, SS.c_geT, SS.r_m1, SS.r_kM1, SS.r_kM2, SS.r_kM3, SS.r_kM4, SS.r_kM5, SS.r_rgl, SS.r_kRglT, SS.r_kRglF, SS.u_sortedT, SS.v_sortedT, SS.r_okL, SS.r_it, SS.r_kSrcIt, SS.r_rng1, SS.r_kR1, SS.r_kR1b, SS.r_rng2, SS.r_kR2, SS.r_kR2b, SS.r_kR2b', SS.r_kR2c, SS.r_rngd, SS.r_kRd2, SS.r_kRd2b, SS.r_kRd2b', SS.r_kRd2c, SS.r_enum, SS.r_kEn, SS.r_kEn2, SS.r_zip, SS.r_kZ1, SS.r_kZ2, SS.r_kZ3, SS.z_l, SS.z_t, SS.q_t, SS.q_f, SS.x_set, SS.r_kSet, SS.r_kSet2, SS.x_own, SS.r_kOwn, SS.r_okN, SS.x_par, SS.r_kPar, SS.y_n, SS.y_t, SS.y_f, SS.r_kps, SS.x_expr, SS.r_kExpr, SS.x_popA, SS.r_gPopA, SS.r_kPop2, SS.r_kPop3, SS.r_kPop4, SS.x_app, SS.r_gApp, SS.r_kApp2, SS.r_kApp3, SS.x_ext, SS.r_gExt, SS.r_kExt2, SS.r_kExt3, SS.x_ret, SS.r_kRet, SS.v_d, SS.v_n, SS.v_p, SS.v_c, SS.x_retN, SS.x_raise, SS.r_kRaise, SS.r_kRaiseN, SS.x_raise0, SS.r_hear, SS.x_pass, SS.x_never, SS.x_ite, SS.r_kIf, SS.r_kIf2, SS.x_for, SS.r_kFor, SS.r_fBody, SS.r_kBody, SS.r_kCond, SS.x_whil, SS.x_frz, SS.r_gFrz, SS.x_nil, SS.x_cons, SS.r_kSeq, SS.b_nm, SS.b_tup, SS.r_kSub3, SS.b_sub, SS.r_kSub1, SS.r_kSub2, SS.b_osub, SS.r_gOs, SS.r_kOs2, SS.r_kOs3, SS.b_nil, SS.b_cons, SS.r_kBts, SS.l_n, SS.l_c, SS.st_eq, SS.r_isN, SS.r_isI, SS.r_isnN, SS.r_isnI, SS.r_isT, SS.r_isnT, Res.bind_ok, Res.bind_bad, st_ok, st_bad, lft_some, lft_none, sft_some, sft_none, thn_nx, thn_ret, thn_bad, held_d, held_nw, held_cell, held_fn, held_scr, strict_d, strict_nw, asD_d, asD_nw, asD_pk, dInt_d, dBool_d, Res.bind_exc, st_exc, thn_exc, ret_exc, ret_nx, ret_ret, ret_bad, Option.bind_some, Option.map_some, ite_true, ite_false, if_true, if_false, Bool.false_eq_true, decide_eq_true_eq, List.map_cons, List.map_nil, List.length_cons, List.length_nil, List.replicate_succ, List.replicate_zero, List.cons_append, List.nil_append, List.getElem?_cons_zero, List.getElem?_cons_succ, List.set_cons_zero, List.set_cons_succ, List.getD_cons_zero, List.getD_cons_succ, Nat.reduceAdd, Nat.reduceSub, Nat.reduceLeDiff, Int.reduceNeg, Int.reduceLT, Int.reduceLE, if_pos, Nat.reducePow, Int.natAbs_cast, Int.reduceAbs, Int.reduceToNat, Int.reduceNeg, at0, at1, at2, at3, at4, at5, SS.abs_mod, SS.lim_eq, Int.reduceAdd, Int.reduceSub, Int.sub_zero, range_length, Nat.reduceLT, or_true, true_or, and_self, and_true, true_and, Nat.zero_add, Nat.reduceEqDiff, hk_ok__law_heard, hk_0__law_heard, hk_1__law_heard, hk_2__law_heard, hmx, r1, r2]
  generalize hc : compLoop _ _ _ = rc
  obtain ⟨rs, S4, rfl, lr, hR, _⟩ := comp_to hc (fun _ => True) (fun d => d = .bool true) trivial (by
    intro x hx S1 _
    obtain ⟨t, rfl, t0, t3⟩ := mem_range hx
    obtain ⟨S2, e2, p2, _⟩ := c_urn (k := depth) (by decide) (S := S1) (ns := ns) (t := t) t0 (by omega) hn
    obtain ⟨S3, e3, p3, _⟩ := c_right (k := depth) (by decide) p2
    simp only [SS.ite_iff, SS.r_gV, SS.r_gP, SS.r_lit, SS.r_glob, SS.r_fnv, SS.r_var, SS.r_peek, SS.r_okD, SS.r_okV, SS.r_tup, SS.r_kTup, SS.r_kTupD, SS.r_lst, SS.r_kLst, SS.r_kLstD, SS.r_newc, SS.r_kNewc, SS.r_bin, SS.r_kBin1, SS.r_kBin2, SS.r_binE, SS.r_kb1, SS.r_kb2, SS.r_kb3s, SS.r_kb3n, SS.d_add, SS.d_addT, SS.d_addL, SS.n_addL, SS.d_sub, SS.d_mul, SS.d_mulL, SS.n_mulL, SS.d_mod, SS.d_fdiv, SS.d_pow, SS.r_neg, SS.r_kNeg, SS.r_kNeg2, SS.r_not, SS.r_kNot, SS.r_kNot2, SS.r_okB, SS.r_cmp, SS.r_kCmp1, SS.r_kCmp2, SS.r_cmpE, SS.r_kc1, SS.c_lt, SS.c_le, SS.c_gt, SS.c_ge, SS.c_eq, SS.c_ne, SS.e_str, SS.r_chn, SS.r_kCh1, SS.r_kCh2, SS.r_kCh2b, SS.r_kCh3, SS.r_and, SS.r_kAnd, SS.r_kAnd2, SS.r_or, SS.r_kOr, SS.r_kOr2, SS.r_ite, SS.r_kIte, SS.r_kIte2, SS.r_ix, SS.r_kIx1, SS.r_kIx2, SS.r_kIx3, SS.x_l, SS.x_t, SS.x_n, SS.x_p, SS.x_c, SS.x_s, SS.r_sl, SS.r_kSl1, SS.r_kSl2, SS.r_kSl3, SS.s_l, SS.s_t, SS.s_n, SS.s_p, SS.s_s, SS.r_oN, SS.r_oS, SS.r_kO, SS.r_okO, SS.r_rev, SS.r_kRev, SS.r_kRev2, SS.r_revL, SS.r_revT, SS.r_listD, SS.r_itemsL, SS.r_itemsT, SS.r_call, SS.r_kCall1, SS.r_kCall2, SS.r_kCall3, SS.m_n, SS.m_c, SS.r_kmh, SS.t_n, SS.t_c, SS.r_kms, SS.r_esN, SS.r_esC, SS.r_kEs1, SS.r_kEs2, SS.r_callv, SS.r_gF, SS.r_kCv1, SS.r_kCv2, SS.r_b1, SS.r_kB1, SS.b_d, SS.b_n, SS.b_p, SS.b_s, SS.r_kbbS, SS.r_kbbN, SS.u_lenL, SS.u_lenT, SS.u_int, SS.u_intB, SS.u_abs, SS.u_sumL, SS.u_sumT, SS.u_maxL, SS.u_minL, SS.u_maxT, SS.u_minT, SS.u_tupL, SS.u_tupT, SS.u_all, SS.u_reprL, SS.u_reprT, SS.u_listL, SS.u_listT, SS.v_listL, SS.v_listT, SS.u_sorted, SS.v_sorted, SS.v_srtL, SS.v_srtLn, SS.r_b2, SS.r_kB2a, SS.r_kB2b, SS.r_kB2c, SS.w_max, SS.w_min, SS.w_divmod, SS.r_isi, SS.r_kIsi, SS.r_kIsi2, SS.r_comp, SS.r_kComp, SS.r_kComp2, SS.r_fComp, SS.r_kC1, SS.r_kC2, SS.r_kC3, SS.r_kC4, SS.r_cN, SS.r_cS, SS.r_kCn, SS.r_okBo, SS.p_nm, SS.p_tup, SS.p_nil, SS.p_cons, SS.r_kbp, SS.r_sset, SS.r_kSset, SS.r_kSset2t, SS.r_kSset2f, SS.r_uqD, SS.r_srtK, SS.r_kSk, SS.r_kSk2, SS.r_fKey, SS.r_srtR, SS.r_kSrt, SS.r_kSrt2, SS.r_srtRDl, SS.r_srtRDt, SS.r_srtLR, SS.r_srtLRn, SS.r_srtTR, SS.d_mulT, SS.c_ltT, SS.c_gtT, SS.c_leT, SS.c_geT, SS.r_m1, SS.r_kM1, SS.r_kM2, SS.r_kM3, SS.r_kM4, SS.r_kM5, SS.r_rgl, SS.r_kRglT, SS.r_kRglF, SS.u_sortedT, SS.v_sortedT, SS.r_okL, SS.r_it, SS.r_kSrcIt, SS.r_rng1, SS.r_kR1, SS.r_kR1b, SS.r_rng2, SS.r_kR2, SS.r_kR2b, SS.r_kR2b', SS.r_kR2c, SS.r_rngd, SS.r_kRd2, SS.r_kRd2b, SS.r_kRd2b', SS.r_kRd2c, SS.r_enum, SS.r_kEn, SS.r_kEn2, SS.r_zip, SS.r_kZ1, SS.r_kZ2, SS.r_kZ3, SS.z_l, SS.z_t, SS.q_t, SS.q_f, SS.x_set, SS.r_kSet, SS.r_kSet2, SS.x_own, SS.r_kOwn, SS.r_okN, SS.x_par, SS.r_kPar, SS.y_n, SS.y_t, SS.y_f, SS.r_kps, SS.x_expr, SS.r_kExpr, SS.x_popA, SS.r_gPopA, SS.r_kPop2, SS.r_kPop3, SS.r_kPop4, SS.x_app, SS.r_gApp, SS.r_kApp2, SS.r_kApp3, SS.x_ext, SS.r_gExt, SS.r_kExt2, SS.r_kExt3, SS.x_ret, SS.r_kRet, SS.v_d, SS.v_n, SS.v_p, SS.v_c, SS.x_retN, SS.x_raise, SS.r_kRaise, SS.r_kRaiseN, SS.x_raise0, SS.r_hear, SS.x_pass, SS.x_never, SS.x_ite, SS.r_kIf, SS.r_kIf2, SS.x_for, SS.r_kFor, SS.r_fBody, SS.r_kBody, SS.r_kCond, SS.x_whil, SS.x_frz, SS.r_gFrz, SS.x_nil, SS.x_cons, SS.r_kSeq, SS.b_nm, SS.b_tup, SS.r_kSub3, SS.b_sub, SS.r_kSub1, SS.r_kSub2, SS.b_osub, SS.r_gOs, SS.r_kOs2, SS.r_kOs3, SS.b_nil, SS.b_cons, SS.r_kBts, SS.l_n, SS.l_c, SS.st_eq, SS.r_isN, SS.r_isI, SS.r_isnN, SS.r_isnI, SS.r_isT, SS.r_isnT, Res.bind_ok, Res.bind_bad, st_ok, st_bad, lft_some, lft_none, sft_some, sft_none, thn_nx, thn_ret, thn_bad, held_d, held_nw, held_cell, held_fn, held_scr, strict_d, strict_nw, asD_d, asD_nw, asD_pk, dInt_d, dBool_d, Res.bind_exc, st_exc, thn_exc, ret_exc, ret_nx, ret_ret, ret_bad, Option.bind_some, Option.map_some, ite_true, ite_false, if_true, if_false, Bool.false_eq_true, decide_eq_true_eq, List.map_cons, List.map_nil, List.length_cons, List.length_nil, List.replicate_succ, List.replicate_zero, List.cons_append, List.nil_append, List.getElem?_cons_zero, List.getElem?_cons_succ, List.set_cons_zero, List.set_cons_succ, List.getD_cons_zero, List.getD_cons_succ, Nat.reduceAdd, Nat.reduceSub, Nat.reduceLeDiff, Int.reduceNeg, Int.reduceLT, Int.reduceLE, if_pos, Nat.reducePow, Int.natAbs_cast, Int.reduceAbs, Int.reduceToNat, Int.reduceNeg, at0, at1, at2, at3, at4, at5, SS.abs_mod, SS.lim_eq, Int.reduceAdd, Int.reduceSub, Int.sub_zero, range_length, Nat.reduceLT, or_true, true_or, and_self, and_true, true_and, Nat.zero_add, Nat.reduceEqDiff, hk_ok__law_heard, hk_0__law_heard, hk_1__law_heard, hk_2__law_heard, e2, e3]
    exact ⟨_, _, rfl, rfl⟩)
  obtain ⟨bs, e1, e2⟩ := all_true hR
  have b1 : n.toNat ≤ 1000000 := by omega
  simp only [SS.ite_iff, SS.r_gV, SS.r_gP, SS.r_lit, SS.r_glob, SS.r_fnv, SS.r_var, SS.r_peek, SS.r_okD, SS.r_okV, SS.r_tup, SS.r_kTup, SS.r_kTupD, SS.r_lst, SS.r_kLst, SS.r_kLstD, SS.r_newc, SS.r_kNewc, SS.r_bin, SS.r_kBin1, SS.r_kBin2, SS.r_binE, SS.r_kb1, SS.r_kb2, SS.r_kb3s, SS.r_kb3n, SS.d_add, SS.d_addT, SS.d_addL, SS.n_addL, SS.d_sub, SS.d_mul, SS.d_mulL, SS.n_mulL, SS.d_mod, SS.d_fdiv, SS.d_pow, SS.r_neg, SS.r_kNeg, SS.r_kNeg2, SS.r_not, SS.r_kNot, SS.r_kNot2, SS.r_okB, SS.r_cmp, SS.r_kCmp1, SS.r_kCmp2, SS.r_cmpE, SS.r_kc1, SS.c_lt, SS.c_le, SS.c_gt, SS.c_ge, SS.c_eq, SS.c_ne, SS.e_str, SS.r_chn, SS.r_kCh1, SS.r_kCh2, SS.r_kCh2b, SS.r_kCh3, SS.r_and, SS.r_kAnd, SS.r_kAnd2, SS.r_or, SS.r_kOr, SS.r_kOr2, SS.r_ite, SS.r_kIte, SS.r_kIte2, SS.r_ix, SS.r_kIx1, SS.r_kIx2, SS.r_kIx3, SS.x_l, SS.x_t, SS.x_n, SS.x_p, SS.x_c, SS.x_s, SS.r_sl, SS.r_kSl1, SS.r_kSl2, SS.r_kSl3, SS.s_l, SS.s_t, SS.s_n, SS.s_p, SS.s_s, SS.r_oN, SS.r_oS, SS.r_kO, SS.r_okO, SS.r_rev, SS.r_kRev, SS.r_kRev2, SS.r_revL, SS.r_revT, SS.r_listD, SS.r_itemsL, SS.r_itemsT, SS.r_call, SS.r_kCall1, SS.r_kCall2, SS.r_kCall3, SS.m_n, SS.m_c, SS.r_kmh, SS.t_n, SS.t_c, SS.r_kms, SS.r_esN, SS.r_esC, SS.r_kEs1, SS.r_kEs2, SS.r_callv, SS.r_gF, SS.r_kCv1, SS.r_kCv2, SS.r_b1, SS.r_kB1, SS.b_d, SS.b_n, SS.b_p, SS.b_s, SS.r_kbbS, SS.r_kbbN, SS.u_lenL, SS.u_lenT, SS.u_int, SS.u_intB, SS.u_abs, SS.u_sumL, SS.u_sumT, SS.u_maxL, SS.u_minL, SS.u_maxT, SS.u_minT, SS.u_tupL, SS.u_tupT, SS.u_all, SS.u_reprL, SS.u_reprT, SS.u_listL, SS.u_listT, SS.v_listL, SS.v_listT, SS.u_sorted, SS.v_sorted, SS.v_srtL, SS.v_srtLn, SS.r_b2, SS.r_kB2a, SS.r_kB2b, SS.r_kB2c, SS.w_max, SS.w_min, SS.w_divmod, SS.r_isi, SS.r_kIsi, SS.r_kIsi2, SS.r_comp, SS.r_kComp, SS.r_kComp2, SS.r_fComp, SS.r_kC1, SS.r_kC2, SS.r_kC3, SS.r_kC4, SS.r_cN, SS.r_cS, SS.r_kCn, SS.r_okBo, SS.p_nm, SS.p_tup, SS.p_nil, SS.p_cons, SS.r_kbp, SS.r_sset, SS.r_kSset, SS.r_kSset2t, SS.r_kSset2f, SS.r_uqD, SS.r_srtK, SS.r_kSk, SS.r_kSk2, SS.r_fKey, SS.r_srtR, SS.r_kSrt, SS.r_kSrt2, SS.r_srtRDl, SS.r_srtRDt, SS.r_srtLR, SS.r_srtLRn, SS.r_srtTR, SS.d_mulT, SS.c_ltT, SS.c_gtT, SS.c_leT, SS.c_geT, SS.r_m1, SS.r_kM1, SS.r_kM2, SS.r_kM3, SS.r_kM4, SS.r_kM5, SS.r_rgl, SS.r_kRglT, SS.r_kRglF, SS.u_sortedT, SS.v_sortedT, SS.r_okL, SS.r_it, SS.r_kSrcIt, SS.r_rng1, SS.r_kR1, SS.r_kR1b, SS.r_rng2, SS.r_kR2, SS.r_kR2b, SS.r_kR2b', SS.r_kR2c, SS.r_rngd, SS.r_kRd2, SS.r_kRd2b, SS.r_kRd2b', SS.r_kRd2c, SS.r_enum, SS.r_kEn, SS.r_kEn2, SS.r_zip, SS.r_kZ1, SS.r_kZ2, SS.r_kZ3, SS.z_l, SS.z_t, SS.q_t, SS.q_f, SS.x_set, SS.r_kSet, SS.r_kSet2, SS.x_own, SS.r_kOwn, SS.r_okN, SS.x_par, SS.r_kPar, SS.y_n, SS.y_t, SS.y_f, SS.r_kps, SS.x_expr, SS.r_kExpr, SS.x_popA, SS.r_gPopA, SS.r_kPop2, SS.r_kPop3, SS.r_kPop4, SS.x_app, SS.r_gApp, SS.r_kApp2, SS.r_kApp3, SS.x_ext, SS.r_gExt, SS.r_kExt2, SS.r_kExt3, SS.x_ret, SS.r_kRet, SS.v_d, SS.v_n, SS.v_p, SS.v_c, SS.x_retN, SS.x_raise, SS.r_kRaise, SS.r_kRaiseN, SS.x_raise0, SS.r_hear, SS.x_pass, SS.x_never, SS.x_ite, SS.r_kIf, SS.r_kIf2, SS.x_for, SS.r_kFor, SS.r_fBody, SS.r_kBody, SS.r_kCond, SS.x_whil, SS.x_frz, SS.r_gFrz, SS.x_nil, SS.x_cons, SS.r_kSeq, SS.b_nm, SS.b_tup, SS.r_kSub3, SS.b_sub, SS.r_kSub1, SS.r_kSub2, SS.b_osub, SS.r_gOs, SS.r_kOs2, SS.r_kOs3, SS.b_nil, SS.b_cons, SS.r_kBts, SS.l_n, SS.l_c, SS.st_eq, SS.r_isN, SS.r_isI, SS.r_isnN, SS.r_isnI, SS.r_isT, SS.r_isnT, Res.bind_ok, Res.bind_bad, st_ok, st_bad, lft_some, lft_none, sft_some, sft_none, thn_nx, thn_ret, thn_bad, held_d, held_nw, held_cell, held_fn, held_scr, strict_d, strict_nw, asD_d, asD_nw, asD_pk, dInt_d, dBool_d, Res.bind_exc, st_exc, thn_exc, ret_exc, ret_nx, ret_ret, ret_bad, Option.bind_some, Option.map_some, ite_true, ite_false, if_true, if_false, Bool.false_eq_true, decide_eq_true_eq, List.map_cons, List.map_nil, List.length_cons, List.length_nil, List.replicate_succ, List.replicate_zero, List.cons_append, List.nil_append, List.getElem?_cons_zero, List.getElem?_cons_succ, List.set_cons_zero, List.set_cons_succ, List.getD_cons_zero, List.getD_cons_succ, Nat.reduceAdd, Nat.reduceSub, Nat.reduceLeDiff, Int.reduceNeg, Int.reduceLT, Int.reduceLE, if_pos, Nat.reducePow, Int.natAbs_cast, Int.reduceAbs, Int.reduceToNat, Int.reduceNeg, at0, at1, at2, at3, at4, at5, SS.abs_mod, SS.lim_eq, Int.reduceAdd, Int.reduceSub, Int.sub_zero, range_length, Nat.reduceLT, or_true, true_or, and_self, and_true, true_and, Nat.zero_add, Nat.reduceEqDiff, hk_ok__law_heard, hk_0__law_heard, hk_1__law_heard, hk_2__law_heard, b1, e1, e2]
  exact ⟨_, rfl⟩

end K69

end

open PySem PySem.W PyProof.Rows
set_option maxHeartbeats 0 in
theorem PySem.Challenge.cw_shadestrings_k69_arrangements_refused_holds : PySem.Challenge.rw_shadestrings_k69_arrangements_refused.Holds := by
  w_on; o_law; k_head; (case hw => w_witness2)
  k_fill
  refine SS.walkG (l := PySem.Challenge.rw_shadestrings_k69_arrangements_refused) (n := 63) (k := K69.depth) (x := "script") (T := K69.T) (g := K69.sg) rfl (by decide) rfl ⟨rfl, by decide, by decide⟩ (fun w h Y => PySem.W.km_in_of Y) K69.T_law ?F K69.law_runs
  case F =>
    intro w mg fa h Y KX G hmg
    refine' K69.all_mk KX G hmg ?a0 ?l0 ?c0 ?k0 ?a1 ?l1 ?c1 ?k1 ?a2 ?l2 ?c2 ?k2 ?a3 ?l3 ?c3 ?k3 ?a4 ?l4 ?c4 ?k4 ?a5 ?l5 ?c5 ?k5 ?a6 ?l6 ?c6 ?k6 ?a7 ?l7 ?c7 ?k7 ?a8 ?l8 ?c8 ?k8 ?a9 ?l9 ?c9 ?k9 ?a10 ?l10 ?c10 ?k10 ?a11 ?l11 ?c11 ?k11 ?a12 ?l12 ?c12 ?k12 ?a13 ?l13 ?c13 ?k13 ?a14 ?l14 ?c14 ?k14 ?a15 ?l15 ?c15 ?k15 ?a16 ?l16 ?c16 ?k16 ?a17 ?l17 ?c17 ?k17 ?a18 ?l18 ?c18 ?k18 ?a19 ?l19 ?c19 ?k19 ?a20 ?l20 ?c20 ?k20 ?a21 ?l21 ?c21 ?k21 ?a22 ?l22 ?c22 ?k22 ?a23 ?l23 ?c23 ?k23 ?a24 ?l24 ?c24 ?k24 ?a25 ?l25 ?c25 ?k25 ?a26 ?l26 ?c26 ?k26 ?a27 ?l27 ?c27 ?k27 ?a28 ?l28 ?c28 ?k28 ?a29 ?l29 ?c29 ?k29 ?a30 ?l30 ?c30 ?k30 ?a31 ?l31 ?c31 ?k31 ?a32 ?l32 ?c32 ?k32 ?a33 ?l33 ?c33 ?k33 ?a34 ?l34 ?c34 ?k34 ?a35 ?l35 ?c35 ?k35 ?e31 ?p31 ?h31 ?n31 ?y31 ?u0 ?xg0 ?xe0 ?xg1 ?xe1 ?xg2 ?xe2 ?xg3 ?xh0_0 ?xh0_1 ?xh0_2 ?q0 ?q1 ?q2 ?q3 ?q4 ?z0 ?z1 ?z2 ?z3 ?z4 ?z5 ?z6 ?z7 ?z8 ?z9 ?z10 ?z11 ?z12 ?z13
    (case a0 => k_is); (case l0 => k_is); (case c0 => k_is); (case k0 => k_is); (case a1 => k_is); (case l1 => k_is); (case c1 => k_is); (case k1 => k_is); (case a2 => k_is); (case l2 => k_is); (case c2 => k_is); (case k2 => k_is); (case a3 => k_is); (case l3 => k_is); (case c3 => k_is); (case k3 => k_is); (case a4 => k_is); (case l4 => k_is); (case c4 => k_is); (case k4 => k_is); (case a5 => k_is); (case l5 => k_is); (case c5 => k_is); (case k5 => k_is); (case a6 => k_is); (case l6 => k_is); (case c6 => k_is); (case k6 => k_is); (case a7 => k_is); (case l7 => k_is); (case c7 => k_is); (case k7 => k_is); (case a8 => k_is); (case l8 => k_is); (case c8 => k_is); (case k8 => k_is); (case a9 => k_is); (case l9 => k_is); (case c9 => k_is); (case k9 => k_is); (case a10 => k_is); (case l10 => k_is); (case c10 => k_is); (case k10 => k_is); (case a11 => k_is); (case l11 => k_is); (case c11 => k_is); (case k11 => k_is); (case a12 => k_is); (case l12 => k_is); (case c12 => k_is); (case k12 => k_is); (case a13 => k_is); (case l13 => k_is); (case c13 => k_is); (case k13 => k_is); (case a14 => k_is); (case l14 => k_is); (case c14 => k_is); (case k14 => k_is); (case a15 => k_is); (case l15 => k_is); (case c15 => k_is); (case k15 => k_is); (case a16 => k_is); (case l16 => k_is); (case c16 => k_is); (case k16 => k_is); (case a17 => k_is); (case l17 => k_is); (case c17 => k_is); (case k17 => k_is); (case a18 => k_is); (case l18 => k_is); (case c18 => k_is); (case k18 => k_is); (case a19 => k_is); (case l19 => k_is); (case c19 => k_is); (case k19 => k_is); (case a20 => k_is); (case l20 => k_is); (case c20 => k_is); (case k20 => k_is); (case a21 => k_is); (case l21 => k_is); (case c21 => k_is); (case k21 => k_is); (case a22 => k_is); (case l22 => k_is); (case c22 => k_is); (case k22 => k_is); (case a23 => k_is); (case l23 => k_is); (case c23 => k_is); (case k23 => k_is); (case a24 => k_is); (case l24 => k_is); (case c24 => k_is); (case k24 => k_is); (case a25 => k_is); (case l25 => k_is); (case c25 => k_is); (case k25 => k_is); (case a26 => k_is); (case l26 => k_is); (case c26 => k_is); (case k26 => k_is); (case a27 => k_is); (case l27 => k_is); (case c27 => k_is); (case k27 => k_is); (case a28 => k_is); (case l28 => k_is); (case c28 => k_is); (case k28 => k_is); (case a29 => k_is); (case l29 => k_is); (case c29 => k_is); (case k29 => k_is); (case a30 => k_is); (case l30 => k_is); (case c30 => k_is); (case k30 => k_is); (case a31 => k_is); (case l31 => k_is); (case c31 => k_is); (case k31 => k_is); (case a32 => k_is); (case l32 => k_is); (case c32 => k_is); (case k32 => k_is); (case a33 => k_is); (case l33 => k_is); (case c33 => k_is); (case k33 => k_is); (case a34 => k_is); (case l34 => k_is); (case c34 => k_is); (case k34 => k_is); (case a35 => k_is); (case l35 => k_is); (case c35 => k_is); (case k35 => k_is); (case e31 => k_is); (case p31 => exact rfl); (case h31 => kernel_rfl); (case n31 => kernel_rfl); (case y31 => exact PySem.W.km_tabs_of Y _ (by decide)); (case u0 => decide); (case xg0 => k_is); (case xe0 => kernel_rfl); (case xg1 => k_is); (case xe1 => kernel_rfl); (case xg2 => k_is); (case xe2 => kernel_rfl); (case xg3 => k_is); (case xh0_0 => kernel_rfl); (case xh0_1 => kernel_rfl); (case xh0_2 => kernel_rfl); (case q0 => k_is); (case q1 => k_is); (case q2 => k_is); (case q3 => k_is); (case q4 => k_is); (case z0 => k_is); (case z1 => k_is); (case z2 => k_is); (case z3 => k_is); (case z4 => k_is); (case z5 => k_is); (case z6 => k_is); (case z7 => k_is); (case z8 => k_is); (case z9 => k_is); (case z10 => k_is); (case z11 => k_is); (case z12 => k_is); (case z13 => k_is)
